import PyProof.Rows.All
import Wide.All
import OpenK.AllK
import Wide.FinOn
import KE.KStateDown
import Lean
import HandS.ForMost
import HandS.Exc
import HandS.TryOnly
import HandS.ExcOwn
import HandS.WordsExc
import HandS.More
import HandS.Defaults
import HandS.Property
import HandS.IsInst
import HandS.ExcIs
import HandS.Head0
import HandS.Head1
import HandS.Head2
import HandS.HeadEnd
import HandS.HeadHook1
import HandS.HeadHook2
import HandS.HeadHook3
import HandS.HeadHook4
import HandS.EndTab
import HandS.HeadWalk
import PySem.Challenge.RW_lettersonce_k16_whole_cut_archives
import HandS.Deep
import HandS.StrMore
import HandS.Walk
import HandS.Wide
import HandS.Flow
import HandS.Replace
import HandS.ReplaceLit
import HandS.ReplaceDef
import HandS.TryMany
import HandS.ReplaceList
import KE.GoesEnum
import KE.GoesMore
/-! ## LoHead -/
set_option Elab.async false
set_option linter.all false
set_option maxRecDepth 100000
set_option maxHeartbeats 0
/-! The head: each def is a datum, the facts of the written part by names. -/
namespace LoH
open PySem PySem.Spec PyProof.Rows L2
def top (i : Nat) : Stmt := PySem.Challenge.pw_lettersonce_k16_whole_cut_archives.main.body.getD i (.Pass ⟨0, 0, 0, 0⟩)

abbrev s_is_name : Stmt := top 12
abbrev s_is_number : Stmt := top 13
abbrev s_is_plain : Stmt := top 14
abbrev s_is_text : Stmt := top 15
abbrev s_is_title : Stmt := top 16
abbrev s_is_ref : Stmt := top 17
abbrev s_is_members : Stmt := top 21
abbrev s_is_body : Stmt := top 22
abbrev s_target : Stmt := top 23
abbrev s_text_of : Stmt := top 24
abbrev s_cut_at : Stmt := top 27
abbrev s_fold : Stmt := top 28
abbrev s_unfold : Stmt := top 29
abbrev s_Letter_init : Stmt := L2.inClass (top 31) 0
abbrev s_Letter_value : Stmt := L2.inClass (top 31) 5
abbrev s_is_seen : Stmt := top 32
abbrev s_is_letter : Stmt := top 33
abbrev s_ref_words : Stmt := top 37
abbrev s_body_lines : Stmt := top 38
abbrev s_header_lines : Stmt := top 39
abbrev s_read_number : Stmt := top 40
abbrev s_read_ref : Stmt := top 41
abbrev s_read_body : Stmt := top 42
abbrev s_read_headers : Stmt := top 43
abbrev s_mail_lines : Stmt := top 47
abbrev s_head_end : Stmt := top 48
abbrev s_text_end : Stmt := top 49
abbrev s_read_mail : Stmt := top 50
abbrev s_archive : Stmt := top 52
abbrev s_read_beginning : Stmt := top 53
abbrev s_read_archive : Stmt := top 54
abbrev s_law_is : Stmt := top 56
abbrev s_law_cell : Stmt := top 57
abbrev s_law_stream : Stmt := top 58
abbrev s_law_next : Stmt := top 59
abbrev s_law_number : Stmt := top 60
abbrev s_law_name : Stmt := top 61
abbrev s_law_names : Stmt := top 62
abbrev s_law_line : Stmt := top 63
abbrev s_law_title : Stmt := top 64
abbrev s_law_text : Stmt := top 65
abbrev s_law_body : Stmt := top 66
abbrev s_law_seen : Stmt := top 67
abbrev s_law_value : Stmt := top 68
abbrev s_law_text_of : Stmt := top 69
abbrev s_law_header : Stmt := top 70
abbrev s_law_letter : Stmt := top 71
abbrev s_law_cut : Stmt := top 72
abbrev s_law_mail : Stmt := top 73
abbrev s_law_fold : Stmt := top 74
abbrev s_law_written : Stmt := top 75
abbrev s_law_joined : Stmt := top 76
abbrev s_law_are : Stmt := top 77
abbrev s_law_raises : Stmt := top 78
abbrev s_law_reads : Stmt := top 79
abbrev s_law_begins : Stmt := top 80
abbrev s_law_cut_at : Stmt := top 81
abbrev s_law_asked : Stmt := top 82
abbrev s_law_long : Stmt := top 83
abbrev s_law : Stmt := top 84
abbrev s_Letter_ref : Stmt := L2.inClass (top 31) 1
def d_is_name : He.DefD := ⟨("is_name", none), "is_name", "is_name", defArgs s_is_name, defBody s_is_name, defScope s_is_name, [], []⟩
def d_is_number : He.DefD := ⟨("is_number", none), "is_number", "is_number", defArgs s_is_number, defBody s_is_number, defScope s_is_number, [], []⟩
def d_is_plain : He.DefD := ⟨("is_plain", none), "is_plain", "is_plain", defArgs s_is_plain, defBody s_is_plain, defScope s_is_plain, [], []⟩
def d_is_text : He.DefD := ⟨("is_text", none), "is_text", "is_text", defArgs s_is_text, defBody s_is_text, defScope s_is_text, [], []⟩
def d_is_title : He.DefD := ⟨("is_title", none), "is_title", "is_title", defArgs s_is_title, defBody s_is_title, defScope s_is_title, [], []⟩
def d_is_ref : He.DefD := ⟨("is_ref", none), "is_ref", "is_ref", defArgs s_is_ref, defBody s_is_ref, defScope s_is_ref, [], []⟩
def d_is_members : He.DefD := ⟨("is_members", none), "is_members", "is_members", defArgs s_is_members, defBody s_is_members, defScope s_is_members, [], []⟩
def d_is_body : He.DefD := ⟨("is_body", none), "is_body", "is_body", defArgs s_is_body, defBody s_is_body, defScope s_is_body, [], []⟩
def d_target : He.DefD := ⟨("target", none), "target", "target", defArgs s_target, defBody s_target, defScope s_target, [], []⟩
def d_text_of : He.DefD := ⟨("text_of", none), "text_of", "text_of", defArgs s_text_of, defBody s_text_of, defScope s_text_of, [], []⟩
def d_cut_at : He.DefD := ⟨("cut_at", none), "cut_at", "cut_at", defArgs s_cut_at, defBody s_cut_at, defScope s_cut_at, [], []⟩
def d_fold : He.DefD := ⟨("fold", none), "fold", "fold", defArgs s_fold, defBody s_fold, defScope s_fold, [], []⟩
def d_unfold : He.DefD := ⟨("unfold", none), "unfold", "unfold", defArgs s_unfold, defBody s_unfold, defScope s_unfold, [], []⟩
def d_Letter_init : He.DefD := ⟨("Letter", some "__init__"), "__init__", "Letter.__init__", defArgs s_Letter_init, defBody s_Letter_init, defScope s_Letter_init, [], []⟩
def d_Letter_value : He.DefD := ⟨("Letter", some "value"), "value", "Letter.value", defArgs s_Letter_value, defBody s_Letter_value, defScope s_Letter_value, [], []⟩
def d_is_seen : He.DefD := ⟨("is_seen", none), "is_seen", "is_seen", defArgs s_is_seen, defBody s_is_seen, defScope s_is_seen, [], []⟩
def d_is_letter : He.DefD := ⟨("is_letter", none), "is_letter", "is_letter", defArgs s_is_letter, defBody s_is_letter, defScope s_is_letter, [], []⟩
def d_ref_words : He.DefD := ⟨("ref_words", none), "ref_words", "ref_words", defArgs s_ref_words, defBody s_ref_words, defScope s_ref_words, [], []⟩
def d_body_lines : He.DefD := ⟨("body_lines", none), "body_lines", "body_lines", defArgs s_body_lines, defBody s_body_lines, defScope s_body_lines, [], []⟩
def d_header_lines : He.DefD := ⟨("header_lines", none), "header_lines", "header_lines", defArgs s_header_lines, defBody s_header_lines, defScope s_header_lines, [], []⟩
def d_read_number : He.DefD := ⟨("read_number", none), "read_number", "read_number", defArgs s_read_number, defBody s_read_number, defScope s_read_number, [], []⟩
def d_read_ref : He.DefD := ⟨("read_ref", none), "read_ref", "read_ref", defArgs s_read_ref, defBody s_read_ref, defScope s_read_ref, [], []⟩
def d_read_body : He.DefD := ⟨("read_body", none), "read_body", "read_body", defArgs s_read_body, defBody s_read_body, defScope s_read_body, [], []⟩
def d_read_headers : He.DefD := ⟨("read_headers", none), "read_headers", "read_headers", defArgs s_read_headers, defBody s_read_headers, defScope s_read_headers, [], []⟩
def d_mail_lines : He.DefD := ⟨("mail_lines", none), "mail_lines", "mail_lines", defArgs s_mail_lines, defBody s_mail_lines, defScope s_mail_lines, [], []⟩
def d_head_end : He.DefD := ⟨("head_end", none), "head_end", "head_end", defArgs s_head_end, defBody s_head_end, defScope s_head_end, [], []⟩
def d_text_end : He.DefD := ⟨("text_end", none), "text_end", "text_end", defArgs s_text_end, defBody s_text_end, defScope s_text_end, [], []⟩
def d_read_mail : He.DefD := ⟨("read_mail", none), "read_mail", "read_mail", defArgs s_read_mail, defBody s_read_mail, defScope s_read_mail, [], []⟩
def d_archive : He.DefD := ⟨("archive", none), "archive", "archive", defArgs s_archive, defBody s_archive, defScope s_archive, [], []⟩
def d_read_beginning : He.DefD := ⟨("read_beginning", none), "read_beginning", "read_beginning", defArgs s_read_beginning, defBody s_read_beginning, defScope s_read_beginning, [], []⟩
def d_read_archive : He.DefD := ⟨("read_archive", none), "read_archive", "read_archive", defArgs s_read_archive, defBody s_read_archive, defScope s_read_archive, [], []⟩
def d_law_is : He.DefD := ⟨("_law_is", none), "_law_is", "_law_is", defArgs s_law_is, defBody s_law_is, defScope s_law_is, [], []⟩
def d_law_cell : He.DefD := ⟨("_law_cell", none), "_law_cell", "_law_cell", defArgs s_law_cell, defBody s_law_cell, defScope s_law_cell, [], []⟩
def d_law_stream : He.DefD := ⟨("_law_stream", none), "_law_stream", "_law_stream", defArgs s_law_stream, defBody s_law_stream, defScope s_law_stream, [], []⟩
def d_law_next : He.DefD := ⟨("_law_next", none), "_law_next", "_law_next", defArgs s_law_next, defBody s_law_next, defScope s_law_next, [], []⟩
def d_law_number : He.DefD := ⟨("_law_number", none), "_law_number", "_law_number", defArgs s_law_number, defBody s_law_number, defScope s_law_number, [], []⟩
def d_law_name : He.DefD := ⟨("_law_name", none), "_law_name", "_law_name", defArgs s_law_name, defBody s_law_name, defScope s_law_name, [], []⟩
def d_law_names : He.DefD := ⟨("_law_names", none), "_law_names", "_law_names", defArgs s_law_names, defBody s_law_names, defScope s_law_names, [], []⟩
def d_law_line : He.DefD := ⟨("_law_line", none), "_law_line", "_law_line", defArgs s_law_line, defBody s_law_line, defScope s_law_line, [], []⟩
def d_law_title : He.DefD := ⟨("_law_title", none), "_law_title", "_law_title", defArgs s_law_title, defBody s_law_title, defScope s_law_title, [], []⟩
def d_law_text : He.DefD := ⟨("_law_text", none), "_law_text", "_law_text", defArgs s_law_text, defBody s_law_text, defScope s_law_text, [], []⟩
def d_law_body : He.DefD := ⟨("_law_body", none), "_law_body", "_law_body", defArgs s_law_body, defBody s_law_body, defScope s_law_body, [], []⟩
def d_law_seen : He.DefD := ⟨("_law_seen", none), "_law_seen", "_law_seen", defArgs s_law_seen, defBody s_law_seen, defScope s_law_seen, [], []⟩
def d_law_value : He.DefD := ⟨("_law_value", none), "_law_value", "_law_value", defArgs s_law_value, defBody s_law_value, defScope s_law_value, [], []⟩
def d_law_text_of : He.DefD := ⟨("_law_text_of", none), "_law_text_of", "_law_text_of", defArgs s_law_text_of, defBody s_law_text_of, defScope s_law_text_of, [], []⟩
def d_law_header : He.DefD := ⟨("_law_header", none), "_law_header", "_law_header", defArgs s_law_header, defBody s_law_header, defScope s_law_header, [], []⟩
def d_law_letter : He.DefD := ⟨("_law_letter", none), "_law_letter", "_law_letter", defArgs s_law_letter, defBody s_law_letter, defScope s_law_letter, [], []⟩
def d_law_cut : He.DefD := ⟨("_law_cut", none), "_law_cut", "_law_cut", defArgs s_law_cut, defBody s_law_cut, defScope s_law_cut, [], []⟩
def d_law_mail : He.DefD := ⟨("_law_mail", none), "_law_mail", "_law_mail", defArgs s_law_mail, defBody s_law_mail, defScope s_law_mail, [], []⟩
def d_law_fold : He.DefD := ⟨("_law_fold", none), "_law_fold", "_law_fold", defArgs s_law_fold, defBody s_law_fold, defScope s_law_fold, [], []⟩
def d_law_written : He.DefD := ⟨("_law_written", none), "_law_written", "_law_written", defArgs s_law_written, defBody s_law_written, defScope s_law_written, [], []⟩
def d_law_joined : He.DefD := ⟨("_law_joined", none), "_law_joined", "_law_joined", defArgs s_law_joined, defBody s_law_joined, defScope s_law_joined, [], []⟩
def d_law_are : He.DefD := ⟨("_law_are", none), "_law_are", "_law_are", defArgs s_law_are, defBody s_law_are, defScope s_law_are, [], []⟩
def d_law_raises : He.DefD := ⟨("_law_raises", none), "_law_raises", "_law_raises", defArgs s_law_raises, defBody s_law_raises, defScope s_law_raises, [], []⟩
def d_law_reads : He.DefD := ⟨("_law_reads", none), "_law_reads", "_law_reads", defArgs s_law_reads, defBody s_law_reads, defScope s_law_reads, [], []⟩
def d_law_begins : He.DefD := ⟨("_law_begins", none), "_law_begins", "_law_begins", defArgs s_law_begins, defBody s_law_begins, defScope s_law_begins, [], []⟩
def d_law_cut_at : He.DefD := ⟨("_law_cut_at", none), "_law_cut_at", "_law_cut_at", defArgs s_law_cut_at, defBody s_law_cut_at, defScope s_law_cut_at, [], []⟩
def d_law_asked : He.DefD := ⟨("_law_asked", none), "_law_asked", "_law_asked", defArgs s_law_asked, defBody s_law_asked, defScope s_law_asked, [], []⟩
def d_law_long : He.DefD := ⟨("_law_long", none), "_law_long", "_law_long", defArgs s_law_long, defBody s_law_long, defScope s_law_long, [], []⟩
def d_law : He.DefD := ⟨("law", none), "law", "law", defArgs s_law, defBody s_law, defScope s_law, [], []⟩
/-- the property's own object, its getter -/
def refP (K : PySem.W.Frag) : Addr := He.ma K (He.ga K "Letter") "ref"
def refG (K : PySem.W.Frag) : Addr := match PySem.W.recIn K (refP K) "property" with
  | some (.ref g :: _) => g
  | _ => 0
def fnB (K : PySem.W.Frag) (f : Addr) (name qual : Str) : Bool := PySem.W.keepIn K (.ref f) && (match K.lookup f with
  | some ⟨_, _, .func fd, _⟩ => PySem.W.codeIn K fd.code qual && (He.dflB K fd.defaults [] && He.kwdB K fd.kwdefaults [])
  | _ => false)
def dO (a : Option Bool) (b : Bool) : Bool := decide (a = some b)
/-- what the facts by names do not tell: the property, isinstance, the exception classes, the table's values -/
def ex (K : PySem.W.Frag) : Bool :=
  He.eqO (PySem.W.findIn K (.ref (He.ga K "Letter")) "ref") (some (some (.ref (refP K)))) && He.eqO (PySem.W.specialIn K (.ref (refP K)) "__get__") (some (some (.builtin "property.__get__"))) &&
  dO (PySem.W.takesIn K (.ref (refP K))) true && (match PySem.W.recIn K (refP K) "property" with
    | some (.ref _ :: _) => true
    | _ => false) && fnB K (refG K) "ref" "Letter.ref" &&
  He.eqO (PySem.W.findIn K (.ref (He.ga K "Letter")) "__class__") (some (some (.builtin "object.__class__"))) &&
  He.eqO (PySem.W.specialIn K (.builtin "object.__class__") "__get__") (some (some (.builtin "getset_descriptor.__get__"))) && dO (PySem.W.takesIn K (.builtin "object.__class__")) true &&
  dO (PySem.W.mroIn K (He.ga K "Letter") (.type "object")) true && dO (PySem.W.kitOne K (.ref (He.ga K "Letter")) (.ref (He.ga K "Letter"))) true &&
  He.eqO (PySem.W.findIn K (.ref (He.ga K "BadMail")) "__getattribute__") (some (some (.builtin "BaseException.__getattribute__"))) && He.eqO (PySem.W.findIn K (.ref (He.ga K "BadMail")) "__getattr__") (some none) &&
  dO (PySem.W.subIn K (.ref (He.ga K "BadMail")) (.type "BaseException")) true && PySem.W.hasDictIn K (He.ga K "BadMail") &&
  He.eqO (PySem.W.findIn K (.ref (He.ga K "BadMail")) "__class__") (some (some (.builtin "object.__class__"))) && dO (PySem.W.mroIn K (He.ga K "BadMail") (.type "object")) true &&
  dO (PySem.W.kitOne K (.ref (He.ga K "BadMail")) (.ref (He.ga K "BadMail"))) true && dO (PySem.W.kitOne K (.ref (He.ga K "BadMail")) (.type "ValueError")) true &&
  dO (PySem.W.kitOne K (.ref (He.ga K "BadMail")) (.ref (He.ga K "BadLetter"))) false &&
  He.valsB K (He.ga K "PARTS") [("found", .int 2), ("say", .int 1), ("reply", .int 2), ("edit", .int 2), ("recall", .int 1), ("mark", .int 2), ("title", .int 1), ("add", .int 1), ("cut", .int 1), ("hand", .int 1), ("seen", .int 0)]

def fn : List He.DefD := [d_is_name, d_is_number, d_is_plain, d_is_text, d_is_title, d_is_ref, d_is_members, d_is_body, d_target, d_text_of, d_cut_at, d_fold, d_unfold, d_Letter_init, d_Letter_value, d_is_seen, d_is_letter, d_ref_words, d_body_lines, d_header_lines, d_read_number, d_read_ref, d_read_body, d_read_headers, d_mail_lines, d_head_end, d_text_end, d_read_mail, d_archive, d_read_beginning, d_read_archive, d_law_is, d_law_cell, d_law_stream, d_law_next, d_law_number, d_law_name, d_law_names, d_law_line, d_law_title, d_law_text, d_law_body, d_law_seen, d_law_value, d_law_text_of, d_law_header, d_law_letter, d_law_cut, d_law_mail, d_law_fold, d_law_written, d_law_joined, d_law_are, d_law_raises, d_law_reads, d_law_begins, d_law_cut_at, d_law_asked, d_law_long, d_law]
def fa : List He.Fa := [.glo "is_name", .glo "is_number", .glo "is_plain", .glo "is_text", .glo "is_title", .glo "is_ref", .glo "is_members", .glo "is_body", .glo "target", .glo "text_of", .glo "cut_at", .glo "fold", .glo "unfold", .glo "is_seen", .glo "is_letter", .glo "ref_words", .glo "body_lines", .glo "header_lines", .glo "read_number", .glo "read_ref", .glo "read_body", .glo "read_headers", .glo "mail_lines", .glo "head_end", .glo "text_end", .glo "read_mail", .glo "archive", .glo "read_beginning", .glo "read_archive", .glo "_law_is", .glo "_law_cell", .glo "_law_stream", .glo "_law_next", .glo "_law_number", .glo "_law_name", .glo "_law_names", .glo "_law_line", .glo "_law_title", .glo "_law_text", .glo "_law_body", .glo "_law_seen", .glo "_law_value", .glo "_law_text_of", .glo "_law_header", .glo "_law_letter", .glo "_law_cut", .glo "_law_mail", .glo "_law_fold", .glo "_law_written", .glo "_law_joined", .glo "_law_are", .glo "_law_raises", .glo "_law_reads", .glo "_law_begins", .glo "_law_cut_at", .glo "_law_asked", .glo "_law_long", .glo "law", .glo "RoomError", .glo "BadLetter", .glo "BadMail", .glo "Letter", .glo "PARTS", .free "isinstance", .free "str", .free "int", .free "bool", .free "tuple", .free "len", .free "ord", .free "enumerate", .free "range", .free "sorted", .free "max", .free "min", .free "sum", .free "list", .free "ValueError", .int "LONGEST_NAME" 12, .int "GREATEST_NUMBER" 1000000000000000000, .int "LONGEST_TEXT" 400, .int "LONGEST_TITLE" 60, .int "MOST_MEMBERS" 15, .int "WIDTH" 60, .int "MOST_DIGITS" 19, .str "LETTERS" "abcdefghijklmnopqrstuvwxyz", .str "DIGITS_names" "0123456789", .str "DIGITS_headers" "0123456789", .str "MARK" "|", .str "LAST" ".", .cls "Letter", .noat "Letter" "author", .noat "Letter" "number", .noat "Letter" "stamp", .noat "Letter" "seen", .noat "Letter" "body", .meth "Letter" "value", .mkr "Letter", .exc "BadMail", .exm "BadMail" "BadMail" true, .exm "BadMail" "RoomError" true]
def ts : List He.Tab := [((fun K => He.ga K "PARTS"), ["found", "say", "reply", "edit", "recall", "mark", "title", "add", "cut", "hand", "seen"])]
abbrev R : PySem.W.OpenRow := PySem.W.OpenLaw.row PySem.Challenge.rw_lettersonce_k16_whole_cut_archives
/-- the property's getter as data -/
def d_Letter_ref : He.DefD := ⟨("Letter", some "ref"), "ref", "Letter.ref", defArgs s_Letter_ref, defBody s_Letter_ref, defScope s_Letter_ref, [], []⟩
def fnAt (K : PySem.W.Frag) (a : Addr) : He.FnW := match K.lookup a with
  | some ⟨_, _, .func fd, _⟩ => some (fd.name, fd.qualname, fd.params, fd.body, fd.scope, fd.globals, fd.closure, fd.builtins)
  | _ => none
def obP (g : Addr → Option Obj) : He.FnW := fnAt (He.frT g (He.asD g 5)) (refG (He.frT g (He.asD g 5)))
/-- the head's facts and the getter's -/
def hk : PySem.W.Hook where
  α := He.AlX × He.FnW
  obs := fun s => (He.obsX 5 fa fn ts [] ex s.heap.get?, obP s.heap.get?)
  val := fun w => (He.valX fn ts w, d_Letter_ref.val)
  says := fun w h => ∃ K : PySem.W.Frag, K.In h ∧ He.SaysX fa fn ts [] ex w h K ∧ fnAt K (refG K) = d_Letter_ref.val
  of := fun _ _ e => ⟨_, He.frT_in, He.saysX_of (congrArg (fun z : He.AlX × He.FnW => z.1) e), congrArg (fun z : He.AlX × He.FnW => z.2) e⟩
  keeps := fun _ _ _ ⟨K, hK, c, r⟩ k => ⟨K, PySem.W.Frag.In.keeps hK k, ⟨c.t, c.more, c.hd, c.out, fun p hp => k _ _ (c.empty p hp)⟩, r⟩
def ob (s : PySem.W.SharedT) : He.AlX × He.FnW := (He.obsX 5 fa fn ts [] ex (HandSHeadRun.getT s), obP (HandSHeadRun.getT s))
theorem ob_eq (s : PySem.W.SharedT) : ob s = hk.obs s.abs := by
  have e : HandSHeadRun.getT s = s.abs.heap.get? := funext (HandSHeadRun.getT_eq s)
  show (He.obsX 5 fa fn ts [] ex (HandSHeadRun.getT s), obP (HandSHeadRun.getT s)) = (He.obsX 5 fa fn ts [] ex s.abs.heap.get?, obP s.abs.heap.get?)
  rw [e]

def loose1 : List PySem.Str := [("_wall" : PySem.Str), ("RoomError" : PySem.Str), ("BadLetter" : PySem.Str), ("BadMail" : PySem.Str), ("is_name" : PySem.Str), ("is_number" : PySem.Str), ("is_plain" : PySem.Str), ("is_text" : PySem.Str), ("is_title" : PySem.Str), ("is_ref" : PySem.Str), ("is_members" : PySem.Str), ("is_body" : PySem.Str), ("target" : PySem.Str), ("text_of" : PySem.Str), ("cut_at" : PySem.Str), ("fold" : PySem.Str), ("unfold" : PySem.Str), ("Letter" : PySem.Str), ("is_seen" : PySem.Str), ("is_letter" : PySem.Str), ("ref_words" : PySem.Str), ("body_lines" : PySem.Str), ("header_lines" : PySem.Str), ("read_number" : PySem.Str), ("read_ref" : PySem.Str), ("read_body" : PySem.Str), ("read_headers" : PySem.Str), ("mail_lines" : PySem.Str), ("head_end" : PySem.Str), ("text_end" : PySem.Str), ("read_mail" : PySem.Str), ("archive" : PySem.Str), ("read_beginning" : PySem.Str), ("read_archive" : PySem.Str), ("_law_is" : PySem.Str), ("_law_cell" : PySem.Str), ("_law_stream" : PySem.Str), ("_law_next" : PySem.Str), ("_law_number" : PySem.Str), ("_law_name" : PySem.Str)]
def loose2 : List PySem.Str := [("_law_names" : PySem.Str), ("_law_line" : PySem.Str), ("_law_title" : PySem.Str), ("_law_text" : PySem.Str), ("_law_body" : PySem.Str), ("_law_seen" : PySem.Str), ("_law_value" : PySem.Str), ("_law_text_of" : PySem.Str), ("_law_header" : PySem.Str), ("_law_letter" : PySem.Str), ("_law_cut" : PySem.Str), ("_law_mail" : PySem.Str), ("_law_fold" : PySem.Str), ("_law_written" : PySem.Str), ("_law_joined" : PySem.Str), ("_law_are" : PySem.Str), ("_law_raises" : PySem.Str), ("_law_reads" : PySem.Str), ("_law_begins" : PySem.Str), ("_law_cut_at" : PySem.Str), ("_law_asked" : PySem.Str), ("_law_long" : PySem.Str), ("LETTERS" : PySem.Str), ("DIGITS_names" : PySem.Str), ("LONGEST_NAME" : PySem.Str), ("GREATEST_NUMBER" : PySem.Str), ("LONGEST_TEXT" : PySem.Str), ("LONGEST_TITLE" : PySem.Str), ("MOST_MEMBERS" : PySem.Str), ("PARTS" : PySem.Str), ("WIDTH" : PySem.Str), ("DIGITS_headers" : PySem.Str), ("MOST_DIGITS" : PySem.Str), ("MARK" : PySem.Str), ("LAST" : PySem.Str)]
def loose3 : List PySem.Str := []
def loose : List PySem.Str := loose1 ++ loose2 ++ loose3
abbrev qv : Program := PySem.W.view R.prog [84]
end LoH

/-! ## LoRun -/
set_option Elab.async false
set_option linter.all false
set_option maxRecDepth 100000
set_option maxHeartbeats 0
namespace LoH
open PySem PySem.Spec PyProof.Rows L2
theorem runF (w : World) : HandSHeadRun.RunEq R qv hk ob 4000 loose (w.withFollow "special-get-raises" false) := by intro os; kernel_rfl
theorem runT (w : World) : HandSHeadRun.RunEq R qv hk ob 4000 loose (w.withFollow "special-get-raises" true) := by intro os; kernel_rfl
theorem run (w : World) : HandSHeadRun.RunEq R qv hk ob 4000 loose w :=
  PySem.W.byRow2 "special-get-raises" (P := fun w => HandSHeadRun.RunEq R qv hk ob 4000 loose w) runF runT w
end LoH
/-! ## LoJoin0 -/
set_option Elab.async false
set_option linter.all false
set_option maxRecDepth 100000
set_option maxHeartbeats 0
section
open PySem PySem.W PySem.Calls PyProof.Rows
/-- the head's end: what is left is the law's own walk (stands early in the one text, where memory is low) -/
theorem LoH.join (hc : WalkO LoH.qv LoH.loose (XL LoH.qv []) LoH.hk.says PySem.Challenge.rw_lettersonce_k16_whole_cut_archives.row.toRowW (HandSHeadRun.topDef PySem.Challenge.rw_lettersonce_k16_whole_cut_archives.row.prog 84) [] fun f vs => PySem.call f vs) :
    PySem.Challenge.rw_lettersonce_k16_whole_cut_archives.Holds := by
  w_on; o_law
  refine HandSHeadRun.head_any (r := OpenLaw.row PySem.Challenge.rw_lettersonce_k16_whole_cut_archives) (q := LoH.qv) (H := LoH.hk) (ob := LoH.ob) (M := 4000) (loose := LoH.loose) (d := HandSHeadRun.topDef (OpenLaw.row PySem.Challenge.rw_lettersonce_k16_whole_cut_archives).prog 84) (kwd := []) LoH.ob_eq
    (by kernel_rfl) (fun s => by kernel_rfl) LoH.run (by kernel_rfl) (by kernel_rfl) (by kernel_rfl) (by rfl) (by first | assumption | decide +kernel) (by decide +kernel) ⟨rfl, rfl, rfl, rfl, rfl, by decide +kernel⟩ ?hw hc
  case hw => w_witness2
theorem LoH.law_dfl : (HandSHeadRun.topDef PySem.Challenge.rw_lettersonce_k16_whole_cut_archives.row.prog 84).params.defaults = [] := by kernel_rfl
theorem LoH.law_name : (HandSHeadRun.topDef PySem.Challenge.rw_lettersonce_k16_whole_cut_archives.row.prog 84).name = ("law" : PySem.Str) := by kernel_rfl
end
/-! ## LoBase -/
set_option Elab.async false
set_option linter.all false
set_option maxRecDepth 100000
set_option maxHeartbeats 4000000
/-! The walk's own words: what a piece of syntax does from given slots and heap, in one judgement each (the weakest reading), and the layer's rules in these words. -/
namespace LoW
open PySem PySem.Spec PyProof.Rows L2
/-! ### judgements -/
structure E1 (X : Cx) (e : Expr) (σ : L2.St) (H : Hp) (Q : VK) : Prop where
  run : ∀ (pins : List (Addr × Obj)) (s : Shared), Inv X pins σ H s → wpAny (model X.prog X.w) X.A (eval e X.env) (EP X pins σ Q) X.xe s
structure T1 (X : Cx) (e : Expr) (σ : L2.St) (H : Hp) (Q : Bool → Hp → Prop) : Prop where
  run : ∀ (pins : List (Addr × Obj)) (s : Shared), Inv X pins σ H s → wpAny (model X.prog X.w) X.A (isTrue e X.env (eval e X.env)) (TP X pins σ Q) X.xe s
/-- a chain of and, or: whatever its whole is -/
structure W1 (X : Cx) (e : Expr) (σ : L2.St) (H : Hp) (Q : Bool → Hp → Prop) : Prop where
  run : ∀ (whole : Sem Value) (pins : List (Addr × Obj)) (s : Shared), Inv X pins σ H s → wpAny (model X.prog X.w) X.A (isTrue e X.env whole) (TP X pins σ Q) X.xe s
structure A1 (X : Cx) (es : List Expr) (σ : L2.St) (H : Hp) (Q : List V → Hp → Prop) : Prop where
  run : ∀ (pos : Pos) (pins : List (Addr × Obj)) (s : Shared), Inv X pins σ H s → wpAny (model X.prog X.w) X.A (spliced (backTo pos (starEach es X.env))) (AP X pins σ Q) X.xe s
structure S1 (X : Cx) (st : Stmt) (σ : L2.St) (H : Hp) (nx : L2.St → Hp → Prop) (rt : VK) (bk ct : L2.St → Hp → Prop) : Prop where
  run : ∀ (pins : List (Addr × Obj)) (s : Shared), Inv X pins σ H s → wpAny (model X.prog X.w) X.A (exec st X.env) (SP X pins ⟨nx, rt, bk, ct⟩) X.xe s
structure B1 (X : Cx) (st : List Stmt) (σ : L2.St) (H : Hp) (nx : L2.St → Hp → Prop) (rt : VK) (bk ct : L2.St → Hp → Prop) : Prop where
  run : ∀ (pins : List (Addr × Obj)) (s : Shared), Inv X pins σ H s → wpAny (model X.prog X.w) X.A (execs st X.env) (SP X pins ⟨nx, rt, bk, ct⟩) X.xe s
/-- an assignment's target -/
structure G1 (X : Cx) (tg : Expr) (v : V) (σ : L2.St) (H : Hp) (Q : L2.St → Hp → Prop) : Prop where
  run : ∀ (pins : List (Addr × Obj)) (s : Shared) (u : Value), Inv X pins σ H s → RelV v u → wpAny (model X.prog X.w) X.A (assign tg X.env u) (fun _ s' => ∃ σ' H', Inv X pins σ' H' s' ∧ Q σ' H') X.xe s
section
variable {X : Cx} {e : Expr} {es : List Expr} {st : Stmt} {sts : List Stmt} {σ : L2.St} {H : Hp}
theorem pE : PE X e (fun σ H Q => E1 X e σ H Q) := ⟨fun pins s _ _ _ I h => h.run pins s I⟩
theorem pT : PT X e (fun σ H Q => T1 X e σ H Q) := ⟨fun pins s _ _ _ I h => h.run pins s I⟩
theorem pW : PW X e (fun σ H Q => W1 X e σ H Q) := ⟨fun wh pins s _ _ _ I h => h.run wh pins s I⟩
theorem pA : PA X es (fun σ H Q => A1 X es σ H Q) := ⟨fun pos pins s _ _ _ I h => h.run pos pins s I⟩
theorem pS : PS X st (fun D σ H => S1 X st σ H D.nx D.rt D.bk D.ct) := ⟨fun pins s _ _ _ I h => h.run pins s I⟩
theorem pB : PSs X sts (fun D σ H => B1 X sts σ H D.nx D.rt D.bk D.ct) := ⟨fun pins s _ _ _ I h => h.run pins s I⟩
theorem pG : PG X e (fun v σ H Q => G1 X e v σ H Q) := ⟨fun pins s _ _ _ u _ I r h => h.run pins s u I r⟩
theorem E1.of {t : TE} {Q : VK} (h : PE X e t) (q : t σ H Q) : E1 X e σ H Q := ⟨fun pins s I => h.run pins s σ H Q I q⟩
theorem T1.of {t : TT} {Q : Bool → Hp → Prop} (h : PT X e t) (q : t σ H Q) : T1 X e σ H Q := ⟨fun pins s I => h.run pins s σ H Q I q⟩
theorem W1.of {t : TT} {Q : Bool → Hp → Prop} (h : PW X e t) (q : t σ H Q) : W1 X e σ H Q := ⟨fun wh pins s I => h.run wh pins s σ H Q I q⟩
theorem A1.of {t : TA} {Q : List V → Hp → Prop} (h : PA X es t) (q : t σ H Q) : A1 X es σ H Q := ⟨fun pos pins s I => h.run pos pins s σ H Q I q⟩
theorem S1.of {t : TS} {nx : L2.St → Hp → Prop} {rt : VK} {bk ct : L2.St → Hp → Prop} (h : PS X st t) (q : t ⟨nx, rt, bk, ct⟩ σ H) : S1 X st σ H nx rt bk ct := ⟨fun pins s I => h.run pins s σ H _ I q⟩
theorem B1.of {t : TS} {nx : L2.St → Hp → Prop} {rt : VK} {bk ct : L2.St → Hp → Prop} (h : PSs X sts t) (q : t ⟨nx, rt, bk, ct⟩ σ H) : B1 X sts σ H nx rt bk ct := ⟨fun pins s I => h.run pins s σ H _ I q⟩
theorem G1.of {t : TG} {v : V} {Q : L2.St → Hp → Prop} (h : PG X e t) (q : t v σ H Q) : G1 X e v σ H Q := ⟨fun pins s u I r => h.run pins s σ H v u Q I r q⟩
/-- weaken what is wanted -/
theorem E1.imp {Q Q' : VK} (h : E1 X e σ H Q) (k : ∀ v H', Q v H' → Q' v H') : E1 X e σ H Q' := ⟨fun pins s I => thn (h.run pins s I) fun _ _ ⟨v, H', I', r, q⟩ => ⟨v, H', I', r, k v H' q⟩⟩
theorem T1.imp {Q Q' : Bool → Hp → Prop} (h : T1 X e σ H Q) (k : ∀ b H', Q b H' → Q' b H') : T1 X e σ H Q' := ⟨fun pins s I => thn (h.run pins s I) fun _ _ ⟨H', I', q⟩ => ⟨H', I', k _ H' q⟩⟩
theorem SP.imp {pins : List (Addr × Obj)} {D D' : Ends} {f : Flow} {s' : Shared} (h : SP X pins D f s') (h1 : ∀ σ H, D.nx σ H → D'.nx σ H) (h2 : ∀ v H, D.rt v H → D'.rt v H) (h3 : ∀ σ H, D.bk σ H → D'.bk σ H) (h4 : ∀ σ H, D.ct σ H → D'.ct σ H) : SP X pins D' f s' := by
  cases f with
  | next => obtain ⟨σ', H', I, q⟩ := h; exact ⟨σ', H', I, h1 _ _ q⟩
  | brk => obtain ⟨σ', H', I, q⟩ := h; exact ⟨σ', H', I, h3 _ _ q⟩
  | cont => obtain ⟨σ', H', I, q⟩ := h; exact ⟨σ', H', I, h4 _ _ q⟩
  | ret u => obtain ⟨v, σ', H', I, r, q⟩ := h; exact ⟨v, σ', H', I, r, h2 _ _ q⟩
theorem S1.imp {nx nx' : L2.St → Hp → Prop} {rt rt' : VK} {bk ct bk' ct' : L2.St → Hp → Prop} (h : S1 X st σ H nx rt bk ct) (h1 : ∀ σ H, nx σ H → nx' σ H) (h2 : ∀ v H, rt v H → rt' v H) (h3 : ∀ σ H, bk σ H → bk' σ H) (h4 : ∀ σ H, ct σ H → ct' σ H) : S1 X st σ H nx' rt' bk' ct' :=
  ⟨fun pins s I => thn (h.run pins s I) fun _ _ q => SP.imp q h1 h2 h3 h4⟩
theorem B1.imp {nx nx' : L2.St → Hp → Prop} {rt rt' : VK} {bk ct bk' ct' : L2.St → Hp → Prop} (h : B1 X sts σ H nx rt bk ct) (h1 : ∀ σ H, nx σ H → nx' σ H) (h2 : ∀ v H, rt v H → rt' v H) (h3 : ∀ σ H, bk σ H → bk' σ H) (h4 : ∀ σ H, ct σ H → ct' σ H) : B1 X sts σ H nx' rt' bk' ct' :=
  ⟨fun pins s I => thn (h.run pins s I) fun _ _ q => SP.imp q h1 h2 h3 h4⟩
end
/-! ### names -/
/-- the name x is read at the slot i -/
structure Slot (X : Cx) (i : Nat) (x : Str) : Prop where
  n : X.N[i]? = some x
  v : Vis X.env.scope x
  d : (x == ("__debug__" : Str)) = false
  c : (x == ("__classdict__" : Str)) = false
/-- .. and may be stored -/
structure SlotW (X : Cx) (i : Nat) (x : Str) : Prop where
  nd : X.N.Nodup
  n : X.N[i]? = some x
  l : Loc X.env.scope x
  f : X.fn x = true ∨ X.env.scope.names.lookup x = some .local
/-- a module's or built-in name of the def -/
structure GlN (X : Cx) (x : Str) : Prop where
  g : Gl X x
  d : (x == ("__debug__" : Str)) = false
  m : x ≠ "__name__"
section
variable {X : Cx} {x : Str} {i : Nat} {σ : L2.St} {H : Hp} {Q : VK} {v : V} {pos : Pos}
theorem e_var (s : Slot X i x) (e : σ[i]? = some (some v)) (q : Q v H) : E1 X (.Name x pos) σ H Q := E1.of (pe_var s.n s.v s.d s.c) ⟨v, e, q⟩
theorem e_int {n : Int} {j : Nat} (q : Q (.int n) H) : E1 X (.Constant (.int n) j pos) σ H Q := E1.of pe_int q
theorem e_bl {b : Bool} {j : Nat} (q : Q (.bl b) H) : E1 X (.Constant (.bool b) j pos) σ H Q := E1.of pe_bl q
theorem e_non {j : Nat} (q : Q .non H) : E1 X (.Constant .none j pos) σ H Q := E1.of pe_non q
theorem e_str {z : Str} {j : Nat} (q : Q (.str z) H) : E1 X (.Constant (.str z) j pos) σ H Q := E1.of pe_str q
theorem e_glob {u : Value} (g : GlN X x) (hm : X.mg x = some u) (r : RelV v u) (q : Q v H) : E1 X (.Name x pos) σ H Q := E1.of (pe_glob g.g hm r g.d) q
theorem e_bltn {u : Value} (g : GlN X x) (hm : X.mg x = none) (hv : bootBuiltins x = some u) (r : RelV v u) (q : Q v H) : E1 X (.Name x pos) σ H Q := E1.of (pe_bltn g.g hm hv r g.m g.d) q
end
/-! ### operators: what both operands are decides -/
def AddV (x y : V) (H : Hp) (Q : VK) : Prop :=
  rI0 (fun i j => .int (i + j)) x y H Q ∨ (∃ i j, x = .str i ∧ y = .str j ∧ i.length + j.length ≤ sizeLine ∧ Q (.str (i ++ j)) H) ∨ rCat x y H Q
section
variable {X : Cx} {a b c e : Expr} {σ : L2.St} {H : Hp} {Q : VK} {pos : Pos} {x y : V}
theorem op_addV : OpR X (binaryOp .Add) AddV := OpR.or op_add (OpR.or op_add_str op_cat)
theorem AddV.i {i j : Int} (q : Q (.int (i + j)) H) : AddV (.int i) (.int j) H Q := .inl ⟨i, j, rfl, rfl, q⟩
theorem AddV.s {i j : Str} (h : i.length + j.length ≤ sizeLine) (q : Q (.str (i ++ j)) H) : AddV (.str i) (.str j) H Q := .inr (.inl ⟨i, j, rfl, rfl, h, q⟩)
theorem AddV.l {p q : Addr} {xs ys : List V} (hp : H p = some (.lst xs)) (hq : H q = some (.lst ys)) (h : xs.length + ys.length ≤ sizeLine) (k : ∀ r, H r = none → Q (.ref r) (upd H r (.lst (xs ++ ys)))) : AddV (.ref p) (.ref q) H Q :=
  .inr (.inr ⟨p, q, xs, ys, rfl, rfl, hp, hq, h, k⟩)
theorem e_add (h : E1 X a σ H fun x H1 => E1 X b σ H1 fun y H2 => AddV x y H2 Q) : E1 X (.BinOp a .Add b pos) σ H Q := E1.of (pe_op op_addV pE pE) h
theorem e_sub (h : E1 X a σ H fun x H1 => E1 X b σ H1 fun y H2 => rI0 (fun i j => .int (i - j)) x y H2 Q) : E1 X (.BinOp a .Sub b pos) σ H Q := E1.of (pe_op op_sub pE pE) h
theorem e_mul (h : E1 X a σ H fun x H1 => E1 X b σ H1 fun y H2 => rI CMul (fun i j => .int (i * j)) x y H2 Q) : E1 X (.BinOp a .Mult b pos) σ H Q := E1.of (pe_op op_mul pE pE) h
theorem e_mod (h : E1 X a σ H fun x H1 => E1 X b σ H1 fun y H2 => rI (fun _ j => 0 < j) (fun i j => .int (i % j)) x y H2 Q) : E1 X (.BinOp a .Mod b pos) σ H Q := E1.of (pe_op op_mod pE pE) h
theorem e_fdiv (h : E1 X a σ H fun x H1 => E1 X b σ H1 fun y H2 => rI CDivW (fun i j => .int (i / j)) x y H2 Q) : E1 X (.BinOp a .FloorDiv b pos) σ H Q := E1.of (pe_op op_fdivW pE pE) h
theorem e_pow (h : E1 X a σ H fun x H1 => E1 X b σ H1 fun y H2 => rI CPow (fun i j => .int (i ^ j.toNat)) x y H2 Q) : E1 X (.BinOp a .Pow b pos) σ H Q := E1.of (pe_op op_pow pE pE) h
theorem e_neg (h : E1 X a σ H fun x H1 => rU (fun i => .int (-i)) x H1 Q) : E1 X (.UnaryOp .USub a pos) σ H Q := E1.of (pe_un un_neg pE) h
/-! ### comparisons -/
def EqV (K : PySem.W.Frag) (x y : V) (H : Hp) (Q : VK) : Prop := rEq x y H Q ∨ rEqD K x y H Q
def NeV (K : PySem.W.Frag) (x y : V) (H : Hp) (Q : VK) : Prop := rNe x y H Q ∨ rNeD K x y H Q
theorem op_eqV (hu : X.A.units + 64 < cLine) : OpR X (compareOp .Eq) (EqV X.K) := OpR.or op_eq (op_eqD hu)
theorem op_neV (hu : X.A.units + 64 < cLine) : OpR X (compareOp .NotEq) (NeV X.K) := OpR.or op_ne (op_neD hu)
theorem EqV.s {K : PySem.W.Frag} (h : scal x y = true) (q : Q (.bl (decide (x = y))) H) : EqV K x y H Q := .inl ⟨h, q⟩
theorem NeV.s {K : PySem.W.Frag} (h : scal x y = true) (q : Q (.bl (!decide (x = y))) H) : NeV K x y H Q := .inl ⟨h, q⟩
theorem EqV.d {K : PySem.W.Frag} {d e : PyData} (h1 : Dp K H x d) (h2 : Dp K H y e) (s1 : SeqAt.shaped d = true) (s2 : SeqAt.shaped e = true) (q : Q (.bl (PyData.eqv d e)) H) : EqV K x y H Q := .inr ⟨d, e, h1, h2, s1, s2, q⟩
theorem NeV.d {K : PySem.W.Frag} {d e : PyData} (h1 : Dp K H x d) (h2 : Dp K H y e) (s1 : SeqAt.shaped d = true) (s2 : SeqAt.shaped e = true) (q : Q (.bl (!PyData.eqv d e)) H) : NeV K x y H Q := .inr ⟨d, e, h1, h2, s1, s2, q⟩
def LtV (x y : V) (H : Hp) (Q : VK) : Prop := rI0 (fun i j => .bl (decide (i < j))) x y H Q
def LeV (x y : V) (H : Hp) (Q : VK) : Prop := rI0 (fun i j => .bl (decide (i ≤ j))) x y H Q ∨ ∃ i j, x = .str i ∧ y = .str j ∧ Q (.bl (!decide (j.cps.toList < i.cps.toList))) H
theorem op_leV : OpR X (compareOp .LtE) LeV := OpR.or op_le op_le_str
theorem LeV.i {i j : Int} (q : Q (.bl (decide (i ≤ j))) H) : LeV (.int i) (.int j) H Q := .inl ⟨i, j, rfl, rfl, q⟩
theorem LeV.s {i j : Str} (q : Q (.bl (!decide (j.cps.toList < i.cps.toList))) H) : LeV (.str i) (.str j) H Q := .inr ⟨i, j, rfl, rfl, q⟩
/-- in: one sign in a text; a flat thing in a list, a tuple -/
def InV (K : PySem.W.Frag) (x y : V) (H : Hp) (Q : VK) : Prop := (∃ (c : Nat) (z : Str), x = .str ⟨#[c]⟩ ∧ y = .str z ∧ Q (.bl (decide (c ∈ z.cps.toList))) H) ∨ rIn K false x y H Q
def NotInV (K : PySem.W.Frag) (x y : V) (H : Hp) (Q : VK) : Prop := (∃ (c : Nat) (z : Str), x = .str ⟨#[c]⟩ ∧ y = .str z ∧ Q (.bl (!decide (c ∈ z.cps.toList))) H) ∨ rIn K true x y H Q
theorem op_inV : OpR X (compareOp .In) (InV X.K) := OpR.or op_in_sign op_in_seq
theorem op_notInV : OpR X (compareOp .NotIn) (NotInV X.K) := OpR.or op_notIn_sign op_notIn_seq
variable {op op' : CmpOp} {r r' : R2} {QT : Bool → Hp → Prop}
theorem e_cmp (ho : OpR X (compareOp op) r) (h : E1 X a σ H fun x H1 => E1 X b σ H1 fun y H2 => r x y H2 Q) (hm : behindInMarks op b = false := by with_unfolding_all rfl) : E1 X (.Compare a [op] [b] pos) σ H Q := E1.of (pe_cmpR ho pE pE hm) h
theorem t_cmp (ho : OpR X (compareOp op) r) (h : E1 X a σ H fun x H1 => E1 X b σ H1 fun y H2 => r x y H2 fun v H3 => ∃ k, v = .bl k ∧ QT k H3) (hm : behindInMarks op b = false := by with_unfolding_all rfl) : T1 X (.Compare a [op] [b] pos) σ H QT := T1.of (pt_cmpR ho pE pE hm) h
theorem e_chain (ho : OpR X (compareOp op) r) (ho' : OpR X (compareOp op') r')
    (h : E1 X a σ H fun x H1 => E1 X b σ H1 fun y H2 => r x y H2 fun z H3 => ∃ k, z = .bl k ∧ (if k = true then E1 X c σ H3 fun w' H4 => r' y w' H4 Q else Q (.bl false) H3)) (hm : lastMarks [op, op'] [b, c] = false := by with_unfolding_all rfl) : E1 X (.Compare a [op, op'] [b, c] pos) σ H Q :=
  E1.of (pe_chain ho ho' pE pE pE hm) h
theorem t_chain (ho : OpR X (compareOp op) r) (ho' : OpR X (compareOp op') r')
    (h : E1 X a σ H fun x H1 => E1 X b σ H1 fun y H2 => r x y H2 fun z H3 => ∃ k, z = .bl k ∧ (if k = true then E1 X c σ H3 fun w' H4 => r' y w' H4 (fun v H5 => ∃ k, v = .bl k ∧ QT k H5) else ∃ k, V.bl false = .bl k ∧ QT k H3)) (hm : lastMarks [op, op'] [b, c] = false := by with_unfolding_all rfl) : T1 X (.Compare a [op, op'] [b, c] pos) σ H QT :=
  T1.of (pt_chain ho ho' pE pE pE hm) h
end
/-! ### tests -/
section
variable {X : Cx} {a b c e : Expr} {rest es : List Expr} {σ : L2.St} {H : Hp} {Q : VK} {QT : Bool → Hp → Prop} {pos apos : Pos}
/-- both ways -/
def Bth (k : Bool) (A B : Prop) : Prop := (k = true → A) ∧ (k = false → B)
theorem Bth.t {A B : Prop} (h : A) : Bth true A B := ⟨fun _ => h, fun h => by cases h⟩
theorem Bth.f {A B : Prop} (h : B) : Bth false A B := ⟨fun h => (by cases h), fun _ => h⟩
theorem Bth.ite {k : Bool} {A B : Prop} (h : Bth k A B) : if k = true then A else B := by
  cases k with
  | true => exact h.1 rfl
  | false => exact h.2 rfl
/-- a value's truth -/
theorem t_truth (h : E1 X a σ H fun x H' => ∃ k, TruV X.K x H' k ∧ QT k H') (he : ∀ whole, isTrue a X.env whole = (do let v ← whole; standAt a.pos; holding [v] (truthy v)) := by intro _; rfl) : T1 X a σ H QT := T1.of (pt_truth pE he) h
theorem t_bl (h : E1 X a σ H fun x H' => ∃ k, x = .bl k ∧ QT k H') (he : ∀ whole, isTrue a X.env whole = (do let v ← whole; standAt a.pos; holding [v] (truthy v)) := by intro _; rfl) : T1 X a σ H QT := T1.of (pt_val pE he) h
theorem w_and1 (h : T1 X a σ H QT) : W1 X (.BoolOp .And [a] pos) σ H QT := W1.of (pw_and1 pT) h
theorem w_or1 (h : T1 X a σ H QT) : W1 X (.BoolOp .Or [a] pos) σ H QT := W1.of (pw_or1 pT) h
theorem w_and (h : T1 X a σ H fun c H1 => Bth c (W1 X (.BoolOp .And (b :: rest) pos) σ H1 QT) (QT false H1)) : W1 X (.BoolOp .And (a :: b :: rest) pos) σ H QT := W1.of (pw_and pT pW) (T1.imp h fun _ _ q => q.ite)
theorem w_or (h : T1 X a σ H fun c H1 => Bth c (QT true H1) (W1 X (.BoolOp .Or (b :: rest) pos) σ H1 QT)) : W1 X (.BoolOp .Or (a :: b :: rest) pos) σ H QT := W1.of (pw_or pT pW) (T1.imp h fun _ _ q => q.ite)
theorem t_w (h : W1 X e σ H QT) : T1 X e σ H QT := ⟨h.run _⟩
theorem t_not (h : T1 X a σ H fun c H1 => QT (!c) H1) : T1 X (.UnaryOp .Not a pos) σ H QT := T1.of (pt_not pT) h
/-- and, or, not as values (bools) -/
theorem e_one {op : BoolOp} (h : E1 X a σ H Q) : E1 X (.BoolOp op [a] pos) σ H Q := E1.of (pe_one pE) h
theorem e_and (h : E1 X a σ H fun x H1 => ∃ c, x = .bl c ∧ Bth c (E1 X (.BoolOp .And (b :: rest) pos) σ H1 Q) (Q (.bl false) H1)) : E1 X (.BoolOp .And (a :: b :: rest) pos) σ H Q :=
  E1.of (pe_and pE pE) (E1.imp h fun _ _ ⟨c, e, q⟩ => ⟨c, e, q.ite⟩)
theorem e_or (h : E1 X a σ H fun x H1 => ∃ c, x = .bl c ∧ Bth c (Q (.bl true) H1) (E1 X (.BoolOp .Or (b :: rest) pos) σ H1 Q)) : E1 X (.BoolOp .Or (a :: b :: rest) pos) σ H Q :=
  E1.of (pe_or pE pE) (E1.imp h fun _ _ ⟨c, e, q⟩ => ⟨c, e, q.ite⟩)
theorem e_not (h : E1 X a σ H fun x H1 => ∃ c, x = .bl c ∧ Q (.bl (!c)) H1) : E1 X (.UnaryOp .Not a pos) σ H Q := E1.of (L2.pe_not pE) h
theorem e_if (h : T1 X c σ H fun k H1 => Bth k (E1 X a σ H1 Q) (E1 X b σ H1 Q)) : E1 X (.IfExp c a b pos) σ H Q := E1.of (pe_ifExp pT pE pE) (T1.imp h fun _ _ q => q.ite)
/-! ### argument lists, displays -/
theorem a_nil {Q : List V → Hp → Prop} (q : Q [] H) : A1 X [] σ H Q := A1.of pa_nil q
theorem a_cons {Q : List V → Hp → Prop} (h : E1 X e σ H fun x H1 => A1 X es σ H1 fun xs H2 => Q (x :: xs) H2) (hs : starEach (e :: es) X.env = (false, eval e X.env) :: starEach es X.env := by rfl) : A1 X (e :: es) σ H Q := A1.of (pa_cons pE pA hs) h
/-- a new object: p, the heap behind -/
structure New (H : Hp) (p : Addr) (o : HO) (H' : Hp) : Prop where
  fr : H p = none
  same : Same H H'
  at_ : H' p = some o
  out : ∀ b, b ≠ p → H' b = H b
theorem New.of {H : Hp} {p : Addr} {o : HO} (h : H p = none) : New H p o (upd H p o) := ⟨h, fun b u e => by rw [upd_ne (ne_of_none e h)]; exact e, upd_same, fun b h => upd_ne h⟩
theorem e_tup {k : Nat} (h : A1 X es σ H fun xs H1 => xs.length ≤ sizeLine ∧ ∀ p H2, New H1 p (.tup xs) H2 → Q (.ref p) H2) : E1 X (.Tuple es k pos) σ H Q :=
  ⟨fun pins s I => (E1.of (pe_tup (t := fun σ H Q => A1 X es σ H Q) pA) (Q := Q) (show tTup _ σ H Q from A1imp h fun xs H1 q => ⟨q.1, fun p hp => q.2 p _ (New.of hp)⟩)).run pins s I⟩
where A1imp {Q Q' : List V → Hp → Prop} (h : A1 X es σ H Q) (k : ∀ v H', Q v H' → Q' v H') : A1 X es σ H Q' := ⟨fun pos pins s I => thn (h.run pos pins s I) fun _ _ ⟨v, H', I', r, q⟩ => ⟨v, H', I', r, k v H' q⟩⟩
end
theorem A1.imp {X : Cx} {es : List Expr} {σ : L2.St} {H : Hp} {Q Q' : List V → Hp → Prop} (h : A1 X es σ H Q) (k : ∀ v H', Q v H' → Q' v H') : A1 X es σ H Q' := ⟨fun pos pins s I => thn (h.run pos pins s I) fun _ _ ⟨v, H', I', r, q⟩ => ⟨v, H', I', r, k v H' q⟩⟩
section
variable {X : Cx} {a b c e o : Expr} {rest es : List Expr} {σ : L2.St} {H : Hp} {Q : VK} {QT : Bool → Hp → Prop} {pos apos : Pos} {x name : Str}
theorem e_lst (h : A1 X es σ H fun xs H1 => xs.length ≤ sizeLine ∧ ∀ p H2, New H1 p (.lst xs) H2 → Q (.ref p) H2) : E1 X (.List es pos) σ H Q :=
  E1.of (pe_lst pA) (A1.imp h fun xs H1 q => ⟨q.1, fun p hp => q.2 p _ (New.of hp)⟩)
/-! ### subscripts -/
def IxV (K : PySem.W.Frag) (x y : V) (H : Hp) (Q : VK) : Prop := rIx K x y H Q
theorem IxV.l {K : PySem.W.Frag} {p : Addr} {xs : List V} {i : Int} {v : V} (h : SqL K H p xs) (e : atI xs i = some v) (q : Q v H) : IxV K (.ref p) (.int i) H Q := .inl ⟨p, xs, i, v, rfl, rfl, h, e, q⟩
theorem IxV.t {K : PySem.W.Frag} {p : Addr} {xs : List V} {i : Int} {v : V} (h : SqT K H p xs) (e : atI xs i = some v) (q : Q v H) : IxV K (.ref p) (.int i) H Q := .inr (.inl ⟨p, xs, i, v, rfl, rfl, h, e, q⟩)
theorem IxV.s {K : PySem.W.Frag} {z : Str} {i : Int} {c : Nat} (h : z.length ≤ sizeLine) (e : atI z.cps.toList i = some c) (q : Q (.str ⟨#[c]⟩) H) : IxV K (.str z) (.int i) H Q := .inr (.inr ⟨z, i, c, rfl, rfl, h, e, q⟩)
theorem e_ix (h : E1 X a σ H fun x H1 => E1 X b σ H1 fun y H2 => IxV X.K x y H2 Q) (hs : PlainIx b := by intro _ _; rfl) : E1 X (.Subscript a b pos) σ H Q := E1.of (pe_ix ix_seq pE pE hs) h
/-- a part of a slice -/
structure P1 (X : Cx) (e : Option Expr) (σ : L2.St) (H : Hp) (Q : Option Int → Hp → Prop) : Prop where
  run : ∀ (pins : List (Addr × Obj)) (s : Shared), Inv X pins σ H s → wpAny (model X.prog X.w) X.A (evalPart e X.env) (fun u s' => ∃ o H', Inv X pins σ H' s' ∧ IsPart u o ∧ Q o H') X.xe s
theorem pP {e : Option Expr} : PO X e (fun σ H Q => P1 X e σ H Q) := ⟨fun pins s _ _ _ I h => h.run pins s I⟩
theorem P1.of {e : Option Expr} {t : TO} {Q : Option Int → Hp → Prop} (h : PO X e t) (q : t σ H Q) : P1 X e σ H Q := ⟨fun pins s I => h.run pins s σ H Q I q⟩
theorem p_none {Q : Option Int → Hp → Prop} (q : Q none H) : P1 X none σ H Q := P1.of po_none q
theorem p_some {Q : Option Int → Hp → Prop} (h : E1 X e σ H fun x H1 => ∃ i, x = .int i ∧ Q (some i) H1) : P1 X (some e) σ H Q := P1.of (po_some pE) h
def SlV (K : PySem.W.Frag) (x : V) (lo hi : Option Int) (H : Hp) (Q : VK) : Prop := rSlS x lo hi H Q ∨ rSlL K x lo hi H Q
theorem SlV.s {K : PySem.W.Frag} {z : Str} {lo hi : Option Int} (h : z.length ≤ sizeLine) (q : Q (.str (cutS z lo hi)) H) : SlV K (.str z) lo hi H Q := .inl ⟨z, rfl, h, q⟩
theorem SlV.l {K : PySem.W.Frag} {p : Addr} {xs : List V} {lo hi : Option Int} (h : SqL K H p xs) (q : ∀ r H', New H r (.lst (cutV xs lo hi)) H' → Q (.ref r) H') : SlV K (.ref p) lo hi H Q := .inr ⟨p, xs, rfl, h, fun r hr => q r _ (New.of hr)⟩
theorem e_slice {lo hi : Option Expr} {p2 : Pos} (h : E1 X a σ H fun x H1 => P1 X lo σ H1 fun l H2 => P1 X hi σ H2 fun u H3 => SlV X.K x l u H3 Q) : E1 X (.Subscript a (.Slice lo hi none p2) pos) σ H Q :=
  E1.of (pe_slice (SlR.or sl_str sl_list) pE pP pP) h
/-! ### calls -/
/-- a def of the module by its name: what it promises, at most level k -/
def Callee (P : Program) (w : World) (K : PySem.W.Frag) (mg : Str → Option Value) (base : Heap) (CX : CXT) (k : Nat) (x : Str) (sp : Sp) : Prop :=
  ∃ (f : Addr) (fd : FuncData) (ps : List Str), FnOk P w K mg base CX k f fd ps sp ∧ mg x = some (.ref f) ∧ PySem.W.keepIn K (.ref f) = true ∧ Binds K fd ps []
abbrev CalleeX (X : Cx) (CX : CXT) (k : Nat) (x : Str) (sp : Sp) : Prop := Callee X.prog X.w X.K X.mg X.base CX k x sp
theorem e_call {CX : CXT} {k : Nat} {sp : Sp} {E : XK} {p : Pos} (C : CalleeX X CX k x sp) (hr : Room k X.A) (g : GlN X x) (hx : Passes CX X E) (h : A1 X (e :: es) σ H fun vs H1 => sp vs H1 Q E)
    (he : starEach (e :: es) X.env = (false, eval e X.env) :: starEach es X.env := by rfl) (hpl : (backTo pos (starEach es X.env)).any (·.1) = false := by rfl) : E1 X (.Call (.Name x p) (e :: es) [] pos) σ H Q := by
  obtain ⟨f, fd, ps, F, hm, hk, hb⟩ := C
  exact E1.of (pe_call F hr g.g hm hk hb .nil hx pA g.d he hpl) (show tCall sp [] E _ σ H Q from A1.imp h fun vs H1 q => by rw [List.append_nil]; exact q)
theorem e_call0 {CX : CXT} {k : Nat} {sp : Sp} {E : XK} {p : Pos} (C : CalleeX X CX k x sp) (hr : Room k X.A) (g : GlN X x) (hx : Passes CX X E) (h : sp [] H Q E) : E1 X (.Call (.Name x p) [] [] pos) σ H Q := by
  obtain ⟨f, fd, ps, F, hm, hk, hb⟩ := C
  exact E1.of (pe_call0 F hr g.g hm hk hb .nil hx g.d) h
/-- a callee that may raise, in a try's body (W: what the clauses wish) or in a def that lets errors out -/
theorem e_callS {CX : CXT} {k : Nat} {sp : Sp} {E : L2.St → XK} {p : Pos} (C : CalleeX X CX k x sp) (hr : Room k X.A) (g : GlN X x) (hx : ∀ σ, PassesAt CX X σ (E σ)) (h : A1 X (e :: es) σ H fun vs H1 => sp vs H1 Q (E σ))
    (he : starEach (e :: es) X.env = (false, eval e X.env) :: starEach es X.env := by rfl) (hpl : (backTo pos (starEach es X.env)).any (·.1) = false := by rfl) : E1 X (.Call (.Name x p) (e :: es) [] pos) σ H Q := by
  obtain ⟨f, fd, ps, F, hm, hk, hb⟩ := C
  exact E1.of (pe_callS F hr g.g hm hk hb hx pA g.d he hpl) h
theorem e_callB {id : String} {r : List V → Hp → VK → Prop} {p : Pos} (hc : CallR X (.builtin id) r) (g : GlN X x) (hm : X.mg x = none) (hv : bootBuiltins x = some (.builtin id)) (h : A1 X (e :: es) σ H fun vs H1 => r vs H1 Q)
    (he : starEach (e :: es) X.env = (false, eval e X.env) :: starEach es X.env := by rfl) (hpl : (backTo pos (starEach es X.env)).any (·.1) = false := by rfl) : E1 X (.Call (.Name x p) (e :: es) [] pos) σ H Q := E1.of (pe_callB hc g.g hm hv pA g.m g.d he hpl) h
theorem e_callTy {T : String} {r : List V → Hp → VK → Prop} {p : Pos} (hc : CallR X (.type T) r) (g : GlN X x) (hm : X.mg x = none) (hv : bootBuiltins x = some (.type T)) (h : A1 X (e :: es) σ H fun vs H1 => r vs H1 Q)
    (he : starEach (e :: es) X.env = (false, eval e X.env) :: starEach es X.env := by rfl) (hpl : (backTo pos (starEach es X.env)).any (·.1) = false := by rfl) : E1 X (.Call (.Name x p) (e :: es) [] pos) σ H Q := E1.of (pe_callTy hc g.g hm hv pA g.m g.d he hpl) h
/-- a method of a text, one argument -/
theorem e_m1 {id : String} {r : V → List V → Hp → VK → Prop} (slot : PySem.Slot "str" name id) (ty : typeOf (.builtin id) = pure (.type "method_descriptor")) (rule : MtR X id r)
    (h : E1 X o σ H fun x H1 => (∃ a, x = .str a) ∧ E1 X e σ H1 fun y H2 => r x [y] H2 Q)
    (hs : starEach [e] X.env = [(false, eval e X.env)] := by rfl) (hbase : attributeBase o name X.env (eval o X.env) = eval o X.env := by rfl) (hline : (apos.endLine == pos.line) = true := by rfl) : E1 X (.Call (.Attribute o name apos) [e] [] pos) σ H Q :=
  E1.of (pe_m1 slot ty rule pE pE hs hbase hline) h
/-- a built-in type's method with arguments -/
theorem e_bm {T id : String} {r : V → List V → Hp → VK → Prop} (pa : PlainAttrs T) (slot : PySem.Slot T name id) (hty : typeOf (.builtin id) = pure (.type "method_descriptor")) (hm : MtR X id r)
    (h : E1 X o σ H fun x H1 => tyV X.K T x H1 ∧ A1 X (e :: es) σ H1 fun xs H2 => r x xs H2 Q)
    (hbase : attributeBase o name X.env (eval o X.env) = eval o X.env := by rfl)
    (hfew : ((backTo pos (starEach (e :: es) X.env)).all (fun x => !x.1) && (backToKw pos (keywordEach [] X.env)).all (fun x => x.1.isSome)
      && decide ((e :: es).length + ([] : List Keyword).length + (if ([] : List Keyword).isEmpty then 0 else 1) < 30)) = true := by rfl)
    (hline : (apos.endLine == pos.line) = true := by rfl) (hs : starEach (e :: es) X.env = (false, eval e X.env) :: starEach es X.env := by rfl) (hplain : (backTo pos (starEach es X.env)).any (·.1) = false := by rfl) :
    E1 X (.Call (.Attribute o name apos) (e :: es) [] pos) σ H Q := E1.of (pe_bm pa slot hty hm pE pA hbase hfew hline hs hplain) h
/-- a field of an instance -/
theorem e_fld {f : Str} (h : E1 X e σ H fun x H1 => ∃ a C dx fs v, x = .ref a ∧ H1 a = some (.ins C dx fs) ∧ Cls X.K C ∧ NoAttr X.K C f ∧ fs.lookup f = some v ∧ Q v H1) (hb : attributeBase e f X.env (eval e X.env) = eval e X.env := by rfl) : E1 X (.Attribute e f pos) σ H Q := E1.of (pe_fld pE hb) h
end
/-! ### targets, statements -/
section
variable {X : Cx} {a b c e o tg : Expr} {rest es : List Expr} {st : Stmt} {sts body orelse : List Stmt} {σ : L2.St} {H : Hp} {nx bk ct : L2.St → Hp → Prop} {rt : VK} {pos apos : Pos} {x name : Str} {v : V} {i : Nat} {Q : L2.St → Hp → Prop}
theorem g_name (w : SlotW X i x) (q : Q (σ.set i (some v)) H) : G1 X (.Name x pos) v σ H Q := G1.of (pg_name w.nd w.n w.l w.f) q
structure Gs1 (X : Cx) (ts : List Expr) (vs : List V) (σ : L2.St) (H : Hp) (Q : L2.St → Hp → Prop) : Prop where
  run : ∀ (pins : List (Addr × Obj)) (s : Shared) (us : List Value), Inv X pins σ H s → Vals vs us → wpAny (model X.prog X.w) X.A (assignInOrder ((assignEach ts X.env).map (·.2)) us) (fun _ s' => ∃ σ' H', Inv X pins σ' H' s' ∧ Q σ' H') X.xe s
theorem pGs : PGs X es (fun vs σ H Q => Gs1 X es vs σ H Q) := ⟨fun pins s _ _ _ us _ I r h => h.run pins s us I r⟩
theorem gs_nil (q : Q σ H) : Gs1 X [] [] σ H Q := ⟨fun pins s us I r => (pgs_nil (X := X)).run pins s σ H [] us Q I r ⟨rfl, q⟩⟩
theorem gs_cons {vs : List V} (h : G1 X e v σ H fun σ' H' => Gs1 X es vs σ' H' Q) (hs : (assignEach (e :: es) X.env).map (·.2) = assign e X.env :: (assignEach es X.env).map (·.2) := by rfl) : Gs1 X (e :: es) (v :: vs) σ H Q :=
  ⟨fun pins s us I r => (pgs_cons pG pGs hs).run pins s σ H (v :: vs) us Q I r ⟨v, vs, rfl, h⟩⟩
theorem g_tup {k n : Nat} {p : Addr} {xs : List V} (hc : X.calm = true) (hp : SqT X.K H p xs) (hn : xs.length = n) (h : Gs1 X es xs σ H Q) (hl : (assignEach es X.env).length = n := by rfl) (hst : (assignEach es X.env).findIdx? (·.1) = none := by rfl) : G1 X (.Tuple es k pos) (.ref p) σ H Q :=
  G1.of (pg_tup hc pGs hl hst) ⟨p, xs, rfl, hp, hn, h⟩
theorem b_nil (q : nx σ H) : B1 X [] σ H nx rt bk ct := B1.of pss_nil q
theorem b_cons (h : S1 X st σ H (fun σ' H' => B1 X sts σ' H' nx rt bk ct) rt bk ct) : B1 X (st :: sts) σ H nx rt bk ct := B1.of (pss_cons pS pB) h
theorem b_one (h : S1 X st σ H nx rt bk ct) : B1 X [st] σ H nx rt bk ct := B1.of (pss_one pS) h
theorem s_set (w : SlotW X i x) {p : Pos} (h : E1 X e σ H fun v H1 => nx (σ.set i (some v)) H1) (hs : swapsWith e (some (.Name x p)) pos.line X.env = pure false := by rfl) : S1 X (.Assign [.Name x p] e pos) σ H nx rt bk ct :=
  S1.of (ps_set w.nd w.n w.l pE hs w.f) h
theorem s_asg (h : E1 X e σ H fun v H1 => G1 X tg v σ H1 nx) (hs : swapsWithSole [tg] e pos.line X.env = pure false := by rfl) (hw : swappedStores [tg] e X.env = pure none := by rfl) (h1 : (assignEach [tg] X.env).map (·.2) = [assign tg X.env] := by rfl) : S1 X (.Assign [tg] e pos) σ H nx rt bk ct :=
  S1.of (ps_asg pE pG hs hw h1) h
theorem s_expr (h : E1 X e σ H fun _ H1 => nx σ H1) (hs : swapsWith e none pos.line X.env = pure false := by rfl) : S1 X (.Expr e pos) σ H nx rt bk ct := S1.of (ps_expr pE hs) h
theorem s_ret (h : E1 X e σ H rt) : S1 X (.Return (some e) pos) σ H nx rt bk ct := S1.of (ps_ret pE) h
theorem s_if (h : T1 X c σ H fun k H1 => Bth k (B1 X body σ H1 nx rt bk ct) (B1 X orelse σ H1 nx rt bk ct)) : S1 X (.If c body orelse pos) σ H nx rt bk ct := S1.of (ps_if pT pB pB) (T1.imp h fun _ _ q => q.ite)
theorem s_break (q : bk σ H) : S1 X (.Break pos) σ H nx rt bk ct := S1.of ps_break q
theorem s_pass (q : nx σ H) : S1 X (.Pass pos) σ H nx rt bk ct := S1.of ps_pass q
theorem s_aug_add (w : SlotW X i x) {p : Pos} {m : Int} (hx : σ[i]? = some (some (.int m))) (h : E1 X e σ H fun y H1 => ∃ n, y = .int n ∧ nx (σ.set i (some (.int (m + n)))) H1) : S1 X (.AugAssign (.Name x p) .Add e pos) σ H nx rt bk ct :=
  S1.of (ps_aug w.nd w.n w.l pE ip_add w.f) ⟨.int m, hx, E1.imp h fun y H1 ⟨n, e, q⟩ => ⟨m, n, rfl, e, q⟩⟩
/-! ### loops -/
/-- what a def's body leans on: loops, unpacking, comprehensions -/
structure Cok (X : Cx) : Prop where
  calm : X.calm = true
  own : PassesOwn (model X.prog X.w) X.A X.env X.xe
  nd : X.N.Nodup
theorem s_for_tup (C : Cok X) (h : E1 X e σ H fun x H1 => ∃ a xs, x = .ref a ∧ SqT X.K H1 a xs ∧ ∃ Pv : Nat → L2.St → Hp → Prop, Pv 0 σ H1 ∧ (∀ i σ H, i ≤ xs.length → Pv i σ H → SqT X.K H a xs) ∧
      (∀ i v σ H, xs[i]? = some v → Pv i σ H → G1 X tg v σ H fun σ2 H2 => B1 X body σ2 H2 (Pv (i + 1)) rt nx (Pv (i + 1))) ∧ ∀ σ H, Pv xs.length σ H → nx σ H)
    (hs : ∀ x, foldedSetIterable e X.env x = pure x := by intro _; rfl) : S1 X (.For tg e body [] pos) σ H nx rt bk ct := by
  refine S1.of (ps_for C.own C.calm (pi_tup pE) pG pB hs) (E1.imp h fun x H1 ⟨a, xs, e, hx, Pv, h0, hl, ht, hd⟩ => ⟨a, e, ⟨xs, hx⟩, ?_⟩)
  exact for_tup (g := fun v σ H Q => G1 X tg v σ H Q) (tb := fun D σ H => B1 X body σ H D.nx D.rt D.bk D.ct) (D := ⟨nx, rt, bk, ct⟩) Pv h0 hl ht hd
theorem s_for_list (C : Cok X) (h : E1 X e σ H fun x H1 => ∃ a xs, x = .ref a ∧ SqL X.K H1 a xs ∧ ∃ Pv : Nat → L2.St → Hp → Prop, Pv 0 σ H1 ∧ (∀ i σ H, i ≤ xs.length → Pv i σ H → SqL X.K H a xs) ∧
      (∀ i v σ H, xs[i]? = some v → Pv i σ H → G1 X tg v σ H fun σ2 H2 => B1 X body σ2 H2 (Pv (i + 1)) rt nx (Pv (i + 1))) ∧ ∀ σ H, Pv xs.length σ H → nx σ H)
    (hs : ∀ x, foldedSetIterable e X.env x = pure x := by intro _; rfl) : S1 X (.For tg e body [] pos) σ H nx rt bk ct := by
  refine S1.of (ps_for C.own C.calm (pi_list pE) pG pB hs) (E1.imp h fun x H1 ⟨a, xs, e, hx, Pv, h0, hl, ht, hd⟩ => ⟨a, e, ⟨xs, hx⟩, ?_⟩)
  exact for_list (g := fun v σ H Q => G1 X tg v σ H Q) (tb := fun D σ H => B1 X body σ H D.nx D.rt D.bk D.ct) (D := ⟨nx, rt, bk, ct⟩) Pv h0 hl ht hd
theorem s_for_str (C : Cok X) (h : E1 X e σ H fun x H1 => ∃ z : Str, x = .str z ∧ ∃ Pv : Nat → L2.St → Hp → Prop, Pv 0 σ H1 ∧
      (∀ (i c : Nat) σ H, z.cps.toList[i]? = some c → Pv i σ H → G1 X tg (.str ⟨#[c]⟩) σ H fun σ2 H2 => B1 X body σ2 H2 (Pv (i + 1)) rt nx (Pv (i + 1))) ∧ ∀ σ H, Pv z.cps.toList.length σ H → nx σ H)
    (hs : ∀ x, foldedSetIterable e X.env x = pure x := by intro _; rfl) : S1 X (.For tg e body [] pos) σ H nx rt bk ct := by
  refine S1.of (ps_for C.own C.calm (pi_str pE) pG pB hs) (E1.imp h fun x H1 ⟨z, e, Pv, h0, ht, hd⟩ => ⟨z, e, ?_⟩)
  refine for_it (g := fun v σ H Q => G1 X tg v σ H Q) (tb := fun D σ H => B1 X body σ H D.nx D.rt D.bk D.ct) (D := ⟨nx, rt, bk, ct⟩) (walk_str (z := z)) Pv h0 (fun _ _ _ _ _ => trivial) (fun i x σ H H' hi hP hy => ?_) hd
  obtain ⟨rfl, c, hc, rfl⟩ := hy
  exact ht i c σ _ (by rw [Array.getElem?_toList]; exact hc) hP
theorem s_for_range1 (C : Cok X) {p : Pos} (g : GlN X "range") (hm : X.mg "range" = none) (h : E1 X e σ H fun x H1 => ∃ n : Nat, x = .int n ∧ n < 2 ^ 62 ∧ ∃ Pv : Nat → L2.St → Hp → Prop, Pv 0 σ H1 ∧
      (∀ i σ H, i < n → Pv i σ H → G1 X tg (.int (i : Int)) σ H fun σ2 H2 => B1 X body σ2 H2 (Pv (i + 1)) rt nx (Pv (i + 1))) ∧ ∀ σ H, Pv n σ H → nx σ H)
    (hs : starEach [e] X.env = [(false, eval e X.env)] := by rfl) (hf : ∀ x, foldedSetIterable (.Call (.Name "range" p) [e] [] apos) X.env x = pure x := by intro _; rfl) : S1 X (.For tg (.Call (.Name "range" p) [e] [] apos) body [] pos) σ H nx rt bk ct := by
  refine S1.of (ps_for C.own C.calm (pi_range1 g.g hm (pa_cons pE pa_nil hs) hs) pG pB hf) (E1.imp h fun x H1 ⟨n, e, hn, Pv, h0, ht, hd⟩ => ⟨n, by rw [e], ?_⟩)
  refine ⟨by omega, by omega, ?_⟩
  rw [show ((n : Int).toNat) = n by omega]
  exact for_range (g := fun v σ H Q => G1 X tg v σ H Q) (tb := fun D σ H => B1 X body σ H D.nx D.rt D.bk D.ct) (D := ⟨nx, rt, bk, ct⟩) (lo := 0) (n := n) Pv h0 (fun i σ H hi hP => by rw [Int.zero_add]; exact ht i σ H hi hP) hd
theorem s_for_range2 (C : Cok X) {p : Pos} (g : GlN X "range") (hm : X.mg "range" = none) (h : E1 X a σ H fun x H1 => E1 X b σ H1 fun y H2 => ∃ lo hi : Int, x = .int lo ∧ y = .int hi ∧ (-(2 ^ 62) ≤ lo ∧ lo < 2 ^ 62 ∧ -(2 ^ 62) ≤ hi ∧ hi < 2 ^ 62) ∧ ∃ Pv : Nat → L2.St → Hp → Prop, Pv 0 σ H2 ∧
      (∀ (i : Nat) σ H, lo + i < hi → Pv i σ H → G1 X tg (.int (lo + (i : Int))) σ H fun σ2 H2 => B1 X body σ2 H2 (Pv (i + 1)) rt nx (Pv (i + 1))) ∧ ∀ σ H, Pv (hi - lo).toNat σ H → nx σ H)
    (hs : starEach [a, b] X.env = [(false, eval a X.env), (false, eval b X.env)] := by rfl) (hs2 : starEach [b] X.env = [(false, eval b X.env)] := by rfl)
    (hf : ∀ x, foldedSetIterable (.Call (.Name "range" p) [a, b] [] apos) X.env x = pure x := by intro _; rfl) : S1 X (.For tg (.Call (.Name "range" p) [a, b] [] apos) body [] pos) σ H nx rt bk ct := by
  refine S1.of (ps_for C.own C.calm (pi_range2 g.g hm (pa_cons pE (pa_cons pE pa_nil hs2) (hs.trans (congrArg _ hs2.symm))) hs hs2) pG pB hf) (E1.imp h fun x H1 h1 => E1.imp h1 fun y H2 ⟨lo, hi, e1, e2, hb, Pv, h0, ht, hd⟩ => ⟨lo, hi, by rw [e1, e2], hb, ?_⟩)
  exact for_range (g := fun v σ H Q => G1 X tg v σ H Q) (tb := fun D σ H => B1 X body σ H D.nx D.rt D.bk D.ct) (D := ⟨nx, rt, bk, ct⟩) (lo := lo) (n := (hi - lo).toNat) Pv h0 (fun i σ H hi' hP => ht i σ H (by omega) hP) hd
/-- while: a word with its measure -/
theorem s_while (C : Cok X) (W : Nat → L2.St → Hp → Prop) (m0 : Nat) (h0 : W m0 σ H)
    (h : ∀ m σ H, W m σ H → T1 X c σ H fun k H1 => Bth k (B1 X body σ H1 (fun σ' H' => ∃ m', m' < m ∧ W m' σ' H') rt nx (fun σ' H' => ∃ m', m' < m ∧ W m' σ' H')) (nx σ H1)) : S1 X (.While c body [] pos) σ H nx rt bk ct := by
  refine S1.of (ps_while C.own pT pB) ⟨W, ⟨m0, h0⟩, fun m σ H w => T1.imp (h m σ H w) fun k H1 q => ?_⟩
  cases k with
  | true => exact ⟨fun σ' H' => ∃ m', m' < m ∧ W m' σ' H', fun _ _ z => z, q.1 rfl⟩
  | false => exact q.2 rfl
end
end LoW
/-! ## LoTx -/
set_option Elab.async false
set_option linter.all false
set_option maxRecDepth 100000
set_option maxHeartbeats 4000000
/-! The written part's facts for a walk; a def's context; a def's promise from its body. -/
namespace LoW
open PySem PySem.Spec PyProof.Rows L2
/-- the head's facts, over a base -/
structure Tx (w : World) (K : PySem.W.Frag) (mg : Str → Option Value) (base : Heap) : Prop where
  t : He.SaysT LoH.fa LoH.fn LoH.ts w K
  more : LoH.ex K = true
  kin : K.In base
  glob : base.Ns mainGlobals mg
  rg : LoH.fnAt K (LoH.refG K) = LoH.d_Letter_ref.val
section
variable {w : World} {K : PySem.W.Frag} {mg : Str → Option Value} {base : Heap}
theorem Tx.glo (T : Tx w K mg base) (i : Nat) {x : Str} (h : LoH.fa[i]? = some (.glo x)) : mg x = some (.ref (He.ga K x)) := He.glo_ok T.kin T.glob (T.t.d.fact i h)
theorem Tx.free (T : Tx w K mg base) (i : Nat) {x : Str} (h : LoH.fa[i]? = some (.free x)) : mg x = none := He.free_ok T.kin T.glob (T.t.d.fact i h)
theorem Tx.int (T : Tx w K mg base) (i : Nat) {x : Str} {n : Int} (h : LoH.fa[i]? = some (.int x n)) : ∃ t, mg x = some (.int n t) := He.int_ok T.kin T.glob (T.t.d.fact i h)
theorem Tx.str (T : Tx w K mg base) (i : Nat) {x z : Str} (h : LoH.fa[i]? = some (.str x z)) : ∃ t, mg x = some (.str z t) := He.str_ok T.kin T.glob (T.t.d.fact i h)
end
/-- a def's body runs: its names, its scope, room for calls of level k -/
structure Ctx (X : Cx) (N : List Str) (sc : Scope) (k : Nat) : Prop where
  calm : X.calm = true
  tx : Tx X.w X.K X.mg X.base
  room : Room k X.A
  own : N ≠ [] → PassesOwn (model X.prog X.w) X.A X.env X.xe
  nd : N ≠ [] → X.N.Nodup
  hN : N ≠ [] → X.N = N
  hsc : N ≠ [] → X.env.scope = sc
  hfn : N ≠ [] → X.fn = fun _ => true
theorem Ctx.toCok {X : Cx} {N : List Str} {sc : Scope} {k : Nat} (C : Ctx X N sc k) (hne : N ≠ [] := by intro h; cases h) : Cok X := ⟨C.calm, C.own hne, C.nd hne⟩
theorem ne_of_at {N : List Str} {i : Nat} {x : Str} (h : N[i]? = some x) : N ≠ [] := by intro e; rw [e] at h; simp at h
/-! ### names by one look -/
def okV (N : List Str) (sc : Scope) (i : Nat) (x : Str) : Bool := decide (N[i]? = some x) && ((match sc.names.lookup x with
  | some .local => true
  | some .cell => true
  | some .free => true
  | _ => false) && (!(x == ("__debug__" : Str)) && !(x == ("__classdict__" : Str))))
def okW (N : List Str) (sc : Scope) (i : Nat) (x : Str) : Bool := decide (N[i]? = some x) && (match sc.names.lookup x with
  | some .local => true
  | some .cell => true
  | _ => false)
def okG (sc : Scope) (x : Str) : Bool := (match sc.names.lookup x with
  | some .globalImplicit => true
  | _ => false) && (!(x == ("__debug__" : Str)) && !(decide (x = ("__name__" : Str))))
section
variable {X : Cx} {N : List Str} {sc : Scope} {i k : Nat} {x : Str}
theorem bnot_eq {b : Bool} (h : (!b) = true) : b = false := by cases b <;> simp_all
theorem okV_slot (C : Ctx X N sc k) (h : okV N sc i x = true) : Slot X i x := by
  unfold okV at h
  simp only [Bool.and_eq_true, decide_eq_true_eq] at h
  obtain ⟨h1, h2, h3, h4⟩ := h
  have hne := ne_of_at h1
  refine ⟨by rw [C.hN hne]; exact h1, ?_, bnot_eq h3, bnot_eq h4⟩
  rw [C.hsc hne]
  unfold Vis
  cases e : sc.names.lookup x with
  | none => rw [e] at h2; simp at h2
  | some kd => rw [e] at h2; cases kd <;> simp_all
theorem okW_slot (C : Ctx X N sc k) (h : okW N sc i x = true) : SlotW X i x := by
  unfold okW at h
  simp only [Bool.and_eq_true, decide_eq_true_eq] at h
  obtain ⟨h1, h2⟩ := h
  have hne := ne_of_at h1
  refine ⟨C.nd hne, by rw [C.hN hne]; exact h1, ?_, .inl (by rw [C.hfn hne])⟩
  rw [C.hsc hne]
  unfold L2.Loc
  cases e : sc.names.lookup x with
  | none => rw [e] at h2; simp at h2
  | some kd => rw [e] at h2; cases kd <;> simp_all
theorem okG_gl (C : Ctx X N sc k) (h : okG sc x = true) (hne : N ≠ [] := by intro h; cases h) : GlN X x := by
  unfold okG at h
  simp only [Bool.and_eq_true] at h
  obtain ⟨h2, h3, h4⟩ := h
  refine ⟨?_, bnot_eq h3, of_decide_eq_false (bnot_eq h4)⟩
  show X.env.scope.names.lookup x = some .globalImplicit
  rw [C.hsc hne]
  cases e : sc.names.lookup x with
  | none => rw [e] at h2; simp at h2
  | some kd => rw [e] at h2; cases kd <;> simp_all
end
/-! ### a def's promise from its body -/
abbrev nobk : L2.St → Hp → Prop := fun _ _ => False
/-- how arguments come to the parameters: every one is given -/
def BindsAll (ps : List Str) (name qual : Str) (params : Arguments) (body : List Stmt) (scope : Scope) : Prop :=
  ∀ (kV doc pm : Value) (an : Option Addr) (cdv ct : Value) (us : List Value), us.length = ps.length → bindArgs (PySem.W.fnOf name qual params body scope .none kV doc pm an cdv ct) ⟨us, []⟩ = pure (ps.zip us)
section
variable {P : Program} {w : World} {K : PySem.W.Frag} {mg : Str → Option Value} {base : Heap} {x : Str} {sp : Sp} {d : He.DefD} {N ps : List Str} {k : Nat}
theorem Callee.mono {CX : CXT} {j : Nat} (h : Callee P w K mg base CX j x sp) (hk : j ≤ k) : Callee P w K mg base CX k x sp := by
  obtain ⟨f, fd, ps, F, a, b, c⟩ := h
  exact ⟨f, fd, ps, F.mono hk, a, b, c⟩
/-- a def that lets no exception out -/
theorem callee_of (T : Tx w K mg base) (j i : Nat) (hd : LoH.fn[j]? = some d) (hg : LoH.fa[i]? = some (.glo x)) (hat : d.at_ = (x, none)) (hdf : d.dfl = []) (hkw : d.kwd = []) (S : FnScope N ps d.scope) (hb : BindsAll ps d.name d.qual d.params d.body d.scope)
    (len : ∀ vs H Q E, sp vs H Q E → vs.length = ps.length)
    (body : ∀ (X : Cx), X.prog = P → X.w = w → X.K = K → X.mg = mg → X.base = base → Ctx X N d.scope k → ∀ (vs : List V) (H : Hp) (Q : VK) (E : XK), sp vs H Q E → B1 X d.body (start N vs) H (fun _ H' => Q .non H') Q nobk nobk) :
    Callee P w K mg base CX0 (k + 1) x sp := by
  obtain ⟨fd, F⟩ := T.t.d.def_ j hd
  have e1 : d.dvs K = [] := by unfold He.DefD.dvs; rw [hdf]; rfl
  have e2 : d.kws K = [] := by unfold He.DefD.kws; rw [hkw]; rfl
  rw [e1, e2] at F
  have ea : He.fAd K d.at_ = He.ga K x := by rw [hat]; rfl
  rw [ea] at F
  refine ⟨_, fd, ps, ?_, T.glo i hg, F.kp, F.bindsN hb⟩
  refine F.ok S len fun cdv A outer s H vs Q E hr h => ⟨_, pB, ?_⟩
  exact body _ rfl rfl rfl rfl rfl ⟨rfl, T, hr, fun _ => passes_of rfl, fun _ => S.nd, fun _ => rfl, fun _ => rfl, fun _ => rfl⟩ vs H Q E h
/-- a def that may raise -/
theorem calleeX_of (T : Tx w K mg base) (j i : Nat) (hd : LoH.fn[j]? = some d) (hg : LoH.fa[i]? = some (.glo x)) (hat : d.at_ = (x, none)) (hdf : d.dfl = []) (hkw : d.kwd = []) (S : FnScope N ps d.scope) (hb : BindsAll ps d.name d.qual d.params d.body d.scope)
    (len : ∀ vs H Q E, sp vs H Q E → vs.length = ps.length)
    (body : ∀ (X : Cx), X.prog = P → X.w = w → X.K = K → X.mg = mg → X.base = base → Ctx X N d.scope k → ∀ (vs : List V) (H : Hp) (Q : VK) (E : XK), Takes X (fun cls a _ H => E cls a H) → X.stack = X.env :: X.outer → X.env.frame = some X.env.locals → sp vs H Q E → B1 X d.body (start N vs) H (fun _ H' => Q .non H') Q nobk nobk) :
    Callee P w K mg base (L2.CX P w) (k + 1) x sp := by
  obtain ⟨fd, F⟩ := T.t.d.def_ j hd
  have e1 : d.dvs K = [] := by unfold He.DefD.dvs; rw [hdf]; rfl
  have e2 : d.kws K = [] := by unfold He.DefD.kws; rw [hkw]; rfl
  rw [e1, e2] at F
  have ea : He.fAd K d.at_ = He.ga K x := by rw [hat]; rfl
  rw [ea] at F
  refine ⟨_, fd, ps, ?_, T.glo i hg, F.kp, F.bindsN hb⟩
  refine F.ok S len fun cdv A outer s H vs Q E hr h => ⟨_, pB, ?_⟩
  exact body _ rfl rfl rfl rfl rfl ⟨rfl, T, hr, fun _ => passes_of rfl, fun _ => S.nd, fun _ => rfl, fun _ => rfl, fun _ => rfl⟩ vs H Q E (takes_of rfl rfl rfl rfl) rfl rfl h
end
end LoW
/-! ## LoScopes -/
set_option Elab.async false
set_option linter.all false
set_option maxRecDepth 100000
set_option maxHeartbeats 4000000
/-! Each def's names by slot (parameters, locals, then names of comprehensions alone), its scope's facts. -/
namespace LoW
open PySem PySem.Spec PyProof.Rows L2 LoH
abbrev N_is_name : List Str := [("thing" : Str), ("char" : Str)]
abbrev ps_is_name : List Str := [("thing" : Str)]
theorem fs_is_name : FnScope N_is_name ps_is_name (defScope s_is_name) := ⟨rfl, rfl, rfl, by decide +kernel, rfl, by decide +kernel, by decide +kernel⟩
theorem bd_is_name : BindsAll ps_is_name "is_name" "is_name" (defArgs s_is_name) (defBody s_is_name) (defScope s_is_name) := fun _ _ _ _ _ _ us hl => match us, hl with | [_], _ => rfl
theorem ck_is_name : (okV N_is_name (defScope s_is_name) 0 ("thing" : Str) && (okV N_is_name (defScope s_is_name) 1 ("char" : Str) && (okW N_is_name (defScope s_is_name) 0 ("thing" : Str) && (okW N_is_name (defScope s_is_name) 1 ("char" : Str) && (okG (defScope s_is_name) ("isinstance" : Str) && (okG (defScope s_is_name) ("str" : Str) && (okG (defScope s_is_name) ("len" : Str) && (okG (defScope s_is_name) ("LONGEST_NAME" : Str) && (okG (defScope s_is_name) ("LETTERS" : Str) && okG (defScope s_is_name) ("DIGITS_names" : Str)))))))))) = true := by decide +kernel
theorem nm_is_name {X : Cx} {k : Nat} (C : Ctx X N_is_name (defScope s_is_name) k) : Slot X 0 ("thing" : Str) ∧ Slot X 1 ("char" : Str) ∧ SlotW X 0 ("thing" : Str) ∧ SlotW X 1 ("char" : Str) ∧ GlN X ("isinstance" : Str) ∧ GlN X ("str" : Str) ∧ GlN X ("len" : Str) ∧ GlN X ("LONGEST_NAME" : Str) ∧ GlN X ("LETTERS" : Str) ∧ GlN X ("DIGITS_names" : Str) := by
  have h := ck_is_name
  simp only [Bool.and_eq_true] at h
  exact ⟨okV_slot C (h.1), okV_slot C (h.2.1), okW_slot C (h.2.2.1), okW_slot C (h.2.2.2.1), okG_gl C (h.2.2.2.2.1), okG_gl C (h.2.2.2.2.2.1), okG_gl C (h.2.2.2.2.2.2.1), okG_gl C (h.2.2.2.2.2.2.2.1), okG_gl C (h.2.2.2.2.2.2.2.2.1), okG_gl C (h.2.2.2.2.2.2.2.2.2)⟩
abbrev N_is_number : List Str := [("thing" : Str)]
abbrev ps_is_number : List Str := [("thing" : Str)]
theorem fs_is_number : FnScope N_is_number ps_is_number (defScope s_is_number) := ⟨rfl, rfl, rfl, by decide +kernel, rfl, by decide +kernel, by decide +kernel⟩
theorem bd_is_number : BindsAll ps_is_number "is_number" "is_number" (defArgs s_is_number) (defBody s_is_number) (defScope s_is_number) := fun _ _ _ _ _ _ us hl => match us, hl with | [_], _ => rfl
theorem ck_is_number : (okV N_is_number (defScope s_is_number) 0 ("thing" : Str) && (okW N_is_number (defScope s_is_number) 0 ("thing" : Str) && (okG (defScope s_is_number) ("isinstance" : Str) && (okG (defScope s_is_number) ("int" : Str) && (okG (defScope s_is_number) ("bool" : Str) && okG (defScope s_is_number) ("GREATEST_NUMBER" : Str)))))) = true := by decide +kernel
theorem nm_is_number {X : Cx} {k : Nat} (C : Ctx X N_is_number (defScope s_is_number) k) : Slot X 0 ("thing" : Str) ∧ SlotW X 0 ("thing" : Str) ∧ GlN X ("isinstance" : Str) ∧ GlN X ("int" : Str) ∧ GlN X ("bool" : Str) ∧ GlN X ("GREATEST_NUMBER" : Str) := by
  have h := ck_is_number
  simp only [Bool.and_eq_true] at h
  exact ⟨okV_slot C (h.1), okW_slot C (h.2.1), okG_gl C (h.2.2.1), okG_gl C (h.2.2.2.1), okG_gl C (h.2.2.2.2.1), okG_gl C (h.2.2.2.2.2)⟩
abbrev N_is_plain : List Str := [("text" : Str), ("char" : Str)]
abbrev ps_is_plain : List Str := [("text" : Str)]
theorem fs_is_plain : FnScope N_is_plain ps_is_plain (defScope s_is_plain) := ⟨rfl, rfl, rfl, by decide +kernel, rfl, by decide +kernel, by decide +kernel⟩
theorem bd_is_plain : BindsAll ps_is_plain "is_plain" "is_plain" (defArgs s_is_plain) (defBody s_is_plain) (defScope s_is_plain) := fun _ _ _ _ _ _ us hl => match us, hl with | [_], _ => rfl
theorem ck_is_plain : (okV N_is_plain (defScope s_is_plain) 0 ("text" : Str) && (okV N_is_plain (defScope s_is_plain) 1 ("char" : Str) && (okW N_is_plain (defScope s_is_plain) 0 ("text" : Str) && (okW N_is_plain (defScope s_is_plain) 1 ("char" : Str) && okG (defScope s_is_plain) ("ord" : Str))))) = true := by decide +kernel
theorem nm_is_plain {X : Cx} {k : Nat} (C : Ctx X N_is_plain (defScope s_is_plain) k) : Slot X 0 ("text" : Str) ∧ Slot X 1 ("char" : Str) ∧ SlotW X 0 ("text" : Str) ∧ SlotW X 1 ("char" : Str) ∧ GlN X ("ord" : Str) := by
  have h := ck_is_plain
  simp only [Bool.and_eq_true] at h
  exact ⟨okV_slot C (h.1), okV_slot C (h.2.1), okW_slot C (h.2.2.1), okW_slot C (h.2.2.2.1), okG_gl C (h.2.2.2.2)⟩
abbrev N_is_text : List Str := [("thing" : Str)]
abbrev ps_is_text : List Str := [("thing" : Str)]
theorem fs_is_text : FnScope N_is_text ps_is_text (defScope s_is_text) := ⟨rfl, rfl, rfl, by decide +kernel, rfl, by decide +kernel, by decide +kernel⟩
theorem bd_is_text : BindsAll ps_is_text "is_text" "is_text" (defArgs s_is_text) (defBody s_is_text) (defScope s_is_text) := fun _ _ _ _ _ _ us hl => match us, hl with | [_], _ => rfl
theorem ck_is_text : (okV N_is_text (defScope s_is_text) 0 ("thing" : Str) && (okW N_is_text (defScope s_is_text) 0 ("thing" : Str) && (okG (defScope s_is_text) ("isinstance" : Str) && (okG (defScope s_is_text) ("str" : Str) && (okG (defScope s_is_text) ("len" : Str) && (okG (defScope s_is_text) ("LONGEST_TEXT" : Str) && okG (defScope s_is_text) ("is_plain" : Str))))))) = true := by decide +kernel
theorem nm_is_text {X : Cx} {k : Nat} (C : Ctx X N_is_text (defScope s_is_text) k) : Slot X 0 ("thing" : Str) ∧ SlotW X 0 ("thing" : Str) ∧ GlN X ("isinstance" : Str) ∧ GlN X ("str" : Str) ∧ GlN X ("len" : Str) ∧ GlN X ("LONGEST_TEXT" : Str) ∧ GlN X ("is_plain" : Str) := by
  have h := ck_is_text
  simp only [Bool.and_eq_true] at h
  exact ⟨okV_slot C (h.1), okW_slot C (h.2.1), okG_gl C (h.2.2.1), okG_gl C (h.2.2.2.1), okG_gl C (h.2.2.2.2.1), okG_gl C (h.2.2.2.2.2.1), okG_gl C (h.2.2.2.2.2.2)⟩
abbrev N_is_title : List Str := [("thing" : Str)]
abbrev ps_is_title : List Str := [("thing" : Str)]
theorem fs_is_title : FnScope N_is_title ps_is_title (defScope s_is_title) := ⟨rfl, rfl, rfl, by decide +kernel, rfl, by decide +kernel, by decide +kernel⟩
theorem bd_is_title : BindsAll ps_is_title "is_title" "is_title" (defArgs s_is_title) (defBody s_is_title) (defScope s_is_title) := fun _ _ _ _ _ _ us hl => match us, hl with | [_], _ => rfl
theorem ck_is_title : (okV N_is_title (defScope s_is_title) 0 ("thing" : Str) && (okW N_is_title (defScope s_is_title) 0 ("thing" : Str) && (okG (defScope s_is_title) ("isinstance" : Str) && (okG (defScope s_is_title) ("str" : Str) && (okG (defScope s_is_title) ("len" : Str) && (okG (defScope s_is_title) ("LONGEST_TITLE" : Str) && okG (defScope s_is_title) ("is_plain" : Str))))))) = true := by decide +kernel
theorem nm_is_title {X : Cx} {k : Nat} (C : Ctx X N_is_title (defScope s_is_title) k) : Slot X 0 ("thing" : Str) ∧ SlotW X 0 ("thing" : Str) ∧ GlN X ("isinstance" : Str) ∧ GlN X ("str" : Str) ∧ GlN X ("len" : Str) ∧ GlN X ("LONGEST_TITLE" : Str) ∧ GlN X ("is_plain" : Str) := by
  have h := ck_is_title
  simp only [Bool.and_eq_true] at h
  exact ⟨okV_slot C (h.1), okW_slot C (h.2.1), okG_gl C (h.2.2.1), okG_gl C (h.2.2.2.1), okG_gl C (h.2.2.2.2.1), okG_gl C (h.2.2.2.2.2.1), okG_gl C (h.2.2.2.2.2.2)⟩
abbrev N_is_ref : List Str := [("thing" : Str)]
abbrev ps_is_ref : List Str := [("thing" : Str)]
theorem fs_is_ref : FnScope N_is_ref ps_is_ref (defScope s_is_ref) := ⟨rfl, rfl, rfl, by decide +kernel, rfl, by decide +kernel, by decide +kernel⟩
theorem bd_is_ref : BindsAll ps_is_ref "is_ref" "is_ref" (defArgs s_is_ref) (defBody s_is_ref) (defScope s_is_ref) := fun _ _ _ _ _ _ us hl => match us, hl with | [_], _ => rfl
theorem ck_is_ref : (okV N_is_ref (defScope s_is_ref) 0 ("thing" : Str) && (okW N_is_ref (defScope s_is_ref) 0 ("thing" : Str) && (okG (defScope s_is_ref) ("isinstance" : Str) && (okG (defScope s_is_ref) ("tuple" : Str) && (okG (defScope s_is_ref) ("len" : Str) && (okG (defScope s_is_ref) ("is_name" : Str) && okG (defScope s_is_ref) ("is_number" : Str))))))) = true := by decide +kernel
theorem nm_is_ref {X : Cx} {k : Nat} (C : Ctx X N_is_ref (defScope s_is_ref) k) : Slot X 0 ("thing" : Str) ∧ SlotW X 0 ("thing" : Str) ∧ GlN X ("isinstance" : Str) ∧ GlN X ("tuple" : Str) ∧ GlN X ("len" : Str) ∧ GlN X ("is_name" : Str) ∧ GlN X ("is_number" : Str) := by
  have h := ck_is_ref
  simp only [Bool.and_eq_true] at h
  exact ⟨okV_slot C (h.1), okW_slot C (h.2.1), okG_gl C (h.2.2.1), okG_gl C (h.2.2.2.1), okG_gl C (h.2.2.2.2.1), okG_gl C (h.2.2.2.2.2.1), okG_gl C (h.2.2.2.2.2.2)⟩
abbrev N_is_members : List Str := [("thing" : Str), ("index" : Str), ("name" : Str)]
abbrev ps_is_members : List Str := [("thing" : Str)]
theorem fs_is_members : FnScope N_is_members ps_is_members (defScope s_is_members) := ⟨rfl, rfl, rfl, by decide +kernel, rfl, by decide +kernel, by decide +kernel⟩
theorem bd_is_members : BindsAll ps_is_members "is_members" "is_members" (defArgs s_is_members) (defBody s_is_members) (defScope s_is_members) := fun _ _ _ _ _ _ us hl => match us, hl with | [_], _ => rfl
theorem ck_is_members : (okV N_is_members (defScope s_is_members) 0 ("thing" : Str) && (okV N_is_members (defScope s_is_members) 1 ("index" : Str) && (okV N_is_members (defScope s_is_members) 2 ("name" : Str) && (okW N_is_members (defScope s_is_members) 0 ("thing" : Str) && (okW N_is_members (defScope s_is_members) 1 ("index" : Str) && (okW N_is_members (defScope s_is_members) 2 ("name" : Str) && (okG (defScope s_is_members) ("isinstance" : Str) && (okG (defScope s_is_members) ("tuple" : Str) && (okG (defScope s_is_members) ("len" : Str) && (okG (defScope s_is_members) ("MOST_MEMBERS" : Str) && (okG (defScope s_is_members) ("enumerate" : Str) && okG (defScope s_is_members) ("is_name" : Str)))))))))))) = true := by decide +kernel
theorem nm_is_members {X : Cx} {k : Nat} (C : Ctx X N_is_members (defScope s_is_members) k) : Slot X 0 ("thing" : Str) ∧ Slot X 1 ("index" : Str) ∧ Slot X 2 ("name" : Str) ∧ SlotW X 0 ("thing" : Str) ∧ SlotW X 1 ("index" : Str) ∧ SlotW X 2 ("name" : Str) ∧ GlN X ("isinstance" : Str) ∧ GlN X ("tuple" : Str) ∧ GlN X ("len" : Str) ∧ GlN X ("MOST_MEMBERS" : Str) ∧ GlN X ("enumerate" : Str) ∧ GlN X ("is_name" : Str) := by
  have h := ck_is_members
  simp only [Bool.and_eq_true] at h
  exact ⟨okV_slot C (h.1), okV_slot C (h.2.1), okV_slot C (h.2.2.1), okW_slot C (h.2.2.2.1), okW_slot C (h.2.2.2.2.1), okW_slot C (h.2.2.2.2.2.1), okG_gl C (h.2.2.2.2.2.2.1), okG_gl C (h.2.2.2.2.2.2.2.1), okG_gl C (h.2.2.2.2.2.2.2.2.1), okG_gl C (h.2.2.2.2.2.2.2.2.2.1), okG_gl C (h.2.2.2.2.2.2.2.2.2.2.1), okG_gl C (h.2.2.2.2.2.2.2.2.2.2.2)⟩
abbrev N_is_body : List Str := [("thing" : Str), ("kind" : Str)]
abbrev ps_is_body : List Str := [("thing" : Str)]
theorem fs_is_body : FnScope N_is_body ps_is_body (defScope s_is_body) := ⟨rfl, rfl, rfl, by decide +kernel, rfl, by decide +kernel, by decide +kernel⟩
theorem bd_is_body : BindsAll ps_is_body "is_body" "is_body" (defArgs s_is_body) (defBody s_is_body) (defScope s_is_body) := fun _ _ _ _ _ _ us hl => match us, hl with | [_], _ => rfl
theorem ck_is_body : (okV N_is_body (defScope s_is_body) 0 ("thing" : Str) && (okV N_is_body (defScope s_is_body) 1 ("kind" : Str) && (okW N_is_body (defScope s_is_body) 0 ("thing" : Str) && (okW N_is_body (defScope s_is_body) 1 ("kind" : Str) && (okG (defScope s_is_body) ("isinstance" : Str) && (okG (defScope s_is_body) ("tuple" : Str) && (okG (defScope s_is_body) ("len" : Str) && (okG (defScope s_is_body) ("str" : Str) && (okG (defScope s_is_body) ("PARTS" : Str) && (okG (defScope s_is_body) ("is_title" : Str) && (okG (defScope s_is_body) ("is_members" : Str) && (okG (defScope s_is_body) ("is_ref" : Str) && (okG (defScope s_is_body) ("is_text" : Str) && okG (defScope s_is_body) ("is_name" : Str)))))))))))))) = true := by decide +kernel
theorem nm_is_body {X : Cx} {k : Nat} (C : Ctx X N_is_body (defScope s_is_body) k) : Slot X 0 ("thing" : Str) ∧ Slot X 1 ("kind" : Str) ∧ SlotW X 0 ("thing" : Str) ∧ SlotW X 1 ("kind" : Str) ∧ GlN X ("isinstance" : Str) ∧ GlN X ("tuple" : Str) ∧ GlN X ("len" : Str) ∧ GlN X ("str" : Str) ∧ GlN X ("PARTS" : Str) ∧ GlN X ("is_title" : Str) ∧ GlN X ("is_members" : Str) ∧ GlN X ("is_ref" : Str) ∧ GlN X ("is_text" : Str) ∧ GlN X ("is_name" : Str) := by
  have h := ck_is_body
  simp only [Bool.and_eq_true] at h
  exact ⟨okV_slot C (h.1), okV_slot C (h.2.1), okW_slot C (h.2.2.1), okW_slot C (h.2.2.2.1), okG_gl C (h.2.2.2.2.1), okG_gl C (h.2.2.2.2.2.1), okG_gl C (h.2.2.2.2.2.2.1), okG_gl C (h.2.2.2.2.2.2.2.1), okG_gl C (h.2.2.2.2.2.2.2.2.1), okG_gl C (h.2.2.2.2.2.2.2.2.2.1), okG_gl C (h.2.2.2.2.2.2.2.2.2.2.1), okG_gl C (h.2.2.2.2.2.2.2.2.2.2.2.1), okG_gl C (h.2.2.2.2.2.2.2.2.2.2.2.2.1), okG_gl C (h.2.2.2.2.2.2.2.2.2.2.2.2.2)⟩
abbrev N_target : List Str := [("body" : Str)]
abbrev ps_target : List Str := [("body" : Str)]
theorem fs_target : FnScope N_target ps_target (defScope s_target) := ⟨rfl, rfl, rfl, by decide +kernel, rfl, by decide +kernel, by decide +kernel⟩
theorem bd_target : BindsAll ps_target "target" "target" (defArgs s_target) (defBody s_target) (defScope s_target) := fun _ _ _ _ _ _ us hl => match us, hl with | [_], _ => rfl
theorem ck_target : (okV N_target (defScope s_target) 0 ("body" : Str) && okW N_target (defScope s_target) 0 ("body" : Str)) = true := by decide +kernel
theorem nm_target {X : Cx} {k : Nat} (C : Ctx X N_target (defScope s_target) k) : Slot X 0 ("body" : Str) ∧ SlotW X 0 ("body" : Str) := by
  have h := ck_target
  simp only [Bool.and_eq_true] at h
  exact ⟨okV_slot C (h.1), okW_slot C (h.2)⟩
abbrev N_text_of : List Str := [("body" : Str)]
abbrev ps_text_of : List Str := [("body" : Str)]
theorem fs_text_of : FnScope N_text_of ps_text_of (defScope s_text_of) := ⟨rfl, rfl, rfl, by decide +kernel, rfl, by decide +kernel, by decide +kernel⟩
theorem bd_text_of : BindsAll ps_text_of "text_of" "text_of" (defArgs s_text_of) (defBody s_text_of) (defScope s_text_of) := fun _ _ _ _ _ _ us hl => match us, hl with | [_], _ => rfl
theorem ck_text_of : (okV N_text_of (defScope s_text_of) 0 ("body" : Str) && okW N_text_of (defScope s_text_of) 0 ("body" : Str)) = true := by decide +kernel
theorem nm_text_of {X : Cx} {k : Nat} (C : Ctx X N_text_of (defScope s_text_of) k) : Slot X 0 ("body" : Str) ∧ SlotW X 0 ("body" : Str) := by
  have h := ck_text_of
  simp only [Bool.and_eq_true] at h
  exact ⟨okV_slot C (h.1), okW_slot C (h.2)⟩
abbrev N_cut_at : List Str := [("line" : Str), ("width" : Str), ("at" : Str)]
abbrev ps_cut_at : List Str := [("line" : Str), ("width" : Str)]
theorem fs_cut_at : FnScope N_cut_at ps_cut_at (defScope s_cut_at) := ⟨rfl, rfl, rfl, by decide +kernel, rfl, by decide +kernel, by decide +kernel⟩
theorem bd_cut_at : BindsAll ps_cut_at "cut_at" "cut_at" (defArgs s_cut_at) (defBody s_cut_at) (defScope s_cut_at) := fun _ _ _ _ _ _ us hl => match us, hl with | [_, _], _ => rfl
theorem ck_cut_at : (okV N_cut_at (defScope s_cut_at) 0 ("line" : Str) && (okV N_cut_at (defScope s_cut_at) 1 ("width" : Str) && (okV N_cut_at (defScope s_cut_at) 2 ("at" : Str) && (okW N_cut_at (defScope s_cut_at) 0 ("line" : Str) && (okW N_cut_at (defScope s_cut_at) 1 ("width" : Str) && (okW N_cut_at (defScope s_cut_at) 2 ("at" : Str) && okG (defScope s_cut_at) ("len" : Str))))))) = true := by decide +kernel
theorem nm_cut_at {X : Cx} {k : Nat} (C : Ctx X N_cut_at (defScope s_cut_at) k) : Slot X 0 ("line" : Str) ∧ Slot X 1 ("width" : Str) ∧ Slot X 2 ("at" : Str) ∧ SlotW X 0 ("line" : Str) ∧ SlotW X 1 ("width" : Str) ∧ SlotW X 2 ("at" : Str) ∧ GlN X ("len" : Str) := by
  have h := ck_cut_at
  simp only [Bool.and_eq_true] at h
  exact ⟨okV_slot C (h.1), okV_slot C (h.2.1), okV_slot C (h.2.2.1), okW_slot C (h.2.2.2.1), okW_slot C (h.2.2.2.2.1), okW_slot C (h.2.2.2.2.2.1), okG_gl C (h.2.2.2.2.2.2)⟩
abbrev N_fold : List Str := [("line" : Str), ("width" : Str), ("at" : Str), ("lines" : Str)]
abbrev ps_fold : List Str := [("line" : Str), ("width" : Str)]
theorem fs_fold : FnScope N_fold ps_fold (defScope s_fold) := ⟨rfl, rfl, rfl, by decide +kernel, rfl, by decide +kernel, by decide +kernel⟩
theorem bd_fold : BindsAll ps_fold "fold" "fold" (defArgs s_fold) (defBody s_fold) (defScope s_fold) := fun _ _ _ _ _ _ us hl => match us, hl with | [_, _], _ => rfl
theorem ck_fold : (okV N_fold (defScope s_fold) 0 ("line" : Str) && (okV N_fold (defScope s_fold) 1 ("width" : Str) && (okV N_fold (defScope s_fold) 2 ("at" : Str) && (okV N_fold (defScope s_fold) 3 ("lines" : Str) && (okW N_fold (defScope s_fold) 0 ("line" : Str) && (okW N_fold (defScope s_fold) 1 ("width" : Str) && (okW N_fold (defScope s_fold) 2 ("at" : Str) && (okW N_fold (defScope s_fold) 3 ("lines" : Str) && (okG (defScope s_fold) ("cut_at" : Str) && okG (defScope s_fold) ("len" : Str)))))))))) = true := by decide +kernel
theorem nm_fold {X : Cx} {k : Nat} (C : Ctx X N_fold (defScope s_fold) k) : Slot X 0 ("line" : Str) ∧ Slot X 1 ("width" : Str) ∧ Slot X 2 ("at" : Str) ∧ Slot X 3 ("lines" : Str) ∧ SlotW X 0 ("line" : Str) ∧ SlotW X 1 ("width" : Str) ∧ SlotW X 2 ("at" : Str) ∧ SlotW X 3 ("lines" : Str) ∧ GlN X ("cut_at" : Str) ∧ GlN X ("len" : Str) := by
  have h := ck_fold
  simp only [Bool.and_eq_true] at h
  exact ⟨okV_slot C (h.1), okV_slot C (h.2.1), okV_slot C (h.2.2.1), okV_slot C (h.2.2.2.1), okW_slot C (h.2.2.2.2.1), okW_slot C (h.2.2.2.2.2.1), okW_slot C (h.2.2.2.2.2.2.1), okW_slot C (h.2.2.2.2.2.2.2.1), okG_gl C (h.2.2.2.2.2.2.2.2.1), okG_gl C (h.2.2.2.2.2.2.2.2.2)⟩
abbrev N_unfold : List Str := [("lines" : Str), ("whole" : Str), ("line" : Str)]
abbrev ps_unfold : List Str := [("lines" : Str)]
theorem fs_unfold : FnScope N_unfold ps_unfold (defScope s_unfold) := ⟨rfl, rfl, rfl, by decide +kernel, rfl, by decide +kernel, by decide +kernel⟩
theorem bd_unfold : BindsAll ps_unfold "unfold" "unfold" (defArgs s_unfold) (defBody s_unfold) (defScope s_unfold) := fun _ _ _ _ _ _ us hl => match us, hl with | [_], _ => rfl
theorem ck_unfold : (okV N_unfold (defScope s_unfold) 0 ("lines" : Str) && (okV N_unfold (defScope s_unfold) 1 ("whole" : Str) && (okV N_unfold (defScope s_unfold) 2 ("line" : Str) && (okW N_unfold (defScope s_unfold) 0 ("lines" : Str) && (okW N_unfold (defScope s_unfold) 1 ("whole" : Str) && (okW N_unfold (defScope s_unfold) 2 ("line" : Str) && okG (defScope s_unfold) ("BadMail" : Str))))))) = true := by decide +kernel
theorem nm_unfold {X : Cx} {k : Nat} (C : Ctx X N_unfold (defScope s_unfold) k) : Slot X 0 ("lines" : Str) ∧ Slot X 1 ("whole" : Str) ∧ Slot X 2 ("line" : Str) ∧ SlotW X 0 ("lines" : Str) ∧ SlotW X 1 ("whole" : Str) ∧ SlotW X 2 ("line" : Str) ∧ GlN X ("BadMail" : Str) := by
  have h := ck_unfold
  simp only [Bool.and_eq_true] at h
  exact ⟨okV_slot C (h.1), okV_slot C (h.2.1), okV_slot C (h.2.2.1), okW_slot C (h.2.2.2.1), okW_slot C (h.2.2.2.2.1), okW_slot C (h.2.2.2.2.2.1), okG_gl C (h.2.2.2.2.2.2)⟩
abbrev N_Letter_init : List Str := [("self" : Str), ("author" : Str), ("number" : Str), ("stamp" : Str), ("seen" : Str), ("body" : Str)]
abbrev ps_Letter_init : List Str := [("self" : Str), ("author" : Str), ("number" : Str), ("stamp" : Str), ("seen" : Str), ("body" : Str)]
theorem fs_Letter_init : FnScope N_Letter_init ps_Letter_init (defScope s_Letter_init) := ⟨rfl, rfl, rfl, by decide +kernel, rfl, by decide +kernel, by decide +kernel⟩
theorem bd_Letter_init : BindsAll ps_Letter_init "__init__" "Letter.__init__" (defArgs s_Letter_init) (defBody s_Letter_init) (defScope s_Letter_init) := fun _ _ _ _ _ _ us hl => match us, hl with | [_, _, _, _, _, _], _ => rfl
theorem ck_Letter_init : (okV N_Letter_init (defScope s_Letter_init) 0 ("self" : Str) && (okV N_Letter_init (defScope s_Letter_init) 1 ("author" : Str) && (okV N_Letter_init (defScope s_Letter_init) 2 ("number" : Str) && (okV N_Letter_init (defScope s_Letter_init) 3 ("stamp" : Str) && (okV N_Letter_init (defScope s_Letter_init) 4 ("seen" : Str) && (okV N_Letter_init (defScope s_Letter_init) 5 ("body" : Str) && (okW N_Letter_init (defScope s_Letter_init) 0 ("self" : Str) && (okW N_Letter_init (defScope s_Letter_init) 1 ("author" : Str) && (okW N_Letter_init (defScope s_Letter_init) 2 ("number" : Str) && (okW N_Letter_init (defScope s_Letter_init) 3 ("stamp" : Str) && (okW N_Letter_init (defScope s_Letter_init) 4 ("seen" : Str) && okW N_Letter_init (defScope s_Letter_init) 5 ("body" : Str)))))))))))) = true := by decide +kernel
theorem nm_Letter_init {X : Cx} {k : Nat} (C : Ctx X N_Letter_init (defScope s_Letter_init) k) : Slot X 0 ("self" : Str) ∧ Slot X 1 ("author" : Str) ∧ Slot X 2 ("number" : Str) ∧ Slot X 3 ("stamp" : Str) ∧ Slot X 4 ("seen" : Str) ∧ Slot X 5 ("body" : Str) ∧ SlotW X 0 ("self" : Str) ∧ SlotW X 1 ("author" : Str) ∧ SlotW X 2 ("number" : Str) ∧ SlotW X 3 ("stamp" : Str) ∧ SlotW X 4 ("seen" : Str) ∧ SlotW X 5 ("body" : Str) := by
  have h := ck_Letter_init
  simp only [Bool.and_eq_true] at h
  exact ⟨okV_slot C (h.1), okV_slot C (h.2.1), okV_slot C (h.2.2.1), okV_slot C (h.2.2.2.1), okV_slot C (h.2.2.2.2.1), okV_slot C (h.2.2.2.2.2.1), okW_slot C (h.2.2.2.2.2.2.1), okW_slot C (h.2.2.2.2.2.2.2.1), okW_slot C (h.2.2.2.2.2.2.2.2.1), okW_slot C (h.2.2.2.2.2.2.2.2.2.1), okW_slot C (h.2.2.2.2.2.2.2.2.2.2.1), okW_slot C (h.2.2.2.2.2.2.2.2.2.2.2)⟩
abbrev N_Letter_ref : List Str := [("self" : Str)]
abbrev ps_Letter_ref : List Str := [("self" : Str)]
theorem fs_Letter_ref : FnScope N_Letter_ref ps_Letter_ref (defScope s_Letter_ref) := ⟨rfl, rfl, rfl, by decide +kernel, rfl, by decide +kernel, by decide +kernel⟩
theorem ck_Letter_ref : (okV N_Letter_ref (defScope s_Letter_ref) 0 ("self" : Str) && okW N_Letter_ref (defScope s_Letter_ref) 0 ("self" : Str)) = true := by decide +kernel
theorem nm_Letter_ref {X : Cx} {k : Nat} (C : Ctx X N_Letter_ref (defScope s_Letter_ref) k) : Slot X 0 ("self" : Str) ∧ SlotW X 0 ("self" : Str) := by
  have h := ck_Letter_ref
  simp only [Bool.and_eq_true] at h
  exact ⟨okV_slot C (h.1), okW_slot C (h.2)⟩
abbrev N_Letter_value : List Str := [("self" : Str)]
abbrev ps_Letter_value : List Str := [("self" : Str)]
theorem fs_Letter_value : FnScope N_Letter_value ps_Letter_value (defScope s_Letter_value) := ⟨rfl, rfl, rfl, by decide +kernel, rfl, by decide +kernel, by decide +kernel⟩
theorem bd_Letter_value : BindsAll ps_Letter_value "value" "Letter.value" (defArgs s_Letter_value) (defBody s_Letter_value) (defScope s_Letter_value) := fun _ _ _ _ _ _ us hl => match us, hl with | [_], _ => rfl
theorem ck_Letter_value : (okV N_Letter_value (defScope s_Letter_value) 0 ("self" : Str) && okW N_Letter_value (defScope s_Letter_value) 0 ("self" : Str)) = true := by decide +kernel
theorem nm_Letter_value {X : Cx} {k : Nat} (C : Ctx X N_Letter_value (defScope s_Letter_value) k) : Slot X 0 ("self" : Str) ∧ SlotW X 0 ("self" : Str) := by
  have h := ck_Letter_value
  simp only [Bool.and_eq_true] at h
  exact ⟨okV_slot C (h.1), okW_slot C (h.2)⟩
abbrev N_is_seen : List Str := [("thing" : Str), ("index" : Str), ("pair" : Str)]
abbrev ps_is_seen : List Str := [("thing" : Str)]
theorem fs_is_seen : FnScope N_is_seen ps_is_seen (defScope s_is_seen) := ⟨rfl, rfl, rfl, by decide +kernel, rfl, by decide +kernel, by decide +kernel⟩
theorem bd_is_seen : BindsAll ps_is_seen "is_seen" "is_seen" (defArgs s_is_seen) (defBody s_is_seen) (defScope s_is_seen) := fun _ _ _ _ _ _ us hl => match us, hl with | [_], _ => rfl
theorem ck_is_seen : (okV N_is_seen (defScope s_is_seen) 0 ("thing" : Str) && (okV N_is_seen (defScope s_is_seen) 1 ("index" : Str) && (okV N_is_seen (defScope s_is_seen) 2 ("pair" : Str) && (okW N_is_seen (defScope s_is_seen) 0 ("thing" : Str) && (okW N_is_seen (defScope s_is_seen) 1 ("index" : Str) && (okW N_is_seen (defScope s_is_seen) 2 ("pair" : Str) && (okG (defScope s_is_seen) ("isinstance" : Str) && (okG (defScope s_is_seen) ("tuple" : Str) && (okG (defScope s_is_seen) ("enumerate" : Str) && okG (defScope s_is_seen) ("is_ref" : Str)))))))))) = true := by decide +kernel
theorem nm_is_seen {X : Cx} {k : Nat} (C : Ctx X N_is_seen (defScope s_is_seen) k) : Slot X 0 ("thing" : Str) ∧ Slot X 1 ("index" : Str) ∧ Slot X 2 ("pair" : Str) ∧ SlotW X 0 ("thing" : Str) ∧ SlotW X 1 ("index" : Str) ∧ SlotW X 2 ("pair" : Str) ∧ GlN X ("isinstance" : Str) ∧ GlN X ("tuple" : Str) ∧ GlN X ("enumerate" : Str) ∧ GlN X ("is_ref" : Str) := by
  have h := ck_is_seen
  simp only [Bool.and_eq_true] at h
  exact ⟨okV_slot C (h.1), okV_slot C (h.2.1), okV_slot C (h.2.2.1), okW_slot C (h.2.2.2.1), okW_slot C (h.2.2.2.2.1), okW_slot C (h.2.2.2.2.2.1), okG_gl C (h.2.2.2.2.2.2.1), okG_gl C (h.2.2.2.2.2.2.2.1), okG_gl C (h.2.2.2.2.2.2.2.2.1), okG_gl C (h.2.2.2.2.2.2.2.2.2)⟩
abbrev N_is_letter : List Str := [("thing" : Str), ("author" : Str), ("number" : Str), ("stamp" : Str), ("seen" : Str), ("body" : Str)]
abbrev ps_is_letter : List Str := [("thing" : Str)]
theorem fs_is_letter : FnScope N_is_letter ps_is_letter (defScope s_is_letter) := ⟨rfl, rfl, rfl, by decide +kernel, rfl, by decide +kernel, by decide +kernel⟩
theorem bd_is_letter : BindsAll ps_is_letter "is_letter" "is_letter" (defArgs s_is_letter) (defBody s_is_letter) (defScope s_is_letter) := fun _ _ _ _ _ _ us hl => match us, hl with | [_], _ => rfl
theorem ck_is_letter : (okV N_is_letter (defScope s_is_letter) 0 ("thing" : Str) && (okV N_is_letter (defScope s_is_letter) 1 ("author" : Str) && (okV N_is_letter (defScope s_is_letter) 2 ("number" : Str) && (okV N_is_letter (defScope s_is_letter) 3 ("stamp" : Str) && (okV N_is_letter (defScope s_is_letter) 4 ("seen" : Str) && (okV N_is_letter (defScope s_is_letter) 5 ("body" : Str) && (okW N_is_letter (defScope s_is_letter) 0 ("thing" : Str) && (okW N_is_letter (defScope s_is_letter) 1 ("author" : Str) && (okW N_is_letter (defScope s_is_letter) 2 ("number" : Str) && (okW N_is_letter (defScope s_is_letter) 3 ("stamp" : Str) && (okW N_is_letter (defScope s_is_letter) 4 ("seen" : Str) && (okW N_is_letter (defScope s_is_letter) 5 ("body" : Str) && (okG (defScope s_is_letter) ("isinstance" : Str) && (okG (defScope s_is_letter) ("tuple" : Str) && (okG (defScope s_is_letter) ("len" : Str) && (okG (defScope s_is_letter) ("is_name" : Str) && (okG (defScope s_is_letter) ("is_number" : Str) && (okG (defScope s_is_letter) ("is_seen" : Str) && okG (defScope s_is_letter) ("is_body" : Str))))))))))))))))))) = true := by decide +kernel
theorem nm_is_letter {X : Cx} {k : Nat} (C : Ctx X N_is_letter (defScope s_is_letter) k) : Slot X 0 ("thing" : Str) ∧ Slot X 1 ("author" : Str) ∧ Slot X 2 ("number" : Str) ∧ Slot X 3 ("stamp" : Str) ∧ Slot X 4 ("seen" : Str) ∧ Slot X 5 ("body" : Str) ∧ SlotW X 0 ("thing" : Str) ∧ SlotW X 1 ("author" : Str) ∧ SlotW X 2 ("number" : Str) ∧ SlotW X 3 ("stamp" : Str) ∧ SlotW X 4 ("seen" : Str) ∧ SlotW X 5 ("body" : Str) ∧ GlN X ("isinstance" : Str) ∧ GlN X ("tuple" : Str) ∧ GlN X ("len" : Str) ∧ GlN X ("is_name" : Str) ∧ GlN X ("is_number" : Str) ∧ GlN X ("is_seen" : Str) ∧ GlN X ("is_body" : Str) := by
  have h := ck_is_letter
  simp only [Bool.and_eq_true] at h
  exact ⟨okV_slot C (h.1), okV_slot C (h.2.1), okV_slot C (h.2.2.1), okV_slot C (h.2.2.2.1), okV_slot C (h.2.2.2.2.1), okV_slot C (h.2.2.2.2.2.1), okW_slot C (h.2.2.2.2.2.2.1), okW_slot C (h.2.2.2.2.2.2.2.1), okW_slot C (h.2.2.2.2.2.2.2.2.1), okW_slot C (h.2.2.2.2.2.2.2.2.2.1), okW_slot C (h.2.2.2.2.2.2.2.2.2.2.1), okW_slot C (h.2.2.2.2.2.2.2.2.2.2.2.1), okG_gl C (h.2.2.2.2.2.2.2.2.2.2.2.2.1), okG_gl C (h.2.2.2.2.2.2.2.2.2.2.2.2.2.1), okG_gl C (h.2.2.2.2.2.2.2.2.2.2.2.2.2.2.1), okG_gl C (h.2.2.2.2.2.2.2.2.2.2.2.2.2.2.2.1), okG_gl C (h.2.2.2.2.2.2.2.2.2.2.2.2.2.2.2.2.1), okG_gl C (h.2.2.2.2.2.2.2.2.2.2.2.2.2.2.2.2.2.1), okG_gl C (h.2.2.2.2.2.2.2.2.2.2.2.2.2.2.2.2.2.2)⟩
abbrev N_ref_words : List Str := [("ref" : Str)]
abbrev ps_ref_words : List Str := [("ref" : Str)]
theorem fs_ref_words : FnScope N_ref_words ps_ref_words (defScope s_ref_words) := ⟨rfl, rfl, rfl, by decide +kernel, rfl, by decide +kernel, by decide +kernel⟩
theorem bd_ref_words : BindsAll ps_ref_words "ref_words" "ref_words" (defArgs s_ref_words) (defBody s_ref_words) (defScope s_ref_words) := fun _ _ _ _ _ _ us hl => match us, hl with | [_], _ => rfl
theorem ck_ref_words : (okV N_ref_words (defScope s_ref_words) 0 ("ref" : Str) && (okW N_ref_words (defScope s_ref_words) 0 ("ref" : Str) && okG (defScope s_ref_words) ("str" : Str))) = true := by decide +kernel
theorem nm_ref_words {X : Cx} {k : Nat} (C : Ctx X N_ref_words (defScope s_ref_words) k) : Slot X 0 ("ref" : Str) ∧ SlotW X 0 ("ref" : Str) ∧ GlN X ("str" : Str) := by
  have h := ck_ref_words
  simp only [Bool.and_eq_true] at h
  exact ⟨okV_slot C (h.1), okW_slot C (h.2.1), okG_gl C (h.2.2)⟩
abbrev N_body_lines : List Str := [("body" : Str), ("kind" : Str), ("lines" : Str)]
abbrev ps_body_lines : List Str := [("body" : Str)]
theorem fs_body_lines : FnScope N_body_lines ps_body_lines (defScope s_body_lines) := ⟨rfl, rfl, rfl, by decide +kernel, rfl, by decide +kernel, by decide +kernel⟩
theorem bd_body_lines : BindsAll ps_body_lines "body_lines" "body_lines" (defArgs s_body_lines) (defBody s_body_lines) (defScope s_body_lines) := fun _ _ _ _ _ _ us hl => match us, hl with | [_], _ => rfl
theorem ck_body_lines : (okV N_body_lines (defScope s_body_lines) 0 ("body" : Str) && (okV N_body_lines (defScope s_body_lines) 1 ("kind" : Str) && (okV N_body_lines (defScope s_body_lines) 2 ("lines" : Str) && (okW N_body_lines (defScope s_body_lines) 0 ("body" : Str) && (okW N_body_lines (defScope s_body_lines) 1 ("kind" : Str) && (okW N_body_lines (defScope s_body_lines) 2 ("lines" : Str) && (okG (defScope s_body_lines) ("target" : Str) && (okG (defScope s_body_lines) ("ref_words" : Str) && (okG (defScope s_body_lines) ("text_of" : Str) && okG (defScope s_body_lines) ("str" : Str)))))))))) = true := by decide +kernel
theorem nm_body_lines {X : Cx} {k : Nat} (C : Ctx X N_body_lines (defScope s_body_lines) k) : Slot X 0 ("body" : Str) ∧ Slot X 1 ("kind" : Str) ∧ Slot X 2 ("lines" : Str) ∧ SlotW X 0 ("body" : Str) ∧ SlotW X 1 ("kind" : Str) ∧ SlotW X 2 ("lines" : Str) ∧ GlN X ("target" : Str) ∧ GlN X ("ref_words" : Str) ∧ GlN X ("text_of" : Str) ∧ GlN X ("str" : Str) := by
  have h := ck_body_lines
  simp only [Bool.and_eq_true] at h
  exact ⟨okV_slot C (h.1), okV_slot C (h.2.1), okV_slot C (h.2.2.1), okW_slot C (h.2.2.2.1), okW_slot C (h.2.2.2.2.1), okW_slot C (h.2.2.2.2.2.1), okG_gl C (h.2.2.2.2.2.2.1), okG_gl C (h.2.2.2.2.2.2.2.1), okG_gl C (h.2.2.2.2.2.2.2.2.1), okG_gl C (h.2.2.2.2.2.2.2.2.2)⟩
abbrev N_header_lines : List Str := [("letter" : Str), ("pair" : Str)]
abbrev ps_header_lines : List Str := [("letter" : Str)]
theorem fs_header_lines : FnScope N_header_lines ps_header_lines (defScope s_header_lines) := ⟨rfl, rfl, rfl, by decide +kernel, rfl, by decide +kernel, by decide +kernel⟩
theorem bd_header_lines : BindsAll ps_header_lines "header_lines" "header_lines" (defArgs s_header_lines) (defBody s_header_lines) (defScope s_header_lines) := fun _ _ _ _ _ _ us hl => match us, hl with | [_], _ => rfl
theorem ck_header_lines : (okV N_header_lines (defScope s_header_lines) 0 ("letter" : Str) && (okW N_header_lines (defScope s_header_lines) 0 ("letter" : Str) && (okG (defScope s_header_lines) ("ref_words" : Str) && (okG (defScope s_header_lines) ("str" : Str) && okG (defScope s_header_lines) ("body_lines" : Str))))) = true := by decide +kernel
theorem nm_header_lines {X : Cx} {k : Nat} (C : Ctx X N_header_lines (defScope s_header_lines) k) : Slot X 0 ("letter" : Str) ∧ SlotW X 0 ("letter" : Str) ∧ GlN X ("ref_words" : Str) ∧ GlN X ("str" : Str) ∧ GlN X ("body_lines" : Str) := by
  have h := ck_header_lines
  simp only [Bool.and_eq_true] at h
  exact ⟨okV_slot C (h.1), okW_slot C (h.2.1), okG_gl C (h.2.2.1), okG_gl C (h.2.2.2.1), okG_gl C (h.2.2.2.2)⟩
abbrev N_read_number : List Str := [("word" : Str), ("char" : Str)]
abbrev ps_read_number : List Str := [("word" : Str)]
theorem fs_read_number : FnScope N_read_number ps_read_number (defScope s_read_number) := ⟨rfl, rfl, rfl, by decide +kernel, rfl, by decide +kernel, by decide +kernel⟩
theorem bd_read_number : BindsAll ps_read_number "read_number" "read_number" (defArgs s_read_number) (defBody s_read_number) (defScope s_read_number) := fun _ _ _ _ _ _ us hl => match us, hl with | [_], _ => rfl
theorem ck_read_number : (okV N_read_number (defScope s_read_number) 0 ("word" : Str) && (okV N_read_number (defScope s_read_number) 1 ("char" : Str) && (okW N_read_number (defScope s_read_number) 0 ("word" : Str) && (okW N_read_number (defScope s_read_number) 1 ("char" : Str) && (okG (defScope s_read_number) ("len" : Str) && (okG (defScope s_read_number) ("MOST_DIGITS" : Str) && (okG (defScope s_read_number) ("DIGITS_headers" : Str) && okG (defScope s_read_number) ("int" : Str)))))))) = true := by decide +kernel
theorem nm_read_number {X : Cx} {k : Nat} (C : Ctx X N_read_number (defScope s_read_number) k) : Slot X 0 ("word" : Str) ∧ Slot X 1 ("char" : Str) ∧ SlotW X 0 ("word" : Str) ∧ SlotW X 1 ("char" : Str) ∧ GlN X ("len" : Str) ∧ GlN X ("MOST_DIGITS" : Str) ∧ GlN X ("DIGITS_headers" : Str) ∧ GlN X ("int" : Str) := by
  have h := ck_read_number
  simp only [Bool.and_eq_true] at h
  exact ⟨okV_slot C (h.1), okV_slot C (h.2.1), okW_slot C (h.2.2.1), okW_slot C (h.2.2.2.1), okG_gl C (h.2.2.2.2.1), okG_gl C (h.2.2.2.2.2.1), okG_gl C (h.2.2.2.2.2.2.1), okG_gl C (h.2.2.2.2.2.2.2)⟩
abbrev N_read_ref : List Str := [("words" : Str), ("name" : Str), ("_" : Str), ("number" : Str)]
abbrev ps_read_ref : List Str := [("words" : Str)]
theorem fs_read_ref : FnScope N_read_ref ps_read_ref (defScope s_read_ref) := ⟨rfl, rfl, rfl, by decide +kernel, rfl, by decide +kernel, by decide +kernel⟩
theorem bd_read_ref : BindsAll ps_read_ref "read_ref" "read_ref" (defArgs s_read_ref) (defBody s_read_ref) (defScope s_read_ref) := fun _ _ _ _ _ _ us hl => match us, hl with | [_], _ => rfl
theorem ck_read_ref : (okV N_read_ref (defScope s_read_ref) 0 ("words" : Str) && (okV N_read_ref (defScope s_read_ref) 1 ("name" : Str) && (okV N_read_ref (defScope s_read_ref) 2 ("_" : Str) && (okV N_read_ref (defScope s_read_ref) 3 ("number" : Str) && (okW N_read_ref (defScope s_read_ref) 0 ("words" : Str) && (okW N_read_ref (defScope s_read_ref) 1 ("name" : Str) && (okW N_read_ref (defScope s_read_ref) 2 ("_" : Str) && (okW N_read_ref (defScope s_read_ref) 3 ("number" : Str) && okG (defScope s_read_ref) ("read_number" : Str))))))))) = true := by decide +kernel
theorem nm_read_ref {X : Cx} {k : Nat} (C : Ctx X N_read_ref (defScope s_read_ref) k) : Slot X 0 ("words" : Str) ∧ Slot X 1 ("name" : Str) ∧ Slot X 2 ("_" : Str) ∧ Slot X 3 ("number" : Str) ∧ SlotW X 0 ("words" : Str) ∧ SlotW X 1 ("name" : Str) ∧ SlotW X 2 ("_" : Str) ∧ SlotW X 3 ("number" : Str) ∧ GlN X ("read_number" : Str) := by
  have h := ck_read_ref
  simp only [Bool.and_eq_true] at h
  exact ⟨okV_slot C (h.1), okV_slot C (h.2.1), okV_slot C (h.2.2.1), okV_slot C (h.2.2.2.1), okW_slot C (h.2.2.2.2.1), okW_slot C (h.2.2.2.2.2.1), okW_slot C (h.2.2.2.2.2.2.1), okW_slot C (h.2.2.2.2.2.2.2.1), okG_gl C (h.2.2.2.2.2.2.2.2)⟩
abbrev N_read_body : List Str := [("fields" : Str), ("text" : Str), ("kind" : Str), ("names" : Str), ("members" : Str)]
abbrev ps_read_body : List Str := [("fields" : Str), ("text" : Str)]
theorem fs_read_body : FnScope N_read_body ps_read_body (defScope s_read_body) := ⟨rfl, rfl, rfl, by decide +kernel, rfl, by decide +kernel, by decide +kernel⟩
theorem bd_read_body : BindsAll ps_read_body "read_body" "read_body" (defArgs s_read_body) (defBody s_read_body) (defScope s_read_body) := fun _ _ _ _ _ _ us hl => match us, hl with | [_, _], _ => rfl
theorem ck_read_body : (okV N_read_body (defScope s_read_body) 0 ("fields" : Str) && (okV N_read_body (defScope s_read_body) 1 ("text" : Str) && (okV N_read_body (defScope s_read_body) 2 ("kind" : Str) && (okV N_read_body (defScope s_read_body) 3 ("names" : Str) && (okV N_read_body (defScope s_read_body) 4 ("members" : Str) && (okW N_read_body (defScope s_read_body) 0 ("fields" : Str) && (okW N_read_body (defScope s_read_body) 1 ("text" : Str) && (okW N_read_body (defScope s_read_body) 2 ("kind" : Str) && (okW N_read_body (defScope s_read_body) 3 ("names" : Str) && (okW N_read_body (defScope s_read_body) 4 ("members" : Str) && (okG (defScope s_read_body) ("tuple" : Str) && okG (defScope s_read_body) ("read_ref" : Str)))))))))))) = true := by decide +kernel
theorem nm_read_body {X : Cx} {k : Nat} (C : Ctx X N_read_body (defScope s_read_body) k) : Slot X 0 ("fields" : Str) ∧ Slot X 1 ("text" : Str) ∧ Slot X 2 ("kind" : Str) ∧ Slot X 3 ("names" : Str) ∧ Slot X 4 ("members" : Str) ∧ SlotW X 0 ("fields" : Str) ∧ SlotW X 1 ("text" : Str) ∧ SlotW X 2 ("kind" : Str) ∧ SlotW X 3 ("names" : Str) ∧ SlotW X 4 ("members" : Str) ∧ GlN X ("tuple" : Str) ∧ GlN X ("read_ref" : Str) := by
  have h := ck_read_body
  simp only [Bool.and_eq_true] at h
  exact ⟨okV_slot C (h.1), okV_slot C (h.2.1), okV_slot C (h.2.2.1), okV_slot C (h.2.2.2.1), okV_slot C (h.2.2.2.2.1), okW_slot C (h.2.2.2.2.2.1), okW_slot C (h.2.2.2.2.2.2.1), okW_slot C (h.2.2.2.2.2.2.2.1), okW_slot C (h.2.2.2.2.2.2.2.2.1), okW_slot C (h.2.2.2.2.2.2.2.2.2.1), okG_gl C (h.2.2.2.2.2.2.2.2.2.2.1), okG_gl C (h.2.2.2.2.2.2.2.2.2.2.2)⟩
abbrev N_read_headers : List Str := [("lines" : Str), ("text" : Str), ("fields" : Str), ("line" : Str), ("word" : Str), ("_" : Str), ("rest" : Str), ("author" : Str), ("number" : Str), ("stamp" : Str), ("seen" : Str), ("value" : Str), ("letter" : Str), ("words" : Str)]
abbrev ps_read_headers : List Str := [("lines" : Str), ("text" : Str)]
theorem fs_read_headers : FnScope N_read_headers ps_read_headers (defScope s_read_headers) := ⟨rfl, rfl, rfl, by decide +kernel, rfl, by decide +kernel, by decide +kernel⟩
theorem bd_read_headers : BindsAll ps_read_headers "read_headers" "read_headers" (defArgs s_read_headers) (defBody s_read_headers) (defScope s_read_headers) := fun _ _ _ _ _ _ us hl => match us, hl with | [_, _], _ => rfl
theorem ck_read_headers : (okV N_read_headers (defScope s_read_headers) 0 ("lines" : Str) && (okV N_read_headers (defScope s_read_headers) 1 ("text" : Str) && (okV N_read_headers (defScope s_read_headers) 2 ("fields" : Str) && (okV N_read_headers (defScope s_read_headers) 3 ("line" : Str) && (okV N_read_headers (defScope s_read_headers) 4 ("word" : Str) && (okV N_read_headers (defScope s_read_headers) 5 ("_" : Str) && (okV N_read_headers (defScope s_read_headers) 6 ("rest" : Str) && (okV N_read_headers (defScope s_read_headers) 7 ("author" : Str) && (okV N_read_headers (defScope s_read_headers) 8 ("number" : Str) && (okV N_read_headers (defScope s_read_headers) 9 ("stamp" : Str) && (okV N_read_headers (defScope s_read_headers) 10 ("seen" : Str) && (okV N_read_headers (defScope s_read_headers) 11 ("value" : Str) && (okV N_read_headers (defScope s_read_headers) 12 ("letter" : Str) && (okW N_read_headers (defScope s_read_headers) 0 ("lines" : Str) && (okW N_read_headers (defScope s_read_headers) 1 ("text" : Str) && (okW N_read_headers (defScope s_read_headers) 2 ("fields" : Str) && (okW N_read_headers (defScope s_read_headers) 3 ("line" : Str) && (okW N_read_headers (defScope s_read_headers) 4 ("word" : Str) && (okW N_read_headers (defScope s_read_headers) 5 ("_" : Str) && (okW N_read_headers (defScope s_read_headers) 6 ("rest" : Str) && (okW N_read_headers (defScope s_read_headers) 7 ("author" : Str) && (okW N_read_headers (defScope s_read_headers) 8 ("number" : Str) && (okW N_read_headers (defScope s_read_headers) 9 ("stamp" : Str) && (okW N_read_headers (defScope s_read_headers) 10 ("seen" : Str) && (okW N_read_headers (defScope s_read_headers) 11 ("value" : Str) && (okW N_read_headers (defScope s_read_headers) 12 ("letter" : Str) && (okG (defScope s_read_headers) ("read_ref" : Str) && (okG (defScope s_read_headers) ("read_number" : Str) && (okG (defScope s_read_headers) ("tuple" : Str) && (okG (defScope s_read_headers) ("read_body" : Str) && (okG (defScope s_read_headers) ("is_letter" : Str) && (okG (defScope s_read_headers) ("BadMail" : Str) && (okG (defScope s_read_headers) ("Letter" : Str) && (okG (defScope s_read_headers) ("header_lines" : Str) && okG (defScope s_read_headers) ("text_of" : Str))))))))))))))))))))))))))))))))))) = true := by decide +kernel
theorem nm_read_headers {X : Cx} {k : Nat} (C : Ctx X N_read_headers (defScope s_read_headers) k) : Slot X 0 ("lines" : Str) ∧ Slot X 1 ("text" : Str) ∧ Slot X 2 ("fields" : Str) ∧ Slot X 3 ("line" : Str) ∧ Slot X 4 ("word" : Str) ∧ Slot X 5 ("_" : Str) ∧ Slot X 6 ("rest" : Str) ∧ Slot X 7 ("author" : Str) ∧ Slot X 8 ("number" : Str) ∧ Slot X 9 ("stamp" : Str) ∧ Slot X 10 ("seen" : Str) ∧ Slot X 11 ("value" : Str) ∧ Slot X 12 ("letter" : Str) ∧ SlotW X 0 ("lines" : Str) ∧ SlotW X 1 ("text" : Str) ∧ SlotW X 2 ("fields" : Str) ∧ SlotW X 3 ("line" : Str) ∧ SlotW X 4 ("word" : Str) ∧ SlotW X 5 ("_" : Str) ∧ SlotW X 6 ("rest" : Str) ∧ SlotW X 7 ("author" : Str) ∧ SlotW X 8 ("number" : Str) ∧ SlotW X 9 ("stamp" : Str) ∧ SlotW X 10 ("seen" : Str) ∧ SlotW X 11 ("value" : Str) ∧ SlotW X 12 ("letter" : Str) ∧ GlN X ("read_ref" : Str) ∧ GlN X ("read_number" : Str) ∧ GlN X ("tuple" : Str) ∧ GlN X ("read_body" : Str) ∧ GlN X ("is_letter" : Str) ∧ GlN X ("BadMail" : Str) ∧ GlN X ("Letter" : Str) ∧ GlN X ("header_lines" : Str) ∧ GlN X ("text_of" : Str) := by
  have h := ck_read_headers
  simp only [Bool.and_eq_true] at h
  exact ⟨okV_slot C (h.1), okV_slot C (h.2.1), okV_slot C (h.2.2.1), okV_slot C (h.2.2.2.1), okV_slot C (h.2.2.2.2.1), okV_slot C (h.2.2.2.2.2.1), okV_slot C (h.2.2.2.2.2.2.1), okV_slot C (h.2.2.2.2.2.2.2.1), okV_slot C (h.2.2.2.2.2.2.2.2.1), okV_slot C (h.2.2.2.2.2.2.2.2.2.1), okV_slot C (h.2.2.2.2.2.2.2.2.2.2.1), okV_slot C (h.2.2.2.2.2.2.2.2.2.2.2.1), okV_slot C (h.2.2.2.2.2.2.2.2.2.2.2.2.1), okW_slot C (h.2.2.2.2.2.2.2.2.2.2.2.2.2.1), okW_slot C (h.2.2.2.2.2.2.2.2.2.2.2.2.2.2.1), okW_slot C (h.2.2.2.2.2.2.2.2.2.2.2.2.2.2.2.1), okW_slot C (h.2.2.2.2.2.2.2.2.2.2.2.2.2.2.2.2.1), okW_slot C (h.2.2.2.2.2.2.2.2.2.2.2.2.2.2.2.2.2.1), okW_slot C (h.2.2.2.2.2.2.2.2.2.2.2.2.2.2.2.2.2.2.1), okW_slot C (h.2.2.2.2.2.2.2.2.2.2.2.2.2.2.2.2.2.2.2.1), okW_slot C (h.2.2.2.2.2.2.2.2.2.2.2.2.2.2.2.2.2.2.2.2.1), okW_slot C (h.2.2.2.2.2.2.2.2.2.2.2.2.2.2.2.2.2.2.2.2.2.1), okW_slot C (h.2.2.2.2.2.2.2.2.2.2.2.2.2.2.2.2.2.2.2.2.2.2.1), okW_slot C (h.2.2.2.2.2.2.2.2.2.2.2.2.2.2.2.2.2.2.2.2.2.2.2.1), okW_slot C (h.2.2.2.2.2.2.2.2.2.2.2.2.2.2.2.2.2.2.2.2.2.2.2.2.1), okW_slot C (h.2.2.2.2.2.2.2.2.2.2.2.2.2.2.2.2.2.2.2.2.2.2.2.2.2.1), okG_gl C (h.2.2.2.2.2.2.2.2.2.2.2.2.2.2.2.2.2.2.2.2.2.2.2.2.2.2.1), okG_gl C (h.2.2.2.2.2.2.2.2.2.2.2.2.2.2.2.2.2.2.2.2.2.2.2.2.2.2.2.1), okG_gl C (h.2.2.2.2.2.2.2.2.2.2.2.2.2.2.2.2.2.2.2.2.2.2.2.2.2.2.2.2.1), okG_gl C (h.2.2.2.2.2.2.2.2.2.2.2.2.2.2.2.2.2.2.2.2.2.2.2.2.2.2.2.2.2.1), okG_gl C (h.2.2.2.2.2.2.2.2.2.2.2.2.2.2.2.2.2.2.2.2.2.2.2.2.2.2.2.2.2.2.1), okG_gl C (h.2.2.2.2.2.2.2.2.2.2.2.2.2.2.2.2.2.2.2.2.2.2.2.2.2.2.2.2.2.2.2.1), okG_gl C (h.2.2.2.2.2.2.2.2.2.2.2.2.2.2.2.2.2.2.2.2.2.2.2.2.2.2.2.2.2.2.2.2.1), okG_gl C (h.2.2.2.2.2.2.2.2.2.2.2.2.2.2.2.2.2.2.2.2.2.2.2.2.2.2.2.2.2.2.2.2.2.1), okG_gl C (h.2.2.2.2.2.2.2.2.2.2.2.2.2.2.2.2.2.2.2.2.2.2.2.2.2.2.2.2.2.2.2.2.2.2)⟩
abbrev N_mail_lines : List Str := [("letter" : Str), ("lines" : Str), ("line" : Str), ("text" : Str)]
abbrev ps_mail_lines : List Str := [("letter" : Str)]
theorem fs_mail_lines : FnScope N_mail_lines ps_mail_lines (defScope s_mail_lines) := ⟨rfl, rfl, rfl, by decide +kernel, rfl, by decide +kernel, by decide +kernel⟩
theorem bd_mail_lines : BindsAll ps_mail_lines "mail_lines" "mail_lines" (defArgs s_mail_lines) (defBody s_mail_lines) (defScope s_mail_lines) := fun _ _ _ _ _ _ us hl => match us, hl with | [_], _ => rfl
theorem ck_mail_lines : (okV N_mail_lines (defScope s_mail_lines) 0 ("letter" : Str) && (okV N_mail_lines (defScope s_mail_lines) 1 ("lines" : Str) && (okV N_mail_lines (defScope s_mail_lines) 2 ("line" : Str) && (okV N_mail_lines (defScope s_mail_lines) 3 ("text" : Str) && (okW N_mail_lines (defScope s_mail_lines) 0 ("letter" : Str) && (okW N_mail_lines (defScope s_mail_lines) 1 ("lines" : Str) && (okW N_mail_lines (defScope s_mail_lines) 2 ("line" : Str) && (okW N_mail_lines (defScope s_mail_lines) 3 ("text" : Str) && (okG (defScope s_mail_lines) ("header_lines" : Str) && (okG (defScope s_mail_lines) ("fold" : Str) && (okG (defScope s_mail_lines) ("WIDTH" : Str) && (okG (defScope s_mail_lines) ("text_of" : Str) && (okG (defScope s_mail_lines) ("MARK" : Str) && okG (defScope s_mail_lines) ("LAST" : Str)))))))))))))) = true := by decide +kernel
theorem nm_mail_lines {X : Cx} {k : Nat} (C : Ctx X N_mail_lines (defScope s_mail_lines) k) : Slot X 0 ("letter" : Str) ∧ Slot X 1 ("lines" : Str) ∧ Slot X 2 ("line" : Str) ∧ Slot X 3 ("text" : Str) ∧ SlotW X 0 ("letter" : Str) ∧ SlotW X 1 ("lines" : Str) ∧ SlotW X 2 ("line" : Str) ∧ SlotW X 3 ("text" : Str) ∧ GlN X ("header_lines" : Str) ∧ GlN X ("fold" : Str) ∧ GlN X ("WIDTH" : Str) ∧ GlN X ("text_of" : Str) ∧ GlN X ("MARK" : Str) ∧ GlN X ("LAST" : Str) := by
  have h := ck_mail_lines
  simp only [Bool.and_eq_true] at h
  exact ⟨okV_slot C (h.1), okV_slot C (h.2.1), okV_slot C (h.2.2.1), okV_slot C (h.2.2.2.1), okW_slot C (h.2.2.2.2.1), okW_slot C (h.2.2.2.2.2.1), okW_slot C (h.2.2.2.2.2.2.1), okW_slot C (h.2.2.2.2.2.2.2.1), okG_gl C (h.2.2.2.2.2.2.2.2.1), okG_gl C (h.2.2.2.2.2.2.2.2.2.1), okG_gl C (h.2.2.2.2.2.2.2.2.2.2.1), okG_gl C (h.2.2.2.2.2.2.2.2.2.2.2.1), okG_gl C (h.2.2.2.2.2.2.2.2.2.2.2.2.1), okG_gl C (h.2.2.2.2.2.2.2.2.2.2.2.2.2)⟩
abbrev N_head_end : List Str := [("lines" : Str), ("at" : Str)]
abbrev ps_head_end : List Str := [("lines" : Str), ("at" : Str)]
theorem fs_head_end : FnScope N_head_end ps_head_end (defScope s_head_end) := ⟨rfl, rfl, rfl, by decide +kernel, rfl, by decide +kernel, by decide +kernel⟩
theorem bd_head_end : BindsAll ps_head_end "head_end" "head_end" (defArgs s_head_end) (defBody s_head_end) (defScope s_head_end) := fun _ _ _ _ _ _ us hl => match us, hl with | [_, _], _ => rfl
theorem ck_head_end : (okV N_head_end (defScope s_head_end) 0 ("lines" : Str) && (okV N_head_end (defScope s_head_end) 1 ("at" : Str) && (okW N_head_end (defScope s_head_end) 0 ("lines" : Str) && (okW N_head_end (defScope s_head_end) 1 ("at" : Str) && okG (defScope s_head_end) ("len" : Str))))) = true := by decide +kernel
theorem nm_head_end {X : Cx} {k : Nat} (C : Ctx X N_head_end (defScope s_head_end) k) : Slot X 0 ("lines" : Str) ∧ Slot X 1 ("at" : Str) ∧ SlotW X 0 ("lines" : Str) ∧ SlotW X 1 ("at" : Str) ∧ GlN X ("len" : Str) := by
  have h := ck_head_end
  simp only [Bool.and_eq_true] at h
  exact ⟨okV_slot C (h.1), okV_slot C (h.2.1), okW_slot C (h.2.2.1), okW_slot C (h.2.2.2.1), okG_gl C (h.2.2.2.2)⟩
abbrev N_text_end : List Str := [("lines" : Str), ("at" : Str)]
abbrev ps_text_end : List Str := [("lines" : Str), ("at" : Str)]
theorem fs_text_end : FnScope N_text_end ps_text_end (defScope s_text_end) := ⟨rfl, rfl, rfl, by decide +kernel, rfl, by decide +kernel, by decide +kernel⟩
theorem bd_text_end : BindsAll ps_text_end "text_end" "text_end" (defArgs s_text_end) (defBody s_text_end) (defScope s_text_end) := fun _ _ _ _ _ _ us hl => match us, hl with | [_, _], _ => rfl
theorem ck_text_end : (okV N_text_end (defScope s_text_end) 0 ("lines" : Str) && (okV N_text_end (defScope s_text_end) 1 ("at" : Str) && (okW N_text_end (defScope s_text_end) 0 ("lines" : Str) && (okW N_text_end (defScope s_text_end) 1 ("at" : Str) && (okG (defScope s_text_end) ("len" : Str) && okG (defScope s_text_end) ("MARK" : Str)))))) = true := by decide +kernel
theorem nm_text_end {X : Cx} {k : Nat} (C : Ctx X N_text_end (defScope s_text_end) k) : Slot X 0 ("lines" : Str) ∧ Slot X 1 ("at" : Str) ∧ SlotW X 0 ("lines" : Str) ∧ SlotW X 1 ("at" : Str) ∧ GlN X ("len" : Str) ∧ GlN X ("MARK" : Str) := by
  have h := ck_text_end
  simp only [Bool.and_eq_true] at h
  exact ⟨okV_slot C (h.1), okV_slot C (h.2.1), okW_slot C (h.2.2.1), okW_slot C (h.2.2.2.1), okG_gl C (h.2.2.2.2.1), okG_gl C (h.2.2.2.2.2)⟩
abbrev N_read_mail : List Str := [("lines" : Str), ("at" : Str), ("middle" : Str), ("end" : Str), ("text" : Str), ("letter" : Str), ("line" : Str)]
abbrev ps_read_mail : List Str := [("lines" : Str), ("at" : Str)]
theorem fs_read_mail : FnScope N_read_mail ps_read_mail (defScope s_read_mail) := ⟨rfl, rfl, rfl, by decide +kernel, rfl, by decide +kernel, by decide +kernel⟩
theorem bd_read_mail : BindsAll ps_read_mail "read_mail" "read_mail" (defArgs s_read_mail) (defBody s_read_mail) (defScope s_read_mail) := fun _ _ _ _ _ _ us hl => match us, hl with | [_, _], _ => rfl
theorem ck_read_mail : (okV N_read_mail (defScope s_read_mail) 0 ("lines" : Str) && (okV N_read_mail (defScope s_read_mail) 1 ("at" : Str) && (okV N_read_mail (defScope s_read_mail) 2 ("middle" : Str) && (okV N_read_mail (defScope s_read_mail) 3 ("end" : Str) && (okV N_read_mail (defScope s_read_mail) 4 ("text" : Str) && (okV N_read_mail (defScope s_read_mail) 5 ("letter" : Str) && (okW N_read_mail (defScope s_read_mail) 0 ("lines" : Str) && (okW N_read_mail (defScope s_read_mail) 1 ("at" : Str) && (okW N_read_mail (defScope s_read_mail) 2 ("middle" : Str) && (okW N_read_mail (defScope s_read_mail) 3 ("end" : Str) && (okW N_read_mail (defScope s_read_mail) 4 ("text" : Str) && (okW N_read_mail (defScope s_read_mail) 5 ("letter" : Str) && (okG (defScope s_read_mail) ("head_end" : Str) && (okG (defScope s_read_mail) ("text_end" : Str) && (okG (defScope s_read_mail) ("len" : Str) && (okG (defScope s_read_mail) ("LAST" : Str) && (okG (defScope s_read_mail) ("BadMail" : Str) && (okG (defScope s_read_mail) ("read_headers" : Str) && okG (defScope s_read_mail) ("unfold" : Str))))))))))))))))))) = true := by decide +kernel
theorem nm_read_mail {X : Cx} {k : Nat} (C : Ctx X N_read_mail (defScope s_read_mail) k) : Slot X 0 ("lines" : Str) ∧ Slot X 1 ("at" : Str) ∧ Slot X 2 ("middle" : Str) ∧ Slot X 3 ("end" : Str) ∧ Slot X 4 ("text" : Str) ∧ Slot X 5 ("letter" : Str) ∧ SlotW X 0 ("lines" : Str) ∧ SlotW X 1 ("at" : Str) ∧ SlotW X 2 ("middle" : Str) ∧ SlotW X 3 ("end" : Str) ∧ SlotW X 4 ("text" : Str) ∧ SlotW X 5 ("letter" : Str) ∧ GlN X ("head_end" : Str) ∧ GlN X ("text_end" : Str) ∧ GlN X ("len" : Str) ∧ GlN X ("LAST" : Str) ∧ GlN X ("BadMail" : Str) ∧ GlN X ("read_headers" : Str) ∧ GlN X ("unfold" : Str) := by
  have h := ck_read_mail
  simp only [Bool.and_eq_true] at h
  exact ⟨okV_slot C (h.1), okV_slot C (h.2.1), okV_slot C (h.2.2.1), okV_slot C (h.2.2.2.1), okV_slot C (h.2.2.2.2.1), okV_slot C (h.2.2.2.2.2.1), okW_slot C (h.2.2.2.2.2.2.1), okW_slot C (h.2.2.2.2.2.2.2.1), okW_slot C (h.2.2.2.2.2.2.2.2.1), okW_slot C (h.2.2.2.2.2.2.2.2.2.1), okW_slot C (h.2.2.2.2.2.2.2.2.2.2.1), okW_slot C (h.2.2.2.2.2.2.2.2.2.2.2.1), okG_gl C (h.2.2.2.2.2.2.2.2.2.2.2.2.1), okG_gl C (h.2.2.2.2.2.2.2.2.2.2.2.2.2.1), okG_gl C (h.2.2.2.2.2.2.2.2.2.2.2.2.2.2.1), okG_gl C (h.2.2.2.2.2.2.2.2.2.2.2.2.2.2.2.1), okG_gl C (h.2.2.2.2.2.2.2.2.2.2.2.2.2.2.2.2.1), okG_gl C (h.2.2.2.2.2.2.2.2.2.2.2.2.2.2.2.2.2.1), okG_gl C (h.2.2.2.2.2.2.2.2.2.2.2.2.2.2.2.2.2.2)⟩
abbrev N_archive : List Str := [("letters" : Str), ("lines" : Str), ("letter" : Str), ("line" : Str)]
abbrev ps_archive : List Str := [("letters" : Str)]
theorem fs_archive : FnScope N_archive ps_archive (defScope s_archive) := ⟨rfl, rfl, rfl, by decide +kernel, rfl, by decide +kernel, by decide +kernel⟩
theorem bd_archive : BindsAll ps_archive "archive" "archive" (defArgs s_archive) (defBody s_archive) (defScope s_archive) := fun _ _ _ _ _ _ us hl => match us, hl with | [_], _ => rfl
theorem ck_archive : (okV N_archive (defScope s_archive) 0 ("letters" : Str) && (okV N_archive (defScope s_archive) 1 ("lines" : Str) && (okV N_archive (defScope s_archive) 2 ("letter" : Str) && (okW N_archive (defScope s_archive) 0 ("letters" : Str) && (okW N_archive (defScope s_archive) 1 ("lines" : Str) && (okW N_archive (defScope s_archive) 2 ("letter" : Str) && okG (defScope s_archive) ("mail_lines" : Str))))))) = true := by decide +kernel
theorem nm_archive {X : Cx} {k : Nat} (C : Ctx X N_archive (defScope s_archive) k) : Slot X 0 ("letters" : Str) ∧ Slot X 1 ("lines" : Str) ∧ Slot X 2 ("letter" : Str) ∧ SlotW X 0 ("letters" : Str) ∧ SlotW X 1 ("lines" : Str) ∧ SlotW X 2 ("letter" : Str) ∧ GlN X ("mail_lines" : Str) := by
  have h := ck_archive
  simp only [Bool.and_eq_true] at h
  exact ⟨okV_slot C (h.1), okV_slot C (h.2.1), okV_slot C (h.2.2.1), okW_slot C (h.2.2.2.1), okW_slot C (h.2.2.2.2.1), okW_slot C (h.2.2.2.2.2.1), okG_gl C (h.2.2.2.2.2.2)⟩
abbrev N_read_beginning : List Str := [("text" : Str), ("lines" : Str), ("letters" : Str), ("at" : Str), ("letter" : Str), ("length" : Str), ("line" : Str)]
abbrev ps_read_beginning : List Str := [("text" : Str)]
theorem fs_read_beginning : FnScope N_read_beginning ps_read_beginning (defScope s_read_beginning) := ⟨rfl, rfl, rfl, by decide +kernel, rfl, by decide +kernel, by decide +kernel⟩
theorem bd_read_beginning : BindsAll ps_read_beginning "read_beginning" "read_beginning" (defArgs s_read_beginning) (defBody s_read_beginning) (defScope s_read_beginning) := fun _ _ _ _ _ _ us hl => match us, hl with | [_], _ => rfl
theorem ck_read_beginning : (okV N_read_beginning (defScope s_read_beginning) 0 ("text" : Str) && (okV N_read_beginning (defScope s_read_beginning) 1 ("lines" : Str) && (okV N_read_beginning (defScope s_read_beginning) 2 ("letters" : Str) && (okV N_read_beginning (defScope s_read_beginning) 3 ("at" : Str) && (okV N_read_beginning (defScope s_read_beginning) 4 ("letter" : Str) && (okV N_read_beginning (defScope s_read_beginning) 5 ("length" : Str) && (okW N_read_beginning (defScope s_read_beginning) 0 ("text" : Str) && (okW N_read_beginning (defScope s_read_beginning) 1 ("lines" : Str) && (okW N_read_beginning (defScope s_read_beginning) 2 ("letters" : Str) && (okW N_read_beginning (defScope s_read_beginning) 3 ("at" : Str) && (okW N_read_beginning (defScope s_read_beginning) 4 ("letter" : Str) && (okW N_read_beginning (defScope s_read_beginning) 5 ("length" : Str) && (okG (defScope s_read_beginning) ("len" : Str) && (okG (defScope s_read_beginning) ("read_mail" : Str) && (okG (defScope s_read_beginning) ("BadMail" : Str) && okG (defScope s_read_beginning) ("sum" : Str)))))))))))))))) = true := by decide +kernel
theorem nm_read_beginning {X : Cx} {k : Nat} (C : Ctx X N_read_beginning (defScope s_read_beginning) k) : Slot X 0 ("text" : Str) ∧ Slot X 1 ("lines" : Str) ∧ Slot X 2 ("letters" : Str) ∧ Slot X 3 ("at" : Str) ∧ Slot X 4 ("letter" : Str) ∧ Slot X 5 ("length" : Str) ∧ SlotW X 0 ("text" : Str) ∧ SlotW X 1 ("lines" : Str) ∧ SlotW X 2 ("letters" : Str) ∧ SlotW X 3 ("at" : Str) ∧ SlotW X 4 ("letter" : Str) ∧ SlotW X 5 ("length" : Str) ∧ GlN X ("len" : Str) ∧ GlN X ("read_mail" : Str) ∧ GlN X ("BadMail" : Str) ∧ GlN X ("sum" : Str) := by
  have h := ck_read_beginning
  simp only [Bool.and_eq_true] at h
  exact ⟨okV_slot C (h.1), okV_slot C (h.2.1), okV_slot C (h.2.2.1), okV_slot C (h.2.2.2.1), okV_slot C (h.2.2.2.2.1), okV_slot C (h.2.2.2.2.2.1), okW_slot C (h.2.2.2.2.2.2.1), okW_slot C (h.2.2.2.2.2.2.2.1), okW_slot C (h.2.2.2.2.2.2.2.2.1), okW_slot C (h.2.2.2.2.2.2.2.2.2.1), okW_slot C (h.2.2.2.2.2.2.2.2.2.2.1), okW_slot C (h.2.2.2.2.2.2.2.2.2.2.2.1), okG_gl C (h.2.2.2.2.2.2.2.2.2.2.2.2.1), okG_gl C (h.2.2.2.2.2.2.2.2.2.2.2.2.2.1), okG_gl C (h.2.2.2.2.2.2.2.2.2.2.2.2.2.2.1), okG_gl C (h.2.2.2.2.2.2.2.2.2.2.2.2.2.2.2)⟩
abbrev N_read_archive : List Str := [("text" : Str), ("letters" : Str), ("length" : Str)]
abbrev ps_read_archive : List Str := [("text" : Str)]
theorem fs_read_archive : FnScope N_read_archive ps_read_archive (defScope s_read_archive) := ⟨rfl, rfl, rfl, by decide +kernel, rfl, by decide +kernel, by decide +kernel⟩
theorem bd_read_archive : BindsAll ps_read_archive "read_archive" "read_archive" (defArgs s_read_archive) (defBody s_read_archive) (defScope s_read_archive) := fun _ _ _ _ _ _ us hl => match us, hl with | [_], _ => rfl
theorem ck_read_archive : (okV N_read_archive (defScope s_read_archive) 0 ("text" : Str) && (okV N_read_archive (defScope s_read_archive) 1 ("letters" : Str) && (okV N_read_archive (defScope s_read_archive) 2 ("length" : Str) && (okW N_read_archive (defScope s_read_archive) 0 ("text" : Str) && (okW N_read_archive (defScope s_read_archive) 1 ("letters" : Str) && (okW N_read_archive (defScope s_read_archive) 2 ("length" : Str) && (okG (defScope s_read_archive) ("read_beginning" : Str) && (okG (defScope s_read_archive) ("len" : Str) && okG (defScope s_read_archive) ("BadMail" : Str))))))))) = true := by decide +kernel
theorem nm_read_archive {X : Cx} {k : Nat} (C : Ctx X N_read_archive (defScope s_read_archive) k) : Slot X 0 ("text" : Str) ∧ Slot X 1 ("letters" : Str) ∧ Slot X 2 ("length" : Str) ∧ SlotW X 0 ("text" : Str) ∧ SlotW X 1 ("letters" : Str) ∧ SlotW X 2 ("length" : Str) ∧ GlN X ("read_beginning" : Str) ∧ GlN X ("len" : Str) ∧ GlN X ("BadMail" : Str) := by
  have h := ck_read_archive
  simp only [Bool.and_eq_true] at h
  exact ⟨okV_slot C (h.1), okV_slot C (h.2.1), okV_slot C (h.2.2.1), okW_slot C (h.2.2.2.1), okW_slot C (h.2.2.2.2.1), okW_slot C (h.2.2.2.2.2.1), okG_gl C (h.2.2.2.2.2.2.1), okG_gl C (h.2.2.2.2.2.2.2.1), okG_gl C (h.2.2.2.2.2.2.2.2)⟩
abbrev N_law_is : List Str := [("_law_actual" : Str), ("_law_due" : Str)]
abbrev ps_law_is : List Str := [("_law_actual" : Str), ("_law_due" : Str)]
theorem fs_law_is : FnScope N_law_is ps_law_is (defScope s_law_is) := ⟨rfl, rfl, rfl, by decide +kernel, rfl, by decide +kernel, by decide +kernel⟩
theorem bd_law_is : BindsAll ps_law_is "_law_is" "_law_is" (defArgs s_law_is) (defBody s_law_is) (defScope s_law_is) := fun _ _ _ _ _ _ us hl => match us, hl with | [_, _], _ => rfl
theorem ck_law_is : (okV N_law_is (defScope s_law_is) 0 ("_law_actual" : Str) && (okV N_law_is (defScope s_law_is) 1 ("_law_due" : Str) && (okW N_law_is (defScope s_law_is) 0 ("_law_actual" : Str) && (okW N_law_is (defScope s_law_is) 1 ("_law_due" : Str) && (okG (defScope s_law_is) ("isinstance" : Str) && (okG (defScope s_law_is) ("int" : Str) && okG (defScope s_law_is) ("bool" : Str))))))) = true := by decide +kernel
theorem nm_law_is {X : Cx} {k : Nat} (C : Ctx X N_law_is (defScope s_law_is) k) : Slot X 0 ("_law_actual" : Str) ∧ Slot X 1 ("_law_due" : Str) ∧ SlotW X 0 ("_law_actual" : Str) ∧ SlotW X 1 ("_law_due" : Str) ∧ GlN X ("isinstance" : Str) ∧ GlN X ("int" : Str) ∧ GlN X ("bool" : Str) := by
  have h := ck_law_is
  simp only [Bool.and_eq_true] at h
  exact ⟨okV_slot C (h.1), okV_slot C (h.2.1), okW_slot C (h.2.2.1), okW_slot C (h.2.2.2.1), okG_gl C (h.2.2.2.2.1), okG_gl C (h.2.2.2.2.2.1), okG_gl C (h.2.2.2.2.2.2)⟩
abbrev N_law_cell : List Str := [("_law_script" : Str), ("_law_k" : Str)]
abbrev ps_law_cell : List Str := [("_law_script" : Str), ("_law_k" : Str)]
theorem fs_law_cell : FnScope N_law_cell ps_law_cell (defScope s_law_cell) := ⟨rfl, rfl, rfl, by decide +kernel, rfl, by decide +kernel, by decide +kernel⟩
theorem bd_law_cell : BindsAll ps_law_cell "_law_cell" "_law_cell" (defArgs s_law_cell) (defBody s_law_cell) (defScope s_law_cell) := fun _ _ _ _ _ _ us hl => match us, hl with | [_, _], _ => rfl
theorem ck_law_cell : (okV N_law_cell (defScope s_law_cell) 0 ("_law_script" : Str) && (okV N_law_cell (defScope s_law_cell) 1 ("_law_k" : Str) && (okW N_law_cell (defScope s_law_cell) 0 ("_law_script" : Str) && (okW N_law_cell (defScope s_law_cell) 1 ("_law_k" : Str) && okG (defScope s_law_cell) ("len" : Str))))) = true := by decide +kernel
theorem nm_law_cell {X : Cx} {k : Nat} (C : Ctx X N_law_cell (defScope s_law_cell) k) : Slot X 0 ("_law_script" : Str) ∧ Slot X 1 ("_law_k" : Str) ∧ SlotW X 0 ("_law_script" : Str) ∧ SlotW X 1 ("_law_k" : Str) ∧ GlN X ("len" : Str) := by
  have h := ck_law_cell
  simp only [Bool.and_eq_true] at h
  exact ⟨okV_slot C (h.1), okV_slot C (h.2.1), okW_slot C (h.2.2.1), okW_slot C (h.2.2.2.1), okG_gl C (h.2.2.2.2)⟩
abbrev N_law_stream : List Str := [("_law_cell_here" : Str), ("_law_k" : Str), ("_law_digits" : Str)]
abbrev ps_law_stream : List Str := [("_law_cell_here" : Str), ("_law_k" : Str)]
theorem fs_law_stream : FnScope N_law_stream ps_law_stream (defScope s_law_stream) := ⟨rfl, rfl, rfl, by decide +kernel, rfl, by decide +kernel, by decide +kernel⟩
theorem bd_law_stream : BindsAll ps_law_stream "_law_stream" "_law_stream" (defArgs s_law_stream) (defBody s_law_stream) (defScope s_law_stream) := fun _ _ _ _ _ _ us hl => match us, hl with | [_, _], _ => rfl
theorem ck_law_stream : (okV N_law_stream (defScope s_law_stream) 0 ("_law_cell_here" : Str) && (okV N_law_stream (defScope s_law_stream) 1 ("_law_k" : Str) && (okV N_law_stream (defScope s_law_stream) 2 ("_law_digits" : Str) && (okW N_law_stream (defScope s_law_stream) 0 ("_law_cell_here" : Str) && (okW N_law_stream (defScope s_law_stream) 1 ("_law_k" : Str) && (okW N_law_stream (defScope s_law_stream) 2 ("_law_digits" : Str) && okG (defScope s_law_stream) ("int" : Str))))))) = true := by decide +kernel
theorem nm_law_stream {X : Cx} {k : Nat} (C : Ctx X N_law_stream (defScope s_law_stream) k) : Slot X 0 ("_law_cell_here" : Str) ∧ Slot X 1 ("_law_k" : Str) ∧ Slot X 2 ("_law_digits" : Str) ∧ SlotW X 0 ("_law_cell_here" : Str) ∧ SlotW X 1 ("_law_k" : Str) ∧ SlotW X 2 ("_law_digits" : Str) ∧ GlN X ("int" : Str) := by
  have h := ck_law_stream
  simp only [Bool.and_eq_true] at h
  exact ⟨okV_slot C (h.1), okV_slot C (h.2.1), okV_slot C (h.2.2.1), okW_slot C (h.2.2.2.1), okW_slot C (h.2.2.2.2.1), okW_slot C (h.2.2.2.2.2.1), okG_gl C (h.2.2.2.2.2.2)⟩
abbrev N_law_next : List Str := [("_law_stream_here" : Str), ("_law_size" : Str), ("_law_drawn" : Str)]
abbrev ps_law_next : List Str := [("_law_stream_here" : Str), ("_law_size" : Str)]
theorem fs_law_next : FnScope N_law_next ps_law_next (defScope s_law_next) := ⟨rfl, rfl, rfl, by decide +kernel, rfl, by decide +kernel, by decide +kernel⟩
theorem bd_law_next : BindsAll ps_law_next "_law_next" "_law_next" (defArgs s_law_next) (defBody s_law_next) (defScope s_law_next) := fun _ _ _ _ _ _ us hl => match us, hl with | [_, _], _ => rfl
theorem ck_law_next : (okV N_law_next (defScope s_law_next) 0 ("_law_stream_here" : Str) && (okV N_law_next (defScope s_law_next) 1 ("_law_size" : Str) && (okV N_law_next (defScope s_law_next) 2 ("_law_drawn" : Str) && (okW N_law_next (defScope s_law_next) 0 ("_law_stream_here" : Str) && (okW N_law_next (defScope s_law_next) 1 ("_law_size" : Str) && (okW N_law_next (defScope s_law_next) 2 ("_law_drawn" : Str) && okG (defScope s_law_next) ("int" : Str))))))) = true := by decide +kernel
theorem nm_law_next {X : Cx} {k : Nat} (C : Ctx X N_law_next (defScope s_law_next) k) : Slot X 0 ("_law_stream_here" : Str) ∧ Slot X 1 ("_law_size" : Str) ∧ Slot X 2 ("_law_drawn" : Str) ∧ SlotW X 0 ("_law_stream_here" : Str) ∧ SlotW X 1 ("_law_size" : Str) ∧ SlotW X 2 ("_law_drawn" : Str) ∧ GlN X ("int" : Str) := by
  have h := ck_law_next
  simp only [Bool.and_eq_true] at h
  exact ⟨okV_slot C (h.1), okV_slot C (h.2.1), okV_slot C (h.2.2.1), okW_slot C (h.2.2.2.1), okW_slot C (h.2.2.2.2.1), okW_slot C (h.2.2.2.2.2.1), okG_gl C (h.2.2.2.2.2.2)⟩
abbrev N_law_number : List Str := [("_law_stream_here" : Str), ("_law_kind" : Str)]
abbrev ps_law_number : List Str := [("_law_stream_here" : Str)]
theorem fs_law_number : FnScope N_law_number ps_law_number (defScope s_law_number) := ⟨rfl, rfl, rfl, by decide +kernel, rfl, by decide +kernel, by decide +kernel⟩
theorem bd_law_number : BindsAll ps_law_number "_law_number" "_law_number" (defArgs s_law_number) (defBody s_law_number) (defScope s_law_number) := fun _ _ _ _ _ _ us hl => match us, hl with | [_], _ => rfl
theorem ck_law_number : (okV N_law_number (defScope s_law_number) 0 ("_law_stream_here" : Str) && (okV N_law_number (defScope s_law_number) 1 ("_law_kind" : Str) && (okW N_law_number (defScope s_law_number) 0 ("_law_stream_here" : Str) && (okW N_law_number (defScope s_law_number) 1 ("_law_kind" : Str) && okG (defScope s_law_number) ("_law_next" : Str))))) = true := by decide +kernel
theorem nm_law_number {X : Cx} {k : Nat} (C : Ctx X N_law_number (defScope s_law_number) k) : Slot X 0 ("_law_stream_here" : Str) ∧ Slot X 1 ("_law_kind" : Str) ∧ SlotW X 0 ("_law_stream_here" : Str) ∧ SlotW X 1 ("_law_kind" : Str) ∧ GlN X ("_law_next" : Str) := by
  have h := ck_law_number
  simp only [Bool.and_eq_true] at h
  exact ⟨okV_slot C (h.1), okV_slot C (h.2.1), okW_slot C (h.2.2.1), okW_slot C (h.2.2.2.1), okG_gl C (h.2.2.2.2)⟩
abbrev N_law_name : List Str := [("_law_stream_here" : Str), ("_law_letters" : Str), ("_law_kind" : Str), ("_law_size" : Str), ("_law_name_here" : Str), ("_law_k" : Str)]
abbrev ps_law_name : List Str := [("_law_stream_here" : Str)]
theorem fs_law_name : FnScope N_law_name ps_law_name (defScope s_law_name) := ⟨rfl, rfl, rfl, by decide +kernel, rfl, by decide +kernel, by decide +kernel⟩
theorem bd_law_name : BindsAll ps_law_name "_law_name" "_law_name" (defArgs s_law_name) (defBody s_law_name) (defScope s_law_name) := fun _ _ _ _ _ _ us hl => match us, hl with | [_], _ => rfl
theorem ck_law_name : (okV N_law_name (defScope s_law_name) 0 ("_law_stream_here" : Str) && (okV N_law_name (defScope s_law_name) 1 ("_law_letters" : Str) && (okV N_law_name (defScope s_law_name) 2 ("_law_kind" : Str) && (okV N_law_name (defScope s_law_name) 3 ("_law_size" : Str) && (okV N_law_name (defScope s_law_name) 4 ("_law_name_here" : Str) && (okV N_law_name (defScope s_law_name) 5 ("_law_k" : Str) && (okW N_law_name (defScope s_law_name) 0 ("_law_stream_here" : Str) && (okW N_law_name (defScope s_law_name) 1 ("_law_letters" : Str) && (okW N_law_name (defScope s_law_name) 2 ("_law_kind" : Str) && (okW N_law_name (defScope s_law_name) 3 ("_law_size" : Str) && (okW N_law_name (defScope s_law_name) 4 ("_law_name_here" : Str) && (okW N_law_name (defScope s_law_name) 5 ("_law_k" : Str) && (okG (defScope s_law_name) ("_law_next" : Str) && okG (defScope s_law_name) ("range" : Str)))))))))))))) = true := by decide +kernel
theorem nm_law_name {X : Cx} {k : Nat} (C : Ctx X N_law_name (defScope s_law_name) k) : Slot X 0 ("_law_stream_here" : Str) ∧ Slot X 1 ("_law_letters" : Str) ∧ Slot X 2 ("_law_kind" : Str) ∧ Slot X 3 ("_law_size" : Str) ∧ Slot X 4 ("_law_name_here" : Str) ∧ Slot X 5 ("_law_k" : Str) ∧ SlotW X 0 ("_law_stream_here" : Str) ∧ SlotW X 1 ("_law_letters" : Str) ∧ SlotW X 2 ("_law_kind" : Str) ∧ SlotW X 3 ("_law_size" : Str) ∧ SlotW X 4 ("_law_name_here" : Str) ∧ SlotW X 5 ("_law_k" : Str) ∧ GlN X ("_law_next" : Str) ∧ GlN X ("range" : Str) := by
  have h := ck_law_name
  simp only [Bool.and_eq_true] at h
  exact ⟨okV_slot C (h.1), okV_slot C (h.2.1), okV_slot C (h.2.2.1), okV_slot C (h.2.2.2.1), okV_slot C (h.2.2.2.2.1), okV_slot C (h.2.2.2.2.2.1), okW_slot C (h.2.2.2.2.2.2.1), okW_slot C (h.2.2.2.2.2.2.2.1), okW_slot C (h.2.2.2.2.2.2.2.2.1), okW_slot C (h.2.2.2.2.2.2.2.2.2.1), okW_slot C (h.2.2.2.2.2.2.2.2.2.2.1), okW_slot C (h.2.2.2.2.2.2.2.2.2.2.2.1), okG_gl C (h.2.2.2.2.2.2.2.2.2.2.2.2.1), okG_gl C (h.2.2.2.2.2.2.2.2.2.2.2.2.2)⟩
abbrev N_law_names : List Str := [("_law_stream_here" : Str), ("_law_most" : Str), ("_law_start" : Str), ("_law_names_here" : Str), ("_law_k" : Str), ("_law_name_here" : Str), ("_law_char" : Str)]
abbrev ps_law_names : List Str := [("_law_stream_here" : Str), ("_law_most" : Str)]
theorem fs_law_names : FnScope N_law_names ps_law_names (defScope s_law_names) := ⟨rfl, rfl, rfl, by decide +kernel, rfl, by decide +kernel, by decide +kernel⟩
theorem bd_law_names : BindsAll ps_law_names "_law_names" "_law_names" (defArgs s_law_names) (defBody s_law_names) (defScope s_law_names) := fun _ _ _ _ _ _ us hl => match us, hl with | [_, _], _ => rfl
theorem ck_law_names : (okV N_law_names (defScope s_law_names) 0 ("_law_stream_here" : Str) && (okV N_law_names (defScope s_law_names) 1 ("_law_most" : Str) && (okV N_law_names (defScope s_law_names) 2 ("_law_start" : Str) && (okV N_law_names (defScope s_law_names) 3 ("_law_names_here" : Str) && (okV N_law_names (defScope s_law_names) 4 ("_law_k" : Str) && (okV N_law_names (defScope s_law_names) 5 ("_law_name_here" : Str) && (okW N_law_names (defScope s_law_names) 0 ("_law_stream_here" : Str) && (okW N_law_names (defScope s_law_names) 1 ("_law_most" : Str) && (okW N_law_names (defScope s_law_names) 2 ("_law_start" : Str) && (okW N_law_names (defScope s_law_names) 3 ("_law_names_here" : Str) && (okW N_law_names (defScope s_law_names) 4 ("_law_k" : Str) && (okW N_law_names (defScope s_law_names) 5 ("_law_name_here" : Str) && (okG (defScope s_law_names) ("_law_next" : Str) && (okG (defScope s_law_names) ("range" : Str) && (okG (defScope s_law_names) ("_law_name" : Str) && okG (defScope s_law_names) ("sorted" : Str)))))))))))))))) = true := by decide +kernel
theorem nm_law_names {X : Cx} {k : Nat} (C : Ctx X N_law_names (defScope s_law_names) k) : Slot X 0 ("_law_stream_here" : Str) ∧ Slot X 1 ("_law_most" : Str) ∧ Slot X 2 ("_law_start" : Str) ∧ Slot X 3 ("_law_names_here" : Str) ∧ Slot X 4 ("_law_k" : Str) ∧ Slot X 5 ("_law_name_here" : Str) ∧ SlotW X 0 ("_law_stream_here" : Str) ∧ SlotW X 1 ("_law_most" : Str) ∧ SlotW X 2 ("_law_start" : Str) ∧ SlotW X 3 ("_law_names_here" : Str) ∧ SlotW X 4 ("_law_k" : Str) ∧ SlotW X 5 ("_law_name_here" : Str) ∧ GlN X ("_law_next" : Str) ∧ GlN X ("range" : Str) ∧ GlN X ("_law_name" : Str) ∧ GlN X ("sorted" : Str) := by
  have h := ck_law_names
  simp only [Bool.and_eq_true] at h
  exact ⟨okV_slot C (h.1), okV_slot C (h.2.1), okV_slot C (h.2.2.1), okV_slot C (h.2.2.2.1), okV_slot C (h.2.2.2.2.1), okV_slot C (h.2.2.2.2.2.1), okW_slot C (h.2.2.2.2.2.2.1), okW_slot C (h.2.2.2.2.2.2.2.1), okW_slot C (h.2.2.2.2.2.2.2.2.1), okW_slot C (h.2.2.2.2.2.2.2.2.2.1), okW_slot C (h.2.2.2.2.2.2.2.2.2.2.1), okW_slot C (h.2.2.2.2.2.2.2.2.2.2.2.1), okG_gl C (h.2.2.2.2.2.2.2.2.2.2.2.2.1), okG_gl C (h.2.2.2.2.2.2.2.2.2.2.2.2.2.1), okG_gl C (h.2.2.2.2.2.2.2.2.2.2.2.2.2.2.1), okG_gl C (h.2.2.2.2.2.2.2.2.2.2.2.2.2.2.2)⟩
abbrev N_law_line : List Str := [("_law_stream_here" : Str), ("_law_size" : Str), ("_law_chars" : Str), ("_law_start" : Str), ("_law_step" : Str), ("_law_gap" : Str), ("_law_line_here" : Str), ("_law_k" : Str), ("_law_char" : Str)]
abbrev ps_law_line : List Str := [("_law_stream_here" : Str), ("_law_size" : Str)]
theorem fs_law_line : FnScope N_law_line ps_law_line (defScope s_law_line) := ⟨rfl, rfl, rfl, by decide +kernel, rfl, by decide +kernel, by decide +kernel⟩
theorem bd_law_line : BindsAll ps_law_line "_law_line" "_law_line" (defArgs s_law_line) (defBody s_law_line) (defScope s_law_line) := fun _ _ _ _ _ _ us hl => match us, hl with | [_, _], _ => rfl
theorem ck_law_line : (okV N_law_line (defScope s_law_line) 0 ("_law_stream_here" : Str) && (okV N_law_line (defScope s_law_line) 1 ("_law_size" : Str) && (okV N_law_line (defScope s_law_line) 2 ("_law_chars" : Str) && (okV N_law_line (defScope s_law_line) 3 ("_law_start" : Str) && (okV N_law_line (defScope s_law_line) 4 ("_law_step" : Str) && (okV N_law_line (defScope s_law_line) 5 ("_law_gap" : Str) && (okV N_law_line (defScope s_law_line) 6 ("_law_line_here" : Str) && (okV N_law_line (defScope s_law_line) 7 ("_law_k" : Str) && (okV N_law_line (defScope s_law_line) 8 ("_law_char" : Str) && (okW N_law_line (defScope s_law_line) 0 ("_law_stream_here" : Str) && (okW N_law_line (defScope s_law_line) 1 ("_law_size" : Str) && (okW N_law_line (defScope s_law_line) 2 ("_law_chars" : Str) && (okW N_law_line (defScope s_law_line) 3 ("_law_start" : Str) && (okW N_law_line (defScope s_law_line) 4 ("_law_step" : Str) && (okW N_law_line (defScope s_law_line) 5 ("_law_gap" : Str) && (okW N_law_line (defScope s_law_line) 6 ("_law_line_here" : Str) && (okW N_law_line (defScope s_law_line) 7 ("_law_k" : Str) && (okW N_law_line (defScope s_law_line) 8 ("_law_char" : Str) && (okG (defScope s_law_line) ("_law_next" : Str) && (okG (defScope s_law_line) ("range" : Str) && okG (defScope s_law_line) ("int" : Str))))))))))))))))))))) = true := by decide +kernel
theorem nm_law_line {X : Cx} {k : Nat} (C : Ctx X N_law_line (defScope s_law_line) k) : Slot X 0 ("_law_stream_here" : Str) ∧ Slot X 1 ("_law_size" : Str) ∧ Slot X 2 ("_law_chars" : Str) ∧ Slot X 3 ("_law_start" : Str) ∧ Slot X 4 ("_law_step" : Str) ∧ Slot X 5 ("_law_gap" : Str) ∧ Slot X 6 ("_law_line_here" : Str) ∧ Slot X 7 ("_law_k" : Str) ∧ Slot X 8 ("_law_char" : Str) ∧ SlotW X 0 ("_law_stream_here" : Str) ∧ SlotW X 1 ("_law_size" : Str) ∧ SlotW X 2 ("_law_chars" : Str) ∧ SlotW X 3 ("_law_start" : Str) ∧ SlotW X 4 ("_law_step" : Str) ∧ SlotW X 5 ("_law_gap" : Str) ∧ SlotW X 6 ("_law_line_here" : Str) ∧ SlotW X 7 ("_law_k" : Str) ∧ SlotW X 8 ("_law_char" : Str) ∧ GlN X ("_law_next" : Str) ∧ GlN X ("range" : Str) ∧ GlN X ("int" : Str) := by
  have h := ck_law_line
  simp only [Bool.and_eq_true] at h
  exact ⟨okV_slot C (h.1), okV_slot C (h.2.1), okV_slot C (h.2.2.1), okV_slot C (h.2.2.2.1), okV_slot C (h.2.2.2.2.1), okV_slot C (h.2.2.2.2.2.1), okV_slot C (h.2.2.2.2.2.2.1), okV_slot C (h.2.2.2.2.2.2.2.1), okV_slot C (h.2.2.2.2.2.2.2.2.1), okW_slot C (h.2.2.2.2.2.2.2.2.2.1), okW_slot C (h.2.2.2.2.2.2.2.2.2.2.1), okW_slot C (h.2.2.2.2.2.2.2.2.2.2.2.1), okW_slot C (h.2.2.2.2.2.2.2.2.2.2.2.2.1), okW_slot C (h.2.2.2.2.2.2.2.2.2.2.2.2.2.1), okW_slot C (h.2.2.2.2.2.2.2.2.2.2.2.2.2.2.1), okW_slot C (h.2.2.2.2.2.2.2.2.2.2.2.2.2.2.2.1), okW_slot C (h.2.2.2.2.2.2.2.2.2.2.2.2.2.2.2.2.1), okW_slot C (h.2.2.2.2.2.2.2.2.2.2.2.2.2.2.2.2.2.1), okG_gl C (h.2.2.2.2.2.2.2.2.2.2.2.2.2.2.2.2.2.2.1), okG_gl C (h.2.2.2.2.2.2.2.2.2.2.2.2.2.2.2.2.2.2.2.1), okG_gl C (h.2.2.2.2.2.2.2.2.2.2.2.2.2.2.2.2.2.2.2.2)⟩
abbrev N_law_title : List Str := [("_law_stream_here" : Str), ("_law_size" : Str)]
abbrev ps_law_title : List Str := [("_law_stream_here" : Str)]
theorem fs_law_title : FnScope N_law_title ps_law_title (defScope s_law_title) := ⟨rfl, rfl, rfl, by decide +kernel, rfl, by decide +kernel, by decide +kernel⟩
theorem bd_law_title : BindsAll ps_law_title "_law_title" "_law_title" (defArgs s_law_title) (defBody s_law_title) (defScope s_law_title) := fun _ _ _ _ _ _ us hl => match us, hl with | [_], _ => rfl
theorem ck_law_title : (okV N_law_title (defScope s_law_title) 0 ("_law_stream_here" : Str) && (okV N_law_title (defScope s_law_title) 1 ("_law_size" : Str) && (okW N_law_title (defScope s_law_title) 0 ("_law_stream_here" : Str) && (okW N_law_title (defScope s_law_title) 1 ("_law_size" : Str) && (okG (defScope s_law_title) ("_law_next" : Str) && okG (defScope s_law_title) ("_law_line" : Str)))))) = true := by decide +kernel
theorem nm_law_title {X : Cx} {k : Nat} (C : Ctx X N_law_title (defScope s_law_title) k) : Slot X 0 ("_law_stream_here" : Str) ∧ Slot X 1 ("_law_size" : Str) ∧ SlotW X 0 ("_law_stream_here" : Str) ∧ SlotW X 1 ("_law_size" : Str) ∧ GlN X ("_law_next" : Str) ∧ GlN X ("_law_line" : Str) := by
  have h := ck_law_title
  simp only [Bool.and_eq_true] at h
  exact ⟨okV_slot C (h.1), okV_slot C (h.2.1), okW_slot C (h.2.2.1), okW_slot C (h.2.2.2.1), okG_gl C (h.2.2.2.2.1), okG_gl C (h.2.2.2.2.2)⟩
abbrev N_law_text : List Str := [("_law_stream_here" : Str), ("_law_size" : Str), ("_law_line_here" : Str), ("_law_gap" : Str), ("_law_shift" : Str), ("_law_text_here" : Str), ("_law_k" : Str)]
abbrev ps_law_text : List Str := [("_law_stream_here" : Str)]
theorem fs_law_text : FnScope N_law_text ps_law_text (defScope s_law_text) := ⟨rfl, rfl, rfl, by decide +kernel, rfl, by decide +kernel, by decide +kernel⟩
theorem bd_law_text : BindsAll ps_law_text "_law_text" "_law_text" (defArgs s_law_text) (defBody s_law_text) (defScope s_law_text) := fun _ _ _ _ _ _ us hl => match us, hl with | [_], _ => rfl
theorem ck_law_text : (okV N_law_text (defScope s_law_text) 0 ("_law_stream_here" : Str) && (okV N_law_text (defScope s_law_text) 1 ("_law_size" : Str) && (okV N_law_text (defScope s_law_text) 2 ("_law_line_here" : Str) && (okV N_law_text (defScope s_law_text) 3 ("_law_gap" : Str) && (okV N_law_text (defScope s_law_text) 4 ("_law_shift" : Str) && (okV N_law_text (defScope s_law_text) 5 ("_law_text_here" : Str) && (okV N_law_text (defScope s_law_text) 6 ("_law_k" : Str) && (okW N_law_text (defScope s_law_text) 0 ("_law_stream_here" : Str) && (okW N_law_text (defScope s_law_text) 1 ("_law_size" : Str) && (okW N_law_text (defScope s_law_text) 2 ("_law_line_here" : Str) && (okW N_law_text (defScope s_law_text) 3 ("_law_gap" : Str) && (okW N_law_text (defScope s_law_text) 4 ("_law_shift" : Str) && (okW N_law_text (defScope s_law_text) 5 ("_law_text_here" : Str) && (okW N_law_text (defScope s_law_text) 6 ("_law_k" : Str) && (okG (defScope s_law_text) ("_law_next" : Str) && (okG (defScope s_law_text) ("_law_line" : Str) && (okG (defScope s_law_text) ("range" : Str) && okG (defScope s_law_text) ("int" : Str)))))))))))))))))) = true := by decide +kernel
theorem nm_law_text {X : Cx} {k : Nat} (C : Ctx X N_law_text (defScope s_law_text) k) : Slot X 0 ("_law_stream_here" : Str) ∧ Slot X 1 ("_law_size" : Str) ∧ Slot X 2 ("_law_line_here" : Str) ∧ Slot X 3 ("_law_gap" : Str) ∧ Slot X 4 ("_law_shift" : Str) ∧ Slot X 5 ("_law_text_here" : Str) ∧ Slot X 6 ("_law_k" : Str) ∧ SlotW X 0 ("_law_stream_here" : Str) ∧ SlotW X 1 ("_law_size" : Str) ∧ SlotW X 2 ("_law_line_here" : Str) ∧ SlotW X 3 ("_law_gap" : Str) ∧ SlotW X 4 ("_law_shift" : Str) ∧ SlotW X 5 ("_law_text_here" : Str) ∧ SlotW X 6 ("_law_k" : Str) ∧ GlN X ("_law_next" : Str) ∧ GlN X ("_law_line" : Str) ∧ GlN X ("range" : Str) ∧ GlN X ("int" : Str) := by
  have h := ck_law_text
  simp only [Bool.and_eq_true] at h
  exact ⟨okV_slot C (h.1), okV_slot C (h.2.1), okV_slot C (h.2.2.1), okV_slot C (h.2.2.2.1), okV_slot C (h.2.2.2.2.1), okV_slot C (h.2.2.2.2.2.1), okV_slot C (h.2.2.2.2.2.2.1), okW_slot C (h.2.2.2.2.2.2.2.1), okW_slot C (h.2.2.2.2.2.2.2.2.1), okW_slot C (h.2.2.2.2.2.2.2.2.2.1), okW_slot C (h.2.2.2.2.2.2.2.2.2.2.1), okW_slot C (h.2.2.2.2.2.2.2.2.2.2.2.1), okW_slot C (h.2.2.2.2.2.2.2.2.2.2.2.2.1), okW_slot C (h.2.2.2.2.2.2.2.2.2.2.2.2.2.1), okG_gl C (h.2.2.2.2.2.2.2.2.2.2.2.2.2.2.1), okG_gl C (h.2.2.2.2.2.2.2.2.2.2.2.2.2.2.2.1), okG_gl C (h.2.2.2.2.2.2.2.2.2.2.2.2.2.2.2.2.1), okG_gl C (h.2.2.2.2.2.2.2.2.2.2.2.2.2.2.2.2.2)⟩
abbrev N_law_body : List Str := [("_law_stream_here" : Str), ("_law_author" : Str), ("_law_kind" : Str), ("_law_title_here" : Str), ("_law_name_here" : Str), ("_law_ref" : Str)]
abbrev ps_law_body : List Str := [("_law_stream_here" : Str), ("_law_author" : Str)]
theorem fs_law_body : FnScope N_law_body ps_law_body (defScope s_law_body) := ⟨rfl, rfl, rfl, by decide +kernel, rfl, by decide +kernel, by decide +kernel⟩
theorem bd_law_body : BindsAll ps_law_body "_law_body" "_law_body" (defArgs s_law_body) (defBody s_law_body) (defScope s_law_body) := fun _ _ _ _ _ _ us hl => match us, hl with | [_, _], _ => rfl
theorem ck_law_body : (okV N_law_body (defScope s_law_body) 0 ("_law_stream_here" : Str) && (okV N_law_body (defScope s_law_body) 1 ("_law_author" : Str) && (okV N_law_body (defScope s_law_body) 2 ("_law_kind" : Str) && (okV N_law_body (defScope s_law_body) 3 ("_law_title_here" : Str) && (okV N_law_body (defScope s_law_body) 4 ("_law_name_here" : Str) && (okV N_law_body (defScope s_law_body) 5 ("_law_ref" : Str) && (okW N_law_body (defScope s_law_body) 0 ("_law_stream_here" : Str) && (okW N_law_body (defScope s_law_body) 1 ("_law_author" : Str) && (okW N_law_body (defScope s_law_body) 2 ("_law_kind" : Str) && (okW N_law_body (defScope s_law_body) 3 ("_law_title_here" : Str) && (okW N_law_body (defScope s_law_body) 4 ("_law_name_here" : Str) && (okW N_law_body (defScope s_law_body) 5 ("_law_ref" : Str) && (okG (defScope s_law_body) ("_law_next" : Str) && (okG (defScope s_law_body) ("_law_title" : Str) && (okG (defScope s_law_body) ("tuple" : Str) && (okG (defScope s_law_body) ("_law_names" : Str) && (okG (defScope s_law_body) ("_law_text" : Str) && (okG (defScope s_law_body) ("_law_name" : Str) && okG (defScope s_law_body) ("_law_number" : Str))))))))))))))))))) = true := by decide +kernel
theorem nm_law_body {X : Cx} {k : Nat} (C : Ctx X N_law_body (defScope s_law_body) k) : Slot X 0 ("_law_stream_here" : Str) ∧ Slot X 1 ("_law_author" : Str) ∧ Slot X 2 ("_law_kind" : Str) ∧ Slot X 3 ("_law_title_here" : Str) ∧ Slot X 4 ("_law_name_here" : Str) ∧ Slot X 5 ("_law_ref" : Str) ∧ SlotW X 0 ("_law_stream_here" : Str) ∧ SlotW X 1 ("_law_author" : Str) ∧ SlotW X 2 ("_law_kind" : Str) ∧ SlotW X 3 ("_law_title_here" : Str) ∧ SlotW X 4 ("_law_name_here" : Str) ∧ SlotW X 5 ("_law_ref" : Str) ∧ GlN X ("_law_next" : Str) ∧ GlN X ("_law_title" : Str) ∧ GlN X ("tuple" : Str) ∧ GlN X ("_law_names" : Str) ∧ GlN X ("_law_text" : Str) ∧ GlN X ("_law_name" : Str) ∧ GlN X ("_law_number" : Str) := by
  have h := ck_law_body
  simp only [Bool.and_eq_true] at h
  exact ⟨okV_slot C (h.1), okV_slot C (h.2.1), okV_slot C (h.2.2.1), okV_slot C (h.2.2.2.1), okV_slot C (h.2.2.2.2.1), okV_slot C (h.2.2.2.2.2.1), okW_slot C (h.2.2.2.2.2.2.1), okW_slot C (h.2.2.2.2.2.2.2.1), okW_slot C (h.2.2.2.2.2.2.2.2.1), okW_slot C (h.2.2.2.2.2.2.2.2.2.1), okW_slot C (h.2.2.2.2.2.2.2.2.2.2.1), okW_slot C (h.2.2.2.2.2.2.2.2.2.2.2.1), okG_gl C (h.2.2.2.2.2.2.2.2.2.2.2.2.1), okG_gl C (h.2.2.2.2.2.2.2.2.2.2.2.2.2.1), okG_gl C (h.2.2.2.2.2.2.2.2.2.2.2.2.2.2.1), okG_gl C (h.2.2.2.2.2.2.2.2.2.2.2.2.2.2.2.1), okG_gl C (h.2.2.2.2.2.2.2.2.2.2.2.2.2.2.2.2.1), okG_gl C (h.2.2.2.2.2.2.2.2.2.2.2.2.2.2.2.2.2.1), okG_gl C (h.2.2.2.2.2.2.2.2.2.2.2.2.2.2.2.2.2.2)⟩
abbrev N_law_seen : List Str := [("_law_stream_here" : Str), ("_law_author" : Str), ("_law_number_here" : Str), ("_law_counts" : Str), ("_law_name_here" : Str), ("_law_k" : Str)]
abbrev ps_law_seen : List Str := [("_law_stream_here" : Str), ("_law_author" : Str), ("_law_number_here" : Str)]
theorem fs_law_seen : FnScope N_law_seen ps_law_seen (defScope s_law_seen) := ⟨rfl, rfl, rfl, by decide +kernel, rfl, by decide +kernel, by decide +kernel⟩
theorem bd_law_seen : BindsAll ps_law_seen "_law_seen" "_law_seen" (defArgs s_law_seen) (defBody s_law_seen) (defScope s_law_seen) := fun _ _ _ _ _ _ us hl => match us, hl with | [_, _, _], _ => rfl
theorem ck_law_seen : (okV N_law_seen (defScope s_law_seen) 0 ("_law_stream_here" : Str) && (okV N_law_seen (defScope s_law_seen) 1 ("_law_author" : Str) && (okV N_law_seen (defScope s_law_seen) 2 ("_law_number_here" : Str) && (okV N_law_seen (defScope s_law_seen) 3 ("_law_counts" : Str) && (okV N_law_seen (defScope s_law_seen) 4 ("_law_name_here" : Str) && (okV N_law_seen (defScope s_law_seen) 5 ("_law_k" : Str) && (okW N_law_seen (defScope s_law_seen) 0 ("_law_stream_here" : Str) && (okW N_law_seen (defScope s_law_seen) 1 ("_law_author" : Str) && (okW N_law_seen (defScope s_law_seen) 2 ("_law_number_here" : Str) && (okW N_law_seen (defScope s_law_seen) 3 ("_law_counts" : Str) && (okW N_law_seen (defScope s_law_seen) 4 ("_law_name_here" : Str) && (okW N_law_seen (defScope s_law_seen) 5 ("_law_k" : Str) && (okG (defScope s_law_seen) ("_law_names" : Str) && (okG (defScope s_law_seen) ("_law_next" : Str) && (okG (defScope s_law_seen) ("_law_number" : Str) && (okG (defScope s_law_seen) ("range" : Str) && (okG (defScope s_law_seen) ("str" : Str) && (okG (defScope s_law_seen) ("tuple" : Str) && okG (defScope s_law_seen) ("sorted" : Str))))))))))))))))))) = true := by decide +kernel
theorem nm_law_seen {X : Cx} {k : Nat} (C : Ctx X N_law_seen (defScope s_law_seen) k) : Slot X 0 ("_law_stream_here" : Str) ∧ Slot X 1 ("_law_author" : Str) ∧ Slot X 2 ("_law_number_here" : Str) ∧ Slot X 3 ("_law_counts" : Str) ∧ Slot X 4 ("_law_name_here" : Str) ∧ Slot X 5 ("_law_k" : Str) ∧ SlotW X 0 ("_law_stream_here" : Str) ∧ SlotW X 1 ("_law_author" : Str) ∧ SlotW X 2 ("_law_number_here" : Str) ∧ SlotW X 3 ("_law_counts" : Str) ∧ SlotW X 4 ("_law_name_here" : Str) ∧ SlotW X 5 ("_law_k" : Str) ∧ GlN X ("_law_names" : Str) ∧ GlN X ("_law_next" : Str) ∧ GlN X ("_law_number" : Str) ∧ GlN X ("range" : Str) ∧ GlN X ("str" : Str) ∧ GlN X ("tuple" : Str) ∧ GlN X ("sorted" : Str) := by
  have h := ck_law_seen
  simp only [Bool.and_eq_true] at h
  exact ⟨okV_slot C (h.1), okV_slot C (h.2.1), okV_slot C (h.2.2.1), okV_slot C (h.2.2.2.1), okV_slot C (h.2.2.2.2.1), okV_slot C (h.2.2.2.2.2.1), okW_slot C (h.2.2.2.2.2.2.1), okW_slot C (h.2.2.2.2.2.2.2.1), okW_slot C (h.2.2.2.2.2.2.2.2.1), okW_slot C (h.2.2.2.2.2.2.2.2.2.1), okW_slot C (h.2.2.2.2.2.2.2.2.2.2.1), okW_slot C (h.2.2.2.2.2.2.2.2.2.2.2.1), okG_gl C (h.2.2.2.2.2.2.2.2.2.2.2.2.1), okG_gl C (h.2.2.2.2.2.2.2.2.2.2.2.2.2.1), okG_gl C (h.2.2.2.2.2.2.2.2.2.2.2.2.2.2.1), okG_gl C (h.2.2.2.2.2.2.2.2.2.2.2.2.2.2.2.1), okG_gl C (h.2.2.2.2.2.2.2.2.2.2.2.2.2.2.2.2.1), okG_gl C (h.2.2.2.2.2.2.2.2.2.2.2.2.2.2.2.2.2.1), okG_gl C (h.2.2.2.2.2.2.2.2.2.2.2.2.2.2.2.2.2.2)⟩
abbrev N_law_value : List Str := [("_law_stream_here" : Str), ("_law_author" : Str), ("_law_body_here" : Str), ("_law_number_here" : Str), ("_law_least" : Str), ("_law_stamp" : Str)]
abbrev ps_law_value : List Str := [("_law_stream_here" : Str)]
theorem fs_law_value : FnScope N_law_value ps_law_value (defScope s_law_value) := ⟨rfl, rfl, rfl, by decide +kernel, rfl, by decide +kernel, by decide +kernel⟩
theorem bd_law_value : BindsAll ps_law_value "_law_value" "_law_value" (defArgs s_law_value) (defBody s_law_value) (defScope s_law_value) := fun _ _ _ _ _ _ us hl => match us, hl with | [_], _ => rfl
theorem ck_law_value : (okV N_law_value (defScope s_law_value) 0 ("_law_stream_here" : Str) && (okV N_law_value (defScope s_law_value) 1 ("_law_author" : Str) && (okV N_law_value (defScope s_law_value) 2 ("_law_body_here" : Str) && (okV N_law_value (defScope s_law_value) 3 ("_law_number_here" : Str) && (okV N_law_value (defScope s_law_value) 4 ("_law_least" : Str) && (okV N_law_value (defScope s_law_value) 5 ("_law_stamp" : Str) && (okW N_law_value (defScope s_law_value) 0 ("_law_stream_here" : Str) && (okW N_law_value (defScope s_law_value) 1 ("_law_author" : Str) && (okW N_law_value (defScope s_law_value) 2 ("_law_body_here" : Str) && (okW N_law_value (defScope s_law_value) 3 ("_law_number_here" : Str) && (okW N_law_value (defScope s_law_value) 4 ("_law_least" : Str) && (okW N_law_value (defScope s_law_value) 5 ("_law_stamp" : Str) && (okG (defScope s_law_value) ("_law_name" : Str) && (okG (defScope s_law_value) ("_law_body" : Str) && (okG (defScope s_law_value) ("_law_number" : Str) && (okG (defScope s_law_value) ("max" : Str) && (okG (defScope s_law_value) ("min" : Str) && (okG (defScope s_law_value) ("_law_next" : Str) && okG (defScope s_law_value) ("_law_seen" : Str))))))))))))))))))) = true := by decide +kernel
theorem nm_law_value {X : Cx} {k : Nat} (C : Ctx X N_law_value (defScope s_law_value) k) : Slot X 0 ("_law_stream_here" : Str) ∧ Slot X 1 ("_law_author" : Str) ∧ Slot X 2 ("_law_body_here" : Str) ∧ Slot X 3 ("_law_number_here" : Str) ∧ Slot X 4 ("_law_least" : Str) ∧ Slot X 5 ("_law_stamp" : Str) ∧ SlotW X 0 ("_law_stream_here" : Str) ∧ SlotW X 1 ("_law_author" : Str) ∧ SlotW X 2 ("_law_body_here" : Str) ∧ SlotW X 3 ("_law_number_here" : Str) ∧ SlotW X 4 ("_law_least" : Str) ∧ SlotW X 5 ("_law_stamp" : Str) ∧ GlN X ("_law_name" : Str) ∧ GlN X ("_law_body" : Str) ∧ GlN X ("_law_number" : Str) ∧ GlN X ("max" : Str) ∧ GlN X ("min" : Str) ∧ GlN X ("_law_next" : Str) ∧ GlN X ("_law_seen" : Str) := by
  have h := ck_law_value
  simp only [Bool.and_eq_true] at h
  exact ⟨okV_slot C (h.1), okV_slot C (h.2.1), okV_slot C (h.2.2.1), okV_slot C (h.2.2.2.1), okV_slot C (h.2.2.2.2.1), okV_slot C (h.2.2.2.2.2.1), okW_slot C (h.2.2.2.2.2.2.1), okW_slot C (h.2.2.2.2.2.2.2.1), okW_slot C (h.2.2.2.2.2.2.2.2.1), okW_slot C (h.2.2.2.2.2.2.2.2.2.1), okW_slot C (h.2.2.2.2.2.2.2.2.2.2.1), okW_slot C (h.2.2.2.2.2.2.2.2.2.2.2.1), okG_gl C (h.2.2.2.2.2.2.2.2.2.2.2.2.1), okG_gl C (h.2.2.2.2.2.2.2.2.2.2.2.2.2.1), okG_gl C (h.2.2.2.2.2.2.2.2.2.2.2.2.2.2.1), okG_gl C (h.2.2.2.2.2.2.2.2.2.2.2.2.2.2.2.1), okG_gl C (h.2.2.2.2.2.2.2.2.2.2.2.2.2.2.2.2.1), okG_gl C (h.2.2.2.2.2.2.2.2.2.2.2.2.2.2.2.2.2.1), okG_gl C (h.2.2.2.2.2.2.2.2.2.2.2.2.2.2.2.2.2.2)⟩
abbrev N_law_text_of : List Str := [("_law_body_here" : Str)]
abbrev ps_law_text_of : List Str := [("_law_body_here" : Str)]
theorem fs_law_text_of : FnScope N_law_text_of ps_law_text_of (defScope s_law_text_of) := ⟨rfl, rfl, rfl, by decide +kernel, rfl, by decide +kernel, by decide +kernel⟩
theorem bd_law_text_of : BindsAll ps_law_text_of "_law_text_of" "_law_text_of" (defArgs s_law_text_of) (defBody s_law_text_of) (defScope s_law_text_of) := fun _ _ _ _ _ _ us hl => match us, hl with | [_], _ => rfl
theorem ck_law_text_of : (okV N_law_text_of (defScope s_law_text_of) 0 ("_law_body_here" : Str) && (okW N_law_text_of (defScope s_law_text_of) 0 ("_law_body_here" : Str) && okG (defScope s_law_text_of) ("len" : Str))) = true := by decide +kernel
theorem nm_law_text_of {X : Cx} {k : Nat} (C : Ctx X N_law_text_of (defScope s_law_text_of) k) : Slot X 0 ("_law_body_here" : Str) ∧ SlotW X 0 ("_law_body_here" : Str) ∧ GlN X ("len" : Str) := by
  have h := ck_law_text_of
  simp only [Bool.and_eq_true] at h
  exact ⟨okV_slot C (h.1), okW_slot C (h.2.1), okG_gl C (h.2.2)⟩
abbrev N_law_header : List Str := [("_law_value_here" : Str), ("_law_author" : Str), ("_law_number_here" : Str), ("_law_stamp" : Str), ("_law_seen_here" : Str), ("_law_body_here" : Str), ("_law_pairs" : Str), ("_law_kind" : Str), ("_law_lines" : Str), ("_law_name_here" : Str), ("_law_count" : Str)]
abbrev ps_law_header : List Str := [("_law_value_here" : Str)]
theorem fs_law_header : FnScope N_law_header ps_law_header (defScope s_law_header) := ⟨rfl, rfl, rfl, by decide +kernel, rfl, by decide +kernel, by decide +kernel⟩
theorem bd_law_header : BindsAll ps_law_header "_law_header" "_law_header" (defArgs s_law_header) (defBody s_law_header) (defScope s_law_header) := fun _ _ _ _ _ _ us hl => match us, hl with | [_], _ => rfl
theorem ck_law_header : (okV N_law_header (defScope s_law_header) 0 ("_law_value_here" : Str) && (okV N_law_header (defScope s_law_header) 1 ("_law_author" : Str) && (okV N_law_header (defScope s_law_header) 2 ("_law_number_here" : Str) && (okV N_law_header (defScope s_law_header) 3 ("_law_stamp" : Str) && (okV N_law_header (defScope s_law_header) 4 ("_law_seen_here" : Str) && (okV N_law_header (defScope s_law_header) 5 ("_law_body_here" : Str) && (okV N_law_header (defScope s_law_header) 6 ("_law_pairs" : Str) && (okV N_law_header (defScope s_law_header) 7 ("_law_kind" : Str) && (okV N_law_header (defScope s_law_header) 8 ("_law_lines" : Str) && (okW N_law_header (defScope s_law_header) 0 ("_law_value_here" : Str) && (okW N_law_header (defScope s_law_header) 1 ("_law_author" : Str) && (okW N_law_header (defScope s_law_header) 2 ("_law_number_here" : Str) && (okW N_law_header (defScope s_law_header) 3 ("_law_stamp" : Str) && (okW N_law_header (defScope s_law_header) 4 ("_law_seen_here" : Str) && (okW N_law_header (defScope s_law_header) 5 ("_law_body_here" : Str) && (okW N_law_header (defScope s_law_header) 6 ("_law_pairs" : Str) && (okW N_law_header (defScope s_law_header) 7 ("_law_kind" : Str) && (okW N_law_header (defScope s_law_header) 8 ("_law_lines" : Str) && (okG (defScope s_law_header) ("str" : Str) && (okG (defScope s_law_header) ("len" : Str) && okG (defScope s_law_header) ("_law_text_of" : Str))))))))))))))))))))) = true := by decide +kernel
theorem nm_law_header {X : Cx} {k : Nat} (C : Ctx X N_law_header (defScope s_law_header) k) : Slot X 0 ("_law_value_here" : Str) ∧ Slot X 1 ("_law_author" : Str) ∧ Slot X 2 ("_law_number_here" : Str) ∧ Slot X 3 ("_law_stamp" : Str) ∧ Slot X 4 ("_law_seen_here" : Str) ∧ Slot X 5 ("_law_body_here" : Str) ∧ Slot X 6 ("_law_pairs" : Str) ∧ Slot X 7 ("_law_kind" : Str) ∧ Slot X 8 ("_law_lines" : Str) ∧ SlotW X 0 ("_law_value_here" : Str) ∧ SlotW X 1 ("_law_author" : Str) ∧ SlotW X 2 ("_law_number_here" : Str) ∧ SlotW X 3 ("_law_stamp" : Str) ∧ SlotW X 4 ("_law_seen_here" : Str) ∧ SlotW X 5 ("_law_body_here" : Str) ∧ SlotW X 6 ("_law_pairs" : Str) ∧ SlotW X 7 ("_law_kind" : Str) ∧ SlotW X 8 ("_law_lines" : Str) ∧ GlN X ("str" : Str) ∧ GlN X ("len" : Str) ∧ GlN X ("_law_text_of" : Str) := by
  have h := ck_law_header
  simp only [Bool.and_eq_true] at h
  exact ⟨okV_slot C (h.1), okV_slot C (h.2.1), okV_slot C (h.2.2.1), okV_slot C (h.2.2.2.1), okV_slot C (h.2.2.2.2.1), okV_slot C (h.2.2.2.2.2.1), okV_slot C (h.2.2.2.2.2.2.1), okV_slot C (h.2.2.2.2.2.2.2.1), okV_slot C (h.2.2.2.2.2.2.2.2.1), okW_slot C (h.2.2.2.2.2.2.2.2.2.1), okW_slot C (h.2.2.2.2.2.2.2.2.2.2.1), okW_slot C (h.2.2.2.2.2.2.2.2.2.2.2.1), okW_slot C (h.2.2.2.2.2.2.2.2.2.2.2.2.1), okW_slot C (h.2.2.2.2.2.2.2.2.2.2.2.2.2.1), okW_slot C (h.2.2.2.2.2.2.2.2.2.2.2.2.2.2.1), okW_slot C (h.2.2.2.2.2.2.2.2.2.2.2.2.2.2.2.1), okW_slot C (h.2.2.2.2.2.2.2.2.2.2.2.2.2.2.2.2.1), okW_slot C (h.2.2.2.2.2.2.2.2.2.2.2.2.2.2.2.2.2.1), okG_gl C (h.2.2.2.2.2.2.2.2.2.2.2.2.2.2.2.2.2.2.1), okG_gl C (h.2.2.2.2.2.2.2.2.2.2.2.2.2.2.2.2.2.2.2.1), okG_gl C (h.2.2.2.2.2.2.2.2.2.2.2.2.2.2.2.2.2.2.2.2)⟩
abbrev N_law_letter : List Str := [("_law_value_here" : Str)]
abbrev ps_law_letter : List Str := [("_law_value_here" : Str)]
theorem fs_law_letter : FnScope N_law_letter ps_law_letter (defScope s_law_letter) := ⟨rfl, rfl, rfl, by decide +kernel, rfl, by decide +kernel, by decide +kernel⟩
theorem bd_law_letter : BindsAll ps_law_letter "_law_letter" "_law_letter" (defArgs s_law_letter) (defBody s_law_letter) (defScope s_law_letter) := fun _ _ _ _ _ _ us hl => match us, hl with | [_], _ => rfl
theorem ck_law_letter : (okV N_law_letter (defScope s_law_letter) 0 ("_law_value_here" : Str) && (okW N_law_letter (defScope s_law_letter) 0 ("_law_value_here" : Str) && okG (defScope s_law_letter) ("Letter" : Str))) = true := by decide +kernel
theorem nm_law_letter {X : Cx} {k : Nat} (C : Ctx X N_law_letter (defScope s_law_letter) k) : Slot X 0 ("_law_value_here" : Str) ∧ SlotW X 0 ("_law_value_here" : Str) ∧ GlN X ("Letter" : Str) := by
  have h := ck_law_letter
  simp only [Bool.and_eq_true] at h
  exact ⟨okV_slot C (h.1), okW_slot C (h.2.1), okG_gl C (h.2.2)⟩
abbrev N_law_cut : List Str := [("_law_stream_here" : Str), ("_law_line_here" : Str), ("_law_parts" : Str), ("_law_begin" : Str), ("_law_chance" : Str), ("_law_place" : Str)]
abbrev ps_law_cut : List Str := [("_law_stream_here" : Str), ("_law_line_here" : Str)]
theorem fs_law_cut : FnScope N_law_cut ps_law_cut (defScope s_law_cut) := ⟨rfl, rfl, rfl, by decide +kernel, rfl, by decide +kernel, by decide +kernel⟩
theorem bd_law_cut : BindsAll ps_law_cut "_law_cut" "_law_cut" (defArgs s_law_cut) (defBody s_law_cut) (defScope s_law_cut) := fun _ _ _ _ _ _ us hl => match us, hl with | [_, _], _ => rfl
theorem ck_law_cut : (okV N_law_cut (defScope s_law_cut) 0 ("_law_stream_here" : Str) && (okV N_law_cut (defScope s_law_cut) 1 ("_law_line_here" : Str) && (okV N_law_cut (defScope s_law_cut) 2 ("_law_parts" : Str) && (okV N_law_cut (defScope s_law_cut) 3 ("_law_begin" : Str) && (okV N_law_cut (defScope s_law_cut) 4 ("_law_chance" : Str) && (okV N_law_cut (defScope s_law_cut) 5 ("_law_place" : Str) && (okW N_law_cut (defScope s_law_cut) 0 ("_law_stream_here" : Str) && (okW N_law_cut (defScope s_law_cut) 1 ("_law_line_here" : Str) && (okW N_law_cut (defScope s_law_cut) 2 ("_law_parts" : Str) && (okW N_law_cut (defScope s_law_cut) 3 ("_law_begin" : Str) && (okW N_law_cut (defScope s_law_cut) 4 ("_law_chance" : Str) && (okW N_law_cut (defScope s_law_cut) 5 ("_law_place" : Str) && (okG (defScope s_law_cut) ("_law_next" : Str) && (okG (defScope s_law_cut) ("range" : Str) && (okG (defScope s_law_cut) ("len" : Str) && okG (defScope s_law_cut) ("max" : Str)))))))))))))))) = true := by decide +kernel
theorem nm_law_cut {X : Cx} {k : Nat} (C : Ctx X N_law_cut (defScope s_law_cut) k) : Slot X 0 ("_law_stream_here" : Str) ∧ Slot X 1 ("_law_line_here" : Str) ∧ Slot X 2 ("_law_parts" : Str) ∧ Slot X 3 ("_law_begin" : Str) ∧ Slot X 4 ("_law_chance" : Str) ∧ Slot X 5 ("_law_place" : Str) ∧ SlotW X 0 ("_law_stream_here" : Str) ∧ SlotW X 1 ("_law_line_here" : Str) ∧ SlotW X 2 ("_law_parts" : Str) ∧ SlotW X 3 ("_law_begin" : Str) ∧ SlotW X 4 ("_law_chance" : Str) ∧ SlotW X 5 ("_law_place" : Str) ∧ GlN X ("_law_next" : Str) ∧ GlN X ("range" : Str) ∧ GlN X ("len" : Str) ∧ GlN X ("max" : Str) := by
  have h := ck_law_cut
  simp only [Bool.and_eq_true] at h
  exact ⟨okV_slot C (h.1), okV_slot C (h.2.1), okV_slot C (h.2.2.1), okV_slot C (h.2.2.2.1), okV_slot C (h.2.2.2.2.1), okV_slot C (h.2.2.2.2.2.1), okW_slot C (h.2.2.2.2.2.2.1), okW_slot C (h.2.2.2.2.2.2.2.1), okW_slot C (h.2.2.2.2.2.2.2.2.1), okW_slot C (h.2.2.2.2.2.2.2.2.2.1), okW_slot C (h.2.2.2.2.2.2.2.2.2.2.1), okW_slot C (h.2.2.2.2.2.2.2.2.2.2.2.1), okG_gl C (h.2.2.2.2.2.2.2.2.2.2.2.2.1), okG_gl C (h.2.2.2.2.2.2.2.2.2.2.2.2.2.1), okG_gl C (h.2.2.2.2.2.2.2.2.2.2.2.2.2.2.1), okG_gl C (h.2.2.2.2.2.2.2.2.2.2.2.2.2.2.2)⟩
abbrev N_law_mail : List Str := [("_law_stream_here" : Str), ("_law_value_here" : Str), ("_law_lines" : Str), ("_law_line_here" : Str), ("_law_row" : Str)]
abbrev ps_law_mail : List Str := [("_law_stream_here" : Str), ("_law_value_here" : Str)]
theorem fs_law_mail : FnScope N_law_mail ps_law_mail (defScope s_law_mail) := ⟨rfl, rfl, rfl, by decide +kernel, rfl, by decide +kernel, by decide +kernel⟩
theorem bd_law_mail : BindsAll ps_law_mail "_law_mail" "_law_mail" (defArgs s_law_mail) (defBody s_law_mail) (defScope s_law_mail) := fun _ _ _ _ _ _ us hl => match us, hl with | [_, _], _ => rfl
theorem ck_law_mail : (okV N_law_mail (defScope s_law_mail) 0 ("_law_stream_here" : Str) && (okV N_law_mail (defScope s_law_mail) 1 ("_law_value_here" : Str) && (okV N_law_mail (defScope s_law_mail) 2 ("_law_lines" : Str) && (okV N_law_mail (defScope s_law_mail) 3 ("_law_line_here" : Str) && (okW N_law_mail (defScope s_law_mail) 0 ("_law_stream_here" : Str) && (okW N_law_mail (defScope s_law_mail) 1 ("_law_value_here" : Str) && (okW N_law_mail (defScope s_law_mail) 2 ("_law_lines" : Str) && (okW N_law_mail (defScope s_law_mail) 3 ("_law_line_here" : Str) && (okG (defScope s_law_mail) ("_law_header" : Str) && (okG (defScope s_law_mail) ("_law_cut" : Str) && okG (defScope s_law_mail) ("_law_text_of" : Str))))))))))) = true := by decide +kernel
theorem nm_law_mail {X : Cx} {k : Nat} (C : Ctx X N_law_mail (defScope s_law_mail) k) : Slot X 0 ("_law_stream_here" : Str) ∧ Slot X 1 ("_law_value_here" : Str) ∧ Slot X 2 ("_law_lines" : Str) ∧ Slot X 3 ("_law_line_here" : Str) ∧ SlotW X 0 ("_law_stream_here" : Str) ∧ SlotW X 1 ("_law_value_here" : Str) ∧ SlotW X 2 ("_law_lines" : Str) ∧ SlotW X 3 ("_law_line_here" : Str) ∧ GlN X ("_law_header" : Str) ∧ GlN X ("_law_cut" : Str) ∧ GlN X ("_law_text_of" : Str) := by
  have h := ck_law_mail
  simp only [Bool.and_eq_true] at h
  exact ⟨okV_slot C (h.1), okV_slot C (h.2.1), okV_slot C (h.2.2.1), okV_slot C (h.2.2.2.1), okW_slot C (h.2.2.2.2.1), okW_slot C (h.2.2.2.2.2.1), okW_slot C (h.2.2.2.2.2.2.1), okW_slot C (h.2.2.2.2.2.2.2.1), okG_gl C (h.2.2.2.2.2.2.2.2.1), okG_gl C (h.2.2.2.2.2.2.2.2.2.1), okG_gl C (h.2.2.2.2.2.2.2.2.2.2)⟩
abbrev N_law_fold : List Str := [("_law_line_here" : Str), ("_law_lines" : Str), ("_law_rest" : Str), ("_law_turn" : Str), ("_law_cut_here" : Str), ("_law_place" : Str)]
abbrev ps_law_fold : List Str := [("_law_line_here" : Str)]
theorem fs_law_fold : FnScope N_law_fold ps_law_fold (defScope s_law_fold) := ⟨rfl, rfl, rfl, by decide +kernel, rfl, by decide +kernel, by decide +kernel⟩
theorem bd_law_fold : BindsAll ps_law_fold "_law_fold" "_law_fold" (defArgs s_law_fold) (defBody s_law_fold) (defScope s_law_fold) := fun _ _ _ _ _ _ us hl => match us, hl with | [_], _ => rfl
theorem ck_law_fold : (okV N_law_fold (defScope s_law_fold) 0 ("_law_line_here" : Str) && (okV N_law_fold (defScope s_law_fold) 1 ("_law_lines" : Str) && (okV N_law_fold (defScope s_law_fold) 2 ("_law_rest" : Str) && (okV N_law_fold (defScope s_law_fold) 3 ("_law_turn" : Str) && (okV N_law_fold (defScope s_law_fold) 4 ("_law_cut_here" : Str) && (okV N_law_fold (defScope s_law_fold) 5 ("_law_place" : Str) && (okW N_law_fold (defScope s_law_fold) 0 ("_law_line_here" : Str) && (okW N_law_fold (defScope s_law_fold) 1 ("_law_lines" : Str) && (okW N_law_fold (defScope s_law_fold) 2 ("_law_rest" : Str) && (okW N_law_fold (defScope s_law_fold) 3 ("_law_turn" : Str) && (okW N_law_fold (defScope s_law_fold) 4 ("_law_cut_here" : Str) && (okW N_law_fold (defScope s_law_fold) 5 ("_law_place" : Str) && (okG (defScope s_law_fold) ("range" : Str) && okG (defScope s_law_fold) ("len" : Str)))))))))))))) = true := by decide +kernel
theorem nm_law_fold {X : Cx} {k : Nat} (C : Ctx X N_law_fold (defScope s_law_fold) k) : Slot X 0 ("_law_line_here" : Str) ∧ Slot X 1 ("_law_lines" : Str) ∧ Slot X 2 ("_law_rest" : Str) ∧ Slot X 3 ("_law_turn" : Str) ∧ Slot X 4 ("_law_cut_here" : Str) ∧ Slot X 5 ("_law_place" : Str) ∧ SlotW X 0 ("_law_line_here" : Str) ∧ SlotW X 1 ("_law_lines" : Str) ∧ SlotW X 2 ("_law_rest" : Str) ∧ SlotW X 3 ("_law_turn" : Str) ∧ SlotW X 4 ("_law_cut_here" : Str) ∧ SlotW X 5 ("_law_place" : Str) ∧ GlN X ("range" : Str) ∧ GlN X ("len" : Str) := by
  have h := ck_law_fold
  simp only [Bool.and_eq_true] at h
  exact ⟨okV_slot C (h.1), okV_slot C (h.2.1), okV_slot C (h.2.2.1), okV_slot C (h.2.2.2.1), okV_slot C (h.2.2.2.2.1), okV_slot C (h.2.2.2.2.2.1), okW_slot C (h.2.2.2.2.2.2.1), okW_slot C (h.2.2.2.2.2.2.2.1), okW_slot C (h.2.2.2.2.2.2.2.2.1), okW_slot C (h.2.2.2.2.2.2.2.2.2.1), okW_slot C (h.2.2.2.2.2.2.2.2.2.2.1), okW_slot C (h.2.2.2.2.2.2.2.2.2.2.2.1), okG_gl C (h.2.2.2.2.2.2.2.2.2.2.2.2.1), okG_gl C (h.2.2.2.2.2.2.2.2.2.2.2.2.2)⟩
abbrev N_law_written : List Str := [("_law_value_here" : Str), ("_law_lines" : Str), ("_law_line_here" : Str), ("_law_row" : Str)]
abbrev ps_law_written : List Str := [("_law_value_here" : Str)]
theorem fs_law_written : FnScope N_law_written ps_law_written (defScope s_law_written) := ⟨rfl, rfl, rfl, by decide +kernel, rfl, by decide +kernel, by decide +kernel⟩
theorem bd_law_written : BindsAll ps_law_written "_law_written" "_law_written" (defArgs s_law_written) (defBody s_law_written) (defScope s_law_written) := fun _ _ _ _ _ _ us hl => match us, hl with | [_], _ => rfl
theorem ck_law_written : (okV N_law_written (defScope s_law_written) 0 ("_law_value_here" : Str) && (okV N_law_written (defScope s_law_written) 1 ("_law_lines" : Str) && (okV N_law_written (defScope s_law_written) 2 ("_law_line_here" : Str) && (okW N_law_written (defScope s_law_written) 0 ("_law_value_here" : Str) && (okW N_law_written (defScope s_law_written) 1 ("_law_lines" : Str) && (okW N_law_written (defScope s_law_written) 2 ("_law_line_here" : Str) && (okG (defScope s_law_written) ("_law_header" : Str) && (okG (defScope s_law_written) ("_law_fold" : Str) && okG (defScope s_law_written) ("_law_text_of" : Str))))))))) = true := by decide +kernel
theorem nm_law_written {X : Cx} {k : Nat} (C : Ctx X N_law_written (defScope s_law_written) k) : Slot X 0 ("_law_value_here" : Str) ∧ Slot X 1 ("_law_lines" : Str) ∧ Slot X 2 ("_law_line_here" : Str) ∧ SlotW X 0 ("_law_value_here" : Str) ∧ SlotW X 1 ("_law_lines" : Str) ∧ SlotW X 2 ("_law_line_here" : Str) ∧ GlN X ("_law_header" : Str) ∧ GlN X ("_law_fold" : Str) ∧ GlN X ("_law_text_of" : Str) := by
  have h := ck_law_written
  simp only [Bool.and_eq_true] at h
  exact ⟨okV_slot C (h.1), okV_slot C (h.2.1), okV_slot C (h.2.2.1), okW_slot C (h.2.2.2.1), okW_slot C (h.2.2.2.2.1), okW_slot C (h.2.2.2.2.2.1), okG_gl C (h.2.2.2.2.2.2.1), okG_gl C (h.2.2.2.2.2.2.2.1), okG_gl C (h.2.2.2.2.2.2.2.2)⟩
abbrev N_law_joined : List Str := [("_law_mails" : Str), ("_law_ends" : Str), ("_law_text_here" : Str), ("_law_mail_here" : Str), ("_law_line_here" : Str)]
abbrev ps_law_joined : List Str := [("_law_mails" : Str)]
theorem fs_law_joined : FnScope N_law_joined ps_law_joined (defScope s_law_joined) := ⟨rfl, rfl, rfl, by decide +kernel, rfl, by decide +kernel, by decide +kernel⟩
theorem bd_law_joined : BindsAll ps_law_joined "_law_joined" "_law_joined" (defArgs s_law_joined) (defBody s_law_joined) (defScope s_law_joined) := fun _ _ _ _ _ _ us hl => match us, hl with | [_], _ => rfl
theorem ck_law_joined : (okV N_law_joined (defScope s_law_joined) 0 ("_law_mails" : Str) && (okV N_law_joined (defScope s_law_joined) 1 ("_law_ends" : Str) && (okV N_law_joined (defScope s_law_joined) 2 ("_law_text_here" : Str) && (okV N_law_joined (defScope s_law_joined) 3 ("_law_mail_here" : Str) && (okW N_law_joined (defScope s_law_joined) 0 ("_law_mails" : Str) && (okW N_law_joined (defScope s_law_joined) 1 ("_law_ends" : Str) && (okW N_law_joined (defScope s_law_joined) 2 ("_law_text_here" : Str) && (okW N_law_joined (defScope s_law_joined) 3 ("_law_mail_here" : Str) && okG (defScope s_law_joined) ("len" : Str))))))))) = true := by decide +kernel
theorem nm_law_joined {X : Cx} {k : Nat} (C : Ctx X N_law_joined (defScope s_law_joined) k) : Slot X 0 ("_law_mails" : Str) ∧ Slot X 1 ("_law_ends" : Str) ∧ Slot X 2 ("_law_text_here" : Str) ∧ Slot X 3 ("_law_mail_here" : Str) ∧ SlotW X 0 ("_law_mails" : Str) ∧ SlotW X 1 ("_law_ends" : Str) ∧ SlotW X 2 ("_law_text_here" : Str) ∧ SlotW X 3 ("_law_mail_here" : Str) ∧ GlN X ("len" : Str) := by
  have h := ck_law_joined
  simp only [Bool.and_eq_true] at h
  exact ⟨okV_slot C (h.1), okV_slot C (h.2.1), okV_slot C (h.2.2.1), okV_slot C (h.2.2.2.1), okW_slot C (h.2.2.2.2.1), okW_slot C (h.2.2.2.2.2.1), okW_slot C (h.2.2.2.2.2.2.1), okW_slot C (h.2.2.2.2.2.2.2.1), okG_gl C (h.2.2.2.2.2.2.2.2)⟩
abbrev N_law_are : List Str := [("_law_letters" : Str), ("_law_values" : Str), ("_law_k" : Str)]
abbrev ps_law_are : List Str := [("_law_letters" : Str), ("_law_values" : Str)]
theorem fs_law_are : FnScope N_law_are ps_law_are (defScope s_law_are) := ⟨rfl, rfl, rfl, by decide +kernel, rfl, by decide +kernel, by decide +kernel⟩
theorem bd_law_are : BindsAll ps_law_are "_law_are" "_law_are" (defArgs s_law_are) (defBody s_law_are) (defScope s_law_are) := fun _ _ _ _ _ _ us hl => match us, hl with | [_, _], _ => rfl
theorem ck_law_are : (okV N_law_are (defScope s_law_are) 0 ("_law_letters" : Str) && (okV N_law_are (defScope s_law_are) 1 ("_law_values" : Str) && (okV N_law_are (defScope s_law_are) 2 ("_law_k" : Str) && (okW N_law_are (defScope s_law_are) 0 ("_law_letters" : Str) && (okW N_law_are (defScope s_law_are) 1 ("_law_values" : Str) && (okW N_law_are (defScope s_law_are) 2 ("_law_k" : Str) && (okG (defScope s_law_are) ("isinstance" : Str) && (okG (defScope s_law_are) ("list" : Str) && (okG (defScope s_law_are) ("len" : Str) && (okG (defScope s_law_are) ("range" : Str) && okG (defScope s_law_are) ("Letter" : Str))))))))))) = true := by decide +kernel
theorem nm_law_are {X : Cx} {k : Nat} (C : Ctx X N_law_are (defScope s_law_are) k) : Slot X 0 ("_law_letters" : Str) ∧ Slot X 1 ("_law_values" : Str) ∧ Slot X 2 ("_law_k" : Str) ∧ SlotW X 0 ("_law_letters" : Str) ∧ SlotW X 1 ("_law_values" : Str) ∧ SlotW X 2 ("_law_k" : Str) ∧ GlN X ("isinstance" : Str) ∧ GlN X ("list" : Str) ∧ GlN X ("len" : Str) ∧ GlN X ("range" : Str) ∧ GlN X ("Letter" : Str) := by
  have h := ck_law_are
  simp only [Bool.and_eq_true] at h
  exact ⟨okV_slot C (h.1), okV_slot C (h.2.1), okV_slot C (h.2.2.1), okW_slot C (h.2.2.2.1), okW_slot C (h.2.2.2.2.1), okW_slot C (h.2.2.2.2.2.1), okG_gl C (h.2.2.2.2.2.2.1), okG_gl C (h.2.2.2.2.2.2.2.1), okG_gl C (h.2.2.2.2.2.2.2.2.1), okG_gl C (h.2.2.2.2.2.2.2.2.2.1), okG_gl C (h.2.2.2.2.2.2.2.2.2.2)⟩
abbrev N_law_raises : List Str := [("_law_text_here" : Str), ("e" : Str)]
abbrev ps_law_raises : List Str := [("_law_text_here" : Str)]
theorem fs_law_raises : FnScope N_law_raises ps_law_raises (defScope s_law_raises) := ⟨rfl, rfl, rfl, by decide +kernel, rfl, by decide +kernel, by decide +kernel⟩
theorem bd_law_raises : BindsAll ps_law_raises "_law_raises" "_law_raises" (defArgs s_law_raises) (defBody s_law_raises) (defScope s_law_raises) := fun _ _ _ _ _ _ us hl => match us, hl with | [_], _ => rfl
theorem ck_law_raises : (okV N_law_raises (defScope s_law_raises) 0 ("_law_text_here" : Str) && (okV N_law_raises (defScope s_law_raises) 1 ("e" : Str) && (okW N_law_raises (defScope s_law_raises) 0 ("_law_text_here" : Str) && (okW N_law_raises (defScope s_law_raises) 1 ("e" : Str) && (okG (defScope s_law_raises) ("read_archive" : Str) && (okG (defScope s_law_raises) ("RoomError" : Str) && (okG (defScope s_law_raises) ("isinstance" : Str) && (okG (defScope s_law_raises) ("BadMail" : Str) && (okG (defScope s_law_raises) ("ValueError" : Str) && okG (defScope s_law_raises) ("BadLetter" : Str)))))))))) = true := by decide +kernel
theorem nm_law_raises {X : Cx} {k : Nat} (C : Ctx X N_law_raises (defScope s_law_raises) k) : Slot X 0 ("_law_text_here" : Str) ∧ Slot X 1 ("e" : Str) ∧ SlotW X 0 ("_law_text_here" : Str) ∧ SlotW X 1 ("e" : Str) ∧ GlN X ("read_archive" : Str) ∧ GlN X ("RoomError" : Str) ∧ GlN X ("isinstance" : Str) ∧ GlN X ("BadMail" : Str) ∧ GlN X ("ValueError" : Str) ∧ GlN X ("BadLetter" : Str) := by
  have h := ck_law_raises
  simp only [Bool.and_eq_true] at h
  exact ⟨okV_slot C (h.1), okV_slot C (h.2.1), okW_slot C (h.2.2.1), okW_slot C (h.2.2.2.1), okG_gl C (h.2.2.2.2.1), okG_gl C (h.2.2.2.2.2.1), okG_gl C (h.2.2.2.2.2.2.1), okG_gl C (h.2.2.2.2.2.2.2.1), okG_gl C (h.2.2.2.2.2.2.2.2.1), okG_gl C (h.2.2.2.2.2.2.2.2.2)⟩
abbrev N_law_reads : List Str := [("_law_text_here" : Str), ("_law_values" : Str), ("_law_turn" : Str), ("_law_letters" : Str)]
abbrev ps_law_reads : List Str := [("_law_text_here" : Str), ("_law_values" : Str)]
theorem fs_law_reads : FnScope N_law_reads ps_law_reads (defScope s_law_reads) := ⟨rfl, rfl, rfl, by decide +kernel, rfl, by decide +kernel, by decide +kernel⟩
theorem bd_law_reads : BindsAll ps_law_reads "_law_reads" "_law_reads" (defArgs s_law_reads) (defBody s_law_reads) (defScope s_law_reads) := fun _ _ _ _ _ _ us hl => match us, hl with | [_, _], _ => rfl
theorem ck_law_reads : (okV N_law_reads (defScope s_law_reads) 0 ("_law_text_here" : Str) && (okV N_law_reads (defScope s_law_reads) 1 ("_law_values" : Str) && (okV N_law_reads (defScope s_law_reads) 2 ("_law_turn" : Str) && (okV N_law_reads (defScope s_law_reads) 3 ("_law_letters" : Str) && (okW N_law_reads (defScope s_law_reads) 0 ("_law_text_here" : Str) && (okW N_law_reads (defScope s_law_reads) 1 ("_law_values" : Str) && (okW N_law_reads (defScope s_law_reads) 2 ("_law_turn" : Str) && (okW N_law_reads (defScope s_law_reads) 3 ("_law_letters" : Str) && (okG (defScope s_law_reads) ("range" : Str) && (okG (defScope s_law_reads) ("read_archive" : Str) && okG (defScope s_law_reads) ("_law_are" : Str))))))))))) = true := by decide +kernel
theorem nm_law_reads {X : Cx} {k : Nat} (C : Ctx X N_law_reads (defScope s_law_reads) k) : Slot X 0 ("_law_text_here" : Str) ∧ Slot X 1 ("_law_values" : Str) ∧ Slot X 2 ("_law_turn" : Str) ∧ Slot X 3 ("_law_letters" : Str) ∧ SlotW X 0 ("_law_text_here" : Str) ∧ SlotW X 1 ("_law_values" : Str) ∧ SlotW X 2 ("_law_turn" : Str) ∧ SlotW X 3 ("_law_letters" : Str) ∧ GlN X ("range" : Str) ∧ GlN X ("read_archive" : Str) ∧ GlN X ("_law_are" : Str) := by
  have h := ck_law_reads
  simp only [Bool.and_eq_true] at h
  exact ⟨okV_slot C (h.1), okV_slot C (h.2.1), okV_slot C (h.2.2.1), okV_slot C (h.2.2.2.1), okW_slot C (h.2.2.2.2.1), okW_slot C (h.2.2.2.2.2.1), okW_slot C (h.2.2.2.2.2.2.1), okW_slot C (h.2.2.2.2.2.2.2.1), okG_gl C (h.2.2.2.2.2.2.2.2.1), okG_gl C (h.2.2.2.2.2.2.2.2.2.1), okG_gl C (h.2.2.2.2.2.2.2.2.2.2)⟩
abbrev N_law_begins : List Str := [("_law_text_here" : Str), ("_law_values" : Str), ("_law_length" : Str), ("_law_turn" : Str), ("_law_answer" : Str)]
abbrev ps_law_begins : List Str := [("_law_text_here" : Str), ("_law_values" : Str), ("_law_length" : Str)]
theorem fs_law_begins : FnScope N_law_begins ps_law_begins (defScope s_law_begins) := ⟨rfl, rfl, rfl, by decide +kernel, rfl, by decide +kernel, by decide +kernel⟩
theorem bd_law_begins : BindsAll ps_law_begins "_law_begins" "_law_begins" (defArgs s_law_begins) (defBody s_law_begins) (defScope s_law_begins) := fun _ _ _ _ _ _ us hl => match us, hl with | [_, _, _], _ => rfl
theorem ck_law_begins : (okV N_law_begins (defScope s_law_begins) 0 ("_law_text_here" : Str) && (okV N_law_begins (defScope s_law_begins) 1 ("_law_values" : Str) && (okV N_law_begins (defScope s_law_begins) 2 ("_law_length" : Str) && (okV N_law_begins (defScope s_law_begins) 3 ("_law_turn" : Str) && (okV N_law_begins (defScope s_law_begins) 4 ("_law_answer" : Str) && (okW N_law_begins (defScope s_law_begins) 0 ("_law_text_here" : Str) && (okW N_law_begins (defScope s_law_begins) 1 ("_law_values" : Str) && (okW N_law_begins (defScope s_law_begins) 2 ("_law_length" : Str) && (okW N_law_begins (defScope s_law_begins) 3 ("_law_turn" : Str) && (okW N_law_begins (defScope s_law_begins) 4 ("_law_answer" : Str) && (okG (defScope s_law_begins) ("range" : Str) && (okG (defScope s_law_begins) ("read_beginning" : Str) && (okG (defScope s_law_begins) ("isinstance" : Str) && (okG (defScope s_law_begins) ("tuple" : Str) && (okG (defScope s_law_begins) ("len" : Str) && (okG (defScope s_law_begins) ("_law_are" : Str) && okG (defScope s_law_begins) ("_law_is" : Str))))))))))))))))) = true := by decide +kernel
theorem nm_law_begins {X : Cx} {k : Nat} (C : Ctx X N_law_begins (defScope s_law_begins) k) : Slot X 0 ("_law_text_here" : Str) ∧ Slot X 1 ("_law_values" : Str) ∧ Slot X 2 ("_law_length" : Str) ∧ Slot X 3 ("_law_turn" : Str) ∧ Slot X 4 ("_law_answer" : Str) ∧ SlotW X 0 ("_law_text_here" : Str) ∧ SlotW X 1 ("_law_values" : Str) ∧ SlotW X 2 ("_law_length" : Str) ∧ SlotW X 3 ("_law_turn" : Str) ∧ SlotW X 4 ("_law_answer" : Str) ∧ GlN X ("range" : Str) ∧ GlN X ("read_beginning" : Str) ∧ GlN X ("isinstance" : Str) ∧ GlN X ("tuple" : Str) ∧ GlN X ("len" : Str) ∧ GlN X ("_law_are" : Str) ∧ GlN X ("_law_is" : Str) := by
  have h := ck_law_begins
  simp only [Bool.and_eq_true] at h
  exact ⟨okV_slot C (h.1), okV_slot C (h.2.1), okV_slot C (h.2.2.1), okV_slot C (h.2.2.2.1), okV_slot C (h.2.2.2.2.1), okW_slot C (h.2.2.2.2.2.1), okW_slot C (h.2.2.2.2.2.2.1), okW_slot C (h.2.2.2.2.2.2.2.1), okW_slot C (h.2.2.2.2.2.2.2.2.1), okW_slot C (h.2.2.2.2.2.2.2.2.2.1), okG_gl C (h.2.2.2.2.2.2.2.2.2.2.1), okG_gl C (h.2.2.2.2.2.2.2.2.2.2.2.1), okG_gl C (h.2.2.2.2.2.2.2.2.2.2.2.2.1), okG_gl C (h.2.2.2.2.2.2.2.2.2.2.2.2.2.1), okG_gl C (h.2.2.2.2.2.2.2.2.2.2.2.2.2.2.1), okG_gl C (h.2.2.2.2.2.2.2.2.2.2.2.2.2.2.2.1), okG_gl C (h.2.2.2.2.2.2.2.2.2.2.2.2.2.2.2.2)⟩
abbrev N_law_cut_at : List Str := [("_law_text_here" : Str), ("_law_ends" : Str), ("_law_values" : Str), ("_law_place" : Str), ("_law_whole" : Str), ("_law_end" : Str)]
abbrev ps_law_cut_at : List Str := [("_law_text_here" : Str), ("_law_ends" : Str), ("_law_values" : Str), ("_law_place" : Str)]
theorem fs_law_cut_at : FnScope N_law_cut_at ps_law_cut_at (defScope s_law_cut_at) := ⟨rfl, rfl, rfl, by decide +kernel, rfl, by decide +kernel, by decide +kernel⟩
theorem bd_law_cut_at : BindsAll ps_law_cut_at "_law_cut_at" "_law_cut_at" (defArgs s_law_cut_at) (defBody s_law_cut_at) (defScope s_law_cut_at) := fun _ _ _ _ _ _ us hl => match us, hl with | [_, _, _, _], _ => rfl
theorem ck_law_cut_at : (okV N_law_cut_at (defScope s_law_cut_at) 0 ("_law_text_here" : Str) && (okV N_law_cut_at (defScope s_law_cut_at) 1 ("_law_ends" : Str) && (okV N_law_cut_at (defScope s_law_cut_at) 2 ("_law_values" : Str) && (okV N_law_cut_at (defScope s_law_cut_at) 3 ("_law_place" : Str) && (okV N_law_cut_at (defScope s_law_cut_at) 4 ("_law_whole" : Str) && (okW N_law_cut_at (defScope s_law_cut_at) 0 ("_law_text_here" : Str) && (okW N_law_cut_at (defScope s_law_cut_at) 1 ("_law_ends" : Str) && (okW N_law_cut_at (defScope s_law_cut_at) 2 ("_law_values" : Str) && (okW N_law_cut_at (defScope s_law_cut_at) 3 ("_law_place" : Str) && (okW N_law_cut_at (defScope s_law_cut_at) 4 ("_law_whole" : Str) && (okG (defScope s_law_cut_at) ("len" : Str) && (okG (defScope s_law_cut_at) ("_law_begins" : Str) && (okG (defScope s_law_cut_at) ("_law_are" : Str) && (okG (defScope s_law_cut_at) ("read_archive" : Str) && okG (defScope s_law_cut_at) ("_law_raises" : Str))))))))))))))) = true := by decide +kernel
theorem nm_law_cut_at {X : Cx} {k : Nat} (C : Ctx X N_law_cut_at (defScope s_law_cut_at) k) : Slot X 0 ("_law_text_here" : Str) ∧ Slot X 1 ("_law_ends" : Str) ∧ Slot X 2 ("_law_values" : Str) ∧ Slot X 3 ("_law_place" : Str) ∧ Slot X 4 ("_law_whole" : Str) ∧ SlotW X 0 ("_law_text_here" : Str) ∧ SlotW X 1 ("_law_ends" : Str) ∧ SlotW X 2 ("_law_values" : Str) ∧ SlotW X 3 ("_law_place" : Str) ∧ SlotW X 4 ("_law_whole" : Str) ∧ GlN X ("len" : Str) ∧ GlN X ("_law_begins" : Str) ∧ GlN X ("_law_are" : Str) ∧ GlN X ("read_archive" : Str) ∧ GlN X ("_law_raises" : Str) := by
  have h := ck_law_cut_at
  simp only [Bool.and_eq_true] at h
  exact ⟨okV_slot C (h.1), okV_slot C (h.2.1), okV_slot C (h.2.2.1), okV_slot C (h.2.2.2.1), okV_slot C (h.2.2.2.2.1), okW_slot C (h.2.2.2.2.2.1), okW_slot C (h.2.2.2.2.2.2.1), okW_slot C (h.2.2.2.2.2.2.2.1), okW_slot C (h.2.2.2.2.2.2.2.2.1), okW_slot C (h.2.2.2.2.2.2.2.2.2.1), okG_gl C (h.2.2.2.2.2.2.2.2.2.2.1), okG_gl C (h.2.2.2.2.2.2.2.2.2.2.2.1), okG_gl C (h.2.2.2.2.2.2.2.2.2.2.2.2.1), okG_gl C (h.2.2.2.2.2.2.2.2.2.2.2.2.2.1), okG_gl C (h.2.2.2.2.2.2.2.2.2.2.2.2.2.2)⟩
abbrev N_law_asked : List Str := [("_law_stream_here" : Str), ("_law_mails" : Str), ("_law_values" : Str), ("_law_text_here" : Str), ("_law_ends" : Str), ("_law_turn" : Str), ("_law_place" : Str), ("_law_at" : Str), ("_law_spoilt" : Str), ("_law_marks" : Str), ("_law_whole" : Str), ("_law_broken" : Str), ("_law_others" : Str), ("_law_other" : Str), ("_law_end" : Str)]
abbrev ps_law_asked : List Str := [("_law_stream_here" : Str), ("_law_mails" : Str), ("_law_values" : Str)]
theorem fs_law_asked : FnScope N_law_asked ps_law_asked (defScope s_law_asked) := ⟨rfl, rfl, rfl, by decide +kernel, rfl, by decide +kernel, by decide +kernel⟩
theorem bd_law_asked : BindsAll ps_law_asked "_law_asked" "_law_asked" (defArgs s_law_asked) (defBody s_law_asked) (defScope s_law_asked) := fun _ _ _ _ _ _ us hl => match us, hl with | [_, _, _], _ => rfl
theorem ck_law_asked : (okV N_law_asked (defScope s_law_asked) 0 ("_law_stream_here" : Str) && (okV N_law_asked (defScope s_law_asked) 1 ("_law_mails" : Str) && (okV N_law_asked (defScope s_law_asked) 2 ("_law_values" : Str) && (okV N_law_asked (defScope s_law_asked) 3 ("_law_text_here" : Str) && (okV N_law_asked (defScope s_law_asked) 4 ("_law_ends" : Str) && (okV N_law_asked (defScope s_law_asked) 5 ("_law_turn" : Str) && (okV N_law_asked (defScope s_law_asked) 6 ("_law_place" : Str) && (okV N_law_asked (defScope s_law_asked) 7 ("_law_at" : Str) && (okV N_law_asked (defScope s_law_asked) 8 ("_law_spoilt" : Str) && (okV N_law_asked (defScope s_law_asked) 9 ("_law_marks" : Str) && (okV N_law_asked (defScope s_law_asked) 10 ("_law_whole" : Str) && (okV N_law_asked (defScope s_law_asked) 11 ("_law_broken" : Str) && (okV N_law_asked (defScope s_law_asked) 12 ("_law_others" : Str) && (okV N_law_asked (defScope s_law_asked) 13 ("_law_other" : Str) && (okW N_law_asked (defScope s_law_asked) 0 ("_law_stream_here" : Str) && (okW N_law_asked (defScope s_law_asked) 1 ("_law_mails" : Str) && (okW N_law_asked (defScope s_law_asked) 2 ("_law_values" : Str) && (okW N_law_asked (defScope s_law_asked) 3 ("_law_text_here" : Str) && (okW N_law_asked (defScope s_law_asked) 4 ("_law_ends" : Str) && (okW N_law_asked (defScope s_law_asked) 5 ("_law_turn" : Str) && (okW N_law_asked (defScope s_law_asked) 6 ("_law_place" : Str) && (okW N_law_asked (defScope s_law_asked) 7 ("_law_at" : Str) && (okW N_law_asked (defScope s_law_asked) 8 ("_law_spoilt" : Str) && (okW N_law_asked (defScope s_law_asked) 9 ("_law_marks" : Str) && (okW N_law_asked (defScope s_law_asked) 10 ("_law_whole" : Str) && (okW N_law_asked (defScope s_law_asked) 11 ("_law_broken" : Str) && (okW N_law_asked (defScope s_law_asked) 12 ("_law_others" : Str) && (okW N_law_asked (defScope s_law_asked) 13 ("_law_other" : Str) && (okG (defScope s_law_asked) ("_law_joined" : Str) && (okG (defScope s_law_asked) ("_law_reads" : Str) && (okG (defScope s_law_asked) ("_law_begins" : Str) && (okG (defScope s_law_asked) ("len" : Str) && (okG (defScope s_law_asked) ("range" : Str) && (okG (defScope s_law_asked) ("_law_next" : Str) && (okG (defScope s_law_asked) ("_law_cut_at" : Str) && (okG (defScope s_law_asked) ("min" : Str) && (okG (defScope s_law_asked) ("max" : Str) && okG (defScope s_law_asked) ("_law_raises" : Str)))))))))))))))))))))))))))))))))))))) = true := by decide +kernel
theorem nm_law_asked {X : Cx} {k : Nat} (C : Ctx X N_law_asked (defScope s_law_asked) k) : Slot X 0 ("_law_stream_here" : Str) ∧ Slot X 1 ("_law_mails" : Str) ∧ Slot X 2 ("_law_values" : Str) ∧ Slot X 3 ("_law_text_here" : Str) ∧ Slot X 4 ("_law_ends" : Str) ∧ Slot X 5 ("_law_turn" : Str) ∧ Slot X 6 ("_law_place" : Str) ∧ Slot X 7 ("_law_at" : Str) ∧ Slot X 8 ("_law_spoilt" : Str) ∧ Slot X 9 ("_law_marks" : Str) ∧ Slot X 10 ("_law_whole" : Str) ∧ Slot X 11 ("_law_broken" : Str) ∧ Slot X 12 ("_law_others" : Str) ∧ Slot X 13 ("_law_other" : Str) ∧ SlotW X 0 ("_law_stream_here" : Str) ∧ SlotW X 1 ("_law_mails" : Str) ∧ SlotW X 2 ("_law_values" : Str) ∧ SlotW X 3 ("_law_text_here" : Str) ∧ SlotW X 4 ("_law_ends" : Str) ∧ SlotW X 5 ("_law_turn" : Str) ∧ SlotW X 6 ("_law_place" : Str) ∧ SlotW X 7 ("_law_at" : Str) ∧ SlotW X 8 ("_law_spoilt" : Str) ∧ SlotW X 9 ("_law_marks" : Str) ∧ SlotW X 10 ("_law_whole" : Str) ∧ SlotW X 11 ("_law_broken" : Str) ∧ SlotW X 12 ("_law_others" : Str) ∧ SlotW X 13 ("_law_other" : Str) ∧ GlN X ("_law_joined" : Str) ∧ GlN X ("_law_reads" : Str) ∧ GlN X ("_law_begins" : Str) ∧ GlN X ("len" : Str) ∧ GlN X ("range" : Str) ∧ GlN X ("_law_next" : Str) ∧ GlN X ("_law_cut_at" : Str) ∧ GlN X ("min" : Str) ∧ GlN X ("max" : Str) ∧ GlN X ("_law_raises" : Str) := by
  have h := ck_law_asked
  simp only [Bool.and_eq_true] at h
  exact ⟨okV_slot C (h.1), okV_slot C (h.2.1), okV_slot C (h.2.2.1), okV_slot C (h.2.2.2.1), okV_slot C (h.2.2.2.2.1), okV_slot C (h.2.2.2.2.2.1), okV_slot C (h.2.2.2.2.2.2.1), okV_slot C (h.2.2.2.2.2.2.2.1), okV_slot C (h.2.2.2.2.2.2.2.2.1), okV_slot C (h.2.2.2.2.2.2.2.2.2.1), okV_slot C (h.2.2.2.2.2.2.2.2.2.2.1), okV_slot C (h.2.2.2.2.2.2.2.2.2.2.2.1), okV_slot C (h.2.2.2.2.2.2.2.2.2.2.2.2.1), okV_slot C (h.2.2.2.2.2.2.2.2.2.2.2.2.2.1), okW_slot C (h.2.2.2.2.2.2.2.2.2.2.2.2.2.2.1), okW_slot C (h.2.2.2.2.2.2.2.2.2.2.2.2.2.2.2.1), okW_slot C (h.2.2.2.2.2.2.2.2.2.2.2.2.2.2.2.2.1), okW_slot C (h.2.2.2.2.2.2.2.2.2.2.2.2.2.2.2.2.2.1), okW_slot C (h.2.2.2.2.2.2.2.2.2.2.2.2.2.2.2.2.2.2.1), okW_slot C (h.2.2.2.2.2.2.2.2.2.2.2.2.2.2.2.2.2.2.2.1), okW_slot C (h.2.2.2.2.2.2.2.2.2.2.2.2.2.2.2.2.2.2.2.2.1), okW_slot C (h.2.2.2.2.2.2.2.2.2.2.2.2.2.2.2.2.2.2.2.2.2.1), okW_slot C (h.2.2.2.2.2.2.2.2.2.2.2.2.2.2.2.2.2.2.2.2.2.2.1), okW_slot C (h.2.2.2.2.2.2.2.2.2.2.2.2.2.2.2.2.2.2.2.2.2.2.2.1), okW_slot C (h.2.2.2.2.2.2.2.2.2.2.2.2.2.2.2.2.2.2.2.2.2.2.2.2.1), okW_slot C (h.2.2.2.2.2.2.2.2.2.2.2.2.2.2.2.2.2.2.2.2.2.2.2.2.2.1), okW_slot C (h.2.2.2.2.2.2.2.2.2.2.2.2.2.2.2.2.2.2.2.2.2.2.2.2.2.2.1), okW_slot C (h.2.2.2.2.2.2.2.2.2.2.2.2.2.2.2.2.2.2.2.2.2.2.2.2.2.2.2.1), okG_gl C (h.2.2.2.2.2.2.2.2.2.2.2.2.2.2.2.2.2.2.2.2.2.2.2.2.2.2.2.2.1), okG_gl C (h.2.2.2.2.2.2.2.2.2.2.2.2.2.2.2.2.2.2.2.2.2.2.2.2.2.2.2.2.2.1), okG_gl C (h.2.2.2.2.2.2.2.2.2.2.2.2.2.2.2.2.2.2.2.2.2.2.2.2.2.2.2.2.2.2.1), okG_gl C (h.2.2.2.2.2.2.2.2.2.2.2.2.2.2.2.2.2.2.2.2.2.2.2.2.2.2.2.2.2.2.2.1), okG_gl C (h.2.2.2.2.2.2.2.2.2.2.2.2.2.2.2.2.2.2.2.2.2.2.2.2.2.2.2.2.2.2.2.2.1), okG_gl C (h.2.2.2.2.2.2.2.2.2.2.2.2.2.2.2.2.2.2.2.2.2.2.2.2.2.2.2.2.2.2.2.2.2.1), okG_gl C (h.2.2.2.2.2.2.2.2.2.2.2.2.2.2.2.2.2.2.2.2.2.2.2.2.2.2.2.2.2.2.2.2.2.2.1), okG_gl C (h.2.2.2.2.2.2.2.2.2.2.2.2.2.2.2.2.2.2.2.2.2.2.2.2.2.2.2.2.2.2.2.2.2.2.2.1), okG_gl C (h.2.2.2.2.2.2.2.2.2.2.2.2.2.2.2.2.2.2.2.2.2.2.2.2.2.2.2.2.2.2.2.2.2.2.2.2.1), okG_gl C (h.2.2.2.2.2.2.2.2.2.2.2.2.2.2.2.2.2.2.2.2.2.2.2.2.2.2.2.2.2.2.2.2.2.2.2.2.2)⟩
abbrev N_law_long : List Str := [("_law_letters" : Str), ("_law_text_here" : Str), ("_law_refs" : Str), ("_law_told" : Str), ("_law_number_here" : Str), ("_law_letter_here" : Str)]
abbrev ps_law_long : List Str := []
theorem fs_law_long : FnScope N_law_long ps_law_long (defScope s_law_long) := ⟨rfl, rfl, rfl, by decide +kernel, rfl, by decide +kernel, by decide +kernel⟩
theorem bd_law_long : BindsAll ps_law_long "_law_long" "_law_long" (defArgs s_law_long) (defBody s_law_long) (defScope s_law_long) := fun _ _ _ _ _ _ us hl => match us, hl with | [], _ => rfl
theorem ck_law_long : (okV N_law_long (defScope s_law_long) 0 ("_law_letters" : Str) && (okV N_law_long (defScope s_law_long) 1 ("_law_text_here" : Str) && (okV N_law_long (defScope s_law_long) 2 ("_law_refs" : Str) && (okV N_law_long (defScope s_law_long) 3 ("_law_told" : Str) && (okW N_law_long (defScope s_law_long) 0 ("_law_letters" : Str) && (okW N_law_long (defScope s_law_long) 1 ("_law_text_here" : Str) && (okW N_law_long (defScope s_law_long) 2 ("_law_refs" : Str) && (okW N_law_long (defScope s_law_long) 3 ("_law_told" : Str) && (okG (defScope s_law_long) ("range" : Str) && (okG (defScope s_law_long) ("archive" : Str) && (okG (defScope s_law_long) ("read_archive" : Str) && (okG (defScope s_law_long) ("read_beginning" : Str) && okG (defScope s_law_long) ("len" : Str))))))))))))) = true := by decide +kernel
theorem nm_law_long {X : Cx} {k : Nat} (C : Ctx X N_law_long (defScope s_law_long) k) : Slot X 0 ("_law_letters" : Str) ∧ Slot X 1 ("_law_text_here" : Str) ∧ Slot X 2 ("_law_refs" : Str) ∧ Slot X 3 ("_law_told" : Str) ∧ SlotW X 0 ("_law_letters" : Str) ∧ SlotW X 1 ("_law_text_here" : Str) ∧ SlotW X 2 ("_law_refs" : Str) ∧ SlotW X 3 ("_law_told" : Str) ∧ GlN X ("range" : Str) ∧ GlN X ("archive" : Str) ∧ GlN X ("read_archive" : Str) ∧ GlN X ("read_beginning" : Str) ∧ GlN X ("len" : Str) := by
  have h := ck_law_long
  simp only [Bool.and_eq_true] at h
  exact ⟨okV_slot C (h.1), okV_slot C (h.2.1), okV_slot C (h.2.2.1), okV_slot C (h.2.2.2.1), okW_slot C (h.2.2.2.2.1), okW_slot C (h.2.2.2.2.2.1), okW_slot C (h.2.2.2.2.2.2.1), okW_slot C (h.2.2.2.2.2.2.2.1), okG_gl C (h.2.2.2.2.2.2.2.2.1), okG_gl C (h.2.2.2.2.2.2.2.2.2.1), okG_gl C (h.2.2.2.2.2.2.2.2.2.2.1), okG_gl C (h.2.2.2.2.2.2.2.2.2.2.2.1), okG_gl C (h.2.2.2.2.2.2.2.2.2.2.2.2)⟩
abbrev N_law : List Str := [("_law_script" : Str), ("_law_values" : Str), ("_law_k" : Str), ("_law_stream_here" : Str), ("_law_letters" : Str), ("_law_mails" : Str), ("_law_text_here" : Str), ("_law_written_here" : Str), ("_law_value_here" : Str)]
abbrev ps_law : List Str := [("_law_script" : Str)]
theorem fs_law : FnScope N_law ps_law (defScope s_law) := ⟨rfl, rfl, rfl, by decide +kernel, rfl, by decide +kernel, by decide +kernel⟩
theorem bd_law : BindsAll ps_law "law" "law" (defArgs s_law) (defBody s_law) (defScope s_law) := fun _ _ _ _ _ _ us hl => match us, hl with | [_], _ => rfl
theorem ck_law : (okV N_law (defScope s_law) 0 ("_law_script" : Str) && (okV N_law (defScope s_law) 1 ("_law_values" : Str) && (okV N_law (defScope s_law) 2 ("_law_k" : Str) && (okV N_law (defScope s_law) 3 ("_law_stream_here" : Str) && (okV N_law (defScope s_law) 4 ("_law_letters" : Str) && (okV N_law (defScope s_law) 5 ("_law_mails" : Str) && (okV N_law (defScope s_law) 6 ("_law_text_here" : Str) && (okV N_law (defScope s_law) 7 ("_law_written_here" : Str) && (okW N_law (defScope s_law) 0 ("_law_script" : Str) && (okW N_law (defScope s_law) 1 ("_law_values" : Str) && (okW N_law (defScope s_law) 2 ("_law_k" : Str) && (okW N_law (defScope s_law) 3 ("_law_stream_here" : Str) && (okW N_law (defScope s_law) 4 ("_law_letters" : Str) && (okW N_law (defScope s_law) 5 ("_law_mails" : Str) && (okW N_law (defScope s_law) 6 ("_law_text_here" : Str) && (okW N_law (defScope s_law) 7 ("_law_written_here" : Str) && (okG (defScope s_law) ("range" : Str) && (okG (defScope s_law) ("min" : Str) && (okG (defScope s_law) ("len" : Str) && (okG (defScope s_law) ("_law_value" : Str) && (okG (defScope s_law) ("_law_stream" : Str) && (okG (defScope s_law) ("_law_cell" : Str) && (okG (defScope s_law) ("_law_joined" : Str) && (okG (defScope s_law) ("archive" : Str) && (okG (defScope s_law) ("isinstance" : Str) && (okG (defScope s_law) ("str" : Str) && (okG (defScope s_law) ("_law_asked" : Str) && (okG (defScope s_law) ("_law_next" : Str) && okG (defScope s_law) ("_law_long" : Str))))))))))))))))))))))))))))) = true := by decide +kernel
theorem nm_law {X : Cx} {k : Nat} (C : Ctx X N_law (defScope s_law) k) : Slot X 0 ("_law_script" : Str) ∧ Slot X 1 ("_law_values" : Str) ∧ Slot X 2 ("_law_k" : Str) ∧ Slot X 3 ("_law_stream_here" : Str) ∧ Slot X 4 ("_law_letters" : Str) ∧ Slot X 5 ("_law_mails" : Str) ∧ Slot X 6 ("_law_text_here" : Str) ∧ Slot X 7 ("_law_written_here" : Str) ∧ SlotW X 0 ("_law_script" : Str) ∧ SlotW X 1 ("_law_values" : Str) ∧ SlotW X 2 ("_law_k" : Str) ∧ SlotW X 3 ("_law_stream_here" : Str) ∧ SlotW X 4 ("_law_letters" : Str) ∧ SlotW X 5 ("_law_mails" : Str) ∧ SlotW X 6 ("_law_text_here" : Str) ∧ SlotW X 7 ("_law_written_here" : Str) ∧ GlN X ("range" : Str) ∧ GlN X ("min" : Str) ∧ GlN X ("len" : Str) ∧ GlN X ("_law_value" : Str) ∧ GlN X ("_law_stream" : Str) ∧ GlN X ("_law_cell" : Str) ∧ GlN X ("_law_joined" : Str) ∧ GlN X ("archive" : Str) ∧ GlN X ("isinstance" : Str) ∧ GlN X ("str" : Str) ∧ GlN X ("_law_asked" : Str) ∧ GlN X ("_law_next" : Str) ∧ GlN X ("_law_long" : Str) := by
  have h := ck_law
  simp only [Bool.and_eq_true] at h
  exact ⟨okV_slot C (h.1), okV_slot C (h.2.1), okV_slot C (h.2.2.1), okV_slot C (h.2.2.2.1), okV_slot C (h.2.2.2.2.1), okV_slot C (h.2.2.2.2.2.1), okV_slot C (h.2.2.2.2.2.2.1), okV_slot C (h.2.2.2.2.2.2.2.1), okW_slot C (h.2.2.2.2.2.2.2.2.1), okW_slot C (h.2.2.2.2.2.2.2.2.2.1), okW_slot C (h.2.2.2.2.2.2.2.2.2.2.1), okW_slot C (h.2.2.2.2.2.2.2.2.2.2.2.1), okW_slot C (h.2.2.2.2.2.2.2.2.2.2.2.2.1), okW_slot C (h.2.2.2.2.2.2.2.2.2.2.2.2.2.1), okW_slot C (h.2.2.2.2.2.2.2.2.2.2.2.2.2.2.1), okW_slot C (h.2.2.2.2.2.2.2.2.2.2.2.2.2.2.2.1), okG_gl C (h.2.2.2.2.2.2.2.2.2.2.2.2.2.2.2.2.1), okG_gl C (h.2.2.2.2.2.2.2.2.2.2.2.2.2.2.2.2.2.1), okG_gl C (h.2.2.2.2.2.2.2.2.2.2.2.2.2.2.2.2.2.2.1), okG_gl C (h.2.2.2.2.2.2.2.2.2.2.2.2.2.2.2.2.2.2.2.1), okG_gl C (h.2.2.2.2.2.2.2.2.2.2.2.2.2.2.2.2.2.2.2.2.1), okG_gl C (h.2.2.2.2.2.2.2.2.2.2.2.2.2.2.2.2.2.2.2.2.2.1), okG_gl C (h.2.2.2.2.2.2.2.2.2.2.2.2.2.2.2.2.2.2.2.2.2.2.1), okG_gl C (h.2.2.2.2.2.2.2.2.2.2.2.2.2.2.2.2.2.2.2.2.2.2.2.1), okG_gl C (h.2.2.2.2.2.2.2.2.2.2.2.2.2.2.2.2.2.2.2.2.2.2.2.2.1), okG_gl C (h.2.2.2.2.2.2.2.2.2.2.2.2.2.2.2.2.2.2.2.2.2.2.2.2.2.1), okG_gl C (h.2.2.2.2.2.2.2.2.2.2.2.2.2.2.2.2.2.2.2.2.2.2.2.2.2.2.1), okG_gl C (h.2.2.2.2.2.2.2.2.2.2.2.2.2.2.2.2.2.2.2.2.2.2.2.2.2.2.2.1), okG_gl C (h.2.2.2.2.2.2.2.2.2.2.2.2.2.2.2.2.2.2.2.2.2.2.2.2.2.2.2.2)⟩
end LoW
/-! ## LoRules -/
set_option Elab.async false
set_option linter.all false
set_option maxRecDepth 100000
set_option maxHeartbeats 4000000
/-! Rules at the names that the program calls. -/
namespace LoW
open PySem PySem.Spec PyProof.Rows L2 LoH
section
variable {X : Cx} {N : List Str} {sc : Scope} {k : Nat} {σ : L2.St} {H : Hp} {Q : VK} {QT : Bool → Hp → Prop} {a b e o : Expr} {es : List Expr} {pos p apos : Pos}
/-- isinstance: what the thing is decides -/
def IsiV (K : PySem.W.Frag) (vs : List V) (H : Hp) (Q : VK) : Prop := rIsi K vs H Q
theorem IsiV.mk {K : PySem.W.Frag} {x : V} {a b : String} {r : Bool} (h : TyX K H x (.type a)) (hk : kitB a b = some r) (q : Q (.bl r) H) : IsiV K [x, .ty b] H Q := ⟨x, .ty b, _, _, r, rfl, .ty b, h, kit_ty hk, q⟩
theorem IsiV.ii {K : PySem.W.Frag} {n : Int} (q : Q (.bl true) H) : IsiV K [.int n, .ty "int"] H Q := .mk (.base (.int n)) (by decide +kernel) q
theorem IsiV.ib {K : PySem.W.Frag} {n : Int} (q : Q (.bl false) H) : IsiV K [.int n, .ty "bool"] H Q := .mk (.base (.int n)) (by decide +kernel) q
theorem IsiV.ss {K : PySem.W.Frag} {z : Str} (q : Q (.bl true) H) : IsiV K [.str z, .ty "str"] H Q := .mk (.base (.str z)) (by decide +kernel) q
theorem IsiV.ns {K : PySem.W.Frag} (q : Q (.bl false) H) : IsiV K [.non, .ty "str"] H Q := .mk (.base .non) (by decide +kernel) q
theorem IsiV.tt {K : PySem.W.Frag} {a : Addr} {xs : List V} (h : H a = some (.tup xs)) (q : Q (.bl true) H) : IsiV K [.ref a, .ty "tuple"] H Q := .mk (.base (.tup h)) (by decide +kernel) q
theorem IsiV.ll {K : PySem.W.Frag} {a : Addr} {xs : List V} (h : H a = some (.lst xs)) (q : Q (.bl true) H) : IsiV K [.ref a, .ty "list"] H Q := .mk (.base (.lst h)) (by decide +kernel) q
theorem e_isi (C : Ctx X N sc k) (g : GlN X "isinstance") (h : A1 X (e :: es) σ H fun vs H1 => IsiV X.K vs H1 Q)
    (he : starEach (e :: es) X.env = (false, eval e X.env) :: starEach es X.env := by rfl) (hpl : (backTo pos (starEach es X.env)).any (·.1) = false := by rfl) : E1 X (.Call (.Name "isinstance" p) (e :: es) [] pos) σ H Q :=
  e_callB call_isi g (C.tx.free 63 rfl) (by decide +kernel) h he hpl
theorem e_ty_int (C : Ctx X N sc k) (g : GlN X "int") (q : Q (.ty "int") H) : E1 X (.Name "int" p) σ H Q := e_bltn g (C.tx.free 65 rfl) (by decide +kernel : bootBuiltins "int" = some (.type "int")) (show RelV (.ty "int") _ from rfl) q
theorem e_ty_str (C : Ctx X N sc k) (g : GlN X "str") (q : Q (.ty "str") H) : E1 X (.Name "str" p) σ H Q := e_bltn g (C.tx.free 64 rfl) (by decide +kernel : bootBuiltins "str" = some (.type "str")) (show RelV (.ty "str") _ from rfl) q
theorem e_ty_bool (C : Ctx X N sc k) (g : GlN X "bool") (q : Q (.ty "bool") H) : E1 X (.Name "bool" p) σ H Q := e_bltn g (C.tx.free 66 rfl) (by decide +kernel : bootBuiltins "bool" = some (.type "bool")) (show RelV (.ty "bool") _ from rfl) q
theorem e_ty_tuple (C : Ctx X N sc k) (g : GlN X "tuple") (q : Q (.ty "tuple") H) : E1 X (.Name "tuple" p) σ H Q := e_bltn g (C.tx.free 67 rfl) (by decide +kernel : bootBuiltins "tuple" = some (.type "tuple")) (show RelV (.ty "tuple") _ from rfl) q
theorem e_ty_list (C : Ctx X N sc k) (g : GlN X "list") (q : Q (.ty "list") H) : E1 X (.Name "list" p) σ H Q := e_bltn g (C.tx.free 76 rfl) (by decide +kernel : bootBuiltins "list" = some (.type "list")) (show RelV (.ty "list") _ from rfl) q
theorem e_ty_VE (C : Ctx X N sc k) (g : GlN X "ValueError") (q : Q (.ty "ValueError") H) : E1 X (.Name "ValueError" p) σ H Q := e_bltn g (C.tx.free 77 rfl) (by decide +kernel : bootBuiltins "ValueError" = some (.type "ValueError")) (show RelV (.ty "ValueError") _ from rfl) q
/-- a constant of the top -/
theorem e_cint (C : Ctx X N sc k) {x : Str} {n : Int} (i : Nat) (g : GlN X x) (h : LoH.fa[i]? = some (.int x n)) (q : Q (.int n) H) : E1 X (.Name x p) σ H Q := by
  obtain ⟨t, ht⟩ := C.tx.int i h
  exact e_glob (v := .int n) g ht ⟨t, rfl⟩ q
theorem e_cstr (C : Ctx X N sc k) {x z : Str} (i : Nat) (g : GlN X x) (h : LoH.fa[i]? = some (.str x z)) (q : Q (.str z) H) : E1 X (.Name x p) σ H Q := by
  obtain ⟨t, ht⟩ := C.tx.str i h
  exact e_glob (v := .str z) g ht ⟨t, rfl⟩ q
theorem e_LONGEST_NAME (C : Ctx X N sc k) (g : GlN X "LONGEST_NAME") (q : Q (.int 12) H) : E1 X (.Name "LONGEST_NAME" p) σ H Q := e_cint C 78 g rfl q
theorem e_GREATEST_NUMBER (C : Ctx X N sc k) (g : GlN X "GREATEST_NUMBER") (q : Q (.int 1000000000000000000) H) : E1 X (.Name "GREATEST_NUMBER" p) σ H Q := e_cint C 79 g rfl q
theorem e_LONGEST_TEXT (C : Ctx X N sc k) (g : GlN X "LONGEST_TEXT") (q : Q (.int 400) H) : E1 X (.Name "LONGEST_TEXT" p) σ H Q := e_cint C 80 g rfl q
theorem e_LONGEST_TITLE (C : Ctx X N sc k) (g : GlN X "LONGEST_TITLE") (q : Q (.int 60) H) : E1 X (.Name "LONGEST_TITLE" p) σ H Q := e_cint C 81 g rfl q
theorem e_MOST_MEMBERS (C : Ctx X N sc k) (g : GlN X "MOST_MEMBERS") (q : Q (.int 15) H) : E1 X (.Name "MOST_MEMBERS" p) σ H Q := e_cint C 82 g rfl q
theorem e_WIDTH (C : Ctx X N sc k) (g : GlN X "WIDTH") (q : Q (.int 60) H) : E1 X (.Name "WIDTH" p) σ H Q := e_cint C 83 g rfl q
theorem e_MOST_DIGITS (C : Ctx X N sc k) (g : GlN X "MOST_DIGITS") (q : Q (.int 19) H) : E1 X (.Name "MOST_DIGITS" p) σ H Q := e_cint C 84 g rfl q
theorem e_LETTERS (C : Ctx X N sc k) (g : GlN X "LETTERS") (q : Q (.str "abcdefghijklmnopqrstuvwxyz") H) : E1 X (.Name "LETTERS" p) σ H Q := e_cstr C 85 g rfl q
theorem e_DIGITS_names (C : Ctx X N sc k) (g : GlN X "DIGITS_names") (q : Q (.str "0123456789") H) : E1 X (.Name "DIGITS_names" p) σ H Q := e_cstr C 86 g rfl q
theorem e_DIGITS_headers (C : Ctx X N sc k) (g : GlN X "DIGITS_headers") (q : Q (.str "0123456789") H) : E1 X (.Name "DIGITS_headers" p) σ H Q := e_cstr C 87 g rfl q
theorem e_MARK (C : Ctx X N sc k) (g : GlN X "MARK") (q : Q (.str "|") H) : E1 X (.Name "MARK" p) σ H Q := e_cstr C 88 g rfl q
theorem e_LAST (C : Ctx X N sc k) (g : GlN X "LAST") (q : Q (.str ".") H) : E1 X (.Name "LAST" p) σ H Q := e_cstr C 89 g rfl q
/-- len -/
def LenW (K : PySem.W.Frag) (x : V) (H : Hp) (Q : VK) : Prop := ∃ n, LenV K x H n ∧ Q (.int n) H
theorem LenW.s {K : PySem.W.Frag} {z : Str} (h : z.length ≤ sizeLine) (q : Q (.int (z.length : Nat)) H) : LenW K (.str z) H Q := ⟨_, ⟨h, rfl⟩, q⟩
theorem LenW.l {K : PySem.W.Frag} {a : Addr} {xs : List V} (h : SqL K H a xs) (q : Q (.int (xs.length : Nat)) H) : LenW K (.ref a) H Q := ⟨_, .inl ⟨xs, h, rfl⟩, q⟩
theorem LenW.t {K : PySem.W.Frag} {a : Addr} {xs : List V} (h : SqT K H a xs) (q : Q (.int (xs.length : Nat)) H) : LenW K (.ref a) H Q := ⟨_, .inr ⟨xs, h, rfl⟩, q⟩
theorem e_len (C : Ctx X N sc k) (g : GlN X "len") (h : E1 X e σ H fun x H1 => LenW X.K x H1 Q) (he : starEach [e] X.env = (false, eval e X.env) :: starEach [] X.env := by rfl) : E1 X (.Call (.Name "len" p) [e] [] pos) σ H Q :=
  e_callB call_len g (C.tx.free 68 rfl) (by decide +kernel) (a_cons (E1.imp h fun x H1 ⟨n, hn, q⟩ => a_nil ⟨x, n, rfl, hn, q⟩) he) he rfl
/-- ord, str, int, max, min -/
theorem e_ord (C : Ctx X N sc k) (g : GlN X "ord") (h : E1 X e σ H fun x H1 => ∃ c : Nat, x = .str ⟨#[c]⟩ ∧ Q (.int c) H1) (he : starEach [e] X.env = (false, eval e X.env) :: starEach [] X.env := by rfl) : E1 X (.Call (.Name "ord" p) [e] [] pos) σ H Q :=
  e_callB call_ord g (C.tx.free 69 rfl) (by decide +kernel) (a_cons (E1.imp h fun x H1 ⟨c, hc, q⟩ => a_nil ⟨⟨#[c]⟩, by rw [hc], rfl, q⟩) he) he rfl
theorem e_str1 (C : Ctx X N sc k) (g : GlN X "str") (h : E1 X e σ H fun x H1 => ∃ i : Int, x = .int i ∧ i.natAbs.log2 < 1920 ∧ Q (.str (toString i)) H1) (he : starEach [e] X.env = (false, eval e X.env) :: starEach [] X.env := by rfl) : E1 X (.Call (.Name "str" p) [e] [] pos) σ H Q :=
  e_callTy call_str_int g (C.tx.free 64 rfl) (by decide +kernel) (a_cons (E1.imp h fun x H1 ⟨c, hc, hb, q⟩ => a_nil ⟨c, by rw [hc], hb, q⟩) he) he rfl
/-- int of an int, of a text that is a number -/
def IntW (x : V) (H : Hp) (Q : VK) : Prop := (∃ i, x = .int i ∧ Q (.int i) H) ∨ ∃ a n, x = .str a ∧ PySem.intText? a = some n ∧ a.length ≤ 640 ∧ Q (.int n) H
theorem IntW.i {i : Int} (q : Q (.int i) H) : IntW (.int i) H Q := .inl ⟨i, rfl, q⟩
theorem IntW.s {a : Str} {n : Int} (h : PySem.intText? a = some n) (hl : a.length ≤ 640) (q : Q (.int n) H) : IntW (.str a) H Q := .inr ⟨a, n, rfl, h, hl, q⟩
theorem e_int1 (C : Ctx X N sc k) (g : GlN X "int") (h : E1 X e σ H fun x H1 => IntW x H1 Q) (he : starEach [e] X.env = (false, eval e X.env) :: starEach [] X.env := by rfl) : E1 X (.Call (.Name "int" p) [e] [] pos) σ H Q :=
  e_callTy (CallR.or call_int1 call_int_str) g (C.tx.free 65 rfl) (by decide +kernel) (a_cons (E1.imp h fun x H1 h1 => a_nil (by
    rcases h1 with ⟨i, e, q⟩ | ⟨a, n, e, h2, h3, q⟩
    · exact .inl (.inl ⟨i, by rw [e], q⟩)
    · exact .inr ⟨a, n, by rw [e], h2, h3, q⟩)) he) he rfl
theorem e_max2 (C : Ctx X N sc k) (g : GlN X "max") (h : E1 X a σ H fun x H1 => E1 X b σ H1 fun y H2 => ∃ i j : Int, x = .int i ∧ y = .int j ∧ Q (.int (if j > i then j else i)) H2) (he : starEach [a, b] X.env = (false, eval a X.env) :: starEach [b] X.env := by rfl)
    (he2 : starEach [b] X.env = (false, eval b X.env) :: starEach [] X.env := by rfl) (hpl : (backTo pos (starEach [b] X.env)).any (·.1) = false := by rfl) : E1 X (.Call (.Name "max" p) [a, b] [] pos) σ H Q :=
  e_callB (call_max2 C.calm) g (C.tx.free 73 rfl) (by decide +kernel) (a_cons (E1.imp h fun x H1 h1 => a_cons (E1.imp h1 fun y H2 ⟨i, j, e1, e2, q⟩ => a_nil ⟨i, j, by rw [e1, e2], q⟩) he2) he) he hpl
theorem e_min2 (C : Ctx X N sc k) (g : GlN X "min") (h : E1 X a σ H fun x H1 => E1 X b σ H1 fun y H2 => ∃ i j : Int, x = .int i ∧ y = .int j ∧ Q (.int (if j < i then j else i)) H2) (he : starEach [a, b] X.env = (false, eval a X.env) :: starEach [b] X.env := by rfl)
    (he2 : starEach [b] X.env = (false, eval b X.env) :: starEach [] X.env := by rfl) (hpl : (backTo pos (starEach [b] X.env)).any (·.1) = false := by rfl) : E1 X (.Call (.Name "min" p) [a, b] [] pos) σ H Q :=
  e_callB (call_min2 C.calm) g (C.tx.free 74 rfl) (by decide +kernel) (a_cons (E1.imp h fun x H1 h1 => a_cons (E1.imp h1 fun y H2 ⟨i, j, e1, e2, q⟩ => a_nil ⟨i, j, by rw [e1, e2], q⟩) he2) he) he hpl
/-- sum of a list of ints, sorted of texts, of a dict's text keys, tuple of a list -/
theorem e_sum1 (C : Ctx X N sc k) (g : GlN X "sum") (h : E1 X e σ H fun x H1 => ∃ (a : Addr) (ns : List Int), x = .ref a ∧ SqL X.K H1 a (ns.map V.int) ∧ Q (.int ns.sum) H1) (he : starEach [e] X.env = (false, eval e X.env) :: starEach [] X.env := by rfl) : E1 X (.Call (.Name "sum" p) [e] [] pos) σ H Q :=
  e_callB (cr_sum C.calm) g (C.tx.free 75 rfl) (by decide +kernel) (a_cons (E1.imp h fun x H1 ⟨c, ns, hc, hs, q⟩ => a_nil ⟨c, ns, by rw [hc], hs, q⟩) he) he rfl
theorem e_sortedS (C : Ctx X N sc k) (g : GlN X "sorted") (h : E1 X e σ H fun x H1 => ∃ (a : Addr) (xs : List Str), x = .ref a ∧ SqL X.K H1 a (xs.map V.str) ∧ xs.length < 64 ∧ ∀ (ys : List Str) (p : Addr) (H2 : Hp), ys.Perm xs → sortedS ys = true → New H1 p (.lst (ys.map V.str)) H2 → Q (.ref p) H2)
    (he : starEach [e] X.env = (false, eval e X.env) :: starEach [] X.env := by rfl) : E1 X (.Call (.Name "sorted" p) [e] [] pos) σ H Q :=
  e_callB cr_sortedS g (C.tx.free 72 rfl) (by decide +kernel) (a_cons (E1.imp h fun x H1 ⟨c, xs, hc, hs, hl, q⟩ => a_nil ⟨c, xs, by rw [hc], hs, hl, fun ys p h1 h2 h3 => q ys p _ h1 h2 (New.of h3)⟩) he) he rfl
theorem e_sortedD (C : Ctx X N sc k) (g : GlN X "sorted") (h : E1 X e σ H fun x H1 => ∃ (a : Addr) (kvs : List (Key × V)) (ks : List Str), x = .ref a ∧ H1 a = some (.dK kvs) ∧ kvs.map (·.1) = ks.map Sum.inr ∧ ks.length < 64 ∧ ∀ (ys : List Str) (p : Addr) (H2 : Hp), ys.Perm ks → sortedS ys = true → New H1 p (.lst (ys.map V.str)) H2 → Q (.ref p) H2)
    (he : starEach [e] X.env = (false, eval e X.env) :: starEach [] X.env := by rfl) : E1 X (.Call (.Name "sorted" p) [e] [] pos) σ H Q :=
  e_callB (call_sortedD C.calm) g (C.tx.free 72 rfl) (by decide +kernel) (a_cons (E1.imp h fun x H1 ⟨c, kvs, ks, hc, hs, hk, hl, q⟩ => a_nil ⟨c, kvs, ks, by rw [hc], .inl hs, hk, hl, fun ys p h1 h2 h3 => q ys p _ h1 h2 (New.of h3)⟩) he) he rfl
theorem e_tupleL (C : Ctx X N sc k) (g : GlN X "tuple") (h : E1 X e σ H fun x H1 => ∃ (a : Addr) (xs : List V), x = .ref a ∧ SqL X.K H1 a xs ∧ ∀ p H2, New H1 p (.tup xs) H2 → Q (.ref p) H2)
    (he : starEach [e] X.env = (false, eval e X.env) :: starEach [] X.env := by rfl) : E1 X (.Call (.Name "tuple" p) [e] [] pos) σ H Q :=
  e_callTy call_tuple_of g (C.tx.free 67 rfl) (by decide +kernel) (a_cons (E1.imp h fun x H1 ⟨c, xs, hc, hs, q⟩ => a_nil ⟨c, xs, by rw [hc], .inl ⟨hs, fun p h3 => q p _ (New.of h3)⟩⟩) he) he rfl
theorem Bth.nt {A B : Prop} (h : B) : Bth (!true) A B := Bth.f h
theorem Bth.nf {A B : Prop} (h : A) : Bth (!false) A B := Bth.t h
theorem Bth.d {p : Prop} [Decidable p] {A B : Prop} (h1 : p → A) (h2 : ¬ p → B) : Bth (decide p) A B := ⟨fun h => h1 (of_decide_eq_true h), fun h => h2 (of_decide_eq_false h)⟩
theorem Bth.dT {p : Prop} [Decidable p] {A B : Prop} (h : p) (a : A) : Bth (decide p) A B := Bth.d (fun _ => a) (fun n => absurd h n)
theorem Bth.dF {p : Prop} [Decidable p] {A B : Prop} (h : ¬ p) (b : B) : Bth (decide p) A B := Bth.d (fun n => absurd n h) (fun _ => b)
theorem Bth.ndT {p : Prop} [Decidable p] {A B : Prop} (h : p) (b : B) : Bth (!decide p) A B := by rw [decide_eq_true h]; exact Bth.nt b
theorem Bth.ndF {p : Prop} [Decidable p] {A B : Prop} (h : ¬ p) (a : A) : Bth (!decide p) A B := by rw [decide_eq_false h]; exact Bth.nf a
theorem Bth.dn {p : Prop} [Decidable p] {A B : Prop} (h1 : ¬ p → A) (h2 : p → B) : Bth (!decide p) A B := ⟨fun h => h1 (of_decide_eq_false (by cases e : decide p <;> simp_all)), fun h => h2 (of_decide_eq_true (by cases e : decide p <;> simp_all))⟩
theorem Bth.kk {k : Bool} {A B : Prop} (h1 : k = true → A) (h2 : k = false → B) : Bth k A B := ⟨h1, h2⟩
theorem Bth.n {k : Bool} {A B : Prop} (h1 : k = false → A) (h2 : k = true → B) : Bth (!k) A B := by cases k <;> simp_all [Bth]
theorem t_call {f : Expr} {ks : List Keyword} (h : E1 X (.Call f es ks pos) σ H fun x H' => ∃ k, x = .bl k ∧ QT k H') (he : ∀ whole, isTrue (.Call f es ks pos) X.env whole = (do let v ← whole; standAt (Expr.pos (.Call f es ks pos)); holding [v] (truthy v)) := by intro _; rfl) : T1 X (.Call f es ks pos) σ H QT := t_bl h he
/-- texts: methods -/
theorem e_split (h : E1 X o σ H fun x H1 => ∃ a : Str, x = .str a ∧ E1 X e σ H1 fun y H2 => ∃ b : Str, y = .str b ∧ (b.length == 0) = false ∧ a.length + 2 ≤ sizeLine ∧ ∀ p H3, New H2 p (.lst ((Txt.split a b).map V.str)) H3 → Q (.ref p) H3)
    (hs : starEach [e] X.env = [(false, eval e X.env)] := by rfl) (hbase : attributeBase o "split" X.env (eval o X.env) = eval o X.env := by rfl) (hline : (apos.endLine == pos.line) = true := by rfl) : E1 X (.Call (.Attribute o "split" apos) [e] [] pos) σ H Q :=
  E1.of (pe_split pE pE hs hbase hline) (E1.imp h fun x H1 ⟨a, e1, h1⟩ => ⟨⟨a, e1⟩, E1.imp h1 fun y H2 ⟨b, e2, h3, h4, q⟩ => ⟨a, b, e1, by rw [e2], h3, h4, fun p hp => q p _ (New.of hp)⟩⟩)
theorem e_partition (h : E1 X o σ H fun x H1 => ∃ a : Str, x = .str a ∧ E1 X e σ H1 fun y H2 => ∃ b : Str, y = .str b ∧ (b.length == 0) = false ∧ a.length ≤ sizeLine ∧ ∀ p H3, New H2 p (.tup [.str (Txt.partition a b).1, .str (Txt.partition a b).2.1, .str (Txt.partition a b).2.2]) H3 → Q (.ref p) H3)
    (hs : starEach [e] X.env = [(false, eval e X.env)] := by rfl) (hbase : attributeBase o "partition" X.env (eval o X.env) = eval o X.env := by rfl) (hline : (apos.endLine == pos.line) = true := by rfl) : E1 X (.Call (.Attribute o "partition" apos) [e] [] pos) σ H Q :=
  E1.of (pe_partition pE pE hs hbase hline) (E1.imp h fun x H1 ⟨a, e1, h1⟩ => ⟨⟨a, e1⟩, E1.imp h1 fun y H2 ⟨b, e2, h3, h4, q⟩ => ⟨a, b, e1, by rw [e2], h3, h4, fun p hp => q p _ (New.of hp)⟩⟩)
theorem e_join (h : E1 X o σ H fun x H1 => ∃ a : Str, x = .str a ∧ E1 X e σ H1 fun y H2 => ∃ (p : Addr) (ys : List Str), y = .ref p ∧ (SqL X.K H2 p (ys.map V.str) ∨ SqT X.K H2 p (ys.map V.str)) ∧ (ys.map (·.length)).sum + ys.length * a.length ≤ 16777216 ∧ Q (.str (Txt.join a ys)) H2)
    (hs : starEach [e] X.env = [(false, eval e X.env)] := by rfl) (hbase : attributeBase o "join" X.env (eval o X.env) = eval o X.env := by rfl) (hline : (apos.endLine == pos.line) = true := by rfl) : E1 X (.Call (.Attribute o "join" apos) [e] [] pos) σ H Q :=
  E1.of (pe_join pE pE hs hbase hline) (E1.imp h fun x H1 ⟨a, e1, h1⟩ => ⟨⟨a, e1⟩, E1.imp h1 fun y H2 ⟨p, ys, e2, h3, h4, q⟩ => ⟨a, p, ys, e1, by rw [e2], h3, h4, q⟩⟩)
theorem e_count (h : E1 X o σ H fun x H1 => ∃ a : Str, x = .str a ∧ E1 X e σ H1 fun y H2 => ∃ b : Str, y = .str b ∧ Q (.int (Txt.count a b)) H2)
    (hs : starEach [e] X.env = [(false, eval e X.env)] := by rfl) (hbase : attributeBase o "count" X.env (eval o X.env) = eval o X.env := by rfl) (hline : (apos.endLine == pos.line) = true := by rfl) : E1 X (.Call (.Attribute o "count" apos) [e] [] pos) σ H Q :=
  E1.of (pe_m1 PySem.F.slot_str_count PySem.F.type_str_count mt_count pE pE hs hbase hline) (E1.imp h fun x H1 ⟨a, e1, h1⟩ => ⟨⟨a, e1⟩, E1.imp h1 fun y H2 ⟨b, e2, q⟩ => ⟨a, b, e1, by rw [e2], q⟩⟩)
/-- line.rfind(' ', 1, n), line.find(' ', n) -/
theorem e_rfind4 {c : Expr} (h : E1 X o σ H fun x H1 => ∃ z : Str, x = .str z ∧ A1 X [e, a, c] σ H1 fun vs H2 => ∃ (y : Str) (i j : Int), vs = [.str y, .int i, .int j] ∧ Q (.int (Txt.rfindIn z y i j)) H2)
    (hbase : attributeBase o "rfind" X.env (eval o X.env) = eval o X.env := by rfl) (hfew : ((backTo pos (starEach [e, a, c] X.env)).all (fun x => !x.1) && (backToKw pos (keywordEach [] X.env)).all (fun x => x.1.isSome)
      && decide ([e, a, c].length + ([] : List Keyword).length + (if ([] : List Keyword).isEmpty then 0 else 1) < 30)) = true := by rfl)
    (hline : (apos.endLine == pos.line) = true := by rfl) (hs : starEach [e, a, c] X.env = (false, eval e X.env) :: starEach [a, c] X.env := by rfl) (hplain : (backTo pos (starEach [a, c] X.env)).any (·.1) = false := by rfl) : E1 X (.Call (.Attribute o "rfind" apos) [e, a, c] [] pos) σ H Q :=
  e_bm PySem.F.plainAttrs_str PySem.F.slot_str_rfind PySem.F.type_str_rfind mt_rfind4 (E1.imp h fun x H1 ⟨z, e1, h1⟩ => ⟨by rw [e1]; exact rfl, A1.imp h1 fun vs H2 ⟨y, i, j, e2, q⟩ => ⟨z, y, i, j, e1, e2, q⟩⟩) hbase hfew hline hs hplain
theorem e_find3 (h : E1 X o σ H fun x H1 => ∃ z : Str, x = .str z ∧ A1 X [e, a] σ H1 fun vs H2 => ∃ (y : Str) (i : Int), vs = [.str y, .int i] ∧ Q (.int (Txt.find3 z y i)) H2)
    (hbase : attributeBase o "find" X.env (eval o X.env) = eval o X.env := by rfl) (hfew : ((backTo pos (starEach [e, a] X.env)).all (fun x => !x.1) && (backToKw pos (keywordEach [] X.env)).all (fun x => x.1.isSome)
      && decide ([e, a].length + ([] : List Keyword).length + (if ([] : List Keyword).isEmpty then 0 else 1) < 30)) = true := by rfl)
    (hline : (apos.endLine == pos.line) = true := by rfl) (hs : starEach [e, a] X.env = (false, eval e X.env) :: starEach [a] X.env := by rfl) (hplain : (backTo pos (starEach [a] X.env)).any (·.1) = false := by rfl) : E1 X (.Call (.Attribute o "find" apos) [e, a] [] pos) σ H Q :=
  e_bm PySem.F.plainAttrs_str PySem.F.slot_str_find PySem.F.type_str_find mt_find3 (E1.imp h fun x H1 ⟨z, e1, h1⟩ => ⟨by rw [e1]; exact rfl, A1.imp h1 fun vs H2 ⟨y, i, e2, q⟩ => ⟨z, y, i, e1, e2, q⟩⟩) hbase hfew hline hs hplain
/-- lists: append, extend -/
theorem e_append (h : E1 X o σ H fun x H1 => ∃ l, x = .ref l ∧ (∃ xs, H1 l = some (.lst xs)) ∧ E1 X e σ H1 fun y H2 => ∃ xs, H2 l = some (.lst xs) ∧ xs.length < sizeLine ∧ Q .non (upd H2 l (.lst (xs ++ [y]))))
    (hbase : attributeBase o "append" X.env (eval o X.env) = eval o X.env := by rfl) (hfew : ((backTo pos (starEach [e] X.env)).all (fun x => !x.1) && (backToKw pos (keywordEach [] X.env)).all (fun x => x.1.isSome)
      && decide ([e].length + ([] : List Keyword).length + (if ([] : List Keyword).isEmpty then 0 else 1) < 30)) = true := by rfl)
    (hline : (apos.endLine == pos.line) = true := by rfl) (hs : starEach [e] X.env = (false, eval e X.env) :: starEach [] X.env := by rfl) (hplain : (backTo pos (starEach [] X.env)).any (·.1) = false := by rfl) : E1 X (.Call (.Attribute o "append" apos) [e] [] pos) σ H Q :=
  e_bm PySem.F.plainAttrs_list PySem.F.slot_list_append PySem.F.type_list_append mt_append (E1.imp h fun x H1 ⟨l, e1, ⟨xs, hx⟩, h1⟩ => ⟨by rw [e1]; exact .inl ⟨rfl, xs, SqL.of hx⟩, a_cons (E1.imp h1 fun y H2 ⟨ys, h2, h3, q⟩ => a_nil ⟨l, ys, y, e1, rfl, h2, h3, q⟩) hs⟩) hbase hfew hline hs hplain
theorem e_extend (h : E1 X o σ H fun x H1 => ∃ l, x = .ref l ∧ (∃ xs, H1 l = some (.lst xs)) ∧ E1 X e σ H1 fun y H2 => ∃ b xs zs, y = .ref b ∧ H2 l = some (.lst xs) ∧ H2 b = some (.lst zs) ∧ xs.length + zs.length ≤ sizeLine ∧ Q .non (upd H2 l (.lst (xs ++ zs))))
    (hbase : attributeBase o "extend" X.env (eval o X.env) = eval o X.env := by rfl) (hfew : ((backTo pos (starEach [e] X.env)).all (fun x => !x.1) && (backToKw pos (keywordEach [] X.env)).all (fun x => x.1.isSome)
      && decide ([e].length + ([] : List Keyword).length + (if ([] : List Keyword).isEmpty then 0 else 1) < 30)) = true := by rfl)
    (hline : (apos.endLine == pos.line) = true := by rfl) (hs : starEach [e] X.env = (false, eval e X.env) :: starEach [] X.env := by rfl) (hplain : (backTo pos (starEach [] X.env)).any (·.1) = false := by rfl) : E1 X (.Call (.Attribute o "extend" apos) [e] [] pos) σ H Q :=
  e_bm PySem.F.plainAttrs_list PySem.F.slot_list_extend PySem.F.type_list_extend mt_extend (E1.imp h fun x H1 ⟨l, e1, ⟨xs, hx⟩, h1⟩ => ⟨by rw [e1]; exact .inl ⟨rfl, xs, SqL.of hx⟩, a_cons (E1.imp h1 fun y H2 ⟨b, ys, zs, e2, h2, h3, h4, q⟩ => a_nil ⟨l, b, ys, zs, e1, by rw [e2], h2, h3, h4, q⟩) hs⟩) hbase hfew hline hs hplain
end
end LoW
/-! ## LoMir -/
set_option linter.all false
set_option maxRecDepth 100000
/-! The mirror: what the program and the law compute, as plain functions of lists of code points. Core Lean alone. -/
namespace LO
/-- a text: its code points -/
abbrev T := List Nat
abbrev Rf := T × Int
inductive Body where
  | found (t : T) (ms : List T)
  | say (o : Option T)
  | reply (e : Bool) (r : Rf) (o : Option T)
  | recall (r : Rf)
  | mark (r : Rf) (w : T)
  | title (t : T)
  | act (k : Nat) (n : T)
  | seen
  | other (k : T)
  deriving DecidableEq
structure LV where
  author : T
  number : Int
  stamp : Int
  seen : List Rf
  body : Body
  deriving DecidableEq
/-! ### names, numbers, texts -/
def isLet (c : Nat) : Bool := decide (97 ≤ c) && decide (c ≤ 122)
def isDig (c : Nat) : Bool := decide (48 ≤ c) && decide (c ≤ 57)
def isName (x : T) : Bool := decide (1 ≤ x.length) && (decide (x.length ≤ 12) && (x.all (fun c => isLet c || isDig c) && isLet (x.headD 0)))
def isNum (n : Int) : Bool := decide (1 ≤ n) && decide (n ≤ 1000000000000000000)
def isPlain (x : T) : Bool := x.all fun c => decide (32 ≤ c) && decide (c ≤ 126)
def isText : Option T → Bool
  | none => false
  | some x => decide (1 ≤ x.length) && (decide (x.length ≤ 400) && isPlain (x.filter (· ≠ 10)))
def isTitle (x : T) : Bool := decide (x.length ≤ 60) && isPlain x
def isRef (r : Rf) : Bool := isName r.1 && isNum r.2
/-- names in strictly ascending order -/
def asc : List T → Bool
  | a :: b :: r => decide (a < b) && asc (b :: r)
  | _ => true
def isMembers (ms : List T) : Bool := decide (ms.length ≤ 15) && (ms.all isName && asc ms)
def isSeen (s : List Rf) : Bool := s.all isRef && asc (s.map (·.1))
def isBody : Body → Bool
  | .found t ms => isTitle t && isMembers ms
  | .say o => isText o
  | .reply _ r o => isRef r && isText o
  | .recall r => isRef r
  | .mark r w => isRef r && isName w
  | .title t => isTitle t
  | .act _ n => isName n
  | .seen => true
  | .other _ => false
def kFound : T := [102, 111, 117, 110, 100]
def kSay : T := [115, 97, 121]
def kReply : T := [114, 101, 112, 108, 121]
def kEdit : T := [101, 100, 105, 116]
def kRecall : T := [114, 101, 99, 97, 108, 108]
def kMark : T := [109, 97, 114, 107]
def kTitle : T := [116, 105, 116, 108, 101]
def kAdd : T := [97, 100, 100]
def kCut : T := [99, 117, 116]
def kHand : T := [104, 97, 110, 100]
def kSeen : T := [115, 101, 101, 110]
def actK : Nat → T
  | 0 => kAdd
  | 1 => kCut
  | _ => kHand
def kindOf : Body → T
  | .found _ _ => kFound
  | .say _ => kSay
  | .reply false _ _ => kReply
  | .reply true _ _ => kEdit
  | .recall _ => kRecall
  | .mark _ _ => kMark
  | .title _ => kTitle
  | .act k _ => actK k
  | .seen => kSeen
  | .other k => k
def targetOf : Body → Option Rf
  | .reply _ r _ => some r
  | .recall r => some r
  | .mark r _ => some r
  | _ => none
def textOf : Body → Option T
  | .say o => o
  | .reply _ _ o => o
  | _ => none
def isLetter (x : LV) : Bool :=
  isName x.author && (isNum x.number && (isNum x.stamp && (isSeen x.seen && (isBody x.body && (x.seen.contains (x.author, x.number) && (decide (x.number ≤ x.stamp) &&
    (match x.body with
    | .found _ ms => decide (x.stamp = 1) && (decide (x.seen = [(x.author, 1)]) && !ms.contains x.author)
    | _ => decide (1 < x.stamp))))))))
/-! ### header lines -/
/-- the signs of a number -/
def numN (n : Nat) : T := (Nat.toDigits 10 n).map Char.toNat
def numI (n : Int) : T := numN n.toNat
def refW (r : Rf) : T := r.1 ++ ([32] ++ numI r.2)
def cs : T := [44, 32]
def joinL (s : T) : List T → T
  | [] => []
  | [p] => p
  | p :: q :: r => p ++ (s ++ joinL s (q :: r))
def hFrom : T := [70, 114, 111, 109, 58, 32]
def hStamp : T := [83, 116, 97, 109, 112, 58, 32]
def hSeen : T := [83, 101, 101, 110, 58, 32]
def hKind : T := [75, 105, 110, 100, 58, 32]
def hTitle : T := [84, 105, 116, 108, 101, 58, 32]
def hMembers : T := [77, 101, 109, 98, 101, 114, 115, 58, 32]
def hRef : T := [82, 101, 102, 58, 32]
def hLines : T := [76, 105, 110, 101, 115, 58, 32]
def hWord : T := [87, 111, 114, 100, 58, 32]
def hName : T := [78, 97, 109, 101, 58, 32]
def nlCount (x : T) : Nat := x.count 10
def linesH : Option T → List T
  | none => []
  | some x => [hLines ++ numN (nlCount x + 1)]
def bodyL : Body → List T
  | .found t ms => [hTitle ++ t, hMembers ++ joinL cs ms]
  | .say o => linesH o
  | .reply _ r o => (hRef ++ refW r) :: linesH o
  | .recall r => [hRef ++ refW r]
  | .mark r w => [hRef ++ refW r, hWord ++ w]
  | .title t => [hTitle ++ t]
  | .act _ n => [hName ++ n]
  | .seen => []
  | .other _ => []
def hdr (x : LV) : List T := [hFrom ++ refW (x.author, x.number), hStamp ++ numI x.stamp, hSeen ++ joinL cs (x.seen.map refW), hKind ++ kindOf x.body] ++ bodyL x.body
/-! ### reading header lines -/
/-- what stands before the first s1 s2 and behind it; the whole and nothing where there is none -/
def par2 (a b : Nat) : T → T × T
  | [] => ([], [])
  | [c] => ([c], [])
  | c :: d :: r => if c = a ∧ d = b then ([], r) else (c :: (par2 a b (d :: r)).1, (par2 a b (d :: r)).2)
def par1 (a : Nat) : T → T × T
  | [] => ([], [])
  | c :: r => if c = a then ([], r) else (c :: (par1 a r).1, (par1 a r).2)
def digVal (w : T) : Nat := w.foldl (fun acc c => acc * 10 + (c - 48)) 0
def readNum (w : T) : Int := if decide (1 ≤ w.length) && (decide (w.length ≤ 19) && w.all isDig) then (digVal w : Int) else 0
def readRef (w : T) : Rf := ((par1 32 w).1, readNum (par1 32 w).2)
/-- the last line with this word in front -/
def fget : List T → T → Option T
  | [], _ => none
  | l :: r, k => match fget r k with
    | some v => some v
    | none => if (par2 58 32 l).1 = k then some (par2 58 32 l).2 else none
def wFrom : T := [70, 114, 111, 109]
def wStamp : T := [83, 116, 97, 109, 112]
def wSeen : T := [83, 101, 101, 110]
def wKind : T := [75, 105, 110, 100]
def wTitle : T := [84, 105, 116, 108, 101]
def wMembers : T := [77, 101, 109, 98, 101, 114, 115]
def wRef : T := [82, 101, 102]
def wWord : T := [87, 111, 114, 100]
def wName : T := [78, 97, 109, 101]
def spl2 (a b : Nat) : T → List T
  | [] => [[]]
  | [c] => [[c]]
  | c :: d :: r => if c = a ∧ d = b then [] :: spl2 a b r else match spl2 a b (d :: r) with
    | [] => [[c]]
    | p :: ps => (c :: p) :: ps
def spl1 (a : Nat) : T → List T
  | [] => [[]]
  | c :: r => if c = a then [] :: spl1 a r else match spl1 a r with
    | [] => [[c]]
    | p :: ps => (c :: p) :: ps
def readBody (g : T → Option T) (text : Option T) : Body :=
  let k := (g wKind).getD []
  if k = kFound then .found ((g wTitle).getD []) (if (g wMembers).getD [] = [] then [] else spl2 44 32 ((g wMembers).getD []))
  else if k = kTitle then .title ((g wTitle).getD [])
  else if k = kSay then .say text
  else if k = kReply then .reply false (readRef ((g wRef).getD [])) text
  else if k = kEdit then .reply true (readRef ((g wRef).getD [])) text
  else if k = kRecall then .recall (readRef ((g wRef).getD []))
  else if k = kMark then .mark (readRef ((g wRef).getD [])) ((g wWord).getD [])
  else if k = kAdd then .act 0 ((g wName).getD [])
  else if k = kCut then .act 1 ((g wName).getD [])
  else if k = kHand then .act 2 ((g wName).getD [])
  else if k = kSeen then .seen
  else .other k
def readVal (ls : List T) (text : Option T) : LV :=
  { author := (readRef ((fget ls wFrom).getD [])).1, number := (readRef ((fget ls wFrom).getD [])).2, stamp := readNum ((fget ls wStamp).getD []),
    seen := (spl2 44 32 ((fget ls wSeen).getD [])).map readRef, body := readBody (fget ls) text }
def readHeaders (ls : List T) (text : Option T) : Option LV :=
  if isLetter (readVal ls text) = true ∧ hdr (readVal ls text) = ls ∧ textOf (readVal ls text).body = text then some (readVal ls text) else none
/-! ### folded lines -/
/-- lines joined again; acc: the whole lines so far -/
def unf : List T → List T → Option (List T)
  | acc, [] => some acc
  | acc, l :: r => if l.head? ≠ some 32 then unf (acc ++ [l]) r else if acc = [] then none else unf (acc.dropLast ++ [acc.getLastD [] ++ l]) r
/-- the greatest place of a space from 1 to w; else the least one behind w -/
def lastSp (l : T) : Nat → Option Nat
  | 0 => none
  | n + 1 => if l[n + 1]? = some 32 then some (n + 1) else lastSp l n
/-- the least place of a space from i on (fuel n) -/
def nextSp (l : T) : Nat → Nat → Option Nat
  | 0, _ => none
  | n + 1, i => if l[i]? = some 32 then some i else nextSp l n (i + 1)
def cutAt (l : T) (w : Nat) : Nat :=
  if l.length ≤ w then l.length else match lastSp l w with
    | some i => i
    | none => (match nextSp l (l.length - (w + 1)) (w + 1) with
      | some i => i
      | none => l.length)
def foldF : Nat → T → List T
  | 0, l => [l]
  | n + 1, l => if cutAt l 60 < l.length then l.take (cutAt l 60) :: foldF n (l.drop (cutAt l 60)) else [l]
/-- a line folded to 60 -/
def fold60 (l : T) : List T := foldF l.length l
/-! ### mail -/
def textRows : Option T → List T
  | none => []
  | some x => (spl1 10 x).map fun r => 124 :: r
def mailL (x : LV) : List T := ((hdr x).map fold60).flatten ++ ([] :: (textRows (textOf x.body) ++ [[46]]))
/-- what is read from the lines from a place on: the letter, the lines behind its mail -/
def headOf (ls : List T) : List T := ls.takeWhile fun l => decide (l ≠ [])
def rest1 (ls : List T) : List T := (ls.dropWhile fun l => decide (l ≠ [])).drop 1
def isRow (l : T) : Bool := decide (l.head? = some 124)
def textIn (rs : List T) : Option T := if rs = [] then none else some (joinL [10] (rs.map (·.drop 1)))
def readMail (ls : List T) : Option (LV × List T) :=
  match (rest1 ls).dropWhile isRow with
  | l :: r => if l = [46] then (match unf [] (headOf ls) with
    | none => none
    | some hs => (match readHeaders hs (textIn ((rest1 ls).takeWhile isRow)) with
      | none => none
      | some x => some (x, r))) else none
  | [] => none
/-- letters one behind the other, the lines that are left -/
def readAll : Nat → List T → List LV × List T
  | 0, ls => ([], ls)
  | n + 1, ls => if ls = [] then ([], []) else match readMail ls with
    | none => ([], ls)
    | some (x, r) => (x :: (readAll n r).1, (readAll n r).2)
def joinN (ls : List T) : T := (ls.map fun l => l ++ [10]).flatten
def linesOf (t : T) : List T := (spl1 10 t).dropLast
/-- read_beginning: the letters, the characters -/
def readBeg (t : T) : List LV × Nat :=
  ((readAll (linesOf t).length (linesOf t)).1, (joinN ((linesOf t).take ((linesOf t).length - (readAll (linesOf t).length (linesOf t)).2.length))).length)
end LO
/-! ## LoRep -/
set_option Elab.async false
set_option linter.all false
set_option maxRecDepth 100000
set_option maxHeartbeats 4000000
/-! Data in the abstract heap: texts, tuples, letters; what stays of them. -/
namespace LoW
open PySem PySem.Spec PyProof.Rows L2 LoH LO
/-! ### texts -/
abbrev mkS (l : T) : Str := ⟨l.toArray⟩
abbrev S (l : T) : V := .str (mkS l)
abbrev tl (x : Str) : T := x.cps.toList
theorem mkS_tl (x : Str) : mkS (tl x) = x := rfl
theorem tl_mkS (l : T) : tl (mkS l) = l := rfl
theorem mkS_app (a b : T) : mkS a ++ mkS b = mkS (a ++ b) := TL.ext_tl (TL.tl_append _ _)
theorem mkS_len (a : T) : (mkS a).length = a.length := TL.len_tl _
theorem mkS_inj {a b : T} (h : mkS a = mkS b) : a = b := congrArg tl h
theorem S_inj {a b : T} (h : S a = S b) : a = b := mkS_inj (V.str.inj h)
theorem S_eq (a b : T) : decide (S a = S b) = decide (a = b) := by
  by_cases e : a = b
  · subst e; simp
  · have : ¬ S a = S b := fun h => e (S_inj h)
    rw [decide_eq_false this, decide_eq_false e]
theorem strs_S (ls : List T) : (ls.map mkS).map V.str = ls.map S := by rw [List.map_map]; rfl
theorem strs_of (ss : List Str) : ss.map V.str = (ss.map tl).map S := by rw [List.map_map]; rfl
section
variable {X : Cx} {σ : L2.St} {H : Hp} {Q : VK} {pos : Pos} {a b e o : Expr}
theorem e_strS {z : Str} {j : Nat} (q : Q (S (tl z)) H) : E1 X (.Constant (.str z) j pos) σ H Q := e_str q
theorem AddV.S {a b : T} (h : a.length + b.length ≤ sizeLine) (q : Q (S (a ++ b)) H) : AddV (S a) (S b) H Q :=
  AddV.s (by rw [mkS_len, mkS_len]; exact h) (by rw [mkS_app]; exact q)
theorem LenW.S {K : PySem.W.Frag} {a : T} (h : a.length ≤ sizeLine) (q : Q (.int (a.length : Nat)) H) : LenW K (S a) H Q := LenW.s (by rw [mkS_len]; exact h) (by rw [mkS_len]; exact q)
theorem EqV.S {K : PySem.W.Frag} {a b : T} (q : Q (.bl (decide (a = b))) H) : EqV K (S a) (S b) H Q := EqV.s rfl (by rw [S_eq]; exact q)
theorem NeV.S {K : PySem.W.Frag} {a b : T} (q : Q (.bl (!decide (a = b))) H) : NeV K (S a) (S b) H Q := NeV.s rfl (by rw [S_eq]; exact q)
theorem LeV.S {a b : T} (q : Q (.bl (!decide (b < a))) H) : LeV (S a) (S b) H Q := LeV.s q
theorem dec_int (i j : Int) : decide (V.int i = V.int j) = decide (i = j) := by
  by_cases e : i = j
  · subst e; simp
  · have : ¬ V.int i = V.int j := fun h => e (V.int.inj h)
    rw [decide_eq_false this, decide_eq_false e]
theorem EqV.I {K : PySem.W.Frag} {i j : Int} (q : Q (.bl (decide (i = j))) H) : EqV K (.int i) (.int j) H Q := EqV.s rfl (by rw [LoW.dec_int]; exact q)
theorem NeV.I {K : PySem.W.Frag} {i j : Int} (q : Q (.bl (!decide (i = j))) H) : NeV K (.int i) (.int j) H Q := NeV.s rfl (by rw [LoW.dec_int]; exact q)
theorem InV.c {K : PySem.W.Frag} {c : Nat} {z : Str} (q : Q (.bl (decide (c ∈ tl z))) H) : InV K (.str ⟨#[c]⟩) (.str z) H Q := .inl ⟨c, z, rfl, rfl, q⟩
theorem NotInV.c {K : PySem.W.Frag} {c : Nat} {z : Str} (q : Q (.bl (!decide (c ∈ tl z))) H) : NotInV K (.str ⟨#[c]⟩) (.str z) H Q := .inl ⟨c, z, rfl, rfl, q⟩
theorem LeV.imp {x y : V} {Q' : VK} (h : LeV x y H Q) (k : ∀ v H', Q v H' → Q' v H') : LeV x y H Q' := by
  rcases h with ⟨i, j, e1, e2, q⟩ | ⟨i, j, e1, e2, q⟩
  · exact .inl ⟨i, j, e1, e2, k _ _ q⟩
  · exact .inr ⟨i, j, e1, e2, k _ _ q⟩
theorem e_chain_le {c : Expr} (h : E1 X a σ H fun x H1 => E1 X b σ H1 fun y H2 => LeV x y H2 fun z H3 => ∃ k, z = .bl k ∧ Bth k (E1 X c σ H3 fun w' H4 => LeV y w' H4 Q) (Q (.bl false) H3)) (hm : lastMarks [.LtE, .LtE] [b, c] = false := by with_unfolding_all rfl) : E1 X (.Compare a [.LtE, .LtE] [b, c] pos) σ H Q :=
  e_chain op_leV op_leV (E1.imp h fun _ _ h1 => E1.imp h1 fun _ _ h2 => LeV.imp h2 fun _ _ ⟨k, e, q⟩ => ⟨k, e, q.ite⟩) hm
theorem t_chain_le {c : Expr} {QT : Bool → Hp → Prop} (h : E1 X a σ H fun x H1 => E1 X b σ H1 fun y H2 => LeV x y H2 fun z H3 => ∃ k, z = .bl k ∧ Bth k (E1 X c σ H3 fun w' H4 => LeV y w' H4 fun v H5 => ∃ k, v = .bl k ∧ QT k H5) (QT false H3)) (hm : lastMarks [.LtE, .LtE] [b, c] = false := by with_unfolding_all rfl) : T1 X (.Compare a [.LtE, .LtE] [b, c] pos) σ H QT :=
  t_chain op_leV op_leV (E1.imp h fun _ _ h1 => E1.imp h1 fun _ _ h2 => LeV.imp h2 fun _ _ ⟨k, e, q⟩ => ⟨k, e, Bth.ite ⟨fun h => q.1 h, fun h => ⟨false, rfl, q.2 h⟩⟩⟩) hm
/-- a text in a display of written texts -/
theorem inV_S (a : T) : ∀ ls : List T, inV (S a) (ls.map S) = ls.contains a
  | [] => rfl
  | b :: r => by
    show (eqV (S b) (S a) || (r.map S).any fun y => eqV y (S a)) = (a == b || r.contains a)
    have ih := inV_S a r
    unfold inV at ih
    rw [ih]
    have e : eqV (S b) (S a) = (a == b) := by
      show (mkS b == mkS a) = (a == b)
      by_cases h : a = b
      · subst h; simp
      · have h2 : ¬ mkS b = mkS a := fun q => h (mkS_inj q).symm
        rw [beq_eq_false_iff_ne.mpr h2, beq_eq_false_iff_ne.mpr h]
    rw [e]
theorem flat_S : ∀ ls : List T, (ls.map S).all flatV = true
  | [] => rfl
  | _ :: r => flat_S r
theorem InV.tT {K : PySem.W.Frag} {a : T} {p : Addr} {ls : List T} (h : SqT K H p (ls.map S)) (q : Q (.bl (ls.contains a)) H) : InV K (S a) (.ref p) H Q := .inr ⟨p, ls.map S, rfl, .inr h, rfl, flat_S ls, by
  show Q (.bl (inV (S a) (ls.map S))) H
  rw [inV_S]; exact q⟩
theorem InV.lL {K : PySem.W.Frag} {a : T} {p : Addr} {ls : List T} (h : SqL K H p (ls.map S)) (q : Q (.bl (ls.contains a)) H) : InV K (S a) (.ref p) H Q := .inr ⟨p, ls.map S, rfl, .inl h, rfl, flat_S ls, by
  show Q (.bl (inV (S a) (ls.map S))) H
  rw [inV_S]; exact q⟩
theorem NotInV.tT {K : PySem.W.Frag} {a : T} {p : Addr} {ls : List T} (h : SqT K H p (ls.map S)) (q : Q (.bl (!ls.contains a)) H) : NotInV K (S a) (.ref p) H Q := .inr ⟨p, ls.map S, rfl, .inr h, rfl, flat_S ls, by
  show Q (.bl (!inV (S a) (ls.map S))) H
  rw [inV_S]; exact q⟩
theorem NotInV.lL {K : PySem.W.Frag} {a : T} {p : Addr} {ls : List T} (h : SqL K H p (ls.map S)) (q : Q (.bl (!ls.contains a)) H) : NotInV K (S a) (.ref p) H Q := .inr ⟨p, ls.map S, rfl, .inl h, rfl, flat_S ls, by
  show Q (.bl (!inV (S a) (ls.map S))) H
  rw [inV_S]; exact q⟩
end
/-! ### tuples of data -/
mutual
inductive Tp (H : Hp) : V → PyData → Prop
  | non : Tp H .non .none
  | int (i : Int) : Tp H (.int i) (.int i)
  | str (x : T) : Tp H (S x) (.str (mkS x))
  | tup {a : Addr} {xs : List V} {ds : List PyData} : H a = some (.tup xs) → TpAll H xs ds → Tp H (.ref a) (.tuple ds)
inductive TpAll (H : Hp) : List V → List PyData → Prop
  | nil : TpAll H [] []
  | cons {v : V} {vs : List V} {d : PyData} {ds : List PyData} : Tp H v d → TpAll H vs ds → TpAll H (v :: vs) (d :: ds)
end
/-- tuples and instances stay -/
structure Keep (H H' : Hp) : Prop where
  t : ∀ b xs, H b = some (.tup xs) → H' b = some (.tup xs)
  i : ∀ b C dx fs, H b = some (.ins C dx fs) → H' b = some (.ins C dx fs)
theorem Keep.refl (H : Hp) : Keep H H := ⟨fun _ _ h => h, fun _ _ _ _ h => h⟩
theorem Keep.trans {H H1 H2 : Hp} (a : Keep H H1) (b : Keep H1 H2) : Keep H H2 := ⟨fun c xs h => b.t c xs (a.t c xs h), fun c C dx fs h => b.i c C dx fs (a.i c C dx fs h)⟩
theorem Keep.of {H H' : Hp} (h : Same H H') : Keep H H' := ⟨fun c _ e => h c _ e, fun c _ _ _ e => h c _ e⟩
/-- a list is written -/
theorem Keep.lst {H : Hp} {l : Addr} {xs : List V} {o : HO} (h : H l = some (.lst xs)) : Keep H (upd H l o) :=
  ⟨fun b ys e => by rw [upd_ne (ne_of e h (by intro z; cases z))]; exact e, fun b C dx fs e => by rw [upd_ne (ne_of e h (by intro z; cases z))]; exact e⟩
theorem Keep.dic {H : Hp} {l : Addr} {kvs : List (Key × V)} {o : HO} (h : H l = some (.dK kvs)) : Keep H (upd H l o) :=
  ⟨fun b ys e => by rw [upd_ne (ne_of e h (by intro z; cases z))]; exact e, fun b C dx fs e => by rw [upd_ne (ne_of e h (by intro z; cases z))]; exact e⟩
mutual
theorem Tp.mono {H H' : Hp} (k : Keep H H') : ∀ {d : PyData} {v : V}, Tp H v d → Tp H' v d
  | _, _, .non => .non
  | _, _, .int i => .int i
  | _, _, .str x => .str x
  | _, _, .tup h r => .tup (k.t _ _ h) (TpAll.mono k r)
theorem TpAll.mono {H H' : Hp} (k : Keep H H') : ∀ {ds : List PyData} {vs : List V}, TpAll H vs ds → TpAll H' vs ds
  | _, _, .nil => .nil
  | _, _, .cons h r => .cons (Tp.mono k h) (TpAll.mono k r)
end
mutual
theorem Tp.dp {K : PySem.W.Frag} {H : Hp} : ∀ {d : PyData} {v : V}, Tp H v d → Dp K H v d
  | _, _, .non => .non
  | _, _, .int i => .int i
  | _, _, .str x => .str (mkS x)
  | _, _, .tup h r => .tup (SqT.of h) (TpAll.dp r)
theorem TpAll.dp {K : PySem.W.Frag} {H : Hp} : ∀ {ds : List PyData} {vs : List V}, TpAll H vs ds → DpAll K H vs ds
  | _, _, .nil => .nil
  | _, _, .cons h r => .cons (Tp.dp h) (TpAll.dp r)
end
section
variable {H : Hp} {v : V}
theorem Tp.non_inv (h : Tp H v .none) : v = .non := by cases h; rfl
theorem Tp.int_inv {i : Int} (h : Tp H v (.int i)) : v = .int i := by cases h; rfl
theorem Tp.str_inv {x : T} (h : Tp H v (.str (mkS x))) : v = S x := by
  generalize e : PyData.str (mkS x) = d at h
  cases h with
  | str y => injection e with e1; rw [mkS_inj e1]
  | non => cases e
  | int i => cases e
  | tup a b => cases e
theorem Tp.tup_inv {ds : List PyData} (h : Tp H v (.tuple ds)) : ∃ a xs, v = .ref a ∧ H a = some (.tup xs) ∧ TpAll H xs ds := by
  cases h with
  | tup h r => exact ⟨_, _, rfl, h, r⟩
theorem TpAll.len : ∀ {ds : List PyData} {vs : List V}, TpAll H vs ds → vs.length = ds.length
  | _, _, .nil => rfl
  | _, _, .cons _ r => congrArg (· + 1) (TpAll.len r)
theorem TpAll.nil_inv {vs : List V} (h : TpAll H vs []) : vs = [] := by cases h; rfl
theorem TpAll.cons_inv {vs : List V} {d : PyData} {ds : List PyData} (h : TpAll H vs (d :: ds)) : ∃ w ws, vs = w :: ws ∧ Tp H w d ∧ TpAll H ws ds := by
  cases h with
  | cons a b => exact ⟨_, _, rfl, a, b⟩
theorem TpAll.get {ds : List PyData} : ∀ {vs : List V} {i : Nat} {w : V}, TpAll H vs ds → vs[i]? = some w → ∃ d, ds[i]? = some d ∧ Tp H w d := by
  induction ds with
  | nil => intro vs i w h e; rw [h.nil_inv] at e; simp at e
  | cons d ds ih =>
    intro vs i w h e
    obtain ⟨u, us, rfl, hu, hr⟩ := h.cons_inv
    cases i with
    | zero => simp at e; subst e; exact ⟨d, by simp, hu⟩
    | succ i => obtain ⟨d', e1, e2⟩ := ih hr (by simpa using e); exact ⟨d', by simpa using e1, e2⟩
theorem TpAll.strs : ∀ {ls : List T} {vs : List V}, TpAll H vs (ls.map fun x => .str (mkS x)) → vs = ls.map S
  | [], _, h => h.nil_inv
  | x :: r, vs, h => by
    obtain ⟨w, ws, rfl, h1, h2⟩ := TpAll.cons_inv (h : TpAll H vs (.str (mkS x) :: r.map fun x => .str (mkS x)))
    rw [h1.str_inv, TpAll.strs h2]; rfl
theorem TpAll.of_strs : ∀ ls : List T, TpAll H (ls.map S) (ls.map fun x => .str (mkS x))
  | [] => .nil
  | x :: r => .cons (.str x) (TpAll.of_strs r)
end
/-! ### letters -/
def optD : Option T → PyData
  | none => .none
  | some x => .str (mkS x)
def optV : Option T → V
  | none => .non
  | some x => S x
theorem Tp.opt {H : Hp} : ∀ o : Option T, Tp H (optV o) (optD o)
  | none => .non
  | some x => .str x
theorem Tp.opt_inv {H : Hp} {v : V} : ∀ {o : Option T}, Tp H v (optD o) → v = optV o
  | none, h => h.non_inv
  | some _, h => h.str_inv
def refD (r : Rf) : PyData := .tuple [.str (mkS r.1), .int r.2]
def strD (x : T) : PyData := .str (mkS x)
def bodyD : Body → PyData
  | .found t ms => .tuple [strD kFound, strD t, .tuple (ms.map strD)]
  | .say o => .tuple [strD kSay, optD o]
  | .reply e r o => .tuple [strD (kindOf (.reply e r o)), refD r, optD o]
  | .recall r => .tuple [strD kRecall, refD r]
  | .mark r w => .tuple [strD kMark, refD r, strD w]
  | .title t => .tuple [strD kTitle, strD t]
  | .act k n => .tuple [strD (actK k), strD n]
  | .seen => .tuple [strD kSeen]
  | .other k => .tuple [strD k]
def lvD (x : LV) : PyData := .tuple [strD x.author, .int x.number, .int x.stamp, .tuple (x.seen.map refD), bodyD x.body]
/-! ### changes of the heap -/
theorem New.keep {H H' : Hp} {p : Addr} {o : HO} (n : New H p o H') : Keep H H' := Keep.of n.same
theorem New.len {H H' : Hp} {p : Addr} {o : HO} (n : New H p o H') : H' p = some o := n.at_
end LoW
/-! ## LoMath -/
set_option linter.all false
set_option maxRecDepth 100000
/-! The plain law: what is read back. Core Lean alone. -/
namespace LO
/-! ### numbers as text -/
theorem digitChar_dig : ∀ d : Nat, d < 10 → 48 ≤ (Nat.digitChar d).toNat ∧ (Nat.digitChar d).toNat ≤ 57 ∧ (Nat.digitChar d).toNat - 48 = d := by decide
theorem numN_lt {n : Nat} (h : n < 10) : numN n = [(Nat.digitChar n).toNat] := by unfold numN; rw [Nat.toDigits_of_lt_base h]; rfl
theorem numN_step {n : Nat} (h : 10 ≤ n) : numN n = numN (n / 10) ++ [(Nat.digitChar (n % 10)).toNat] := by
  unfold numN
  rw [Nat.toDigits_of_base_le (by decide) h, List.map_append]; rfl
theorem numN_all (n : Nat) : (numN n).all isDig = true := by
  induction n using Nat.strongRecOn with
  | _ n ih =>
    by_cases h : n < 10
    · rw [numN_lt h]
      have := digitChar_dig n h
      simp [isDig]; omega
    · rw [numN_step (by omega), List.all_append, ih (n / 10) (by omega)]
      have := digitChar_dig (n % 10) (by omega)
      simp [isDig]; omega
theorem numN_ne (n : Nat) : 1 ≤ (numN n).length := by
  by_cases h : n < 10
  · rw [numN_lt h]; simp
  · rw [numN_step (by omega)]; simp
theorem numN_len {k : Nat} : ∀ {n : Nat}, n < 10 ^ (k + 1) → (numN n).length ≤ k + 1 := by
  induction k with
  | zero => intro n h; rw [numN_lt (by simpa using h)]; simp
  | succ k ih =>
    intro n h
    by_cases h1 : n < 10
    · rw [numN_lt h1]; simp
    · rw [numN_step (by omega), List.length_append]
      have : n / 10 < 10 ^ (k + 1) := by
        rw [Nat.div_lt_iff_lt_mul (by decide)]
        calc n < 10 ^ (k + 1 + 1) := h
          _ = 10 ^ (k + 1) * 10 := by rw [Nat.pow_succ]
      have := ih this
      simp; omega
theorem digVal_app (a : T) (c : Nat) : digVal (a ++ [c]) = digVal a * 10 + (c - 48) := by unfold digVal; rw [List.foldl_append]; rfl
theorem digVal_num (n : Nat) : digVal (numN n) = n := by
  induction n using Nat.strongRecOn with
  | _ n ih =>
    by_cases h : n < 10
    · rw [numN_lt h]
      have := digitChar_dig n h
      simp [digVal]; omega
    · rw [numN_step (by omega), digVal_app, ih (n / 10) (by omega)]
      have := digitChar_dig (n % 10) (by omega)
      omega
theorem readNum_num {n : Int} (h : isNum n = true) : readNum (numI n) = n := by
  unfold isNum at h
  simp only [Bool.and_eq_true, decide_eq_true_eq] at h
  unfold readNum numI
  have h1 := numN_ne n.toNat
  have h2 : (numN n.toNat).length ≤ 18 + 1 := numN_len (by omega)
  rw [numN_all, digVal_num, decide_eq_true h1, decide_eq_true (by omega : (numN n.toNat).length ≤ 19)]
  simp; omega
theorem numI_dig {n : Int} {c : Nat} (h : c ∈ numI n) : 48 ≤ c ∧ c ≤ 57 := by
  have := List.all_eq_true.mp (numN_all n.toNat) c h
  simpa [isDig] using this
/-! ### names -/
theorem name_sign {x : T} (h : isName x = true) {c : Nat} (hc : c ∈ x) : (97 ≤ c ∧ c ≤ 122) ∨ (48 ≤ c ∧ c ≤ 57) := by
  unfold isName at h
  simp only [Bool.and_eq_true] at h
  have := List.all_eq_true.mp h.2.2.1 c hc
  simpa [isLet, isDig] using this
theorem name_ne {x : T} (h : isName x = true) : x ≠ [] := by
  rintro rfl
  unfold isName at h
  simp at h
theorem name_len {x : T} (h : isName x = true) : x.length ≤ 12 := by
  unfold isName at h
  simp only [Bool.and_eq_true, decide_eq_true_eq] at h
  exact h.2.1
/-! ### cutting and joining -/
theorem par1_app (a : Nat) : ∀ (p r : T), a ∉ p → par1 a (p ++ [a] ++ r) = (p, r)
  | [], r, _ => by simp [par1]
  | c :: p, r, h => by
    have hc : ¬ c = a := fun e => h (by simp [e])
    have ih := par1_app a p r (fun m => h (List.mem_cons_of_mem _ m))
    show par1 a (c :: (p ++ [a] ++ r)) = _
    unfold par1
    rw [if_neg hc, ih]
theorem readRef_refW {r : Rf} (h : isRef r = true) : readRef (refW r) = r := by
  unfold isRef at h
  simp only [Bool.and_eq_true] at h
  unfold readRef refW
  rw [← List.append_assoc, par1_app 32 r.1 (numI r.2) (fun m => by have := name_sign h.1 m; omega), readNum_num h.2]
theorem spl2_c (a b c d : Nat) (r : T) : spl2 a b (c :: d :: r) = if c = a ∧ d = b then [] :: spl2 a b r else match spl2 a b (d :: r) with
    | [] => [[c]]
    | p :: ps => (c :: p) :: ps := by (rw [spl2]) <;> rfl
theorem spl1_c (a c : Nat) (r : T) : spl1 a (c :: r) = if c = a then [] :: spl1 a r else match spl1 a r with
    | [] => [[c]]
    | p :: ps => (c :: p) :: ps := by (rw [spl1]) <;> rfl
theorem fget_c (l : T) (r : List T) (k : T) : fget (l :: r) k = match fget r k with
    | some v => some v
    | none => if (par2 58 32 l).1 = k then some (par2 58 32 l).2 else none := by (rw [fget]) <;> rfl
theorem spl2_free (a b : Nat) : ∀ p : T, a ∉ p → spl2 a b p = [p]
  | [], _ => rfl
  | [c], _ => rfl
  | c :: d :: r, h => by
    have hc : ¬ c = a := fun e => h (by simp [e])
    unfold spl2
    rw [if_neg (fun e => hc e.1), spl2_free a b (d :: r) (fun m => h (List.mem_cons_of_mem _ m))]
theorem spl2_cons (a b : Nat) : ∀ (p r : T), a ∉ p → spl2 a b (p ++ (a :: b :: r)) = p :: spl2 a b r
  | [], r, _ => by simp [spl2]
  | [c], r, h => by
    have hc : ¬ c = a := fun e => h (by simp [e])
    show spl2 a b (c :: a :: b :: r) = _
    rw [spl2_c, if_neg (fun e => hc e.1), spl2_c, if_pos ⟨rfl, rfl⟩]
  | c :: d :: p, r, h => by
    have hc : ¬ c = a := fun e => h (by simp [e])
    have ih := spl2_cons a b (d :: p) r (fun m => h (List.mem_cons_of_mem _ m))
    show spl2 a b (c :: d :: (p ++ (a :: b :: r))) = _
    rw [show d :: p ++ (a :: b :: r) = d :: (p ++ (a :: b :: r)) from rfl] at ih
    rw [spl2_c, if_neg (fun e => hc e.1), ih]
theorem spl2_join (a b : Nat) : ∀ ps : List T, ps ≠ [] → (∀ p ∈ ps, a ∉ p) → spl2 a b (joinL [a, b] ps) = ps
  | [], h, _ => absurd rfl h
  | [p], _, h => spl2_free a b p (h p (by simp))
  | p :: q :: r, _, h => by
    show spl2 a b (p ++ (a :: b :: joinL [a, b] (q :: r))) = _
    rw [spl2_cons a b p _ (h p (by simp)), spl2_join a b (q :: r) (by simp) (fun z hz => h z (List.mem_cons_of_mem _ hz))]
theorem spl1_ne0 (a : Nat) : ∀ l : T, spl1 a l ≠ []
  | [] => by simp [spl1]
  | c :: r => by
    unfold spl1
    split
    · simp
    · split <;> simp
theorem spl1_free (a : Nat) : ∀ (l : T) (p : T), p ∈ spl1 a l → a ∉ p
  | [], p, h => by simp [spl1] at h; subst h; simp
  | c :: r, p, h => by
    unfold spl1 at h
    split at h
    · rcases List.mem_cons.mp h with rfl | h
      · simp
      · exact spl1_free a r p h
    · rename_i hc
      have ih := spl1_free a r
      cases e : spl1 a r with
      | nil => exact absurd e (spl1_ne0 a r)
      | cons q qs =>
        rw [e] at h ih
        rcases List.mem_cons.mp h with rfl | h
        · have := ih q (by simp)
          intro m
          rcases List.mem_cons.mp m with e2 | m
          · exact hc e2.symm
          · exact this m
        · exact ih p (List.mem_cons_of_mem _ h)
theorem join_spl1 (a : Nat) : ∀ l : T, joinL [a] (spl1 a l) = l
  | [] => rfl
  | c :: r => by
    have ih := join_spl1 a r
    unfold spl1
    split
    · rename_i hc
      subst hc
      cases e : spl1 c r with
      | nil => exact absurd e (spl1_ne0 c r)
      | cons q qs =>
        rw [e] at ih
        show [] ++ ([c] ++ joinL [c] (q :: qs)) = _
        rw [ih]; rfl
    · cases e : spl1 a r with
      | nil => exact absurd e (spl1_ne0 a r)
      | cons q qs =>
        rw [e] at ih
        cases qs with
        | nil => show c :: q = _; rw [show q = r from ih]
        | cons q2 qs => show c :: (q ++ ([a] ++ joinL [a] (q2 :: qs))) = _; rw [show q ++ ([a] ++ joinL [a] (q2 :: qs)) = r from ih]
theorem spl1_app (a : Nat) : ∀ (p r : T), a ∉ p → spl1 a (p ++ (a :: r)) = p :: spl1 a r
  | [], r, _ => by simp [spl1]
  | c :: p, r, h => by
    have hc : ¬ c = a := fun e => h (by simp [e])
    show spl1 a (c :: (p ++ (a :: r))) = _
    rw [spl1_c, if_neg hc, spl1_app a p r (fun m => h (List.mem_cons_of_mem _ m))]
theorem spl1_none (a : Nat) : ∀ (p : T), a ∉ p → spl1 a p = [p]
  | [], _ => rfl
  | c :: p, h => by
    have hc : ¬ c = a := fun e => h (by simp [e])
    unfold spl1
    rw [if_neg hc, spl1_none a p (fun m => h (List.mem_cons_of_mem _ m))]
/-! ### lines -/
theorem joinN_cons (l : T) (ls : List T) : joinN (l :: ls) = l ++ (10 :: joinN ls) := by unfold joinN; simp
theorem joinN_app (a b : List T) : joinN (a ++ b) = joinN a ++ joinN b := by unfold joinN; simp
theorem spl1_lines : ∀ (ls : List T) (z : T), (∀ l ∈ ls, 10 ∉ l) → 10 ∉ z → spl1 10 (joinN ls ++ z) = ls ++ [z]
  | [], z, _, hz => spl1_none 10 z hz
  | l :: ls, z, h, hz => by
    rw [joinN_cons, List.append_assoc, List.cons_append, spl1_app 10 l _ (h l (by simp)), spl1_lines ls z (fun m hm => h m (List.mem_cons_of_mem _ hm)) hz]; rfl
theorem linesOf_app {ls : List T} {z : T} (h : ∀ l ∈ ls, 10 ∉ l) (hz : 10 ∉ z) : linesOf (joinN ls ++ z) = ls := by
  unfold linesOf
  rw [spl1_lines ls z h hz, List.dropLast_concat]
theorem linesOf_join {ls : List T} (h : ∀ l ∈ ls, 10 ∉ l) : linesOf (joinN ls) = ls := by
  have := linesOf_app (ls := ls) (z := []) h (by simp)
  rwa [List.append_nil] at this
/-! ### header lines read back -/
theorem fget_cons {l : T} {ls : List T} {k v : T} (h : ∀ l ∈ ls, (par2 58 32 l).1 ≠ k) (hk : par2 58 32 l = (k, v)) : fget (l :: ls) k = some v := by
  have hn : ∀ ls : List T, (∀ l ∈ ls, (par2 58 32 l).1 ≠ k) → fget ls k = none := by
    intro ls
    induction ls with
    | nil => intro _; rfl
    | cons a r ih => intro h; rw [fget_c, ih (fun l hl => h l (List.mem_cons_of_mem _ hl))]; simp [h a (by simp)]
  rw [fget_c, hn ls h, hk]; simp
theorem fget_skip {l : T} {ls : List T} {k : T} (h : (par2 58 32 l).1 ≠ k) : fget (l :: ls) k = fget ls k := by
  rw [fget_c]
  cases fget ls k <;> simp [h]
theorem p_From (r : T) : par2 58 32 (hFrom ++ r) = (wFrom, r) := by cases r <;> simp [par2, hFrom, wFrom]
theorem p_Stamp (r : T) : par2 58 32 (hStamp ++ r) = (wStamp, r) := by cases r <;> simp [par2, hStamp, wStamp]
theorem p_Seen (r : T) : par2 58 32 (hSeen ++ r) = (wSeen, r) := by cases r <;> simp [par2, hSeen, wSeen]
theorem p_Kind (r : T) : par2 58 32 (hKind ++ r) = (wKind, r) := by cases r <;> simp [par2, hKind, wKind]
theorem p_Title (r : T) : par2 58 32 (hTitle ++ r) = (wTitle, r) := by cases r <;> simp [par2, hTitle, wTitle]
theorem p_Members (r : T) : par2 58 32 (hMembers ++ r) = (wMembers, r) := by cases r <;> simp [par2, hMembers, wMembers]
theorem p_Ref (r : T) : par2 58 32 (hRef ++ r) = (wRef, r) := by cases r <;> simp [par2, hRef, wRef]
theorem p_Lines (r : T) : par2 58 32 (hLines ++ r) = ([76, 105, 110, 101, 115], r) := by cases r <;> simp [par2, hLines]
theorem p_Word (r : T) : par2 58 32 (hWord ++ r) = (wWord, r) := by cases r <;> simp [par2, hWord, wWord]
theorem p_Name (r : T) : par2 58 32 (hName ++ r) = (wName, r) := by cases r <;> simp [par2, hName, wName]
def wfB : Body → Bool
  | .act k _ => decide (k ≤ 2)
  | _ => true
theorem joinL_ne {s : T} : ∀ {ps : List T}, ps ≠ [] → (∀ p ∈ ps, p ≠ []) → joinL s ps ≠ []
  | [], h, _ => absurd rfl h
  | [p], _, h => h p (by simp)
  | p :: q :: r, _, h => by
    have := h p (by simp)
    show p ++ _ ≠ []
    simp [this]
theorem members_back {ms : List T} (h : ∀ m ∈ ms, isName m = true) : (if joinL cs ms = [] then [] else spl2 44 32 (joinL cs ms)) = ms := by
  cases ms with
  | nil => rfl
  | cons a r =>
    rw [if_neg (joinL_ne (by simp) fun p hp => name_ne (h p hp))]
    exact spl2_join 44 32 (a :: r) (by simp) fun p hp m => by have := name_sign (h p hp) m; omega
/-- what the lines of a body give back -/
theorem readBody_back {b : Body} (g : T → Option T) (hb : isBody b = true) (hw : wfB b = true) (hk : g wKind = some (kindOf b)) (hg : ∀ k, k ≠ wFrom → k ≠ wStamp → k ≠ wSeen → k ≠ wKind → g k = fget (bodyL b) k) : readBody g (textOf b) = b := by
  have eT := hg wTitle (by decide) (by decide) (by decide) (by decide)
  have eM := hg wMembers (by decide) (by decide) (by decide) (by decide)
  have eR := hg wRef (by decide) (by decide) (by decide) (by decide)
  have eW := hg wWord (by decide) (by decide) (by decide) (by decide)
  have eN := hg wName (by decide) (by decide) (by decide) (by decide)
  unfold readBody
  rw [hk]
  dsimp only [Option.getD]
  cases b with
  | found t ms =>
    have e1 : fget (bodyL (.found t ms)) wTitle = some t := by
      show fget [hTitle ++ t, hMembers ++ joinL cs ms] wTitle = _
      refine fget_cons ?_ (p_Title t)
      intro l hl; rw [List.mem_singleton.mp hl, p_Members]; dsimp only; decide
    have e2 : fget (bodyL (.found t ms)) wMembers = some (joinL cs ms) := by
      show fget [hTitle ++ t, hMembers ++ joinL cs ms] wMembers = _
      rw [fget_skip (by rw [p_Title]; dsimp only; decide)]
      exact fget_cons (by simp) (p_Members _)
    rw [eT, eM, e1, e2]
    unfold isBody isMembers at hb
    simp only [Bool.and_eq_true, List.all_eq_true] at hb
    show (if kFound = kFound then Body.found t (if joinL cs ms = [] then [] else spl2 44 32 (joinL cs ms)) else _) = _
    rw [if_pos rfl, members_back hb.2.2.1]
  | say o => rfl
  | reply e r o =>
    have e1 : fget (bodyL (.reply e r o)) wRef = some (refW r) := by
      show fget ((hRef ++ refW r) :: linesH o) wRef = _
      refine fget_cons ?_ (p_Ref _)
      cases o with
      | none => simp [linesH]
      | some z => intro l hl; rw [show l = hLines ++ numN (nlCount z + 1) from List.mem_singleton.mp hl, p_Lines]; dsimp only; decide
    rw [eR, e1]
    unfold isBody at hb
    simp only [Bool.and_eq_true] at hb
    cases e with
    | false => show Body.reply false (readRef (refW r)) o = _; rw [readRef_refW hb.1]
    | true => show Body.reply true (readRef (refW r)) o = _; rw [readRef_refW hb.1]
  | recall r =>
    have e1 : fget (bodyL (.recall r)) wRef = some (refW r) := fget_cons (by simp) (p_Ref _)
    rw [eR, e1]
    show Body.recall (readRef (refW r)) = _
    rw [readRef_refW (show isRef r = true from hb)]
  | mark r w =>
    have e1 : fget (bodyL (.mark r w)) wRef = some (refW r) := by
      show fget [hRef ++ refW r, hWord ++ w] wRef = _
      refine fget_cons ?_ (p_Ref _)
      intro l hl; rw [List.mem_singleton.mp hl, p_Word]; dsimp only; decide
    have e2 : fget (bodyL (.mark r w)) wWord = some w := by
      show fget [hRef ++ refW r, hWord ++ w] wWord = _
      rw [fget_skip (by rw [p_Ref]; dsimp only; decide)]
      exact fget_cons (by simp) (p_Word _)
    rw [eR, e1, eW, e2]
    unfold isBody at hb
    simp only [Bool.and_eq_true] at hb
    show Body.mark (readRef (refW r)) w = _
    rw [readRef_refW hb.1]
  | title t =>
    have e1 : fget (bodyL (.title t)) wTitle = some t := fget_cons (by simp) (p_Title _)
    rw [eT, e1]; rfl
  | act k n =>
    have e1 : fget (bodyL (.act k n)) wName = some n := fget_cons (by simp) (p_Name _)
    rw [eN, e1]
    have hk2 : k ≤ 2 := of_decide_eq_true hw
    match k, hk2 with
    | 0, _ => rfl
    | 1, _ => rfl
    | 2, _ => rfl
  | seen => rfl
  | other k => exact absurd hb (by simp [isBody])
theorem seen_back {s : List Rf} (hne : s ≠ []) (h : ∀ r ∈ s, isRef r = true) : (spl2 44 32 (joinL cs (s.map refW))).map readRef = s := by
  rw [show joinL cs (s.map refW) = joinL [44, 32] (s.map refW) from rfl, spl2_join 44 32 (s.map refW) (by simp [hne]) ?_]
  · rw [List.map_map]
    conv => rhs; rw [← List.map_id s]
    exact List.map_congr_left fun r hr => readRef_refW (h r hr)
  · intro p hp m
    obtain ⟨r, hr, rfl⟩ := List.mem_map.mp hp
    have hr' := h r hr
    unfold isRef at hr'
    simp only [Bool.and_eq_true] at hr'
    unfold refW at m
    rcases List.mem_append.mp m with m | m
    · have := name_sign hr'.1 m; omega
    · rcases List.mem_append.mp m with m | m
      · simp at m
      · have := numI_dig m; omega
theorem hdr_keys {x : LV} {k : T} (h1 : k ≠ wFrom) (h2 : k ≠ wStamp) (h3 : k ≠ wSeen) (h4 : k ≠ wKind) : fget (hdr x) k = fget (bodyL x.body) k := by
  show fget ((hFrom ++ _) :: (hStamp ++ _) :: (hSeen ++ _) :: (hKind ++ _) :: bodyL x.body) k = _
  rw [fget_skip (by rw [p_From]; exact fun e => h1 e.symm), fget_skip (by rw [p_Stamp]; exact fun e => h2 e.symm), fget_skip (by rw [p_Seen]; exact fun e => h3 e.symm), fget_skip (by rw [p_Kind]; exact fun e => h4 e.symm)]
theorem bodyL_keys (b : Body) : ∀ l ∈ bodyL b, (par2 58 32 l).1 ≠ wFrom ∧ (par2 58 32 l).1 ≠ wStamp ∧ (par2 58 32 l).1 ≠ wSeen ∧ (par2 58 32 l).1 ≠ wKind := by
  intro l hl
  have hL : ∀ o : Option T, ∀ l ∈ linesH o, (par2 58 32 l).1 ≠ wFrom ∧ (par2 58 32 l).1 ≠ wStamp ∧ (par2 58 32 l).1 ≠ wSeen ∧ (par2 58 32 l).1 ≠ wKind := by
    intro o l hl
    cases o with
    | none => simp [linesH] at hl
    | some z => simp [linesH] at hl; subst hl; rw [p_Lines]; dsimp only; decide
  cases b with
  | found t ms =>
    simp only [bodyL, List.mem_cons, List.not_mem_nil, or_false] at hl
    rcases hl with rfl | rfl
    · rw [p_Title]; dsimp only; decide
    · rw [p_Members]; dsimp only; decide
  | say o => exact hL o l hl
  | reply e r o =>
    rcases List.mem_cons.mp hl with rfl | hl
    · rw [p_Ref]; dsimp only; decide
    · exact hL o l hl
  | recall r => simp [bodyL] at hl; subst hl; rw [p_Ref]; dsimp only; decide
  | mark r w =>
    simp only [bodyL, List.mem_cons, List.not_mem_nil, or_false] at hl
    rcases hl with rfl | rfl
    · rw [p_Ref]; dsimp only; decide
    · rw [p_Word]; dsimp only; decide
  | title t => simp [bodyL] at hl; subst hl; rw [p_Title]; dsimp only; decide
  | act k n => simp [bodyL] at hl; subst hl; rw [p_Name]; dsimp only; decide
  | seen => simp [bodyL] at hl
  | other k => simp [bodyL] at hl
theorem readVal_back {x : LV} (h : isLetter x = true) (hw : wfB x.body = true) : readVal (hdr x) (textOf x.body) = x := by
  unfold isLetter at h
  simp only [Bool.and_eq_true] at h
  obtain ⟨h1, h2, h3, h4, h5, h6, _⟩ := h
  have kb := bodyL_keys x.body
  have eF : fget (hdr x) wFrom = some (refW (x.author, x.number)) := by
    refine fget_cons ?_ (p_From _)
    intro l hl
    rcases List.mem_cons.mp hl with rfl | hl
    · rw [p_Stamp]; dsimp only; decide
    rcases List.mem_cons.mp hl with rfl | hl
    · rw [p_Seen]; dsimp only; decide
    rcases List.mem_cons.mp hl with rfl | hl
    · rw [p_Kind]; dsimp only; decide
    exact (kb l hl).1
  have eS : fget (hdr x) wStamp = some (numI x.stamp) := by
    show fget ((hFrom ++ _) :: _) _ = _
    rw [fget_skip (by rw [p_From]; dsimp only; decide)]
    refine fget_cons ?_ (p_Stamp _)
    intro l hl
    rcases List.mem_cons.mp hl with rfl | hl
    · rw [p_Seen]; dsimp only; decide
    rcases List.mem_cons.mp hl with rfl | hl
    · rw [p_Kind]; dsimp only; decide
    exact (kb l hl).2.1
  have eN : fget (hdr x) wSeen = some (joinL cs (x.seen.map refW)) := by
    show fget ((hFrom ++ _) :: (hStamp ++ _) :: _) _ = _
    rw [fget_skip (by rw [p_From]; dsimp only; decide), fget_skip (by rw [p_Stamp]; dsimp only; decide)]
    refine fget_cons ?_ (p_Seen _)
    intro l hl
    rcases List.mem_cons.mp hl with rfl | hl
    · rw [p_Kind]; dsimp only; decide
    exact (kb l hl).2.2.1
  have eK : fget (hdr x) wKind = some (kindOf x.body) := by
    show fget ((hFrom ++ _) :: (hStamp ++ _) :: (hSeen ++ _) :: _) _ = _
    rw [fget_skip (by rw [p_From]; dsimp only; decide), fget_skip (by rw [p_Stamp]; dsimp only; decide), fget_skip (by rw [p_Seen]; dsimp only; decide)]
    exact fget_cons (fun l hl => (kb l hl).2.2.2) (p_Kind _)
  have hs : x.seen ≠ [] := by intro e; rw [e] at h6; simp at h6
  have hr : ∀ r ∈ x.seen, isRef r = true := by
    unfold isSeen at h4
    simp only [Bool.and_eq_true] at h4
    exact List.all_eq_true.mp h4.1
  have hA : readRef (refW (x.author, x.number)) = (x.author, x.number) := readRef_refW (by unfold isRef; simp [h1, h2])
  unfold readVal
  rw [eF, eS, eN]
  dsimp only [Option.getD]
  rw [hA, readNum_num h3, seen_back hs hr, readBody_back (fget (hdr x)) h5 hw eK (fun k a b c d => hdr_keys a b c d)]
theorem readHeaders_back {x : LV} (h : isLetter x = true) (hw : wfB x.body = true) : readHeaders (hdr x) (textOf x.body) = some x := by
  unfold readHeaders
  rw [readVal_back h hw, if_pos ⟨h, rfl, rfl⟩]
/-! ### mails -/
/-- the lines of a mail of x, folded somehow -/
structure IsMail (x : LV) (M : List T) : Prop where
  ok : isLetter x = true
  wf : wfB x.body = true
  at_ : ∃ ls, (∀ l ∈ ls, l ≠ []) ∧ unf [] ls = some (hdr x) ∧ M = ls ++ ([] :: (textRows (textOf x.body) ++ [[46]]))
theorem head_take {ls r : List T} (h : ∀ l ∈ ls, l ≠ []) : headOf (ls ++ ([] :: r)) = ls := by
  unfold headOf
  rw [List.takeWhile_append_of_pos (by simpa using h)]
  simp
theorem rest_take {ls r : List T} (h : ∀ l ∈ ls, l ≠ []) : rest1 (ls ++ ([] :: r)) = r := by
  unfold rest1
  rw [List.dropWhile_append_of_pos (by simpa using h)]
  simp
theorem head_all {ls : List T} (h : ∀ l ∈ ls, l ≠ []) : rest1 ls = [] := by
  unfold rest1
  have : ls.dropWhile (fun l => decide (l ≠ [])) = [] := by
    have := List.dropWhile_append_of_pos (l₁ := ls) (l₂ := []) (p := fun l => decide (l ≠ [])) (by simpa using h)
    simpa using this
  rw [this]; rfl
theorem rows_isRow (o : Option T) : ∀ l ∈ textRows o, isRow l = true := by
  intro l hl
  cases o with
  | none => simp [textRows] at hl
  | some z =>
    obtain ⟨r, _, rfl⟩ := List.mem_map.mp hl
    simp [isRow]
theorem textIn_rows {o : Option T} : textIn (textRows o) = o := by
  cases o with
  | none => rfl
  | some z =>
    unfold textIn textRows
    have hne : (spl1 10 z).map (fun r => 124 :: r) ≠ [] := by simp [spl1_ne0]
    rw [if_neg hne, List.map_map]
    have e : ((fun x : T => x.drop 1) ∘ fun r => 124 :: r) = id := rfl
    rw [e, List.map_id, join_spl1]
theorem readMail_back {x : LV} {M : List T} (h : IsMail x M) (rest : List T) : readMail (M ++ rest) = some (x, rest) := by
  obtain ⟨ls, h1, h2, rfl⟩ := h.at_
  have e : ls ++ ([] :: (textRows (textOf x.body) ++ [[46]])) ++ rest = ls ++ ([] :: (textRows (textOf x.body) ++ ([46] :: rest))) := by simp
  rw [e]
  unfold readMail
  rw [rest_take h1, head_take h1, List.dropWhile_append_of_pos (rows_isRow _), List.takeWhile_append_of_pos (rows_isRow _)]
  have hd : ([46] : T) :: rest = [46] :: rest := rfl
  rw [List.dropWhile_cons_of_neg (by simp [isRow]), List.takeWhile_cons_of_neg (by simp [isRow]), List.append_nil]
  dsimp only
  rw [if_pos rfl, h2]
  dsimp only
  rw [textIn_rows, readHeaders_back h.ok h.wf]
/-- what a proper prefix of a mail gives: nothing -/
theorem readMail_prefix {x : LV} {M : List T} (h : IsMail x M) {P : List T} (hp : P <+: M) (hl : P.length < M.length) : readMail P = none := by
  obtain ⟨ls, h1, h2, rfl⟩ := h.at_
  by_cases hc : P.length ≤ ls.length
  · have hP : P <+: ls := List.prefix_of_prefix_length_le hp (List.prefix_append _ _) hc
    unfold readMail
    rw [head_all fun l hm => h1 l (hP.subset hm)]
    rfl
  · have e : P = (ls ++ ([] :: (textRows (textOf x.body) ++ [[46]]))).take P.length := List.prefix_iff_eq_take.mp hp
    have e2 : P = ls ++ ([] :: (textRows (textOf x.body)).take (P.length - ls.length - 1)) := by
      have hlen : P.length ≤ ls.length + 1 + (textRows (textOf x.body)).length := by
        simp at hl; omega
      obtain ⟨k, hk⟩ : ∃ k, P.length - ls.length = k + 1 := ⟨P.length - ls.length - 1, by omega⟩
      rw [List.take_append, List.take_of_length_le (by omega : ls.length ≤ P.length), hk, List.take_succ_cons, List.take_append_of_le_length (by omega)] at e
      rw [show P.length - ls.length - 1 = k by omega]
      exact e
    rw [e2]
    unfold readMail
    rw [rest_take h1]
    have hr : ((textRows (textOf x.body)).take (P.length - ls.length - 1)).dropWhile isRow = [] := by
      have := List.dropWhile_append_of_pos (l₁ := (textRows (textOf x.body)).take (P.length - ls.length - 1)) (l₂ := []) (p := isRow) (fun l hm => rows_isRow _ l (List.mem_of_mem_take hm))
      simpa using this
    rw [hr]
end LO
/-! ## LoMath2 -/
set_option linter.all false
set_option maxRecDepth 100000
/-! The plain law, second part: what is read of cut, spoilt and longer archives. Core Lean alone. -/
namespace LO
/-! ### reading on, mail by mail -/
theorem rdM_suf {ls : List T} {x : LV} {r : List T} (h : readMail ls = some (x, r)) : r <:+ ls ∧ r.length < ls.length := by
  unfold readMail at h
  have h1 : (rest1 ls).dropWhile isRow <:+ rest1 ls := List.dropWhile_suffix _
  have h2 : rest1 ls <:+ ls := by unfold rest1; exact (List.drop_suffix _ _).trans (List.dropWhile_suffix _)
  cases e : (rest1 ls).dropWhile isRow with
  | nil => rw [e] at h; cases h
  | cons l t =>
    rw [e] at h h1
    dsimp only at h
    have h3 : l :: t <:+ ls := h1.trans h2
    have h4 : t <:+ ls := (List.suffix_cons l t).trans h3
    have h5 := h3.length_le
    split at h
    · split at h
      · cases h
      · split at h
        · cases h
        · cases h; exact ⟨h4, by simp at h5; omega⟩
    · cases h
theorem rdA_fuel : ∀ (n m : Nat) (ls : List T), ls.length ≤ n → ls.length ≤ m → readAll n ls = readAll m ls
  | 0, 0, _, _, _ => rfl
  | 0, m + 1, ls, h, _ => by
    have : ls = [] := List.length_eq_zero_iff.mp (by omega)
    subst this; rfl
  | n + 1, 0, ls, _, h => by
    have : ls = [] := List.length_eq_zero_iff.mp (by omega)
    subst this; rfl
  | n + 1, m + 1, ls, h1, h2 => by
    unfold readAll
    split
    · rfl
    · cases e : readMail ls with
      | none => rfl
      | some q =>
        obtain ⟨x, r⟩ := q
        have := (rdM_suf e).2
        dsimp only
        rw [rdA_fuel n m r (by omega) (by omega)]
theorem rdA_some {n : Nat} {ls : List T} {x : LV} {r : List T} (h : readMail ls = some (x, r)) (hn : ls.length ≤ n) : readAll n ls = (x :: (readAll n r).1, (readAll n r).2) := by
  have hs := (rdM_suf h).2
  cases n with
  | zero => omega
  | succ n =>
    conv => lhs; unfold readAll
    rw [if_neg (by intro e; subst e; simp at hs), h]
    dsimp only
    rw [rdA_fuel n (n + 1) r (by omega) (by omega)]
theorem rdA_none {n : Nat} {ls : List T} (h : readMail ls = none) : readAll n ls = ([], ls) := by
  cases n with
  | zero => rfl
  | succ n =>
    unfold readAll
    split
    · rename_i e; rw [e]
    · rw [h]
/-- letters and their mails -/
inductive Mails : List LV → List (List T) → Prop
  | nil : Mails [] []
  | cons {x : LV} {M : List T} {xs : List LV} {Ms : List (List T)} : IsMail x M → Mails xs Ms → Mails (x :: xs) (M :: Ms)
theorem Mails.len : ∀ {xs : List LV} {Ms : List (List T)}, Mails xs Ms → xs.length = Ms.length
  | _, _, .nil => rfl
  | _, _, .cons _ r => congrArg (· + 1) r.len
theorem Mails.take : ∀ {xs : List LV} {Ms : List (List T)} (k : Nat), Mails xs Ms → Mails (xs.take k) (Ms.take k)
  | _, _, 0, _ => .nil
  | _, _, _ + 1, .nil => .nil
  | _, _, k + 1, .cons h r => .cons h (r.take k)
theorem Mails.get : ∀ {xs : List LV} {Ms : List (List T)} {k : Nat} {M : List T}, Mails xs Ms → Ms[k]? = some M → ∃ x, xs[k]? = some x ∧ IsMail x M
  | _, _, k, M, .nil, h => by simp at h
  | _, _, 0, M, .cons h r, e => by simp at e; subst e; exact ⟨_, by simp, h⟩
  | _, _, k + 1, M, .cons h r, e => by
    obtain ⟨x, h1, h2⟩ := r.get (k := k) (by simpa using e)
    exact ⟨x, by simpa using h1, h2⟩
theorem readAll_mails {n : Nat} {R : List T} : ∀ {xs : List LV} {Ms : List (List T)}, Mails xs Ms → (Ms.flatten ++ R).length ≤ n → readMail R = none → readAll n (Ms.flatten ++ R) = (xs, R)
  | _, _, .nil, _, h => rdA_none h
  | x :: xs, M :: Ms, .cons hM r, hl, h => by
    rw [List.flatten_cons, List.append_assoc] at hl ⊢
    rw [rdA_some (readMail_back hM _) hl]
    rw [readAll_mails r (by rw [List.length_append] at hl; omega) h]
theorem readMail_nil : readMail [] = none := rfl
/-- a text whose lines are those of mails, then what is no mail -/
theorem readBeg_mails {t : T} {xs : List LV} {Ms : List (List T)} {R : List T} (h : Mails xs Ms) (hl : linesOf t = Ms.flatten ++ R) (hR : readMail R = none) : readBeg t = (xs, (joinN Ms.flatten).length) := by
  unfold readBeg
  rw [hl, readAll_mails h (Nat.le_refl _) hR]
  dsimp only
  rw [List.length_append, Nat.add_sub_cancel, List.take_left]
/-! ### plain signs -/
def PlainL (l : T) : Prop := ∀ c ∈ l, 32 ≤ c ∧ c ≤ 126
theorem PlainL.app {a b : T} (h1 : PlainL a) (h2 : PlainL b) : PlainL (a ++ b) := fun c hc => (List.mem_append.mp hc).elim (h1 c) (h2 c)
theorem PlainL.dec {a : T} (h : (a.all fun c => decide (32 ≤ c) && decide (c ≤ 126)) = true) : PlainL a := fun c hc => by
  have := List.all_eq_true.mp h c hc; simpa using this
theorem PlainL.name {x : T} (h : isName x = true) : PlainL x := fun c hc => by have := name_sign h hc; omega
theorem PlainL.numI {n : Int} : PlainL (numI n) := fun c hc => by have := numI_dig hc; omega
theorem PlainL.numN {n : Nat} : PlainL (numN n) := fun c hc => by
  have := List.all_eq_true.mp (numN_all n) c hc
  simp [isDig] at this; omega
theorem PlainL.ref {r : Rf} (h : isRef r = true) : PlainL (refW r) := by
  unfold isRef at h; simp only [Bool.and_eq_true] at h
  exact (PlainL.name h.1).app ((PlainL.dec (by decide)).app .numI)
theorem PlainL.title {x : T} (h : isTitle x = true) : PlainL x := by
  unfold isTitle isPlain at h; simp only [Bool.and_eq_true] at h
  exact PlainL.dec h.2
theorem PlainL.join {s : T} (hs : PlainL s) : ∀ {ps : List T}, (∀ p ∈ ps, PlainL p) → PlainL (joinL s ps)
  | [], _ => fun c hc => by cases hc
  | [p], h => h p (by simp)
  | p :: q :: r, h => (h p (by simp)).app (hs.app (PlainL.join hs fun z hz => h z (List.mem_cons_of_mem _ hz)))
theorem text_sign {z : T} (h : isText (some z) = true) : ∀ c ∈ z, c = 10 ∨ (32 ≤ c ∧ c ≤ 126) := by
  unfold isText isPlain at h
  simp only [Bool.and_eq_true] at h
  intro c hc
  by_cases e : c = 10
  · exact .inl e
  · have := List.all_eq_true.mp h.2.2 c (List.mem_filter.mpr ⟨hc, by simpa using e⟩)
    right; simpa using this
theorem spl1_sub (a : Nat) : ∀ (l : T) (p : T), p ∈ spl1 a l → ∀ c ∈ p, c ∈ l
  | [], p, h, c, hc => by simp [spl1] at h; subst h; cases hc
  | d :: r, p, h, c, hc => by
    rw [spl1_c] at h
    have ih := spl1_sub a r
    split at h
    · rcases List.mem_cons.mp h with rfl | h
      · cases hc
      · exact List.mem_cons_of_mem _ (ih p h c hc)
    · cases e : spl1 a r with
      | nil => exact absurd e (spl1_ne0 a r)
      | cons q qs =>
        rw [e] at h ih
        rcases List.mem_cons.mp h with rfl | h
        · rcases List.mem_cons.mp hc with rfl | hc
          · simp
          · exact List.mem_cons_of_mem _ (ih q (by simp) c hc)
        · exact List.mem_cons_of_mem _ (ih p (List.mem_cons_of_mem _ h) c hc)
theorem linesH_plain (o : Option T) : ∀ l ∈ linesH o, PlainL l := by
  intro l hl
  cases o with
  | none => simp [linesH] at hl
  | some z => rw [show l = hLines ++ numN (nlCount z + 1) from List.mem_singleton.mp hl]; exact (PlainL.dec (by decide)).app .numN
theorem bodyL_plain {b : Body} (h : isBody b = true) : ∀ l ∈ bodyL b, PlainL l := by
  intro l hl
  cases b with
  | found t ms =>
    unfold isBody isMembers at h; simp only [Bool.and_eq_true] at h
    simp only [bodyL, List.mem_cons, List.not_mem_nil, or_false] at hl
    rcases hl with rfl | rfl
    · exact (PlainL.dec (by decide)).app (.title h.1)
    · exact (PlainL.dec (by decide)).app (.join (PlainL.dec (by decide)) fun p hp => .name (List.all_eq_true.mp h.2.2.1 p hp))
  | say o => exact linesH_plain o l hl
  | reply e r o =>
    unfold isBody at h; simp only [Bool.and_eq_true] at h
    rcases List.mem_cons.mp hl with rfl | hl
    · exact (PlainL.dec (by decide)).app (.ref h.1)
    · exact linesH_plain o l hl
  | recall r => simp [bodyL] at hl; subst hl; exact (PlainL.dec (by decide)).app (.ref h)
  | mark r w =>
    unfold isBody at h; simp only [Bool.and_eq_true] at h
    simp only [bodyL, List.mem_cons, List.not_mem_nil, or_false] at hl
    rcases hl with rfl | rfl
    · exact (PlainL.dec (by decide)).app (.ref h.1)
    · exact (PlainL.dec (by decide)).app (.name h.2)
  | title t => simp [bodyL] at hl; subst hl; exact (PlainL.dec (by decide)).app (.title h)
  | act k n => simp [bodyL] at hl; subst hl; exact (PlainL.dec (by decide)).app (.name h)
  | seen => simp [bodyL] at hl
  | other k => exact absurd h (by simp [isBody])
theorem kind_plain {b : Body} (h : isBody b = true) : PlainL (kindOf b) := by
  cases b with
  | other k => exact absurd h (by simp [isBody])
  | found t ms => show PlainL kFound; exact PlainL.dec (by decide)
  | say o => show PlainL kSay; exact PlainL.dec (by decide)
  | reply e r o => cases e with
    | false => show PlainL kReply; exact PlainL.dec (by decide)
    | true => show PlainL kEdit; exact PlainL.dec (by decide)
  | recall r => show PlainL kRecall; exact PlainL.dec (by decide)
  | mark r w => show PlainL kMark; exact PlainL.dec (by decide)
  | title t => show PlainL kTitle; exact PlainL.dec (by decide)
  | act k n => match k with
    | 0 => show PlainL kAdd; exact PlainL.dec (by decide)
    | 1 => show PlainL kCut; exact PlainL.dec (by decide)
    | _ + 2 => show PlainL kHand; exact PlainL.dec (by decide)
  | seen => show PlainL kSeen; exact PlainL.dec (by decide)
theorem letter_and {x : LV} (h : isLetter x = true) : isName x.author = true ∧ isNum x.number = true ∧ isNum x.stamp = true ∧ isSeen x.seen = true ∧ isBody x.body = true ∧ x.seen.contains (x.author, x.number) = true := by
  unfold isLetter at h
  simp only [Bool.and_eq_true] at h
  exact ⟨h.1, h.2.1, h.2.2.1, h.2.2.2.1, h.2.2.2.2.1, h.2.2.2.2.2.1⟩
theorem hdr_plain {x : LV} (h : isLetter x = true) : ∀ l ∈ hdr x, PlainL l := by
  obtain ⟨h1, h2, h3, h4, h5, h6⟩ := letter_and h
  intro l hl
  rcases List.mem_append.mp (show l ∈ [hFrom ++ refW (x.author, x.number), hStamp ++ numI x.stamp, hSeen ++ joinL cs (x.seen.map refW), hKind ++ kindOf x.body] ++ bodyL x.body from hl) with hl | hl
  · simp only [List.mem_cons, List.not_mem_nil, or_false] at hl
    rcases hl with rfl | rfl | rfl | rfl
    · exact (PlainL.dec (by decide)).app (.ref (by unfold isRef; simp [h1, h2]))
    · exact (PlainL.dec (by decide)).app .numI
    · refine (PlainL.dec (by decide)).app (.join (PlainL.dec (by decide)) fun p hp => ?_)
      obtain ⟨r, hr, rfl⟩ := List.mem_map.mp hp
      unfold isSeen at h4; simp only [Bool.and_eq_true] at h4
      exact .ref (List.all_eq_true.mp h4.1 r hr)
    · exact (PlainL.dec (by decide)).app (kind_plain h5)
  · exact bodyL_plain h5 l hl
/-! ### folded lines -/
theorem unf_flat : ∀ {ls acc hs : List T}, unf acc ls = some hs → acc.flatten ++ ls.flatten = hs.flatten
  | [], acc, hs, h => by rw [show acc = hs from Option.some.inj h]; simp
  | l :: r, acc, hs, h => by
    unfold unf at h
    split at h
    · rw [← unf_flat h]; simp
    · split at h
      · cases h
      · rename_i hne
        rw [← unf_flat h]
        have : acc.flatten = acc.dropLast.flatten ++ acc.getLastD [] := by
          have e := List.dropLast_concat_getLast hne
          have e2 : acc.getLastD [] = acc.getLast hne := by
            rw [List.getLastD_eq_getLast?, List.getLast?_eq_some_getLast hne]; rfl
          rw [e2]
          conv => lhs; rw [← e]
          simp
        rw [this]; simp
theorem flat_mem {ls : List T} {l : T} {c : Nat} (h : l ∈ ls) (hc : c ∈ l) : c ∈ ls.flatten := List.mem_flatten.mpr ⟨l, h, hc⟩
theorem plain_flat {ls : List T} (h : ∀ l ∈ ls, PlainL l) : PlainL ls.flatten := fun c hc => by
  obtain ⟨l, h1, h2⟩ := List.mem_flatten.mp hc
  exact h l h1 c h2
theorem unf_plain {ls hs : List T} (h : unf [] ls = some hs) (hp : ∀ l ∈ hs, PlainL l) : ∀ l ∈ ls, PlainL l := fun l hl c hc => by
  have e := unf_flat h
  exact plain_flat hp c (by rw [← e]; simpa using flat_mem hl hc)
/-- a mail's lines have plain signs alone -/
theorem IsMail.plain {x : LV} {M : List T} (h : IsMail x M) : ∀ l ∈ M, PlainL l := by
  obtain ⟨ls, h1, h2, rfl⟩ := h.at_
  have hb := (letter_and h.ok).2.2.2.2.1
  intro l hl
  rcases List.mem_append.mp hl with hl | hl
  · exact unf_plain h2 (hdr_plain h.ok) l hl
  · rcases List.mem_cons.mp hl with rfl | hl
    · intro c hc; cases hc
    · rcases List.mem_append.mp hl with hl | hl
      · have ht : ∀ z, textOf x.body = some z → isText (some z) = true := by
          intro z hz
          revert hb hz
          cases x.body with
          | say o => intro hb hz; rw [show some z = o from hz.symm]; exact hb
          | reply e r o => intro hb hz; unfold isBody at hb; simp only [Bool.and_eq_true] at hb; rw [show some z = o from hz.symm]; exact hb.2
          | _ => intro _ hz; cases hz
        cases e : textOf x.body with
        | none => rw [e] at hl; cases hl
        | some z =>
          rw [e] at hl
          obtain ⟨r, hr, rfl⟩ := List.mem_map.mp hl
          intro c hc
          rcases List.mem_cons.mp hc with rfl | hc
          · omega
          · have := text_sign (ht z e) c (spl1_sub 10 z r hr c hc)
            have hf := spl1_free 10 z r hr
            rcases text_sign (ht z e) c (spl1_sub 10 z r hr c hc) with rfl | h
            · exact absurd hc hf
            · exact h
      · rw [List.mem_singleton.mp hl]; exact PlainL.dec (by decide)
theorem Mails.plain : ∀ {xs : List LV} {Ms : List (List T)}, Mails xs Ms → ∀ l ∈ Ms.flatten, PlainL l
  | _, _, .nil, l, hl => by cases hl
  | _, _, .cons h r, l, hl => by
    rw [List.flatten_cons] at hl
    rcases List.mem_append.mp hl with hl | hl
    · exact h.plain l hl
    · exact r.plain l hl
theorem plain_no10 {l : T} (h : PlainL l) : 10 ∉ l := fun m => by have := h 10 m; omega
theorem plain_no9 {l : T} (h : PlainL l) : 9 ∉ l := fun m => by have := h 9 m; omega
/-! ### what is no mail -/
theorem unf_head {c : Nat} : ∀ {ls acc hs : List T}, unf acc ls = some hs → acc ≠ [] → (acc.headD []).head? = some c → (hs.headD []).head? = some c ∧ hs ≠ []
  | [], acc, hs, h, hne, hc => by rw [← show acc = hs from Option.some.inj h]; exact ⟨hc, hne⟩
  | l :: r, acc, hs, h, hne, hc => by
    unfold unf at h
    split at h
    · refine unf_head h (by simp) ?_
      cases acc with
      | nil => exact absurd rfl hne
      | cons a q => exact hc
    · refine unf_head h (by simp) ?_
      cases acc with
      | nil => exact absurd rfl hne
      | cons a q =>
        cases q with
        | nil =>
          cases a with
          | nil => simp at hc
          | cons d s => simpa using hc
        | cons b q => simpa using hc
theorem hdr_first (v : LV) : ((hdr v).headD []).head? = some 70 ∧ hdr v ≠ [] := ⟨rfl, by intro h; cases h⟩
theorem readHeaders_first {hs : List T} {t : Option T} (h : (hs.headD []).head? ≠ some 70) : readHeaders hs t = none := by
  unfold readHeaders
  rw [if_neg]
  rintro ⟨_, e, _⟩
  exact h (by rw [← e]; exact (hdr_first _).1)
/-- a first line whose first sign is not F -/
theorem readMail_first {l : T} {r : List T} (h : l.head? ≠ some 70) : readMail (l :: r) = none := by
  unfold readMail
  cases e : (rest1 (l :: r)).dropWhile isRow with
  | nil => rfl
  | cons a q =>
    dsimp only
    split
    · cases l with
      | nil =>
        have : headOf ([] :: r) = [] := by simp [headOf]
        rw [this]
        unfold unf
        dsimp only
        rw [readHeaders_first (by simp)]
      | cons c s =>
        have e1 : headOf ((c :: s) :: r) = (c :: s) :: headOf r := by simp [headOf]
        rw [e1]
        cases e2 : unf [] ((c :: s) :: headOf r) with
        | none => rfl
        | some hs =>
          have h3 : (hs.headD []).head? = some c := by
            unfold unf at e2
            split at e2
            · exact (unf_head e2 (by simp) (by simp)).1
            · simp at e2
          dsimp only
          rw [readHeaders_first (by rw [h3]; intro z; exact h (by simpa using z))]
    · rfl
theorem takeWhile_all {α : Type} {p : α → Bool} {a : α} : ∀ {l : List α}, a ∈ l.takeWhile p → p a = true
  | [], h => by cases h
  | b :: r, h => by
    cases e : p b with
    | false => rw [List.takeWhile_cons_of_neg (by simp [e])] at h; cases h
    | true =>
      rw [List.takeWhile_cons_of_pos e] at h
      rcases List.mem_cons.mp h with rfl | h
      · exact e
      · exact takeWhile_all h
/-- what is read is whole, and has no tab -/
theorem readMail_whole {R r : List T} {x : LV} (h : readMail R = some (x, r)) : ∃ C, R = C ++ r ∧ readMail C = some (x, []) ∧ ∀ l ∈ C, 9 ∉ l := by
  have hh := h
  unfold readMail at h
  cases e : (rest1 R).dropWhile isRow with
  | nil => rw [e] at h; cases h
  | cons a q =>
    rw [e] at h
    dsimp only at h
    by_cases ha : a = [46]
    case neg => rw [if_neg ha] at h; cases h
    rw [if_pos ha] at h
    cases e2 : unf [] (headOf R) with
    | none => rw [e2] at h; cases h
    | some hs =>
      rw [e2] at h; dsimp only at h
      cases e3 : readHeaders hs (textIn ((rest1 R).takeWhile isRow)) with
      | none => rw [e3] at h; cases h
      | some y =>
        rw [e3] at h; dsimp only at h
        obtain ⟨rfl, rfl⟩ : y = x ∧ q = r := by
          have h5 := Option.some.inj h
          exact ⟨congrArg Prod.fst h5, congrArg Prod.snd h5⟩
        -- the shape of R
        have hR1 : rest1 R = (rest1 R).takeWhile isRow ++ ([46] :: q) := by
          conv => lhs; rw [← List.takeWhile_append_dropWhile (p := isRow) (l := rest1 R)]
          rw [e, ha]
        have hR0 : R = headOf R ++ ([] :: rest1 R) := by
          have e5 := List.takeWhile_append_dropWhile (p := fun l : T => decide (l ≠ [])) (l := R)
          unfold headOf
          cases e6 : R.dropWhile (fun l : T => decide (l ≠ [])) with
          | nil => unfold rest1 at hR1; rw [e6] at hR1; simp at hR1
          | cons b s =>
            have hb : b = [] := by
              have := List.head?_dropWhile_not (fun l : T => decide (l ≠ [])) R
              rw [e6] at this
              simpa using this
            have : rest1 R = s := by unfold rest1; rw [e6]; rfl
            rw [this]
            conv => lhs; rw [← e5, e6, hb]
        obtain ⟨W, hW⟩ : ∃ W, (rest1 R).takeWhile isRow = W := ⟨_, rfl⟩
        have hWr : ∀ l ∈ W, isRow l = true := by
          intro l hl; rw [← hW] at hl
          exact takeWhile_all hl
        have hHn : ∀ l ∈ headOf R, l ≠ [] := by
          intro l hl
          have := takeWhile_all (p := fun l : T => decide (l ≠ [])) hl
          simpa using this
        rw [hW] at hR1 e3
        have hv : isLetter y = true ∧ hdr y = hs ∧ textOf y.body = textIn W := by
          unfold readHeaders at e3
          split at e3
          · rename_i h7
            rw [← Option.some.inj e3]; exact h7
          · cases e3
        refine ⟨headOf R ++ ([] :: (W ++ [[46]])), ?_, ?_, ?_⟩
        · conv => lhs; rw [hR0, hR1]
          simp
        · unfold readMail
          rw [rest_take hHn, head_take hHn, List.dropWhile_append_of_pos hWr, List.takeWhile_append_of_pos hWr]
          rw [List.dropWhile_cons_of_neg (by simp [isRow]), List.takeWhile_cons_of_neg (by simp [isRow]), List.append_nil]
          dsimp only
          rw [if_pos rfl, e2]
          dsimp only
          rw [e3]
        · intro l hl
          rcases List.mem_append.mp hl with hl | hl
          · exact plain_no9 (unf_plain e2 (by rw [← hv.2.1]; exact hdr_plain hv.1) l hl)
          rcases List.mem_cons.mp hl with rfl | hl
          · simp
          rcases (List.mem_append.mp hl).symm with hl | hl
          · rw [List.mem_singleton.mp hl]; decide
          -- a row
          have hne : W ≠ [] := List.ne_nil_of_mem hl
          have htx : textOf y.body = some (joinL [10] (W.map (·.drop 1))) := by rw [hv.2.2]; unfold textIn; rw [if_neg hne]
          have hb := (letter_and hv.1).2.2.2.2.1
          have ht : isText (some (joinL [10] (W.map (·.drop 1)))) = true := by
            revert hb htx
            cases y.body with
            | say o => intro hz hb; rw [← show o = _ from hz]; exact hb
            | reply e r o => intro hz hb; unfold isBody at hb; simp only [Bool.and_eq_true] at hb; rw [← show o = _ from hz]; exact hb.2
            | _ => intro hz; cases hz
          have hj : ∀ (ps : List T) (p : T), p ∈ ps → ∀ c ∈ p, c ∈ joinL [10] ps := by
            intro ps
            induction ps with
            | nil => intro p hp; cases hp
            | cons a s ih =>
              intro p hp c hc
              cases s with
              | nil => rw [List.mem_singleton.mp hp] at hc; exact hc
              | cons b s =>
                show c ∈ a ++ ([10] ++ joinL [10] (b :: s))
                rcases List.mem_cons.mp hp with rfl | hp
                · simp [hc]
                · have := ih p hp c hc; simp [this]
          intro h9
          have hr := hWr l hl
          cases l with
          | nil => cases h9
          | cons d s =>
            have hd : d = 124 := by unfold isRow at hr; simpa using hr
            rcases List.mem_cons.mp h9 with h10 | h9
            · omega
            · have := text_sign ht 9 (hj _ s (List.mem_map.mpr ⟨d :: s, hl, rfl⟩) 9 h9)
              omega
/-- a proper prefix of a mail, then a line with a tab or nothing -/
theorem readMail_tab {x : LV} {M : List T} (h : IsMail x M) {P : List T} (hp : P <+: M) (hl : P.length < M.length) (W : List T) (hW : W = [] ∨ ∃ w r, W = w :: r ∧ 9 ∈ w) : readMail (P ++ W) = none := by
  cases e : readMail (P ++ W) with
  | none => rfl
  | some q =>
    obtain ⟨y, r⟩ := q
    obtain ⟨C, h1, h2, h3⟩ := readMail_whole e
    have hC : C <+: P := by
      rcases hW with rfl | ⟨w, r', rfl, h9⟩
      · rw [List.append_nil] at h1; exact ⟨r, h1.symm⟩
      · rcases List.append_eq_append_iff.mp h1 with ⟨a, e1, e2⟩ | ⟨a, e1, e2⟩
        · cases a with
          | nil => rw [e1, List.append_nil]; exact List.prefix_refl _
          | cons z a =>
            exfalso
            have : z = w := by rw [List.cons_append] at e2; exact (List.cons.inj e2).1.symm
            subst this
            exact h3 z (by rw [e1]; simp) h9
        · exact ⟨a, e1.symm⟩
    rw [readMail_prefix h (hC.trans hp) (Nat.lt_of_le_of_lt hC.length_le hl)] at h2
    cases h2
end LO
/-! ## LoMath3 -/
set_option linter.all false
set_option maxRecDepth 100000
/-! The plain law, third part: cut archives and their like. Core Lean alone. -/
namespace LO
/-- the text of mails -/
def txt (Ms : List (List T)) : T := joinN Ms.flatten
/-- where the k-th mail ends -/
def endAt (Ms : List (List T)) (k : Nat) : Nat := (txt (Ms.take k)).length
def ends (Ms : List (List T)) : List Nat := (List.range (Ms.length + 1)).map (endAt Ms)
def whole (Ms : List (List T)) (p : Nat) : Nat := ((ends Ms).filter fun e => decide (e ≤ p)).length - 1
theorem txt_app (A B : List (List T)) : txt (A ++ B) = txt A ++ txt B := by unfold txt; rw [List.flatten_append, joinN_app]
theorem txt_cons (M : List T) (B : List (List T)) : txt (M :: B) = joinN M ++ txt B := by unfold txt; rw [List.flatten_cons, joinN_app]
theorem txt_split (Ms : List (List T)) (k : Nat) : txt Ms = txt (Ms.take k) ++ txt (Ms.drop k) := by rw [← txt_app, List.take_append_drop]
theorem endAt_zero (Ms : List (List T)) : endAt Ms 0 = 0 := rfl
theorem endAt_all (Ms : List (List T)) {k : Nat} (h : Ms.length ≤ k) : endAt Ms k = (txt Ms).length := by unfold endAt; rw [List.take_of_length_le h]
theorem endAt_succ (Ms : List (List T)) {k : Nat} {M : List T} (h : Ms[k]? = some M) : endAt Ms (k + 1) = endAt Ms k + (joinN M).length := by
  unfold endAt
  rw [List.take_add_one, h]
  show (txt (Ms.take k ++ [M])).length = _
  rw [txt_app, txt_cons, List.length_append]
  simp [txt, joinN]
theorem endAt_le (Ms : List (List T)) (k : Nat) : endAt Ms k ≤ (txt Ms).length := by
  rw [txt_split Ms k, List.length_append]; unfold endAt; omega
theorem take_end (Ms : List (List T)) (k : Nat) : (txt Ms).take (endAt Ms k) = txt (Ms.take k) := by
  rw [txt_split Ms k]; unfold endAt; rw [List.take_left]
theorem drop_end (Ms : List (List T)) (k : Nat) : (txt Ms).drop (endAt Ms k) = txt (Ms.drop k) := by
  conv => lhs; rw [txt_split Ms k]
  unfold endAt; rw [List.drop_left]
/-! ### the count of whole mails -/
theorem IsMail.ne {x : LV} {M : List T} (h : IsMail x M) : M ≠ [] := by
  obtain ⟨ls, _, _, rfl⟩ := h.at_
  simp
theorem joinN_pos {M : List T} (h : M ≠ []) : 0 < (joinN M).length := by
  cases M with
  | nil => exact absurd rfl h
  | cons a r => rw [joinN_cons, List.length_append, List.length_cons]; omega
/-- the ends rise -/
theorem filter_range {f : Nat → Nat} {p k : Nat} : ∀ n : Nat, (∀ i j, i < j → j < n → f i < f j) → k < n → f k ≤ p → (∀ j, k < j → j < n → p < f j) → ((List.range n).map f |>.filter fun e => decide (e ≤ p)).length = k + 1
  | 0, _, h, _, _ => absurd h (Nat.not_lt_zero _)
  | n + 1, hf, hk, h1, h2 => by
    rw [List.range_succ, List.map_append, List.filter_append, List.length_append]
    by_cases e : k = n
    · subst e
      have : ∀ m, m ≤ k → ((List.range m).map f |>.filter fun e => decide (e ≤ p)).length = m := by
        intro m hm
        rw [List.filter_eq_self.mpr]
        · simp
        · intro y hy
          obtain ⟨i, hi, rfl⟩ := List.mem_map.mp hy
          have := hf i k (by have := List.mem_range.mp hi; omega) (by omega)
          simp; omega
      rw [this k (Nat.le_refl _)]
      simp [h1]
    · rw [filter_range n (fun i j a b => hf i j a (by omega)) (by omega) h1 (fun j a b => h2 j a (by omega))]
      have := h2 n (by omega) (by omega)
      simp; omega
theorem ends_asc {xs : List LV} {Ms : List (List T)} (h : Mails xs Ms) : ∀ d i, i + (d + 1) ≤ Ms.length → endAt Ms i < endAt Ms (i + (d + 1))
  | 0, i, hi => by
    have e : Ms[i]? = some Ms[i] := List.getElem?_eq_getElem (by omega)
    obtain ⟨x, _, hm⟩ := h.get e
    rw [endAt_succ Ms e]
    have := joinN_pos hm.ne
    omega
  | d + 1, i, hi => by
    have h1 := ends_asc h d i (by omega)
    have e : Ms[i + (d + 1)]? = some Ms[i + (d + 1)] := List.getElem?_eq_getElem (by omega)
    obtain ⟨x, _, hm⟩ := h.get e
    have h2 := endAt_succ Ms e
    have := joinN_pos hm.ne
    rw [show i + (d + 1 + 1) = i + (d + 1) + 1 by omega]
    omega
theorem ends_lt {xs : List LV} {Ms : List (List T)} (h : Mails xs Ms) {i j : Nat} (hij : i < j) (hj : j ≤ Ms.length) : endAt Ms i < endAt Ms j := by
  have := ends_asc h (j - i - 1) i (by omega)
  rwa [show i + (j - i - 1 + 1) = j by omega] at this
theorem find_end {Ms : List (List T)} (p : Nat) : ∀ n, n ≤ Ms.length → (∃ k, k ≤ n ∧ endAt Ms k ≤ p ∧ (k = n ∨ p < endAt Ms (k + 1)))
  | 0, _ => ⟨0, Nat.le_refl _, by rw [endAt_zero]; omega, .inl rfl⟩
  | n + 1, hn => by
    by_cases e : endAt Ms (n + 1) ≤ p
    · exact ⟨n + 1, Nat.le_refl _, e, .inl rfl⟩
    · obtain ⟨k, h1, h2, h3⟩ := find_end (Ms := Ms) p n (by omega)
      rcases h3 with rfl | h3
      · exact ⟨k, by omega, h2, .inr (by omega)⟩
      · exact ⟨k, by omega, h2, .inr h3⟩
theorem whole_spec {xs : List LV} {Ms : List (List T)} (h : Mails xs Ms) (p : Nat) : ((ends Ms).filter fun e => decide (e ≤ p)).length = whole Ms p + 1 ∧ whole Ms p ≤ Ms.length ∧ endAt Ms (whole Ms p) ≤ p ∧ (whole Ms p = Ms.length ∨ p < endAt Ms (whole Ms p + 1)) := by
  obtain ⟨k, h1, h2, h3⟩ := find_end (Ms := Ms) p Ms.length (Nat.le_refl _)
  have e : ((ends Ms).filter fun e => decide (e ≤ p)).length = k + 1 := by
    refine filter_range (Ms.length + 1) (fun i j a b => ends_lt h a (by omega)) (by omega) h2 (fun j a b => ?_)
    rcases h3 with rfl | h3
    · omega
    · by_cases ej : j = k + 1
      · rw [ej]; exact h3
      · have := ends_lt h (i := k + 1) (j := j) (by omega) (by omega); omega
  have e2 : whole Ms p = k := by unfold whole; rw [e]; rfl
  rw [e2]
  exact ⟨e, h1, h2, h3⟩
/-! ### lines of a piece -/
theorem cut_lines : ∀ (M : List T) (q : Nat), (∀ l ∈ M, 10 ∉ l) → q < (joinN M).length → ∃ j z, j < M.length ∧ 10 ∉ z ∧ (joinN M).take q = joinN (M.take j) ++ z ∧ ((joinN M)[q]? = some 10 → (joinN M).drop (q + 1) = joinN (M.drop (j + 1)) )
  | [], q, _, h => by simp [joinN] at h
  | l :: r, q, h10, h => by
    rw [joinN_cons] at h ⊢
    have hl := h10 l (by simp)
    by_cases e : q ≤ l.length
    · refine ⟨0, l.take q, by simp, fun m => hl (List.mem_of_mem_take m), ?_, fun hq => ?_⟩
      · rw [List.take_append_of_le_length e]; simp [joinN]
      · have e2 : q = l.length := by
          rcases Nat.lt_or_ge q l.length with e3 | e3
          · rw [List.getElem?_append_left e3] at hq
            exact absurd (List.mem_of_getElem? hq) hl
          · omega
        rw [e2, List.drop_append, List.drop_of_length_le (by omega), show l.length + 1 - l.length = 1 by omega]; simp
    · obtain ⟨q', rfl⟩ : ∃ q', q = l.length + 1 + q' := ⟨q - l.length - 1, by omega⟩
      obtain ⟨j, z, h1, h2, h3, h4⟩ := cut_lines r q' (fun m hm => h10 m (List.mem_cons_of_mem _ hm)) (by simp at h; omega)
      refine ⟨j + 1, z, by simp; omega, h2, ?_, fun hq => ?_⟩
      · rw [List.take_append, List.take_of_length_le (by omega), show l.length + 1 + q' - l.length = q' + 1 by omega, List.take_succ_cons, h3, List.take_succ_cons, joinN_cons]; simp
      · rw [List.getElem?_append_right (by omega), show l.length + 1 + q' - l.length = q' + 1 by omega, List.getElem?_cons_succ] at hq
        rw [List.drop_append, List.drop_of_length_le (by omega), show l.length + 1 + q' + 1 - l.length = (q' + 1) + 1 by omega, List.drop_succ_cons, h4 hq]; simp
/-! ### the five readings -/
theorem Mails.no10 {xs : List LV} {Ms : List (List T)} (h : Mails xs Ms) : ∀ l ∈ Ms.flatten, 10 ∉ l := fun l hl => plain_no10 (h.plain l hl)
theorem flat_take {Ms : List (List T)} {k : Nat} {l : T} (h : l ∈ (Ms.take k).flatten) : l ∈ Ms.flatten := by
  rw [← List.take_append_drop k Ms, List.flatten_append]; exact List.mem_append_left _ h
theorem flat_drop {Ms : List (List T)} {k : Nat} {l : T} (h : l ∈ (Ms.drop k).flatten) : l ∈ Ms.flatten := by
  rw [← List.take_append_drop k Ms, List.flatten_append]; exact List.mem_append_right _ h
/-- the whole archive -/
theorem beg_all {xs : List LV} {Ms : List (List T)} (h : Mails xs Ms) : readBeg (txt Ms) = (xs, (txt Ms).length) := by
  refine readBeg_mails (R := []) h ?_ readMail_nil
  rw [List.append_nil]; exact linesOf_join h.no10
/-- a cut archive -/
theorem beg_cut {xs : List LV} {Ms : List (List T)} (h : Mails xs Ms) {p : Nat} (hp : p ≤ (txt Ms).length) : readBeg ((txt Ms).take p) = (xs.take (whole Ms p), endAt Ms (whole Ms p)) := by
  obtain ⟨_, h1, h2, h3⟩ := whole_spec h p
  obtain ⟨k, hk⟩ : ∃ k, whole Ms p = k := ⟨_, rfl⟩
  rw [hk] at h1 h2 h3 ⊢
  by_cases e : p = endAt Ms k
  · rw [e, take_end]
    exact beg_all (h.take k)
  · have h4 : p < endAt Ms (k + 1) := by
      rcases h3 with rfl | h3
      · rw [endAt_all Ms (Nat.le_refl _)] at e h2; omega
      · exact h3
    have hkn : k < Ms.length := by
      rcases Nat.lt_or_ge k Ms.length with h5 | h5
      · exact h5
      · rw [endAt_all Ms h5] at h2 e; omega
    have eM : Ms[k]? = some Ms[k] := List.getElem?_eq_getElem hkn
    obtain ⟨x, hx, hm⟩ := h.get eM
    rw [endAt_succ Ms eM] at h4
    obtain ⟨q, rfl⟩ : ∃ q, p = endAt Ms k + q := ⟨p - endAt Ms k, by omega⟩
    obtain ⟨j, z, j1, j2, j3, _⟩ := cut_lines Ms[k] q (fun l hl => plain_no10 (hm.plain l hl)) (by omega)
    have ht : (txt Ms).take (endAt Ms k + q) = joinN ((Ms.take k).flatten ++ Ms[k].take j) ++ z := by
      conv => lhs; rw [txt_split Ms k]
      rw [List.take_append, show (txt (Ms.take k)).length = endAt Ms k from rfl, List.take_of_length_le (by show endAt Ms k ≤ _; omega), show endAt Ms k + q - endAt Ms k = q by omega,
        List.drop_eq_getElem_cons hkn, txt_cons, List.take_append_of_le_length (by omega), j3, joinN_app]
      simp [txt]
    rw [ht]
    refine readBeg_mails (Ms := Ms.take k) (R := Ms[k].take j) (h.take k) (linesOf_app (fun l hl => ?_) j2) ?_
    · rcases List.mem_append.mp hl with hl | hl
      · exact h.no10 l (flat_take hl)
      · exact plain_no10 (hm.plain l (List.mem_of_mem_take hl))
    · exact readMail_prefix hm (List.take_prefix _ _) (by rw [List.length_take]; omega)
/-- something behind -/
theorem beg_other {xs : List LV} {Ms : List (List T)} (h : Mails xs Ms) {o : T} {R : List T} {z : T} (ho : o = joinN R ++ z) (hR : ∀ l ∈ R, 10 ∉ l) (hz : 10 ∉ z) (hr : readMail R = none) : readBeg (txt Ms ++ o) = (xs, (txt Ms).length) := by
  refine readBeg_mails (R := R) h ?_ hr
  rw [ho, ← List.append_assoc, show txt Ms = joinN Ms.flatten from rfl, ← joinN_app]
  refine linesOf_app (fun l hl => ?_) hz
  rcases List.mem_append.mp hl with hl | hl
  · exact h.no10 l hl
  · exact hR l hl
/-- a line of no mail put in -/
theorem beg_spoilt {xs : List LV} {Ms : List (List T)} (h : Mails xs Ms) (k : Nat) {s : T} (hs : 10 ∉ s) (hf : s.head? ≠ some 70) : readBeg ((txt Ms).take (endAt Ms k) ++ (s ++ [10]) ++ (txt Ms).drop (endAt Ms k)) = (xs.take k, endAt Ms k) := by
  rw [take_end, drop_end]
  refine readBeg_mails (R := s :: (Ms.drop k).flatten) (h.take k) ?_ (readMail_first hf)
  have e : txt (Ms.take k) ++ (s ++ [10]) ++ txt (Ms.drop k) = joinN ((Ms.take k).flatten ++ (s :: (Ms.drop k).flatten)) := by
    rw [joinN_app, joinN_cons]; simp [txt]
  rw [e]
  refine linesOf_join fun l hl => ?_
  rcases List.mem_append.mp hl with hl | hl
  · exact h.no10 l (flat_take hl)
  · rcases List.mem_cons.mp hl with rfl | hl
    · exact hs
    · exact h.no10 l (flat_drop hl)
/-- a tab in the place of a newline -/
theorem beg_tab {xs : List LV} {Ms : List (List T)} (h : Mails xs Ms) {p : Nat} (hp : (txt Ms)[p]? = some 10) : readBeg ((txt Ms).take p ++ [9] ++ (txt Ms).drop (p + 1)) = (xs.take (whole Ms p), endAt Ms (whole Ms p)) := by
  obtain ⟨_, h1, h2, h3⟩ := whole_spec h p
  obtain ⟨k, hk⟩ : ∃ k, whole Ms p = k := ⟨_, rfl⟩
  rw [hk] at h1 h2 h3 ⊢
  have hpl : p < (txt Ms).length := (List.getElem?_eq_some_iff.mp hp).1
  have h4 : p < endAt Ms (k + 1) := by
    rcases h3 with rfl | h3
    · rw [endAt_all Ms (Nat.le_refl _)] at h2; omega
    · exact h3
  have hkn : k < Ms.length := by
    rcases Nat.lt_or_ge k Ms.length with h5 | h5
    · exact h5
    · rw [endAt_all Ms h5] at h2; omega
  have eM : Ms[k]? = some Ms[k] := List.getElem?_eq_getElem hkn
  obtain ⟨x, hx, hm⟩ := h.get eM
  rw [endAt_succ Ms eM] at h4
  obtain ⟨q, rfl⟩ : ∃ q, p = endAt Ms k + q := ⟨p - endAt Ms k, by omega⟩
  obtain ⟨j, z, j1, j2, j3, j4⟩ := cut_lines Ms[k] q (fun l hl => plain_no10 (hm.plain l hl)) (by omega)
  have hsp : txt Ms = txt (Ms.take k) ++ (joinN Ms[k] ++ txt (Ms.drop (k + 1))) := by
    conv => lhs; rw [txt_split Ms k]
    rw [List.drop_eq_getElem_cons hkn, txt_cons]
  have hl : (txt (Ms.take k)).length = endAt Ms k := rfl
  have hq : (joinN Ms[k])[q]? = some 10 := by
    rw [hsp, List.getElem?_append_right (by omega), hl, Nat.add_sub_cancel_left, List.getElem?_append_left (by omega)] at hp
    exact hp
  have ht : (txt Ms).take (endAt Ms k + q) = joinN ((Ms.take k).flatten ++ Ms[k].take j) ++ z := by
    rw [hsp, List.take_append, hl, List.take_of_length_le (by omega), show endAt Ms k + q - endAt Ms k = q by omega, List.take_append_of_le_length (by omega), j3, joinN_app]
    simp [txt]
  have hd : (txt Ms).drop (endAt Ms k + q + 1) = joinN (Ms[k].drop (j + 1) ++ (Ms.drop (k + 1)).flatten) := by
    rw [hsp, List.drop_append, hl, List.drop_of_length_le (by omega), show endAt Ms k + q + 1 - endAt Ms k = q + 1 by omega, List.nil_append, List.drop_append_of_le_length (by omega), j4 hq, joinN_app]
    rfl
  have hp10 : ∀ l ∈ (Ms.take k).flatten ++ Ms[k].take j, 10 ∉ l := fun l hl => by
    rcases List.mem_append.mp hl with hl | hl
    · exact h.no10 l (flat_take hl)
    · exact plain_no10 (hm.plain l (List.mem_of_mem_take hl))
  have hd10 : ∀ l ∈ Ms[k].drop (j + 1) ++ (Ms.drop (k + 1)).flatten, 10 ∉ l := fun l hl => by
    rcases List.mem_append.mp hl with hl | hl
    · exact plain_no10 (hm.plain l (List.mem_of_mem_drop hl))
    · exact h.no10 l (flat_drop hl)
  have hpre : Ms[k].take j <+: Ms[k] := List.take_prefix _ _
  have hlen : (Ms[k].take j).length < Ms[k].length := by rw [List.length_take]; omega
  rw [ht, hd]
  cases eD : Ms[k].drop (j + 1) ++ (Ms.drop (k + 1)).flatten with
  | nil =>
    have e : joinN ((Ms.take k).flatten ++ Ms[k].take j) ++ z ++ [9] ++ joinN [] = joinN ((Ms.take k).flatten ++ Ms[k].take j) ++ (z ++ [9]) := by simp [joinN]
    rw [e]
    refine readBeg_mails (Ms := Ms.take k) (R := Ms[k].take j ++ []) (h.take k) ?_ (readMail_tab hm hpre hlen [] (.inl rfl))
    rw [List.append_nil]
    refine linesOf_app hp10 fun m => ?_
    rcases List.mem_append.mp m with m | m
    · exact j2 m
    · simp at m
  | cons d D =>
    rw [eD] at hd10
    have e : joinN ((Ms.take k).flatten ++ Ms[k].take j) ++ z ++ [9] ++ joinN (d :: D) = joinN ((Ms.take k).flatten ++ (Ms[k].take j ++ ((z ++ 9 :: d) :: D))) := by
      rw [← List.append_assoc (Ms.take k).flatten, joinN_app _ ((z ++ 9 :: d) :: D), joinN_cons, joinN_cons]; simp
    rw [e]
    refine readBeg_mails (Ms := Ms.take k) (R := Ms[k].take j ++ ((z ++ 9 :: d) :: D)) (h.take k) ?_ (readMail_tab hm hpre hlen _ (.inr ⟨_, _, rfl, by simp⟩))
    refine linesOf_join fun l hl => ?_
    rw [← List.append_assoc] at hl
    rcases List.mem_append.mp hl with hl | hl
    · exact hp10 l hl
    · rcases List.mem_cons.mp hl with rfl | hl
      · intro m
        rcases List.mem_append.mp m with m | m
        · exact j2 m
        · rcases List.mem_cons.mp m with m | m
          · omega
          · exact hd10 d (by simp) m
      · exact hd10 l (List.mem_cons_of_mem _ hl)
/-- what the ten others are -/
theorem other_no {o : T} (h : o ∈ ([[120], [10], [46], [46, 10], [124, 10], [32, 10], [70, 114, 111, 109, 58, 32, 97, 32, 49, 10], [70, 114, 111, 109, 58, 32, 97, 32, 49, 10, 83, 116, 97, 109, 112, 58, 32, 49, 10, 10, 46, 10], [32, 120, 10], [10, 46, 10]] : List T)) :
    ∃ R z, o = joinN R ++ z ∧ (∀ l ∈ R, 10 ∉ l) ∧ 10 ∉ z ∧ readMail R = none := by
  simp only [List.mem_cons, List.not_mem_nil, or_false] at h
  rcases h with rfl | rfl | rfl | rfl | rfl | rfl | rfl | rfl | rfl | rfl
  · exact ⟨[], [120], rfl, by decide, by decide, rfl⟩
  · exact ⟨[[]], [], rfl, by decide, by decide, readMail_first (by decide)⟩
  · exact ⟨[], [46], rfl, by decide, by decide, rfl⟩
  · exact ⟨[[46]], [], rfl, by decide, by decide, readMail_first (by decide)⟩
  · exact ⟨[[124]], [], rfl, by decide, by decide, readMail_first (by decide)⟩
  · exact ⟨[[32]], [], rfl, by decide, by decide, readMail_first (by decide)⟩
  · exact ⟨[[70, 114, 111, 109, 58, 32, 97, 32, 49]], [], rfl, by decide, by decide, by decide +kernel⟩
  · exact ⟨[[70, 114, 111, 109, 58, 32, 97, 32, 49], [83, 116, 97, 109, 112, 58, 32, 49], [], [46]], [], rfl, by decide, by decide, by decide +kernel⟩
  · exact ⟨[[32, 120]], [], rfl, by decide, by decide, readMail_first (by decide)⟩
  · exact ⟨[[], [46]], [], rfl, by decide, by decide, readMail_first (by decide)⟩
end LO
/-! ## LoMath4 -/
set_option linter.all false
set_option maxRecDepth 100000
/-! The plain law, fourth part: folded lines. Core Lean alone. -/
namespace LO
/-- ps are the pieces of a line -/
structure Folds (l : T) (ps : List T) : Prop where
  flat : ps.flatten = l
  ne : ∀ p ∈ ps, p ≠ []
  sp : ∀ p ∈ ps.drop 1, p.head? = some 32
theorem unf_fold {l : T} (hl : l.head? ≠ some 32) : ∀ {ps : List T} {acc rest : List T}, Folds l ps → ps ≠ [] → unf acc (ps ++ rest) = unf (acc ++ [l]) rest := by
  intro ps acc rest h hne
  cases ps with
  | nil => exact absurd rfl hne
  | cons f r =>
    have hf := h.ne f (by simp)
    have hfl : f.head? ≠ some 32 := by
      have e := h.flat
      rw [List.flatten_cons] at e
      cases f with
      | nil => exact absurd rfl hf
      | cons c s => rw [← e] at hl; simpa using hl
    rw [List.cons_append]
    conv => lhs; unfold unf
    rw [if_pos hfl]
    have hsp := h.sp
    rw [show (f :: r).drop 1 = r from rfl] at hsp
    have key : ∀ (r : List T) (g : T), (∀ p ∈ r, p.head? = some 32) → unf (acc ++ [g]) (r ++ rest) = unf (acc ++ [g ++ r.flatten]) rest := by
      intro r
      induction r with
      | nil => intro g _; simp
      | cons a s ih =>
        intro g hs
        rw [List.cons_append]
        conv => lhs; unfold unf
        rw [if_neg (by rw [hs a (by simp)]; simp), if_neg (by simp)]
        have e1 : (acc ++ [g]).dropLast ++ [(acc ++ [g]).getLastD [] ++ a] = acc ++ [g ++ a] := by simp
        rw [e1, ih (g ++ a) (fun p hp => hs p (List.mem_cons_of_mem _ hp))]
        simp
    rw [key r f hsp, ← List.flatten_cons, h.flat]
/-- lines, each with its pieces -/
inductive FoldsAll : List T → List (List T) → Prop
  | nil : FoldsAll [] []
  | cons {l : T} {ps : List T} {ls : List T} {pss : List (List T)} : Folds l ps → FoldsAll ls pss → FoldsAll (l :: ls) (ps :: pss)
theorem folds_ne {l : T} {ps : List T} (h : Folds l ps) (hl : l ≠ []) : ps ≠ [] := by
  rintro rfl
  exact hl (by rw [← h.flat]; rfl)
theorem unf_all : ∀ {ls : List T} {pss : List (List T)} {acc : List T}, FoldsAll ls pss → (∀ l ∈ ls, l ≠ [] ∧ l.head? ≠ some 32) → unf acc pss.flatten = some (acc ++ ls)
  | _, _, acc, .nil, _ => by simp [unf]
  | _, _, acc, .cons (l := l) (ls := ls) h r, hl => by
    have h1 := hl l (by simp)
    rw [List.flatten_cons, unf_fold h1.2 h (folds_ne h h1.1), unf_all r (fun l hm => hl l (List.mem_cons_of_mem _ hm))]
    simp
theorem FoldsAll.ne : ∀ {ls : List T} {pss : List (List T)}, FoldsAll ls pss → ∀ p ∈ pss.flatten, p ≠ []
  | _, _, .nil, p, hp => by cases hp
  | _, _, .cons h r, p, hp => by
    rw [List.flatten_cons] at hp
    rcases List.mem_append.mp hp with hp | hp
    · exact h.ne p hp
    · exact r.ne p hp
/-- how a header line begins -/
theorem hdr_starts (x : LV) : ∀ l ∈ hdr x, l ≠ [] ∧ l.head? ≠ some 32 := by
  have hL : ∀ o : Option T, ∀ l ∈ linesH o, l ≠ [] ∧ l.head? ≠ some 32 := by
    intro o l hl
    cases o with
    | none => cases hl
    | some z => rw [show l = hLines ++ numN (nlCount z + 1) from List.mem_singleton.mp hl]; exact ⟨by simp [hLines], by simp [hLines]⟩
  intro l hl
  rcases List.mem_append.mp (show l ∈ [hFrom ++ refW (x.author, x.number), hStamp ++ numI x.stamp, hSeen ++ joinL cs (x.seen.map refW), hKind ++ kindOf x.body] ++ bodyL x.body from hl) with hl | hl
  · simp only [List.mem_cons, List.not_mem_nil, or_false] at hl
    rcases hl with rfl | rfl | rfl | rfl <;> exact ⟨by simp [hFrom, hStamp, hSeen, hKind], by simp [hFrom, hStamp, hSeen, hKind]⟩
  · cases e : x.body with
    | found t ms =>
      rw [e] at hl; simp only [bodyL, List.mem_cons, List.not_mem_nil, or_false] at hl
      rcases hl with rfl | rfl <;> exact ⟨by simp [hTitle, hMembers], by simp [hTitle, hMembers]⟩
    | say o => rw [e] at hl; exact hL o l hl
    | reply b r o =>
      rw [e] at hl
      rcases List.mem_cons.mp hl with rfl | hl
      · exact ⟨by simp [hRef], by simp [hRef]⟩
      · exact hL o l hl
    | recall r => rw [e] at hl; simp [bodyL] at hl; subst hl; exact ⟨by simp [hRef], by simp [hRef]⟩
    | mark r w =>
      rw [e] at hl; simp only [bodyL, List.mem_cons, List.not_mem_nil, or_false] at hl
      rcases hl with rfl | rfl <;> exact ⟨by simp [hRef, hWord], by simp [hRef, hWord]⟩
    | title t => rw [e] at hl; simp [bodyL] at hl; subst hl; exact ⟨by simp [hTitle], by simp [hTitle]⟩
    | act k n => rw [e] at hl; simp [bodyL] at hl; subst hl; exact ⟨by simp [hName], by simp [hName]⟩
    | seen => rw [e] at hl; simp [bodyL] at hl
    | other k => rw [e] at hl; simp [bodyL] at hl
/-- folded in any way, it is a mail -/
theorem mail_folded {x : LV} (h : isLetter x = true) (hw : wfB x.body = true) {pss : List (List T)} (hf : FoldsAll (hdr x) pss) : IsMail x (pss.flatten ++ ([] :: (textRows (textOf x.body) ++ [[46]]))) :=
  ⟨h, hw, pss.flatten, hf.ne, by have := unf_all (acc := []) hf (hdr_starts x); rwa [List.nil_append] at this, rfl⟩
/-! ### the fold to 60 -/
theorem lastSp_some {l : T} : ∀ {n i : Nat}, lastSp l n = some i → 1 ≤ i ∧ i ≤ n ∧ l[i]? = some 32 ∧ ∀ j, i < j → j ≤ n → l[j]? ≠ some 32
  | 0, i, h => by cases h
  | n + 1, i, h => by
    unfold lastSp at h
    split at h
    · rename_i e
      cases h
      exact ⟨by omega, by omega, e, fun j h1 h2 => by omega⟩
    · rename_i e
      obtain ⟨h1, h2, h3, h4⟩ := lastSp_some h
      refine ⟨h1, by omega, h3, fun j a b => ?_⟩
      by_cases ej : j = n + 1
      · rw [ej]; exact e
      · exact h4 j a (by omega)
theorem lastSp_none {l : T} : ∀ {n : Nat}, lastSp l n = none → ∀ j, 1 ≤ j → j ≤ n → l[j]? ≠ some 32
  | 0, _, j, h1, h2 => by omega
  | n + 1, h, j, h1, h2 => by
    unfold lastSp at h
    split at h
    · cases h
    · rename_i e
      by_cases ej : j = n + 1
      · rw [ej]; exact e
      · exact lastSp_none h j h1 (by omega)
theorem nextSp_some {l : T} : ∀ {n i k : Nat}, nextSp l n i = some k → i ≤ k ∧ k < i + n ∧ l[k]? = some 32 ∧ ∀ j, i ≤ j → j < k → l[j]? ≠ some 32
  | 0, i, k, h => by cases h
  | n + 1, i, k, h => by
    unfold nextSp at h
    split at h
    · rename_i e
      cases h
      exact ⟨by omega, by omega, e, fun j h1 h2 => by omega⟩
    · rename_i e
      obtain ⟨h1, h2, h3, h4⟩ := nextSp_some h
      refine ⟨by omega, by omega, h3, fun j a b => ?_⟩
      by_cases ej : j = i
      · rw [ej]; exact e
      · exact h4 j (by omega) b
theorem nextSp_none {l : T} : ∀ {n i : Nat}, nextSp l n i = none → ∀ j, i ≤ j → j < i + n → l[j]? ≠ some 32
  | 0, i, _, j, h1, h2 => by omega
  | n + 1, i, h, j, h1, h2 => by
    unfold nextSp at h
    split at h
    · cases h
    · rename_i e
      by_cases ej : j = i
      · rw [ej]; exact e
      · exact nextSp_none h j (by omega) (by omega)
theorem cutAt_spec (l : T) (h : cutAt l 60 < l.length) : 1 ≤ cutAt l 60 ∧ l[cutAt l 60]? = some 32 := by
  unfold cutAt at h ⊢
  split at h
  · omega
  · rename_i hlen
    rw [if_neg hlen]
    cases e : lastSp l 60 with
    | some i => have := lastSp_some e; exact ⟨this.1, this.2.2.1⟩
    | none =>
      rw [e] at h
      dsimp only at h ⊢
      cases e2 : nextSp l (l.length - (60 + 1)) (60 + 1) with
      | some i => have := nextSp_some e2; exact ⟨by show 1 ≤ i; omega, this.2.2.1⟩
      | none => rw [e2] at h; dsimp only at h; omega
theorem foldF_folds : ∀ (n : Nat) (l : T), l ≠ [] → Folds l (foldF n l) ∧ ∃ f r, foldF n l = f :: r ∧ f.head? = l.head?
  | 0, l, hl => ⟨⟨by simp [foldF], by simpa [foldF] using hl, by simp [foldF]⟩, l, [], rfl, rfl⟩
  | n + 1, l, hl => by
    unfold foldF
    split
    · rename_i hc
      obtain ⟨h1, h2⟩ := cutAt_spec l hc
      obtain ⟨c, hcc⟩ : ∃ c, cutAt l 60 = c := ⟨_, rfl⟩
      rw [hcc] at hc h1 h2 ⊢
      have hd : l.drop c ≠ [] := by
        intro e
        have := congrArg List.length e
        simp at this; omega
      obtain ⟨ih, f, r, e1, e2⟩ := foldF_folds n (l.drop c) hd
      have htn : l.take c ≠ [] := by
        intro e
        have := congrArg List.length e
        rw [List.length_take, List.length_nil] at this; omega
      refine ⟨⟨?_, ?_, ?_⟩, _, _, rfl, ?_⟩
      · rw [List.flatten_cons, ih.flat, List.take_append_drop]
      · intro p hp
        rcases List.mem_cons.mp hp with rfl | hp
        · exact htn
        · exact ih.ne p hp
      · intro p hp
        rw [show (l.take c :: foldF n (l.drop c)).drop 1 = foldF n (l.drop c) from rfl] at hp
        have i2 := ih.sp
        rw [e1] at hp i2
        rcases List.mem_cons.mp hp with rfl | hp
        · rw [e2, List.head?_drop]; exact h2
        · exact i2 p hp
      · cases l with
        | nil => exact absurd rfl hl
        | cons a s =>
          obtain ⟨c', rfl⟩ : ∃ c', c = c' + 1 := ⟨c - 1, by omega⟩
          rfl
    · exact ⟨⟨by simp, by simpa using hl, by simp⟩, l, [], rfl, rfl⟩
theorem fold60_folds {l : T} (h : l ≠ []) : Folds l (fold60 l) := (foldF_folds _ l h).1
theorem foldsAll_60 : ∀ {ls : List T}, (∀ l ∈ ls, l ≠ []) → FoldsAll ls (ls.map fold60)
  | [], _ => .nil
  | l :: ls, h => .cons (fold60_folds (h l (by simp))) (foldsAll_60 fun m hm => h m (List.mem_cons_of_mem _ hm))
theorem mailL_isMail {x : LV} (h : isLetter x = true) (hw : wfB x.body = true) : IsMail x (mailL x) := mail_folded h hw (foldsAll_60 fun l hl => (hdr_starts x l hl).1)
/-- a fold by hand: pieces so far, then the rest of the line -/
theorem Folds.snoc {l a b : T} {ps : List T} (h : Folds a ps) (hb : b ≠ []) (hs : ps = [] ∨ b.head? = some 32) (e : a ++ b = l) : Folds l (ps ++ [b]) := by
  refine ⟨by rw [List.flatten_append, h.flat, ← e]; simp, fun p hp => ?_, fun p hp => ?_⟩
  · rcases List.mem_append.mp hp with hp | hp
    · exact h.ne p hp
    · rw [List.mem_singleton.mp hp]; exact hb
  · cases ps with
    | nil => simp at hp
    | cons f r =>
      rw [show (f :: r ++ [b]).drop 1 = r ++ [b] from rfl] at hp
      rcases List.mem_append.mp hp with hp | hp
      · exact h.sp p hp
      · rw [List.mem_singleton.mp hp]
        rcases hs with hs | hs
        · cases hs
        · exact hs
theorem Folds.zero : Folds [] [] := ⟨rfl, by simp, by simp⟩
/-- the fold's loop, seen as the law's own: no cut found is the line's end -/
theorem foldF_enough : ∀ (n m : Nat) (l : T), l.length ≤ n → l.length ≤ m → foldF n l = foldF m l
  | 0, 0, _, _, _ => rfl
  | 0, m + 1, l, h, _ => by
    have : l = [] := List.length_eq_zero_iff.mp (by omega)
    subst this; rfl
  | n + 1, 0, l, _, h => by
    have : l = [] := List.length_eq_zero_iff.mp (by omega)
    subst this; rfl
  | n + 1, m + 1, l, h1, h2 => by
    unfold foldF
    split
    · rename_i hc
      have := (cutAt_spec l hc).1
      rw [foldF_enough n m (l.drop (cutAt l 60)) (by rw [List.length_drop]; omega) (by rw [List.length_drop]; omega)]
    · rfl
end LO
/-! ## LoNames -/
set_option Elab.async false
set_option linter.all false
set_option maxRecDepth 100000
set_option maxHeartbeats 4000000
namespace LoW
open PySem PySem.Spec PyProof.Rows L2 LoH LO
/-! one step of a body's walk, by the shape of what stands next -/
local macro_rules | `(tactic| walk_at "fin") => `(tactic| first | (with_reducible assumption) | (with_reducible rfl) | rfl | (intro _; rfl) | (intro _ _; rfl) | skip)
local macro_rules | `(tactic| walk_at "at") => `(tactic| first | (with_reducible assumption) | (refine New.at_ (by with_reducible assumption)) | (refine New1.at_ (by with_reducible assumption)) | (refine New.same (by with_reducible assumption) _ _ ?_; walk_at "at") | (refine New1.same (by with_reducible assumption) _ _ ?_; walk_at "at") | (refine Same.get (by with_reducible assumption) ?_; walk_at "at"))
local macro_rules | `(tactic| walk_at "same") => `(tactic| first | (with_reducible assumption) | exact Same.refl _ | (refine Same.trans ?_ (New.same (by with_reducible assumption)); walk_at "same") | (refine Same.trans ?_ (New1.same (by with_reducible assumption)); walk_at "same") | (refine Same.trans ?_ (by with_reducible assumption); walk_at "same"))
local macro_rules | `(tactic| walk_at "n1") => `(tactic| first | (with_reducible assumption) | (with_reducible apply New1.post2 (New.same (by with_reducible assumption)); walk_at "n1") | (with_reducible apply New1.post2 (by with_reducible assumption); walk_at "n1"))
local macro_rules | `(tactic| walk_at "C") => `(tactic| first
  | (with_reducible apply e_cmp op_lt) <;> walk_at "fin"
  | (with_reducible apply e_cmp op_gt) <;> walk_at "fin"
  | (with_reducible apply e_cmp op_ge) <;> walk_at "fin"
  | (with_reducible apply e_cmp op_leV) <;> walk_at "fin"
  | (with_reducible apply e_cmp (op_eqV (Ctx.room ‹_›).units)) <;> walk_at "fin"
  | (with_reducible apply e_cmp (op_neV (Ctx.room ‹_›).units)) <;> walk_at "fin"
  | (with_reducible apply e_cmp op_inV) <;> walk_at "fin"
  | (with_reducible apply e_cmp op_notInV) <;> walk_at "fin"
  | (with_reducible apply e_cmp op_isN) <;> walk_at "fin"
  | (with_reducible apply e_cmp op_notN) <;> walk_at "fin"
  | (with_reducible apply e_chain_le) <;> walk_at "fin")
local macro_rules | `(tactic| walk_at "calln") => `(tactic| first | (refine e_call (CX := CX0) (E := E0) (by with_reducible assumption) ((Ctx.room ‹_›).mono (by decide)) (by with_reducible assumption) pass0 ?_) | ((with_reducible apply e_isi) <;> walk_at "fin") | ((with_reducible apply e_len) <;> walk_at "fin") | ((with_reducible apply e_ord) <;> walk_at "fin") | ((with_reducible apply e_str1) <;> walk_at "fin") | ((with_reducible apply e_int1) <;> walk_at "fin") | ((with_reducible apply e_max2) <;> walk_at "fin") | ((with_reducible apply e_min2) <;> walk_at "fin") | ((with_reducible apply e_sum1) <;> walk_at "fin") | ((with_reducible apply e_tupleL) <;> walk_at "fin"))
local macro_rules | `(tactic| walk_at "callm") => `(tactic| first | ((with_reducible apply e_parts) <;> walk_at "fin") | ((with_reducible apply e_dget2) <;> walk_at "fin") | ((with_reducible apply e_split) <;> walk_at "fin") | ((with_reducible apply e_partition) <;> walk_at "fin") | ((with_reducible apply e_join) <;> walk_at "fin") | ((with_reducible apply e_count) <;> walk_at "fin") | ((with_reducible apply e_rfind4) <;> walk_at "fin") | ((with_reducible apply e_find3) <;> walk_at "fin") | ((with_reducible apply e_append) <;> walk_at "fin") | ((with_reducible apply e_extend) <;> walk_at "fin"))
local macro_rules | `(tactic| walk_at "name") => `(tactic| first | (refine e_var (by with_reducible assumption) (by rfl) ?_) | ((with_reducible apply e_ty_int) <;> walk_at "fin") | ((with_reducible apply e_ty_str) <;> walk_at "fin") | ((with_reducible apply e_ty_bool) <;> walk_at "fin") | ((with_reducible apply e_ty_tuple) <;> walk_at "fin") | ((with_reducible apply e_ty_list) <;> walk_at "fin") | ((with_reducible apply e_LONGEST_NAME) <;> walk_at "fin") | ((with_reducible apply e_GREATEST_NUMBER) <;> walk_at "fin") | ((with_reducible apply e_LONGEST_TEXT) <;> walk_at "fin") | ((with_reducible apply e_LONGEST_TITLE) <;> walk_at "fin") | ((with_reducible apply e_MOST_MEMBERS) <;> walk_at "fin") | ((with_reducible apply e_WIDTH) <;> walk_at "fin") | ((with_reducible apply e_MOST_DIGITS) <;> walk_at "fin") | ((with_reducible apply e_LETTERS) <;> walk_at "fin") | ((with_reducible apply e_DIGITS_names) <;> walk_at "fin") | ((with_reducible apply e_DIGITS_headers) <;> walk_at "fin") | ((with_reducible apply e_MARK) <;> walk_at "fin") | ((with_reducible apply e_LAST) <;> walk_at "fin"))
local macro_rules | `(tactic| walk_at "E") => `(tactic| first
  | ((with_reducible show E1 _ (Expr.Name _ _) _ _ _); walk_at "name")
  | ((with_reducible show E1 _ (Expr.Constant _ _ _) _ _ _); first | ((with_reducible apply e_int) <;> walk_at "fin") | ((with_reducible apply e_strS) <;> walk_at "fin") | ((with_reducible apply e_bl) <;> walk_at "fin") | ((with_reducible apply e_non) <;> walk_at "fin"))
  | ((with_reducible show E1 _ (Expr.Call (Expr.Name _ _) _ _ _) _ _ _); walk_at "calln")
  | ((with_reducible show E1 _ (Expr.Call (Expr.Attribute _ _ _) _ _ _) _ _ _); walk_at "callm")
  | ((with_reducible show E1 _ (Expr.Compare _ _ _ _) _ _ _); walk_at "C")
  | ((with_reducible show E1 _ (Expr.BinOp _ _ _ _) _ _ _); first | ((with_reducible apply e_add) <;> walk_at "fin") | ((with_reducible apply e_sub) <;> walk_at "fin") | ((with_reducible apply e_mul) <;> walk_at "fin") | ((with_reducible apply e_mod) <;> walk_at "fin") | ((with_reducible apply e_fdiv) <;> walk_at "fin") | ((with_reducible apply e_pow) <;> walk_at "fin"))
  | ((with_reducible show E1 _ (Expr.Subscript _ _ _) _ _ _); first | ((with_reducible apply e_slice) <;> walk_at "fin") | ((with_reducible apply e_ix) <;> walk_at "fin"))
  | ((with_reducible show E1 _ (Expr.UnaryOp _ _ _) _ _ _); first | ((with_reducible apply e_not) <;> walk_at "fin") | ((with_reducible apply e_neg) <;> walk_at "fin"))
  | ((with_reducible show E1 _ (Expr.BoolOp _ _ _) _ _ _); first | ((with_reducible apply e_one) <;> walk_at "fin") | ((with_reducible apply e_and) <;> walk_at "fin") | ((with_reducible apply e_or) <;> walk_at "fin"))
  | ((with_reducible show E1 _ (Expr.Tuple _ _ _) _ _ _); (with_reducible apply e_tup) <;> walk_at "fin")
  | ((with_reducible show E1 _ (Expr.List _ _) _ _ _); (with_reducible apply e_lst) <;> walk_at "fin")
  | ((with_reducible show E1 _ (Expr.IfExp _ _ _ _) _ _ _); (with_reducible apply e_if) <;> walk_at "fin")
  | ((with_reducible show E1 _ (Expr.Dict _ _ _) _ _ _); (with_reducible apply e_dnew) <;> walk_at "fin"))
local macro_rules | `(tactic| walk_at "T") => `(tactic| first
  | (with_reducible apply t_cmp op_lt) <;> walk_at "fin"
  | (with_reducible apply t_cmp op_gt) <;> walk_at "fin"
  | (with_reducible apply t_cmp op_ge) <;> walk_at "fin"
  | (with_reducible apply t_cmp op_leV) <;> walk_at "fin"
  | (with_reducible apply t_cmp (op_eqV (Ctx.room ‹_›).units)) <;> walk_at "fin"
  | (with_reducible apply t_cmp (op_neV (Ctx.room ‹_›).units)) <;> walk_at "fin"
  | (with_reducible apply t_cmp op_inV) <;> walk_at "fin"
  | (with_reducible apply t_cmp op_notInV) <;> walk_at "fin"
  | (with_reducible apply t_cmp op_isN) <;> walk_at "fin"
  | (with_reducible apply t_cmp op_notN) <;> walk_at "fin"
  | (with_reducible apply t_chain_le) <;> walk_at "fin"
  | (with_reducible refine t_w (w_or ?_))
  | (with_reducible refine t_w (w_and ?_))
  | (with_reducible apply w_or)
  | (with_reducible apply w_and)
  | (with_reducible apply w_or1)
  | (with_reducible apply w_and1)
  | (with_reducible apply t_not)
  | (with_reducible apply t_call) <;> walk_at "fin")
local macro_rules | `(tactic| walk_at "V") => `(tactic| first
  | ((with_reducible show Bth _ _ _); first
    | ((with_reducible apply Bth.t) <;> walk_at "fin")
    | ((with_reducible apply Bth.f) <;> walk_at "fin")
    | ((with_reducible apply Bth.nt) <;> walk_at "fin")
    | ((with_reducible apply Bth.nf) <;> walk_at "fin")
    | (refine Bth.dT (by decide +kernel) ?_)
    | (refine Bth.dF (by decide +kernel) ?_)
    | (refine Bth.ndT (by decide +kernel) ?_)
    | (refine Bth.ndF (by decide +kernel) ?_)
    | (refine Bth.ndT (by rfl) ?_)
    | (refine Bth.dT (by rfl) ?_)
    | (refine Bth.cT (by decide +kernel) ?_)
    | (refine Bth.cF (by decide +kernel) ?_))
  | ((with_reducible show AddV _ _ _ _); (with_reducible apply AddV.i) <;> walk_at "fin")
  | ((with_reducible show EqV _ _ _ _ _); first | ((with_reducible apply EqV.I) <;> walk_at "fin") | ((with_reducible apply EqV.S) <;> walk_at "fin"))
  | ((with_reducible show NeV _ _ _ _ _); first | ((with_reducible apply NeV.I) <;> walk_at "fin") | ((with_reducible apply NeV.S) <;> walk_at "fin"))
  | ((with_reducible show InV _ _ _ _ _); first | ((with_reducible apply InV.c) <;> walk_at "fin") | (refine InV.t4 (by walk_at "at") ?_) | (refine InV.t3 (by walk_at "at") ?_) | (refine InV.t2 (by walk_at "at") ?_) | (refine InV.l4 (by walk_at "at") ?_) | (refine InV.l3 (by walk_at "at") ?_) | (refine InV.l2 (by walk_at "at") ?_))
  | ((with_reducible show NotInV _ _ _ _ _); (with_reducible apply NotInV.c) <;> walk_at "fin")
  | ((with_reducible show LeV _ _ _ _); first | ((with_reducible apply LeV.i) <;> walk_at "fin") | ((with_reducible apply LeV.s) <;> walk_at "fin"))
  | ((with_reducible show IsiV _ _ _ _); first | ((with_reducible apply IsiV.ii) <;> walk_at "fin") | ((with_reducible apply IsiV.ib) <;> walk_at "fin") | ((with_reducible apply IsiV.ss) <;> walk_at "fin") | ((with_reducible apply IsiV.ns) <;> walk_at "fin") | (refine IsiV.tt (by walk_at "at") ?_) | (refine IsiV.ll (by walk_at "at") ?_))
  | ((with_reducible show IntW _ _ _); (with_reducible apply IntW.i) <;> walk_at "fin")
  | ((with_reducible show IxV _ _ _ _ _); (refine IxV.t (SqT.of (by walk_at "at")) (by rfl) ?_))
  | ((with_reducible show LenW _ _ _ _); (refine LenW.t (SqT.of (by walk_at "at")) ?_))
  | ((with_reducible show List.length _ ≤ sizeLine ∧ _); refine ⟨line16 (by simp), fun _ _ _ => ?_⟩)
  | (refine ⟨by walk_at "same", fun _ _ => ?_⟩)
  | (refine ⟨_, rfl, ?_⟩) <;> walk_at "fin"
  | (refine And.intro rfl ?_)
  | (refine ⟨_, _, rfl, rfl, ?_⟩) <;> walk_at "fin")
local macro_rules | `(tactic| walk_at "S") => `(tactic| first
  | (with_reducible apply b_cons) <;> walk_at "fin"
  | (with_reducible apply b_nil) <;> walk_at "fin"
  | (with_reducible apply s_if) <;> walk_at "fin"
  | (with_reducible apply s_ret) <;> walk_at "fin"
  | (refine s_app _ (by with_reducible assumption) (by rfl) (by walk_at "n1") (by first | omega | (simp <;> omega)) ?_)
  | (with_reducible apply s_expr) <;> walk_at "fin"
  | (with_reducible apply s_break) <;> walk_at "fin"
  | (with_reducible apply s_pass) <;> walk_at "fin"
  | (refine s_set (by with_reducible assumption) ?_)
  | (refine g_name (by with_reducible assumption) ?_)
  | (with_reducible apply a_cons) <;> walk_at "fin"
  | (with_reducible apply a_nil) <;> walk_at "fin"
  | (with_reducible apply p_some) <;> walk_at "fin"
  | (with_reducible apply p_none) <;> walk_at "fin")
local macro_rules | `(tactic| walk_at "st") => `(tactic| first
  | ((with_reducible show E1 _ _ _ _ _); walk_at "E")
  | ((with_reducible show S1 _ _ _ _ _ _ _ _); walk_at "S")
  | ((with_reducible show B1 _ _ _ _ _ _ _ _); walk_at "S")
  | ((with_reducible show A1 _ _ _ _ _); walk_at "S")
  | ((with_reducible show P1 _ _ _ _ _); walk_at "S")
  | ((with_reducible show G1 _ _ _ _ _ _); walk_at "S")
  | ((with_reducible show T1 _ _ _ _ _); walk_at "T")
  | ((with_reducible show W1 _ _ _ _ _); walk_at "T")
  | walk_at "V")
local macro_rules | `(tactic| walk_at "go") => `(tactic| repeat walk_at "st")
theorem mem_letters (c : Nat) : decide (c ∈ tl "abcdefghijklmnopqrstuvwxyz") = isLet c := by
  have e : tl "abcdefghijklmnopqrstuvwxyz" = (List.range 26).map (· + 97) := by decide +kernel
  rw [e]
  unfold isLet
  by_cases h : 97 ≤ c ∧ c ≤ 122
  · rw [decide_eq_true h.1, decide_eq_true h.2, decide_eq_true]
    · rfl
    · exact List.mem_map.mpr ⟨c - 97, List.mem_range.mpr (by omega), by omega⟩
  · rw [decide_eq_false]
    · rcases Nat.lt_or_ge c 97 with h1 | h1
      · rw [decide_eq_false (by omega)]; rfl
      · rw [decide_eq_false (show ¬ c ≤ 122 by omega), Bool.and_false]
    · intro hm
      obtain ⟨a, h1, h2⟩ := List.mem_map.mp hm
      have := List.mem_range.mp h1
      omega
theorem mem_digits (c : Nat) : decide (c ∈ tl "0123456789") = isDig c := by
  have e : tl "0123456789" = (List.range 10).map (· + 48) := by decide +kernel
  rw [e]
  unfold isDig
  by_cases h : 48 ≤ c ∧ c ≤ 57
  · rw [decide_eq_true h.1, decide_eq_true h.2, decide_eq_true]
    · rfl
    · exact List.mem_map.mpr ⟨c - 48, List.mem_range.mpr (by omega), by omega⟩
  · rw [decide_eq_false]
    · rcases Nat.lt_or_ge c 48 with h1 | h1
      · rw [decide_eq_false (by omega)]; rfl
      · rw [decide_eq_false (show ¬ c ≤ 57 by omega), Bool.and_false]
    · intro hm
      obtain ⟨a, h1, h2⟩ := List.mem_map.mp hm
      have := List.mem_range.mp h1
      omega
theorem b_is_number {X : Cx} {k : Nat} (C : Ctx X N_is_number (defScope s_is_number) k) (n : Int) (H : Hp) (Q : VK) (hQ : ∀ b, b = isNum n → Q (.bl b) H) : B1 X (defBody s_is_number) (start N_is_number [.int n]) H (fun _ H' => Q .non H') Q nobk nobk := by
  obtain ⟨v0, w0, g1, g2, g3, g4⟩ := nm_is_number C
  conv => arg 2; whnf
  walk_at "go"
  refine Bth.d (fun h => ?_) (fun h => ?_)
  · walk_at "go"
    exact hQ _ (by simp [isNum, h])
  · exact hQ _ (by simp [isNum, h])
theorem take_all {p : Nat → Bool} {l : T} {i c : Nat} (h : (l.take i).all p = true) (e : l[i]? = some c) (hc : p c = true) : (l.take (i + 1)).all p = true := by
  rw [List.take_add_one, e, List.all_append, h]
  simp [hc]
theorem not_all {p : Nat → Bool} {l : T} {i c : Nat} (e : l[i]? = some c) (hc : p c = false) : l.all p = false := by
  rw [← Bool.not_eq_true]
  intro h
  have := List.all_eq_true.mp h c (List.mem_of_getElem? e)
  rw [hc] at this; cases this
theorem at0 {l : T} {c : Nat} (h : l.headD 0 = c) (hl : 1 ≤ l.length) : atI l 0 = some c := by
  cases l with
  | nil => simp at hl
  | cons a r => simp at h; subst h; exact atI_nat (j := 0) rfl
theorem b_is_name {X : Cx} {k : Nat} (C : Ctx X N_is_name (defScope s_is_name) k) (z : T) (hz : z.length ≤ sizeLine) (H : Hp) (Q : VK) (hQ : ∀ b, b = isName z → Q (.bl b) H) : B1 X (defBody s_is_name) (start N_is_name [S z]) H (fun _ H' => Q .non H') Q nobk nobk := by
  obtain ⟨v0, v1, w0, w1, g1, g2, g3, g4, g5, g6⟩ := nm_is_name C
  conv => arg 2; whnf
  walk_at "go"
  refine LenW.S hz ?_
  walk_at "go"
  refine Bth.d (fun h1 => ?_) (fun h1 => ?_)
  · walk_at "go"
    refine Bth.dn (fun h2 => ?_) (fun h2 => ?_)
    · walk_at "go"
      exact hQ _ (by simp [isName]; omega)
    walk_at "go"
    refine s_for_str C.toCok ?_
    walk_at "go"
    refine ⟨fun i σ H' => H' = H ∧ (∃ v, σ = [some (S z), v]) ∧ (z.take i).all (fun c => isLet c || isDig c) = true, ⟨rfl, ⟨_, rfl⟩, by simp⟩, ?_, ?_⟩
    · rintro i c σ H' e ⟨rfl, ⟨v, rfl⟩, ha⟩
      walk_at "go"
      rw [mem_letters]
      refine Bth.n (fun h3 => ?_) (fun h3 => ?_)
      · walk_at "go"
        rw [mem_digits]
        refine Bth.n (fun h4 => ?_) (fun h4 => ?_)
        · walk_at "go"
          exact hQ _ (by simp only [isName, not_all (p := fun c => isLet c || isDig c) e (by simp [h3, h4])]; simp)
        · walk_at "go"
          exact ⟨⟨_, rfl⟩, take_all ha e (by simp [h4])⟩
      · walk_at "go"
        exact ⟨⟨_, rfl⟩, take_all ha e (by simp [h3])⟩
    · rintro σ H' ⟨rfl, ⟨v, rfl⟩, ha⟩
      walk_at "go"
      have ha' : z.all (fun c => isLet c || isDig c) = true := by rw [List.take_of_length_le (Nat.le_refl _)] at ha; exact ha
      refine IxV.s (c := z.headD 0) (by rw [mkS_len]; exact hz) (at0 (l := z) rfl (by omega)) ?_
      walk_at "go"
      rw [mem_letters]
      exact hQ _ (by simp only [isName, ha', decide_eq_true (show 1 ≤ z.length by omega), decide_eq_true (show z.length ≤ 12 by omega), Bool.true_and])
  · walk_at "go"
    exact hQ _ (by simp only [isName, decide_eq_false (show ¬ 1 ≤ z.length by omega), Bool.false_and])
theorem b_is_plain {X : Cx} {k : Nat} (C : Ctx X N_is_plain (defScope s_is_plain) k) (z : T) (H : Hp) (Q : VK) (hQ : ∀ b, b = isPlain z → Q (.bl b) H) : B1 X (defBody s_is_plain) (start N_is_plain [S z]) H (fun _ H' => Q .non H') Q nobk nobk := by
  have hn := nm_is_plain C
  conv => arg 2; whnf
  obtain ⟨v0, v1, w0, w1, g1⟩ := hn
  walk_at "go"
  refine s_for_str C.toCok ?_
  walk_at "go"
  refine ⟨fun i σ H' => H' = H ∧ (∃ v, σ = [some (S z), v]) ∧ isPlain (z.take i) = true, ⟨rfl, ⟨_, rfl⟩, by simp [isPlain]⟩, ?_, ?_⟩
  · rintro i c σ H' e ⟨rfl, ⟨v, rfl⟩, ha⟩
    walk_at "go"
    refine Bth.d (fun h1 => ?_) (fun h1 => ?_)
    · walk_at "go"
      refine Bth.dn (fun h2 => ?_) (fun h2 => ?_)
      · walk_at "go"
        exact hQ _ (not_all (p := fun c => decide (32 ≤ c) && decide (c ≤ 126)) e (by simp; omega)).symm
      · walk_at "go"
        exact ⟨⟨_, rfl⟩, take_all (p := fun c => decide (32 ≤ c) && decide (c ≤ 126)) ha e (by simp; omega)⟩
    · walk_at "go"
      exact hQ _ (not_all (p := fun c => decide (32 ≤ c) && decide (c ≤ 126)) e (by simp; omega)).symm
  · rintro σ H' ⟨rfl, ⟨v, rfl⟩, ha⟩
    walk_at "go"
    exact hQ _ (by rw [List.take_of_length_le (Nat.le_refl _)] at ha; exact ha.symm)
end LoW
/-! ## LoNames2 -/
set_option Elab.async false
set_option linter.all false
set_option maxRecDepth 100000
set_option maxHeartbeats 4000000
namespace LoW
open PySem PySem.Spec PyProof.Rows L2 LoH LO
/-! one step of a body's walk, by the shape of what stands next -/
local macro_rules | `(tactic| walk_at "fin") => `(tactic| first | (with_reducible assumption) | (with_reducible rfl) | rfl | (intro _; rfl) | (intro _ _; rfl) | skip)
local macro_rules | `(tactic| walk_at "at") => `(tactic| first | (with_reducible assumption) | (refine New.at_ (by with_reducible assumption)) | (refine New1.at_ (by with_reducible assumption)) | (refine New.same (by with_reducible assumption) _ _ ?_; walk_at "at") | (refine New1.same (by with_reducible assumption) _ _ ?_; walk_at "at") | (refine Same.get (by with_reducible assumption) ?_; walk_at "at"))
local macro_rules | `(tactic| walk_at "same") => `(tactic| first | (with_reducible assumption) | exact Same.refl _ | (refine Same.trans ?_ (New.same (by with_reducible assumption)); walk_at "same") | (refine Same.trans ?_ (New1.same (by with_reducible assumption)); walk_at "same") | (refine Same.trans ?_ (by with_reducible assumption); walk_at "same"))
local macro_rules | `(tactic| walk_at "n1") => `(tactic| first | (with_reducible assumption) | (with_reducible apply New1.post2 (New.same (by with_reducible assumption)); walk_at "n1") | (with_reducible apply New1.post2 (by with_reducible assumption); walk_at "n1"))
local macro_rules | `(tactic| walk_at "C") => `(tactic| first
  | (with_reducible apply e_cmp op_lt) <;> walk_at "fin"
  | (with_reducible apply e_cmp op_gt) <;> walk_at "fin"
  | (with_reducible apply e_cmp op_ge) <;> walk_at "fin"
  | (with_reducible apply e_cmp op_leV) <;> walk_at "fin"
  | (with_reducible apply e_cmp (op_eqV (Ctx.room ‹_›).units)) <;> walk_at "fin"
  | (with_reducible apply e_cmp (op_neV (Ctx.room ‹_›).units)) <;> walk_at "fin"
  | (with_reducible apply e_cmp op_inV) <;> walk_at "fin"
  | (with_reducible apply e_cmp op_notInV) <;> walk_at "fin"
  | (with_reducible apply e_cmp op_isN) <;> walk_at "fin"
  | (with_reducible apply e_cmp op_notN) <;> walk_at "fin"
  | (with_reducible apply e_chain_le) <;> walk_at "fin")
local macro_rules | `(tactic| walk_at "calln") => `(tactic| first | (refine e_call (CX := CX0) (E := E0) (by with_reducible assumption) ((Ctx.room ‹_›).mono (by decide)) (by with_reducible assumption) pass0 ?_) | ((with_reducible apply e_isi) <;> walk_at "fin") | ((with_reducible apply e_len) <;> walk_at "fin") | ((with_reducible apply e_ord) <;> walk_at "fin") | ((with_reducible apply e_str1) <;> walk_at "fin") | ((with_reducible apply e_int1) <;> walk_at "fin") | ((with_reducible apply e_max2) <;> walk_at "fin") | ((with_reducible apply e_min2) <;> walk_at "fin") | ((with_reducible apply e_sum1) <;> walk_at "fin") | ((with_reducible apply e_tupleL) <;> walk_at "fin"))
local macro_rules | `(tactic| walk_at "callm") => `(tactic| first | ((with_reducible apply e_parts) <;> walk_at "fin") | ((with_reducible apply e_dget2) <;> walk_at "fin") | ((with_reducible apply e_split) <;> walk_at "fin") | ((with_reducible apply e_partition) <;> walk_at "fin") | ((with_reducible apply e_join) <;> walk_at "fin") | ((with_reducible apply e_count) <;> walk_at "fin") | ((with_reducible apply e_rfind4) <;> walk_at "fin") | ((with_reducible apply e_find3) <;> walk_at "fin") | ((with_reducible apply e_append) <;> walk_at "fin") | ((with_reducible apply e_extend) <;> walk_at "fin"))
local macro_rules | `(tactic| walk_at "name") => `(tactic| first | (refine e_var (by with_reducible assumption) (by rfl) ?_) | ((with_reducible apply e_ty_int) <;> walk_at "fin") | ((with_reducible apply e_ty_str) <;> walk_at "fin") | ((with_reducible apply e_ty_bool) <;> walk_at "fin") | ((with_reducible apply e_ty_tuple) <;> walk_at "fin") | ((with_reducible apply e_ty_list) <;> walk_at "fin") | ((with_reducible apply e_LONGEST_NAME) <;> walk_at "fin") | ((with_reducible apply e_GREATEST_NUMBER) <;> walk_at "fin") | ((with_reducible apply e_LONGEST_TEXT) <;> walk_at "fin") | ((with_reducible apply e_LONGEST_TITLE) <;> walk_at "fin") | ((with_reducible apply e_MOST_MEMBERS) <;> walk_at "fin") | ((with_reducible apply e_WIDTH) <;> walk_at "fin") | ((with_reducible apply e_MOST_DIGITS) <;> walk_at "fin") | ((with_reducible apply e_LETTERS) <;> walk_at "fin") | ((with_reducible apply e_DIGITS_names) <;> walk_at "fin") | ((with_reducible apply e_DIGITS_headers) <;> walk_at "fin") | ((with_reducible apply e_MARK) <;> walk_at "fin") | ((with_reducible apply e_LAST) <;> walk_at "fin"))
local macro_rules | `(tactic| walk_at "E") => `(tactic| first
  | ((with_reducible show E1 _ (Expr.Name _ _) _ _ _); walk_at "name")
  | ((with_reducible show E1 _ (Expr.Constant _ _ _) _ _ _); first | ((with_reducible apply e_int) <;> walk_at "fin") | ((with_reducible apply e_strS) <;> walk_at "fin") | ((with_reducible apply e_bl) <;> walk_at "fin") | ((with_reducible apply e_non) <;> walk_at "fin"))
  | ((with_reducible show E1 _ (Expr.Call (Expr.Name _ _) _ _ _) _ _ _); walk_at "calln")
  | ((with_reducible show E1 _ (Expr.Call (Expr.Attribute _ _ _) _ _ _) _ _ _); walk_at "callm")
  | ((with_reducible show E1 _ (Expr.Compare _ _ _ _) _ _ _); walk_at "C")
  | ((with_reducible show E1 _ (Expr.BinOp _ _ _ _) _ _ _); first | ((with_reducible apply e_add) <;> walk_at "fin") | ((with_reducible apply e_sub) <;> walk_at "fin") | ((with_reducible apply e_mul) <;> walk_at "fin") | ((with_reducible apply e_mod) <;> walk_at "fin") | ((with_reducible apply e_fdiv) <;> walk_at "fin") | ((with_reducible apply e_pow) <;> walk_at "fin"))
  | ((with_reducible show E1 _ (Expr.Subscript _ _ _) _ _ _); first | ((with_reducible apply e_slice) <;> walk_at "fin") | ((with_reducible apply e_ix) <;> walk_at "fin"))
  | ((with_reducible show E1 _ (Expr.UnaryOp _ _ _) _ _ _); first | ((with_reducible apply e_not) <;> walk_at "fin") | ((with_reducible apply e_neg) <;> walk_at "fin"))
  | ((with_reducible show E1 _ (Expr.BoolOp _ _ _) _ _ _); first | ((with_reducible apply e_one) <;> walk_at "fin") | ((with_reducible apply e_and) <;> walk_at "fin") | ((with_reducible apply e_or) <;> walk_at "fin"))
  | ((with_reducible show E1 _ (Expr.Tuple _ _ _) _ _ _); (with_reducible apply e_tup) <;> walk_at "fin")
  | ((with_reducible show E1 _ (Expr.List _ _) _ _ _); (with_reducible apply e_lst) <;> walk_at "fin")
  | ((with_reducible show E1 _ (Expr.IfExp _ _ _ _) _ _ _); (with_reducible apply e_if) <;> walk_at "fin")
  | ((with_reducible show E1 _ (Expr.Dict _ _ _) _ _ _); (with_reducible apply e_dnew) <;> walk_at "fin"))
local macro_rules | `(tactic| walk_at "T") => `(tactic| first
  | (with_reducible apply t_cmp op_lt) <;> walk_at "fin"
  | (with_reducible apply t_cmp op_gt) <;> walk_at "fin"
  | (with_reducible apply t_cmp op_ge) <;> walk_at "fin"
  | (with_reducible apply t_cmp op_leV) <;> walk_at "fin"
  | (with_reducible apply t_cmp (op_eqV (Ctx.room ‹_›).units)) <;> walk_at "fin"
  | (with_reducible apply t_cmp (op_neV (Ctx.room ‹_›).units)) <;> walk_at "fin"
  | (with_reducible apply t_cmp op_inV) <;> walk_at "fin"
  | (with_reducible apply t_cmp op_notInV) <;> walk_at "fin"
  | (with_reducible apply t_cmp op_isN) <;> walk_at "fin"
  | (with_reducible apply t_cmp op_notN) <;> walk_at "fin"
  | (with_reducible apply t_chain_le) <;> walk_at "fin"
  | (with_reducible refine t_w (w_or ?_))
  | (with_reducible refine t_w (w_and ?_))
  | (with_reducible apply w_or)
  | (with_reducible apply w_and)
  | (with_reducible apply w_or1)
  | (with_reducible apply w_and1)
  | (with_reducible apply t_not)
  | (with_reducible apply t_call) <;> walk_at "fin")
local macro_rules | `(tactic| walk_at "V") => `(tactic| first
  | ((with_reducible show Bth _ _ _); first
    | ((with_reducible apply Bth.t) <;> walk_at "fin")
    | ((with_reducible apply Bth.f) <;> walk_at "fin")
    | ((with_reducible apply Bth.nt) <;> walk_at "fin")
    | ((with_reducible apply Bth.nf) <;> walk_at "fin")
    | (refine Bth.dT (by decide +kernel) ?_)
    | (refine Bth.dF (by decide +kernel) ?_)
    | (refine Bth.ndT (by decide +kernel) ?_)
    | (refine Bth.ndF (by decide +kernel) ?_)
    | (refine Bth.ndT (by rfl) ?_)
    | (refine Bth.dT (by rfl) ?_)
    | (refine Bth.cT (by decide +kernel) ?_)
    | (refine Bth.cF (by decide +kernel) ?_))
  | ((with_reducible show AddV _ _ _ _); (with_reducible apply AddV.i) <;> walk_at "fin")
  | ((with_reducible show EqV _ _ _ _ _); first | ((with_reducible apply EqV.I) <;> walk_at "fin") | ((with_reducible apply EqV.S) <;> walk_at "fin"))
  | ((with_reducible show NeV _ _ _ _ _); first | ((with_reducible apply NeV.I) <;> walk_at "fin") | ((with_reducible apply NeV.S) <;> walk_at "fin"))
  | ((with_reducible show InV _ _ _ _ _); first | ((with_reducible apply InV.c) <;> walk_at "fin") | (refine InV.t4 (by walk_at "at") ?_) | (refine InV.t3 (by walk_at "at") ?_) | (refine InV.t2 (by walk_at "at") ?_) | (refine InV.l4 (by walk_at "at") ?_) | (refine InV.l3 (by walk_at "at") ?_) | (refine InV.l2 (by walk_at "at") ?_))
  | ((with_reducible show NotInV _ _ _ _ _); (with_reducible apply NotInV.c) <;> walk_at "fin")
  | ((with_reducible show LeV _ _ _ _); first | ((with_reducible apply LeV.i) <;> walk_at "fin") | ((with_reducible apply LeV.s) <;> walk_at "fin"))
  | ((with_reducible show IsiV _ _ _ _); first | ((with_reducible apply IsiV.ii) <;> walk_at "fin") | ((with_reducible apply IsiV.ib) <;> walk_at "fin") | ((with_reducible apply IsiV.ss) <;> walk_at "fin") | ((with_reducible apply IsiV.ns) <;> walk_at "fin") | (refine IsiV.tt (by walk_at "at") ?_) | (refine IsiV.ll (by walk_at "at") ?_))
  | ((with_reducible show IntW _ _ _); (with_reducible apply IntW.i) <;> walk_at "fin")
  | ((with_reducible show IxV _ _ _ _ _); (refine IxV.t (SqT.of (by walk_at "at")) (by rfl) ?_))
  | ((with_reducible show LenW _ _ _ _); (refine LenW.t (SqT.of (by walk_at "at")) ?_))
  | ((with_reducible show List.length _ ≤ sizeLine ∧ _); refine ⟨line16 (by simp), fun _ _ _ => ?_⟩)
  | (refine ⟨by walk_at "same", fun _ _ => ?_⟩)
  | (refine ⟨_, rfl, ?_⟩) <;> walk_at "fin"
  | (refine And.intro rfl ?_)
  | (refine ⟨_, _, rfl, rfl, ?_⟩) <;> walk_at "fin")
local macro_rules | `(tactic| walk_at "S") => `(tactic| first
  | (with_reducible apply b_cons) <;> walk_at "fin"
  | (with_reducible apply b_nil) <;> walk_at "fin"
  | (with_reducible apply s_if) <;> walk_at "fin"
  | (with_reducible apply s_ret) <;> walk_at "fin"
  | (refine s_app _ (by with_reducible assumption) (by rfl) (by walk_at "n1") (by first | omega | (simp <;> omega)) ?_)
  | (with_reducible apply s_expr) <;> walk_at "fin"
  | (with_reducible apply s_break) <;> walk_at "fin"
  | (with_reducible apply s_pass) <;> walk_at "fin"
  | (refine s_set (by with_reducible assumption) ?_)
  | (refine g_name (by with_reducible assumption) ?_)
  | (with_reducible apply a_cons) <;> walk_at "fin"
  | (with_reducible apply a_nil) <;> walk_at "fin"
  | (with_reducible apply p_some) <;> walk_at "fin"
  | (with_reducible apply p_none) <;> walk_at "fin")
local macro_rules | `(tactic| walk_at "st") => `(tactic| first
  | ((with_reducible show E1 _ _ _ _ _); walk_at "E")
  | ((with_reducible show S1 _ _ _ _ _ _ _ _); walk_at "S")
  | ((with_reducible show B1 _ _ _ _ _ _ _ _); walk_at "S")
  | ((with_reducible show A1 _ _ _ _ _); walk_at "S")
  | ((with_reducible show P1 _ _ _ _ _); walk_at "S")
  | ((with_reducible show G1 _ _ _ _ _ _); walk_at "S")
  | ((with_reducible show T1 _ _ _ _ _); walk_at "T")
  | ((with_reducible show W1 _ _ _ _ _); walk_at "T")
  | walk_at "V")
local macro_rules | `(tactic| walk_at "go") => `(tactic| repeat walk_at "st")
/-! ### a block behind a token -/
structure B1T (X : Cx) (st : List Stmt) (σ : L2.St) (H : Hp) (nx : L2.St → Hp → Prop) (rt : VK) (bk ct : L2.St → Hp → Prop) : Prop where
  run : ∀ (pins : List (Addr × Obj)) (s : Shared), 1 ≤ s.toks → Inv X pins σ H s → wpAny (model X.prog X.w) X.A (execs st X.env) (SP X pins ⟨nx, rt, bk, ct⟩) X.xe s
section
variable {X : Cx} {N : List Str} {sc : Scope} {k : Nat} {st : Stmt} {sts : List Stmt} {σ : L2.St} {H : Hp} {nx bk ct : L2.St → Hp → Prop} {rt : VK} {e o : Expr} {pos p p2 apos rpos : Pos} {x : Str}
theorem pBT : PSsT X sts (fun D σ H => B1T X sts σ H D.nx D.rt D.bk D.ct) := fun pins s _ _ _ h0 I h => h.run pins s h0 I
theorem b_consT (h : S1 X st σ H (fun σ' H' => B1T X sts σ' H' nx rt bk ct) rt bk ct) : B1T X (st :: sts) σ H nx rt bk ct :=
  ⟨fun pins s h0 I => psst_cons (PST.of pS) pBT pins s σ H ⟨nx, rt, bk, ct⟩ h0 I h⟩
/-- return f(o.replace(y, z)) -/
theorem b_ret_replace {y z : Str} {j i : Nat} {c0 c1 : Pos} {sp : Sp} {kk : Nat} (C : CalleeX X CX0 kk x sp) (hr : Room kk X.A) (g : GlN X x) (hyz : (y == z) = false)
    (h : E1 X o σ H fun v H1 => ∃ t : Str, v = .str t ∧ t.length + (t.length + 1) * z.length ≤ 16777216 ∧ sp [.str (Txt.replace t y z)] H1 rt E0)
    (hst : starEach [.Constant (.str y) j c0, .Constant (.str z) i c1] X.env = [(false, eval (.Constant (.str y) j c0) X.env), (false, eval (.Constant (.str z) i c1) X.env)] := by rfl)
    (hbase : attributeBase o "replace" X.env (eval o X.env) = eval o X.env := by rfl) (hline : (apos.endLine == p2.line) = true := by rfl)
    (he : starEach [.Call (.Attribute o "replace" apos) [.Constant (.str y) j c0, .Constant (.str z) i c1] [] p2] X.env = (false, eval (.Call (.Attribute o "replace" apos) [.Constant (.str y) j c0, .Constant (.str z) i c1] [] p2) X.env) :: starEach [] X.env := by rfl) :
    B1T X [.Return (some (.Call (.Name x p) [.Call (.Attribute o "replace" apos) [.Constant (.str y) j c0, .Constant (.str z) i c1] [] p2] [] pos)) rpos] σ H nx rt bk ct := by
  obtain ⟨f, fd, ps, F, hm, hk, hb⟩ := C
  refine ⟨fun pins s h0 I => ?_⟩
  have hpe : PET X (.Call (.Name x p) [.Call (.Attribute o "replace" apos) [.Constant (.str y) j c0, .Constant (.str z) i c1] [] p2] [] pos) (tCall sp [] E0 (tCons (CwR.tReplC (fun σ H Q => E1 X o σ H Q) y z) tNil)) := by
    intro pins s σ H Q h0 I h
    refine wpAny_Call_Name_kw (ld_glob I g.g hm ?_ g.d)
    refine PySem.W.callWith_K (h₀ := X.base) I.ok.mod.kin hk (thn (pat_cons (CwR.pet_replC pE hyz hst hbase hline) pat_nil he pos pins s σ H _ h0 I h) fun us s1 ⟨vs, H1, I1, r, q⟩ => ⟨I1.kIn, ?_⟩) he rfl
    exact run_fn F hr hb .nil pass0 I1 r q
  exact CwR.psst_one (CwR.pst_ret hpe) pins s σ H ⟨nx, rt, bk, ct⟩ h0 I (E1.imp h fun v H1 ⟨t, e1, e2, q⟩ => ⟨t, e1, e2, q⟩)
end
/-- a def of one parameter and more, no cells: a token is out when its body begins -/
theorem callee_ofT {P : Program} {w : World} {K : PySem.W.Frag} {mg : Str → Option Value} {base : Heap} {x : Str} {sp : Sp} {d : He.DefD} {N ps : List Str} {k : Nat} (T : Tx w K mg base) (j i : Nat) (hd : LoH.fn[j]? = some d) (hg : LoH.fa[i]? = some (.glo x)) (hat : d.at_ = (x, none)) (hdf : d.dfl = []) (hkw : d.kwd = []) (S : FnScope N ps d.scope)
    (hnc : ∀ y ∈ d.scope.names, y.2 ≠ .cell) (hps : 1 ≤ ps.length) (hb : BindsAll ps d.name d.qual d.params d.body d.scope)
    (len : ∀ vs H Q E, sp vs H Q E → vs.length = ps.length)
    (body : ∀ (X : Cx), X.prog = P → X.w = w → X.K = K → X.mg = mg → X.base = base → Ctx X N d.scope k → ∀ (vs : List V) (H : Hp) (Q : VK) (E : XK), sp vs H Q E → B1T X d.body (start N vs) H (fun _ H' => Q .non H') Q nobk nobk) :
    Callee P w K mg base CX0 (k + 1) x sp := by
  obtain ⟨fd, F⟩ := T.t.d.def_ j hd
  have e1 : d.dvs K = [] := by unfold He.DefD.dvs; rw [hdf]; rfl
  have e2 : d.kws K = [] := by unfold He.DefD.kws; rw [hkw]; rfl
  rw [e1, e2] at F
  have ea : He.fAd K d.at_ = He.ga K x := by rw [hat]; rfl
  rw [ea] at F
  refine ⟨_, fd, ps, ?_, T.glo i hg, F.kp, F.bindsN hb⟩
  obtain ⟨⟨oc, od, dV, kV, doc, pm, an, cdv, ct, osl, rfl, lk, hcd, hD, hKw⟩, hkp⟩ := F
  refine fn_ofT lk hcd S hnc hps len fun A outer s H vs Q E hr h => ⟨_, pBT, ?_⟩
  exact body _ rfl rfl rfl rfl rfl ⟨rfl, T, hr, fun _ => passes_of rfl, fun _ => S.nd, fun _ => rfl, fun _ => rfl, fun _ => rfl⟩ vs H Q E h
theorem replL_nl (l : T) : StrLaws.replL [10] [] l = l.filter (· ≠ 10) := by
  induction l with
  | nil => rfl
  | cons c r ih =>
    by_cases h : c = 10
    · subst h
      rw [StrLaws.replL_hit (by simp) (by simp)]
      simpa using ih
    · rw [StrLaws.replL_miss (by simp; exact h), ih]
      simp [h]
theorem nl_out (z : T) : Txt.replace (mkS z) "\n" "" = mkS (z.filter (· ≠ 10)) := by
  refine TL.ext_tl ?_
  rw [TL.tl, StrLaws.replace_list (by decide +kernel)]
  have e1 : (Str.cps "\n").toList = [10] := by decide +kernel
  have e2 : (Str.cps "").toList = [] := by decide +kernel
  rw [e1, e2]
  exact replL_nl z
/-! ### promises -/
def spIsName : Sp := fun vs H Q _ => ∃ z : T, vs = [S z] ∧ z.length ≤ 16000000 ∧ Q (.bl (isName z)) H
def spIsNumber : Sp := fun vs H Q _ => ∃ n : Int, vs = [.int n] ∧ Q (.bl (isNum n)) H
def spIsPlain : Sp := fun vs H Q _ => ∃ z : T, vs = [S z] ∧ Q (.bl (isPlain z)) H
def spIsText : Sp := fun vs H Q _ => ∃ o : Option T, vs = [optV o] ∧ (∀ z, o = some z → z.length ≤ 16000000) ∧ Q (.bl (isText o)) H
def spIsTitle : Sp := fun vs H Q _ => ∃ z : T, vs = [S z] ∧ z.length ≤ 16000000 ∧ Q (.bl (isTitle z)) H
def spIsRef : Sp := fun vs H Q _ => ∃ (v : V) (r : Rf), vs = [v] ∧ Tp H v (refD r) ∧ r.1.length ≤ 16000000 ∧ Q (.bl (isRef r)) H
section
variable {P : Program} {w : World} {K : PySem.W.Frag} {mg : Str → Option Value} {base : Heap}
theorem line16 {n : Nat} (h : n ≤ 16000000) : n ≤ sizeLine := Nat.le_trans h (by decide)
theorem c_is_number (T : Tx w K mg base) : Callee P w K mg base CX0 1 "is_number" spIsNumber := by
  refine callee_of T 1 1 rfl rfl rfl rfl rfl fs_is_number bd_is_number (fun vs H Q E h => ?_) (fun X h1 h2 h3 h4 h5 C vs H Q E h => ?_)
  · obtain ⟨n, rfl, _⟩ := h; rfl
  · obtain ⟨n, rfl, q⟩ := h
    exact b_is_number C n H Q fun b e => e ▸ q
theorem c_is_name (T : Tx w K mg base) : Callee P w K mg base CX0 1 "is_name" spIsName := by
  refine callee_of T 0 0 rfl rfl rfl rfl rfl fs_is_name bd_is_name (fun vs H Q E h => ?_) (fun X h1 h2 h3 h4 h5 C vs H Q E h => ?_)
  · obtain ⟨n, rfl, _⟩ := h; rfl
  · obtain ⟨n, rfl, hl, q⟩ := h
    exact b_is_name C n (line16 hl) H Q fun b e => e ▸ q
theorem c_is_plain (T : Tx w K mg base) : Callee P w K mg base CX0 1 "is_plain" spIsPlain := by
  refine callee_of T 2 2 rfl rfl rfl rfl rfl fs_is_plain bd_is_plain (fun vs H Q E h => ?_) (fun X h1 h2 h3 h4 h5 C vs H Q E h => ?_)
  · obtain ⟨n, rfl, _⟩ := h; rfl
  · obtain ⟨n, rfl, q⟩ := h
    exact b_is_plain C n H Q fun b e => e ▸ q
end
theorem spIsName.mk {z : T} {H : Hp} {Q : VK} {E : XK} (hz : z.length ≤ 16000000) (q : Q (.bl (isName z)) H) : spIsName [S z] H Q E := ⟨z, rfl, hz, q⟩
theorem spIsNumber.mk {n : Int} {H : Hp} {Q : VK} {E : XK} (q : Q (.bl (isNum n)) H) : spIsNumber [.int n] H Q E := ⟨n, rfl, q⟩
theorem spIsPlain.mk {z : T} {H : Hp} {Q : VK} {E : XK} (q : Q (.bl (isPlain z)) H) : spIsPlain [S z] H Q E := ⟨z, rfl, q⟩
theorem b_is_text {X : Cx} (C : Ctx X N_is_text (defScope s_is_text) 1) (c1 : CalleeX X CX0 1 "is_plain" spIsPlain) (o : Option T) (hz : ∀ z, o = some z → z.length ≤ 16000000) (H : Hp) (Q : VK) (hQ : ∀ b, b = isText o → Q (.bl b) H) :
    B1T X (defBody s_is_text) (start N_is_text [optV o]) H (fun _ H' => Q .non H') Q nobk nobk := by
  obtain ⟨v0, w0, g1, g2, g3, g4, g5⟩ := nm_is_text C
  conv => arg 2; whnf
  refine b_consT ?_
  cases o with
  | none =>
    show S1 X _ (start N_is_text [V.non]) H _ _ _ _
    walk_at "go"
    exact hQ _ rfl
  | some z =>
    have hz' := hz z rfl
    show S1 X _ (start N_is_text [S z]) H _ _ _ _
    walk_at "go"
    refine LenW.S (line16 hz') ?_
    walk_at "go"
    refine Bth.d (fun h1 => ?_) (fun h1 => ?_)
    · walk_at "go"
      refine Bth.dn (fun h2 => ?_) (fun h2 => ?_)
      · walk_at "go"
        exact hQ _ (by simp only [isText, decide_eq_false (show ¬ z.length ≤ 400 by omega), Bool.false_and, Bool.and_false])
      · walk_at "go"
        refine b_ret_replace c1 C.room (by with_reducible assumption) (by decide +kernel) ?_
        walk_at "go"
        have h0 : (Str.length "") = 0 := by decide +kernel
        refine ⟨by rw [mkS_len, h0]; omega, ?_⟩
        rw [nl_out]
        exact spIsPlain.mk (hQ _ <| by simp only [isText, decide_eq_true (show z.length ≤ 400 by omega), decide_eq_true (show 1 ≤ z.length by omega), Bool.true_and])
    · walk_at "go"
      exact hQ _ (by simp only [isText, decide_eq_false (show ¬ 1 ≤ z.length by omega), Bool.false_and])
theorem b_is_title {X : Cx} (C : Ctx X N_is_title (defScope s_is_title) 1) (c1 : CalleeX X CX0 1 "is_plain" spIsPlain) (z : T) (hz : z.length ≤ 16000000) (H : Hp) (Q : VK) (hQ : ∀ b, b = isTitle z → Q (.bl b) H) :
    B1 X (defBody s_is_title) (start N_is_title [S z]) H (fun _ H' => Q .non H') Q nobk nobk := by
  obtain ⟨v0, w0, g1, g2, g3, g4, g5⟩ := nm_is_title C
  conv => arg 2; whnf
  walk_at "go"
  refine LenW.S (line16 hz) ?_
  walk_at "go"
  refine Bth.d (fun h1 => ?_) (fun h1 => ?_)
  · walk_at "go"
    exact hQ _ (by simp only [isTitle, decide_eq_true (show z.length ≤ 60 by omega), Bool.true_and])
  · exact hQ _ (by simp only [isTitle, decide_eq_false (show ¬ z.length ≤ 60 by omega), Bool.false_and])
theorem b_is_ref {X : Cx} (C : Ctx X N_is_ref (defScope s_is_ref) 1) (c1 : CalleeX X CX0 1 "is_name" spIsName) (c2 : CalleeX X CX0 1 "is_number" spIsNumber) (v : V) (r : Rf) (H : Hp) (ht : Tp H v (refD r)) (hz : r.1.length ≤ 16000000) (Q : VK) (hQ : ∀ b, b = isRef r → Q (.bl b) H) :
    B1 X (defBody s_is_ref) (start N_is_ref [v]) H (fun _ H' => Q .non H') Q nobk nobk := by
  obtain ⟨v0, w0, g1, g2, g3, g4, g5⟩ := nm_is_ref C
  obtain ⟨a, xs, rfl, ha, hx⟩ := ht.tup_inv
  obtain ⟨x1, _, rfl, t1, hx⟩ := hx.cons_inv
  obtain ⟨x2, _, rfl, t2, hx⟩ := hx.cons_inv
  obtain rfl := hx.nil_inv
  obtain rfl := t1.str_inv
  obtain rfl := t2.int_inv
  conv => arg 2; whnf
  walk_at "go"
  refine ⟨hz, ?_⟩
  walk_at "go"
  refine Bth.kk (fun h1 => ?_) (fun h1 => ?_)
  · walk_at "go"
    exact hQ _ (by simp only [isRef, h1, Bool.true_and])
  · exact hQ _ (by simp only [isRef, h1, Bool.false_and])
section
variable {P : Program} {w : World} {K : PySem.W.Frag} {mg : Str → Option Value} {base : Heap}
theorem c_is_text (T : Tx w K mg base) : Callee P w K mg base CX0 2 "is_text" spIsText := by
  have c1 := c_is_plain (P := P) T
  refine callee_ofT T 3 3 rfl rfl rfl rfl rfl fs_is_text (by decide +kernel) (by decide) bd_is_text (fun vs H Q E h => ?_) (fun X h1 h2 h3 h4 h5 C vs H Q E h => ?_)
  · obtain ⟨n, rfl, _⟩ := h; rfl
  · subst h1 h2 h3 h4 h5
    obtain ⟨n, rfl, hl, q⟩ := h
    exact b_is_text C c1 n hl H Q fun b e => e ▸ q
theorem c_is_title (T : Tx w K mg base) : Callee P w K mg base CX0 2 "is_title" spIsTitle := by
  have c1 := c_is_plain (P := P) T
  refine callee_of T 4 4 rfl rfl rfl rfl rfl fs_is_title bd_is_title (fun vs H Q E h => ?_) (fun X h1 h2 h3 h4 h5 C vs H Q E h => ?_)
  · obtain ⟨n, rfl, _⟩ := h; rfl
  · subst h1 h2 h3 h4 h5
    obtain ⟨n, rfl, hl, q⟩ := h
    exact b_is_title C c1 n hl H Q fun b e => e ▸ q
theorem c_is_ref (T : Tx w K mg base) : Callee P w K mg base CX0 2 "is_ref" spIsRef := by
  have c1 := c_is_name (P := P) T
  have c2 := c_is_number (P := P) T
  refine callee_of T 5 5 rfl rfl rfl rfl rfl fs_is_ref bd_is_ref (fun vs H Q E h => ?_) (fun X h1 h2 h3 h4 h5 C vs H Q E h => ?_)
  · obtain ⟨v, r, rfl, _⟩ := h; rfl
  · subst h1 h2 h3 h4 h5
    obtain ⟨v, r, rfl, ht, hl, q⟩ := h
    exact b_is_ref C c1 c2 v r H ht hl Q fun b e => e ▸ q
end
theorem spIsText.mk {o : Option T} {H : Hp} {Q : VK} {E : XK} (hz : ∀ z, o = some z → z.length ≤ 16000000) (q : Q (.bl (isText o)) H) : spIsText [optV o] H Q E := ⟨o, rfl, hz, q⟩
theorem spIsTitle.mk {z : T} {H : Hp} {Q : VK} {E : XK} (hz : z.length ≤ 16000000) (q : Q (.bl (isTitle z)) H) : spIsTitle [S z] H Q E := ⟨z, rfl, hz, q⟩
theorem spIsRef.mk {v : V} {r : Rf} {H : Hp} {Q : VK} {E : XK} (ht : Tp H v (refD r)) (hz : r.1.length ≤ 16000000) (q : Q (.bl (isRef r)) H) : spIsRef [v] H Q E := ⟨v, r, rfl, ht, hz, q⟩
end LoW
/-! ## LoEnum -/
set_option Elab.async false
set_option linter.all false
set_option maxRecDepth 100000
set_option maxHeartbeats 4000000
/-! for i, x in enumerate(t), t a tuple: the walk of it (the layer has it of lists). -/
namespace LoW
open PySem PySem.Spec PyProof.Rows L2 LoH LO
abbrev enO (it : Addr) : Obj := { cls := .type "enumerate", data := .fields #[.none, .bool false, .ref it, rawInt 0, .none, .none] }
theorem enum_new1 {v : Value} {o : Obj} {H : Heap → Prop} (B : Begins v o H) :
    Meets (Builtin.«enumerate.__new__» ⟨[.type "enumerate", v], []⟩) (fun _ R s => H s.heap ∧ R (.ok (.ret (.ref (s.heap.push o).objs.size))) { s with heap := (s.heap.push o).push (enO s.heap.objs.size) }) := by
  refine .of_wp fun prog w A R s hh => ?_
  obtain ⟨hp, ge, dr, tok, osx⟩ := s
  obtain ⟨hb, hR⟩ := hh
  have hs1 := sub_enumerate
  have it1 : ∀ {A' : Around} {E' : Value → Shared → Prop} {Q' : Value → Shared → Prop}, Q' (.ref hp.objs.size) ⟨hp.push o, ge, dr, tok, osx⟩ → wpAny (model prog w) A' (pyIter v) Q' E' ⟨hp, ge, dr, tok, osx⟩ := fun q => B.iter prog w _ _ ⟨hp, ge, dr, tok, osx⟩ _ hb q
  wp_walk using it1
  refine wpAny_stack_any (fun _ => wpAny_pure ?_)
  split
  · rename_i cc _ _ _ _ _
    cases (cc == Value.type "enumerate") <;> (wp_walk using it1; exact ⟨_, rfl, hR⟩)
  · wp_walk using it1; exact ⟨_, rfl, hR⟩
theorem enum_call1 {prog : Program} {w : World} {A : Around} {E : Value → Shared → Prop} {s : Shared} {v : Value} {o : Obj} {H : Heap → Prop} {Q : Value → Shared → Prop} (B : Begins v o H) (hb : H s.heap)
    (h : ∀ h', IsEnum h' (s.heap.objs.size + 1) s.heap.objs.size 0 .none → h'.get? s.heap.objs.size = some o → (∀ b o, s.heap.get? b = some o → h'.get? b = some o) → Q (.ref (s.heap.objs.size + 1)) { s with heap := h' }) :
    wpAny (model prog w) A (call (.type "enumerate") [v]) Q E s := by
  refine callType_new F.called_enumerate (by decide) (F.typeCall_enumerate_1 _) (F.newCall_enumerate_1 _) (fun ob => F.args_object_init_2 ob _) F.entry_enumerate_new (enum_new1 B) ⟨hb, ?_⟩
  have sz : (s.heap.push o).objs.size = s.heap.objs.size + 1 := Heap.size_push ..
  show _ ∧ _
  rw [sz]
  have en : IsEnum ((s.heap.push o).push (enO s.heap.objs.size)) (s.heap.objs.size + 1) s.heap.objs.size 0 .none := by
    have q := Heap.get?_push_size (s.heap.push o) (o := enO s.heap.objs.size) rfl
    rw [sz] at q
    exact q
  exact ⟨⟨_, en, rfl⟩, h _ en (Heap.get?_push_of_some _ (Heap.get?_push_size _ B.free)) fun b ob x => Heap.get?_push_of_some _ (Heap.get?_push_of_some _ x)⟩
/-- the tuple at a, each item in a new pair -/
def Itet (a : Addr) : It :=
  ⟨fun i H => ∃ (xs : List V) (x : V), H a = some (.tup xs) ∧ xs[i]? = some x, fun i H v H' => ∃ p x, v = .ref p ∧ H p = none ∧ H' = upd H p (.tup [.int (i : Nat), x]) ∧ ∀ xs, H a = some (.tup xs) → xs[i]? = some x, fun i H => ∃ xs : List V, H a = some (.tup xs) ∧ xs.length = i⟩
theorem turn_enumT {P : Program} {w : World} {K : PySem.W.Frag} {elts : List Expr} {kk : Nat} {tpos : Pos} (a e it : Addr) :
    Turn P w K (.Tuple elts kk tpos) (Itet a) [e, it] e (fun i h => (∃ old, IsEnum h e it ((i : Nat) : Int) old) ∧ h.IsTupleIter it a i ∧ e ≠ it ∧ a ≠ it ∧ e ≠ a) where
  mem := List.mem_cons_self ..
  obj := fun i h st b hb => by
    obtain ⟨⟨old, he⟩, ⟨o, ho, _, hd⟩, _⟩ := st
    rcases (by simpa using hb : b = e ∨ b = it) with z | z
    · rw [z]; exact ⟨_, he, fun v q => nomatch q⟩
    · rw [z]; exact ⟨o, ho, fun v q => by rw [hd] at q; cases q⟩
  keep := fun i h h' st k => ⟨st.1.elim fun old he => ⟨old, k e (by simp) _ he⟩, st.2.1.at fun o q => k it (by simp) o q, st.2.2⟩
  item := by
    intro X hP hw hK hc i pins s σ H E I hf st hg
    subst hP hw hK
    obtain ⟨⟨old, he⟩, hit, hne, hai, hea⟩ := st
    obtain ⟨xs, x, hq, hx⟩ := hg
    obtain ⟨its, rv, p, hz⟩ := I.tuple (SqT.of hq)
    obtain ⟨u, hu, ru⟩ := rv.get hx
    have hel : e < s.heap.objs.size := Heap.lt_size he
    have hil : it < s.heap.objs.size := hit.elim fun _ q => Heap.lt_size q.1
    have D := Draws.tuple (prog := X.prog) (w := X.w) (A := X.A.in1) (I.ok.hd hc) it a hai its.toArray
    have ht : s.heap.IsTuple a its.toArray := p
    have hlt : i < its.toArray.size := by
      have := (List.getElem?_eq_some_iff.mp hu).1
      simpa using this
    refine wpAny_pyNext_enum_itemC D he ⟨hit, ht⟩ hlt hne (by simp [hne, hea]) fun x' h' tk hx' ho hst' hT hsz hk => ?_
    have ex : x' = u := by
      have h1 : its.toArray[i]? = some x' := hx'
      have h2 : its.toArray[i]? = some u := by simpa using hu
      rw [h1] at h2; exact Option.some.inj h2
    subst ex
    refine ⟨_, rfl, wpAny_letOwnedTupleGo_enum (s := { s with heap := h', toks := tk + 1 }) ho fun h'' he' sb => ?_⟩
    have hT2 : h''.get? s.heap.objs.size = some { cls := .type "tuple", data := .seq #[.int i tk, x'] } := (sb.2 _ (Nat.ne_of_gt hel)).trans hT
    have new : ObjOk X.prog X.w (upd H s.heap.objs.size (.tup [.int (i : Nat), x])) h'' s.heap.objs.size (.tup [.int (i : Nat), x]) :=
      ⟨by show 2 ≤ sizeLine; decide, [.int i tk, x'], .cons ⟨_, rfl⟩ (.cons ru .nil), ⟨_, hT2, rfl, _, rfl⟩⟩
    have J : Inv X pins σ (upd H s.heap.objs.size (.tup [.int (i : Nat), x])) { s with heap := h'', toks := tk + 1 } :=
      I.turnedNew (ch := [e, it]) (fun b ob hb q => (sb.2 b (fun z => hb (by simp [z]))).trans (hk b ob (fun z => hb (by simp [z])) (fun z => hb (by simp [z])) q)) hf (Nat.le_refl _) new
    refine ⟨.ref s.heap.objs.size, _, J, rfl, ⟨_, x, rfl, I.hok.fresh (Nat.le_refl _), rfl, fun ys hy => by rw [hq] at hy; cases hy; exact hx⟩, ⟨⟨x', ?_⟩, hst'.1.at fun o q => (sb.2 it (Ne.symm hne)).trans q, hne, hai, hea⟩, fun b hb => ?_⟩
    · rw [show ((i + 1 : Nat) : Int) = (i : Int) + 1 by omega]; exact he'
    · have hb' : b < s.heap.objs.size := by
        rcases (by simpa using hb : b = e ∨ b = it) with z | z
        · rw [z]; exact hel
        · rw [z]; exact hil
      rw [upd_ne (Nat.ne_of_lt hb')]
      exact (hf b hb).1
  done := by
    intro X hP hw hK hc i pins s σ H E I hf st hg
    subst hP hw hK
    obtain ⟨⟨old, he⟩, hit, hne, hai, hea⟩ := st
    obtain ⟨xs, hq, hx⟩ := hg
    obtain ⟨its, rv, p, hz⟩ := I.tuple (SqT.of hq)
    obtain ⟨f0, f1, f2, f3, f4, f5⟩ := hf it (by simp)
    have hl := rv.length
    have ht : s.heap.IsTuple a its.toArray := p
    have D := Draws.tuple (prog := X.prog) (w := X.w) (A := X.A.in1) (I.ok.hd hc) it a hai its.toArray
    have hi : its.toArray.size = i := by simp; omega
    rw [← hi] at hit he
    exact wpAny_pyNext_enum_endD D he ⟨hit, ht⟩ fun h' eb => ⟨rfl, I.turned (t' := s.toks) (fun b o hb q => eb b o hb q) f0 f1 f3 f4 f5⟩
  self := fun A i s Q E st h => st.1.elim fun _ he => wpAny_pyIter_enum he h
theorem walk_enumT {a : Addr} {xs : List V} : Walk (Itet a) xs.length (fun H => H a = some (.tup xs)) (YPair (fun i => some (.int (i : Nat))) (fun i => xs[i]?)) where
  goes := fun i H hi h => ⟨xs, xs[i], h, List.getElem?_eq_getElem hi⟩
  stops := fun H h => ⟨xs, h, rfl⟩
  yields := fun i H x H' hi h ⟨p, y, e, hp, e2, hy⟩ => ⟨p, _, y, e, hp, e2, rfl, hy xs h⟩
section
variable {X : Cx} {N : List Str} {sc : Scope} {k : Nat} {σ : L2.St} {H : Hp} {nx bk ct : L2.St → Hp → Prop} {rt : VK} {e : Expr} {elts : List Expr} {body : List Stmt} {kk : Nat} {p pos tpos cpos : Pos}
theorem pi_enumT {ta : TA} (g : GlN X "enumerate") (hm : X.mg "enumerate" = none) (ha : PA X [e] ta) (hs : starEach [e] X.env = [(false, eval e X.env)] := by rfl) :
    PI X (.Tuple elts kk tpos) (.Call (.Name "enumerate" p) [e] [] cpos) (fun σ H R => ta σ H fun vs H1 => ∃ a xs, vs = [.ref a] ∧ H1 a = some (.tup xs) ∧ R (Itet a) H1) := by
  refine ⟨fun pins s σ H R I h => ?_⟩
  refine Call_ (ld_blt I g.g hm boot_enumerate (PyProof.Rows.callWith_type1 (thn (ha.run cpos pins s σ H _ I h) fun us s1 ⟨vs, H1, I1, r1, a, xs, ex, hq, q⟩ => ?_) hs rfl))
  subst ex
  obtain ⟨u, rfl, ru⟩ := Vals.one r1
  cases ru
  obtain ⟨its, rv, pt, hz⟩ := I1.tuple (SqT.of hq)
  have ht : s1.heap.IsTuple a its.toArray := pt
  refine enum_call1 (begins_tuple a its.toArray) ht fun h' he hit hk => wpAny_pyIter_enum he ?_
  have la : a < s1.heap.objs.size := I1.hok.lt hq
  refine ⟨s1.heap.objs.size + 1, [s1.heap.objs.size + 1, s1.heap.objs.size], _, _, H1, rfl, I1.kept (t' := s1.toks) hk, turn_enumT a (s1.heap.objs.size + 1) s1.heap.objs.size, ⟨⟨.none, he⟩, ⟨_, hit, rfl, rfl⟩, Nat.succ_ne_self _, Nat.ne_of_lt la, fun z => by rw [← z] at la; exact absurd la (Nat.not_lt.mpr (Nat.le_succ _))⟩, fun b hb => ?_, q⟩
  have hle : s1.heap.objs.size ≤ b := by
    rcases (by simpa using hb : b = s1.heap.objs.size + 1 ∨ b = s1.heap.objs.size) with z | z
    · rw [z]; exact Nat.le_succ _
    · rw [z]; exact Nat.le_refl _
  exact I1.fpOk hle (I1.hok.fresh hle)
/-- for i, x in enumerate(t) -/
theorem s_for_enumT (C : Ctx X N sc k) (g : GlN X "enumerate") (h : E1 X e σ H fun x H1 => ∃ a xs, x = .ref a ∧ H1 a = some (.tup xs) ∧ ∃ Pv : Nat → L2.St → Hp → Prop, Pv 0 σ H1 ∧ (∀ i σ H, i ≤ xs.length → Pv i σ H → H a = some (.tup xs)) ∧
      (∀ (i : Nat) v σ H q H', xs[i]? = some v → Pv i σ H → New H q (.tup [.int (i : Int), v]) H' → G1 X (.Tuple elts kk tpos) (.ref q) σ H' fun σ2 H2 => B1 X body σ2 H2 (Pv (i + 1)) rt nx (Pv (i + 1))) ∧ ∀ σ H, Pv xs.length σ H → nx σ H)
    (hne : N ≠ [] := by intro h; cases h) (hs : starEach [e] X.env = (false, eval e X.env) :: starEach [] X.env := by rfl) (hf : ∀ x, foldedSetIterable (.Call (.Name "enumerate" p) [e] [] cpos) X.env x = pure x := by intro _; rfl) : S1 X (.For (.Tuple elts kk tpos) (.Call (.Name "enumerate" p) [e] [] cpos) body [] pos) σ H nx rt bk ct := by
  refine S1.of (ps_for (C.own hne) C.calm (pi_enumT g (C.tx.free 70 rfl) (pa_cons pE pa_nil hs) hs) pG pB hf) (E1.imp h fun x H1 ⟨a, xs, e1, hx, Pv, h0, hl, ht, hd⟩ => ⟨a, xs, by rw [e1], hx, ?_⟩)
  refine for_it (g := fun v σ H Q => G1 X (.Tuple elts kk tpos) v σ H Q) (tb := fun D σ H => B1 X body σ H D.nx D.rt D.bk D.ct) (D := ⟨nx, rt, bk, ct⟩) (walk_enumT (a := a) (xs := xs)) Pv h0 hl (fun i x σ H H' hi hP hy => ?_) hd
  obtain ⟨q, u, v, rfl, hq, rfl, e2, e3⟩ := hy
  cases e2
  exact ht i v σ H q _ e3 hP (New.of hq)
end
end LoW
/-! ## LoParts -/
set_option Elab.async false
set_option linter.all false
set_option maxRecDepth 100000
set_option maxHeartbeats 4000000
/-! PARTS.get(kind): the written table asked by any text. -/
namespace LoW
open PySem PySem.Spec PyProof.Rows L2 LoH LO
abbrev partKeys : List Str := ["found", "say", "reply", "edit", "recall", "mark", "title", "add", "cut", "hand", "seen"]
theorem dic_keys {K : PySem.W.Frag} {w : World} {a : Addr} {ks : List Str} (h : He.dicW K a = some (He.keysIn w.params ks)) : ∃ es n, K.lookup a = some ⟨.type "dict", none, .dict es n, #[]⟩ ∧ es.toList.map He.keyOf = He.keysIn w.params ks := by
  have h0 := h
  unfold He.dicW at h
  cases q : K.lookup a with
  | none => rw [q] at h; cases h
  | some o =>
    obtain ⟨es, n, D⟩ := He.dicW_ok h0
    have e := D.at_
    rw [q] at e
    obtain rfl : o = _ := Option.some.inj e
    rw [q] at h
    refine ⟨es, n, rfl, ?_⟩
    dsimp only at h
    split at h
    · exact Option.some.inj h
    · cases h
theorem ns_unknown {K : PySem.W.Frag} {w : World} {a : Addr} {ks : List Str} {x : Str} (h : He.dicW K a = some (He.keysIn w.params ks)) (hx : x ∉ ks) : PySem.W.nsIn K a x = some none := by
  obtain ⟨es, n, hl, hk⟩ := dic_keys h
  have key : ∀ e ∈ es.toList, ∃ y t, e.key = .str y t ∧ y ∈ ks := by
    intro e he
    have h1 : He.keyOf e ∈ He.keysIn w.params ks := hk ▸ List.mem_map.mpr ⟨e, he, rfl⟩
    obtain ⟨y, hy, e2⟩ := List.mem_map.mp h1
    unfold He.keyOf at e2
    split at e2
    · rename_i z t ek
      have e3 := Option.some.inj e2
      injection e3 with e4 _
      exact ⟨z, t, ek, e4 ▸ hy⟩
    · cases e2
  unfold PySem.W.nsIn
  rw [hl]
  dsimp only
  have hf : es.toList.find? (·.key.isStr x) = none := by
    rw [List.find?_eq_none]
    intro e he
    obtain ⟨y, t, ek, hy⟩ := key e he
    rw [ek]
    show ¬ (y == x) = true
    intro c
    exact hx (eq_of_beq c ▸ hy)
  rw [hf]
  dsimp only
  have ha : es.toList.any (·.refKey) = false := by
    rw [List.any_eq_false]
    intro e he
    obtain ⟨y, t, ek, _⟩ := key e he
    unfold DictEntry.refKey
    rw [ek]
    simp
  rw [ha]
  rfl
/-- how many parts a kind has -/
def partV (k : T) : V :=
  if k = kFound then .int 2 else if k = kSay then .int 1 else if k = kReply then .int 2 else if k = kEdit then .int 2 else if k = kRecall then .int 1 else if k = kMark then .int 2
  else if k = kTitle then .int 1 else if k = kAdd then .int 1 else if k = kCut then .int 1 else if k = kHand then .int 1 else if k = kSeen then .int 0 else .non
section
variable {w : World} {K : PySem.W.Frag} {mg : Str → Option Value} {base : Heap}
theorem Tx.dic (T : Tx w K mg base) : He.dicW K (He.ga K "PARTS") = some (He.keysIn w.params partKeys) := by
  have h : [He.dicW K (He.ga K "PARTS")] = [some (He.keysIn w.params partKeys)] := congrArg Prod.snd T.t
  exact (List.cons.inj h).1
theorem Tx.vals (T : Tx w K mg base) : He.valsB K (He.ga K "PARTS") [("found", .int 2), ("say", .int 1), ("reply", .int 2), ("edit", .int 2), ("recall", .int 1), ("mark", .int 2), ("title", .int 1), ("add", .int 1), ("cut", .int 1), ("hand", .int 1), ("seen", .int 0)] = true := by
  have h := T.more
  unfold LoH.ex at h
  simp only [Bool.and_eq_true] at h
  exact h.2
theorem Tx.part (TT : Tx w K mg base) (k : LO.T) : ∃ r, PySem.W.nsIn K (He.ga K "PARTS") (mkS k) = some r ∧ (∀ u, r = some u → RelV (partV k) u) ∧ (r = none → partV k = .non) := by
  have hv := TT.vals
  have one : ∀ (x : Str) (n : Int), (x, He.Dv.int n) ∈ ([("found", .int 2), ("say", .int 1), ("reply", .int 2), ("edit", .int 2), ("recall", .int 1), ("mark", .int 2), ("title", .int 1), ("add", .int 1), ("cut", .int 1), ("hand", .int 1), ("seen", .int 0)] : List (Str × He.Dv)) →
      partV k = .int n → mkS k = x → ∃ r, PySem.W.nsIn K (He.ga K "PARTS") (mkS k) = some r ∧ (∀ u, r = some u → RelV (partV k) u) ∧ (r = none → partV k = .non) := by
    intro x n hm hp hx
    obtain ⟨u, h1, h2⟩ := He.valsB_ok hv hm
    refine ⟨some u, by rw [hx]; exact h1, fun u' e => ?_, fun e => by cases e⟩
    cases e
    rw [hp]
    exact h2
  by_cases h1 : k = kFound
  · exact one "found" 2 (by simp) (by rw [h1]; rfl) (by rw [h1]; decide +kernel)
  by_cases h2 : k = kSay
  · exact one "say" 1 (by simp) (by rw [h2]; rfl) (by rw [h2]; decide +kernel)
  by_cases h3 : k = kReply
  · exact one "reply" 2 (by simp) (by rw [h3]; rfl) (by rw [h3]; decide +kernel)
  by_cases h4 : k = kEdit
  · exact one "edit" 2 (by simp) (by rw [h4]; rfl) (by rw [h4]; decide +kernel)
  by_cases h5 : k = kRecall
  · exact one "recall" 1 (by simp) (by rw [h5]; rfl) (by rw [h5]; decide +kernel)
  by_cases h6 : k = kMark
  · exact one "mark" 2 (by simp) (by rw [h6]; rfl) (by rw [h6]; decide +kernel)
  by_cases h7 : k = kTitle
  · exact one "title" 1 (by simp) (by rw [h7]; rfl) (by rw [h7]; decide +kernel)
  by_cases h8 : k = kAdd
  · exact one "add" 1 (by simp) (by rw [h8]; rfl) (by rw [h8]; decide +kernel)
  by_cases h9 : k = kCut
  · exact one "cut" 1 (by simp) (by rw [h9]; rfl) (by rw [h9]; decide +kernel)
  by_cases h10 : k = kHand
  · exact one "hand" 1 (by simp) (by rw [h10]; rfl) (by rw [h10]; decide +kernel)
  by_cases h11 : k = kSeen
  · exact one "seen" 0 (by simp) (by rw [h11]; rfl) (by rw [h11]; decide +kernel)
  have hp : partV k = .non := by unfold partV; rw [if_neg h1, if_neg h2, if_neg h3, if_neg h4, if_neg h5, if_neg h6, if_neg h7, if_neg h8, if_neg h9, if_neg h10, if_neg h11]
  refine ⟨none, ns_unknown TT.dic ?_, ⟨fun u e => (by cases e), fun _ => hp⟩⟩
  have ek : partKeys = [mkS kFound, mkS kSay, mkS kReply, mkS kEdit, mkS kRecall, mkS kMark, mkS kTitle, mkS kAdd, mkS kCut, mkS kHand, mkS kSeen] := by decide +kernel
  rw [ek]
  intro hm
  simp only [List.mem_cons, List.not_mem_nil, or_false] at hm
  rcases hm with e | e | e | e | e | e | e | e | e | e | e
  · exact h1 (mkS_inj e)
  · exact h2 (mkS_inj e)
  · exact h3 (mkS_inj e)
  · exact h4 (mkS_inj e)
  · exact h5 (mkS_inj e)
  · exact h6 (mkS_inj e)
  · exact h7 (mkS_inj e)
  · exact h8 (mkS_inj e)
  · exact h9 (mkS_inj e)
  · exact h10 (mkS_inj e)
  · exact h11 (mkS_inj e)
end
/-- PARTS.get(e) -/
theorem e_parts {X : Cx} {N : List Str} {sc : Scope} {k : Nat} {σ : L2.St} {H : Hp} {Q : VK} {e : Expr} {p apos pos : Pos} (C : Ctx X N sc k) (g : GlN X "PARTS") (h : E1 X e σ H fun v H1 => ∃ z : T, v = S z ∧ Q (partV z) H1)
    (hb : attributeBase (.Name "PARTS" p) "get" X.env (eval (.Name "PARTS" p) X.env) = eval (.Name "PARTS" p) X.env := by rfl)
    (hfew : ((backTo pos (starEach [e] X.env)).all (fun x => !x.1) && (backToKw pos (keywordEach [] X.env)).all (fun x => x.1.isSome) && decide (([e] : List Expr).length + ([] : List Keyword).length + (if ([] : List Keyword).isEmpty then 0 else 1) < 30)) = true := by rfl)
    (hline : (apos.endLine == pos.line) = true := by rfl) (htr : backTo pos (starEach [e] X.env) = [(false, eval e X.env)] := by rfl) : E1 X (.Call (.Attribute (.Name "PARTS" p) "get" apos) [e] [] pos) σ H Q := by
  refine ⟨fun pins s I => ?_⟩
  have hm : X.mg "PARTS" = some (.ref (He.ga X.K "PARTS")) := C.tx.glo 62 rfl
  obtain ⟨es, n, D⟩ := He.dicW_ok C.tx.dic
  refine wpAny_Call_method hb hfew hline PySem.F.plainAttrs_dict PySem.F.slot_dict_get PySem.F.type_dict_get (ld_glob I g.g hm ?_ g.d)
  have ot : s.heap.get? (He.ga X.K "PARTS") = some ⟨.type "dict", none, .dict es n, #[]⟩ := I.kIn _ _ D.at_
  refine ⟨⟨_, ot, rfl⟩, fun b hb => ?_, ?_⟩
  · cases hb
    exact ⟨_, ot, rfl⟩
  rw [htr]
  refine wpAny_dict_get1 (knd := strKind X.prog X.w) D.low (thn (h.run pins s I) fun u s1 ⟨v, H1, I1, r, z, e1, q⟩ => ?_)
  subst e1
  obtain ⟨t, rfl⟩ := r
  obtain ⟨rr, hn, hr1, hr2⟩ := C.tx.part z
  refine ⟨mkS z, _, strKind_is X.prog X.w _ t, PySem.W.mapOf_K I1.kIn D.at_ D.lit, ?_⟩
  rw [PySem.W.find_K D.at_ hn]
  refine ⟨partV z, H1, I1.tok _, ?_, q⟩
  cases rr with
  | some u => exact hr1 u rfl
  | none => rw [hr2 rfl]; rfl
end LoW
/-! ## LoStr -/
set_option Elab.async false
set_option linter.all false
set_option maxRecDepth 100000
set_option maxHeartbeats 4000000
/-! What the text methods give, as lists of code points. -/
namespace LoW
open PySem PySem.Spec PyProof.Rows L2 LoH LO PySem.Builtin PySem.Builtin.Str
theorem pre1 (a c : Nat) (r : T) : TL.pre [a] (c :: r) = decide (c = a) := by
  show ([c] == [a]) = _
  by_cases h : c = a
  · subst h; simp
  · simp [h]
theorem pre2 (a b c d : Nat) (r : T) : TL.pre [a, b] (c :: d :: r) = (decide (c = a ∧ d = b)) := by
  show ([c, d] == [a, b]) = _
  by_cases h : c = a
  · by_cases h2 : d = b
    · subst h h2; simp
    · simp [h, h2]
  · simp [h]
theorem pre2s (a b c : Nat) : TL.pre [a, b] [c] = false := by
  show ([c] == [a, b]) = false
  simp
theorem par_one (a : Nat) : ∀ (l acc : T), (TL.par [a] acc l = none ∧ par1 a l = (l, [])) ∨ TL.par [a] acc l = some (acc ++ (par1 a l).1, (par1 a l).2)
  | [], acc => .inl ⟨rfl, rfl⟩
  | c :: r, acc => by
    by_cases h : c = a
    · refine .inr ?_
      rw [TL.par_hit (by rw [pre1]; exact decide_eq_true h)]
      simp [par1, h]
    · rw [TL.par_miss (by rw [pre1]; exact decide_eq_false h)]
      rcases par_one a r (acc ++ [c]) with ⟨h1, h2⟩ | h1
      · exact .inl ⟨h1, by simp [par1, h, h2]⟩
      · exact .inr (by rw [h1]; simp [par1, h])
theorem par_two (a b : Nat) : ∀ (l acc : T), (TL.par [a, b] acc l = none ∧ par2 a b l = (l, [])) ∨ TL.par [a, b] acc l = some (acc ++ (par2 a b l).1, (par2 a b l).2)
  | [], acc => .inl ⟨rfl, rfl⟩
  | [c], acc => .inl ⟨by rw [TL.par_miss (pre2s a b c)]; rfl, rfl⟩
  | c :: d :: r, acc => by
    by_cases h : c = a ∧ d = b
    · refine .inr ?_
      rw [TL.par_hit (by rw [pre2]; exact decide_eq_true h)]
      simp [par2, h]
    · rw [TL.par_miss (by rw [pre2]; exact decide_eq_false h)]
      rcases par_two a b (d :: r) (acc ++ [c]) with ⟨h1, h2⟩ | h1
      · exact .inl ⟨h1, by simp [par2, h, h2]⟩
      · exact .inr (by rw [h1]; simp [par2, h])
theorem part1 (a : Nat) (l : T) : ∃ m, Txt.partition (mkS l) (mkS [a]) = (mkS (par1 a l).1, m, mkS (par1 a l).2) := by
  have e := TL.partition_par (mkS l) (mkS [a]) (by simp [TL.tl])
  have e1 : TL.tl (mkS l) = l := rfl
  have e2 : TL.tl (mkS [a]) = [a] := rfl
  rw [e1, e2] at e
  rcases par_one a l [] with ⟨h1, h2⟩ | h1
  · rw [h1] at e
    refine ⟨Str.empty, e.trans ?_⟩
    rw [h2]; rfl
  · rw [h1] at e
    exact ⟨_, e⟩
theorem part2 (a b : Nat) (l : T) : ∃ m, Txt.partition (mkS l) (mkS [a, b]) = (mkS (par2 a b l).1, m, mkS (par2 a b l).2) := by
  have e := TL.partition_par (mkS l) (mkS [a, b]) (by simp [TL.tl])
  have e1 : TL.tl (mkS l) = l := rfl
  have e2 : TL.tl (mkS [a, b]) = [a, b] := rfl
  rw [e1, e2] at e
  rcases par_two a b l [] with ⟨h1, h2⟩ | h1
  · rw [h1] at e
    refine ⟨Str.empty, e.trans ?_⟩
    rw [h2]; rfl
  · rw [h1] at e
    exact ⟨_, e⟩
theorem spl1_ne (a : Nat) : ∀ l : T, spl1 a l ≠ []
  | [] => by simp [spl1]
  | c :: r => by
    unfold spl1
    split
    · simp
    · split <;> simp
theorem spl2_ne (a b : Nat) : ∀ l : T, spl2 a b l ≠ []
  | [] => by simp [spl2]
  | [c] => by simp [spl2]
  | c :: d :: r => by
    unfold spl2
    split
    · simp
    · split <;> simp
theorem spl_one (a : Nat) : ∀ (l acc h : T) (t : List T), spl1 a l = h :: t → TL.spl [a] 0 acc l = (acc ++ h) :: t
  | [], acc, h, t, e => by
    simp [spl1] at e
    rw [TL.spl_nil, e.1, e.2]; simp
  | c :: r, acc, h, t, e => by
    unfold spl1 at e
    by_cases hc : c = a
    · rw [if_pos hc] at e
      injection e with e1 e2
      rw [TL.spl_hit (by rw [pre1]; exact decide_eq_true hc), ← e1, ← e2]
      show acc :: TL.spl [a] 0 [] r = _
      cases e3 : spl1 a r with
      | nil => exact absurd e3 (spl1_ne a r)
      | cons h' t' => rw [spl_one a r [] h' t' e3]; simp
    · rw [if_neg hc] at e
      rw [TL.spl_miss (by rw [pre1]; exact decide_eq_false hc)]
      cases e3 : spl1 a r with
      | nil => exact absurd e3 (spl1_ne a r)
      | cons h' t' =>
        rw [e3] at e
        injection e with e1 e2
        rw [spl_one a r _ h' t' e3, ← e1, ← e2]; simp
theorem spl_two (a b : Nat) : ∀ (l acc h : T) (t : List T), spl2 a b l = h :: t → TL.spl [a, b] 0 acc l = (acc ++ h) :: t
  | [], acc, h, t, e => by
    simp [spl2] at e
    rw [TL.spl_nil, e.1, e.2]; simp
  | [c], acc, h, t, e => by
    simp [spl2] at e
    rw [TL.spl_miss (pre2s a b c), TL.spl_nil, ← e.1, ← e.2]
  | c :: d :: r, acc, h, t, e => by
    unfold spl2 at e
    by_cases hc : c = a ∧ d = b
    · rw [if_pos hc] at e
      injection e with e1 e2
      rw [TL.spl_hit (by rw [pre2]; exact decide_eq_true hc), ← e1, ← e2]
      show acc :: TL.spl [a, b] 0 [] r = _
      cases e3 : spl2 a b r with
      | nil => exact absurd e3 (spl2_ne a b r)
      | cons h' t' => rw [spl_two a b r [] h' t' e3]; simp
    · rw [if_neg hc] at e
      rw [TL.spl_miss (by rw [pre2]; exact decide_eq_false hc)]
      cases e3 : spl2 a b (d :: r) with
      | nil => exact absurd e3 (spl2_ne a b (d :: r))
      | cons h' t' =>
        rw [e3] at e
        injection e with e1 e2
        rw [spl_two a b (d :: r) _ h' t' e3, ← e1, ← e2]; simp
theorem split1 (a : Nat) (ha : a < 256) (l : T) : Txt.split (mkS l) (mkS [a]) = (spl1 a l).map mkS := by
  refine TL.map_tl_inj ?_
  rw [TL.split_spl _ _ (by simp [TL.tl]) (TL.kind_ok (by simp [ha])), List.map_map]
  have e2 : (TL.tl ∘ mkS) = _root_.id := rfl
  rw [e2, List.map_id]
  show TL.spl [a] 0 [] l = _
  cases e : spl1 a l with
  | nil => exact absurd e (spl1_ne a l)
  | cons h t => rw [spl_one a l [] h t e]; rfl
theorem split2 (a b : Nat) (ha : a < 256) (hb : b < 256) (l : T) : Txt.split (mkS l) (mkS [a, b]) = (spl2 a b l).map mkS := by
  refine TL.map_tl_inj ?_
  rw [TL.split_spl _ _ (by simp [TL.tl]) (TL.kind_ok (by simp [ha, hb])), List.map_map]
  have e2 : (TL.tl ∘ mkS) = _root_.id := rfl
  rw [e2, List.map_id]
  show TL.spl [a, b] 0 [] l = _
  cases e : spl2 a b l with
  | nil => exact absurd e (spl2_ne a b l)
  | cons h t => rw [spl_two a b l [] h t e]; rfl
theorem joinL_eq (s : T) : ∀ ls : List T, TL.joinL s ls = joinL s ls
  | [] => rfl
  | [_] => rfl
  | p :: q :: r => by
    show p ++ (s ++ TL.joinL s (q :: r)) = p ++ (s ++ joinL s (q :: r))
    rw [joinL_eq s (q :: r)]
theorem join_S (s : T) (ls : List T) : Txt.join (mkS s) (ls.map mkS) = mkS (joinL s ls) := by
  refine TL.ext_tl ?_
  rw [TL.join_eq, TL.tl_join, List.map_map]
  have e2 : (TL.tl ∘ mkS) = _root_.id := rfl
  rw [e2, List.map_id, joinL_eq]
theorem joinL_len (s : T) : ∀ ls : List T, (joinL s ls).length ≤ (ls.map List.length).sum + ls.length * s.length
  | [] => by simp [joinL]
  | [p] => by simp [joinL]
  | p :: q :: r => by
    have ih := joinL_len s (q :: r)
    simp [joinL] at ih ⊢
    have e : (r.length + 1 + 1) * s.length = (r.length + 1) * s.length + s.length := by rw [Nat.add_mul (r.length + 1) 1, Nat.one_mul]
    omega
theorem count_S (l : T) : Txt.count (mkS l) "\n" = (nlCount l : Nat) := by
  have e : ("\n" : Str) = ⟨#[10]⟩ := by decide +kernel
  rw [e, count_cnt]
  show cnt 10 l = _
  unfold nlCount
  induction l with
  | nil => rfl
  | cons c r ih =>
    rw [cnt_cons, ih, List.count_cons]
    by_cases h : c = 10
    · simp [h]; omega
    · simp [h]
theorem num_S (n : Nat) : (toString ((n : Nat) : Int) : Str) = mkS (numN n) := TL.ext_tl (TL.tl_num n)
theorem numI_S {i : Int} (h : 0 ≤ i) : (toString i : Str) = mkS (numI i) := by
  obtain ⟨n, rfl⟩ := Int.eq_ofNat_of_zero_le h
  exact num_S n
theorem numN_len {n k : Nat} (hk : 0 < k) (h : n < 10 ^ k) : (numN n).length ≤ k := TL.numL_len hk h
theorem int_S {w : T} (h : w.all isDig = true) (h1 : w ≠ []) (h2 : w.length ≤ 640) : PySem.intText? (mkS w) = some (digVal w : Int) :=
  PySem.intText_digits (x := mkS w) (fun c hc => by
    have := List.all_eq_true.mp h c hc
    unfold isDig at this
    simpa using this) h1 (by rw [mkS_len]; omega)
/-! ### slices -/
section
variable {α : Type} (xs : List α)
theorem sIx_n (n k : Nat) (d : Nat) : HT.sIx n d (some (k : Int)) = min k n := HT.sIx_nat n d k
end
theorem cutV_to (xs : List V) (k : Nat) : cutV xs none (some (k : Int)) = xs.take k := by
  unfold cutV
  rw [HT.sIx_none, HT.sIx_nat, List.drop_zero, Nat.sub_zero, List.take_eq_take_iff]
  omega
theorem cutV_from (xs : List V) (k : Nat) : cutV xs (some (k : Int)) none = xs.drop k := by
  unfold cutV
  rw [HT.sIx_none, HT.sIx_nat]
  by_cases h : k ≤ xs.length
  · rw [Nat.min_eq_left h]
    exact List.take_of_length_le (by simp)
  · rw [Nat.min_eq_right (by omega), List.drop_eq_nil_of_le (Nat.le_refl _), List.drop_eq_nil_of_le (by omega)]; simp
theorem cutV_mid (xs : List V) (i j : Nat) : cutV xs (some (i : Int)) (some (j : Int)) = (xs.drop i).take (j - i) := by
  unfold cutV
  rw [HT.sIx_nat, HT.sIx_nat]
  by_cases h : i ≤ xs.length
  · rw [Nat.min_eq_left h, List.take_eq_take_iff, List.length_drop]
    omega
  · rw [Nat.min_eq_right (by omega : xs.length ≤ i), List.drop_eq_nil_of_le (Nat.le_refl _), List.drop_eq_nil_of_le (by omega : xs.length ≤ i)]; simp
theorem cutS_to (xs : T) (k : Nat) : cutS (mkS xs) none (some (k : Int)) = mkS (xs.take k) := by
  unfold cutS
  rw [HT.sIx_none, HT.sIx_nat, mkS_len]
  show mkS ((xs.drop 0).take (min k xs.length - 0)) = _
  rw [List.drop_zero, Nat.sub_zero]
  refine congrArg mkS ?_
  rw [List.take_eq_take_iff]
  omega
theorem cutS_from (xs : T) (k : Nat) : cutS (mkS xs) (some (k : Int)) none = mkS (xs.drop k) := by
  unfold cutS
  rw [HT.sIx_none, HT.sIx_nat, mkS_len]
  show mkS ((xs.drop (min k xs.length)).take (xs.length - min k xs.length)) = _
  refine congrArg mkS ?_
  by_cases h : k ≤ xs.length
  · rw [Nat.min_eq_left h]
    exact List.take_of_length_le (by simp)
  · rw [Nat.min_eq_right (by omega), List.drop_eq_nil_of_le (Nat.le_refl _), List.drop_eq_nil_of_le (by omega)]; simp
theorem cutS_mid (xs : T) (i j : Nat) : cutS (mkS xs) (some (i : Int)) (some (j : Int)) = mkS ((xs.drop i).take (j - i)) := by
  unfold cutS
  rw [HT.sIx_nat, HT.sIx_nat, mkS_len]
  show mkS ((xs.drop (min i xs.length)).take (min j xs.length - min i xs.length)) = _
  refine congrArg mkS ?_
  by_cases h : i ≤ xs.length
  · rw [Nat.min_eq_left h, List.take_eq_take_iff, List.length_drop]
    omega
  · rw [Nat.min_eq_right (by omega : xs.length ≤ i), List.drop_eq_nil_of_le (Nat.le_refl _), List.drop_eq_nil_of_le (by omega : xs.length ≤ i)]; simp
section
variable {K : PySem.W.Frag} {H : Hp} {Q : VK} {z : T} {i j : Int} {p : Addr} {xs : List V}
theorem SlV.sTo (k : Nat) (e : i = k) (h : z.length ≤ sizeLine) (q : Q (S (z.take k)) H) : SlV K (S z) none (some i) H Q := by
  subst e; exact .inl ⟨_, rfl, by rw [mkS_len]; exact h, by rw [cutS_to]; exact q⟩
theorem SlV.sFrom (k : Nat) (e : i = k) (h : z.length ≤ sizeLine) (q : Q (S (z.drop k)) H) : SlV K (S z) (some i) none H Q := by
  subst e; exact .inl ⟨_, rfl, by rw [mkS_len]; exact h, by rw [cutS_from]; exact q⟩
theorem SlV.sMid (k l : Nat) (e : i = k) (e2 : j = l) (h : z.length ≤ sizeLine) (q : Q (S ((z.drop k).take (l - k))) H) : SlV K (S z) (some i) (some j) H Q := by
  subst e e2; exact .inl ⟨_, rfl, by rw [mkS_len]; exact h, by rw [cutS_mid]; exact q⟩
theorem SlV.lTo (k : Nat) (e : i = k) (h : SqL K H p xs) (q : ∀ r H', New H r (.lst (xs.take k)) H' → Q (.ref r) H') : SlV K (.ref p) none (some i) H Q := by
  subst e; exact .l h (by rw [cutV_to]; exact q)
theorem SlV.lFrom (k : Nat) (e : i = k) (h : SqL K H p xs) (q : ∀ r H', New H r (.lst (xs.drop k)) H' → Q (.ref r) H') : SlV K (.ref p) (some i) none H Q := by
  subst e; exact .l h (by rw [cutV_from]; exact q)
theorem SlV.lMid (k l : Nat) (e : i = k) (e2 : j = l) (h : SqL K H p xs) (q : ∀ r H', New H r (.lst ((xs.drop k).take (l - k))) H' → Q (.ref r) H') : SlV K (.ref p) (some i) (some j) H Q := by
  subst e e2; exact .l h (by rw [cutV_mid]; exact q)
end
/-! ### the last space, the next space -/
theorem last_run0 (x : Str) (c lo : Nat) (hi : Nat) (hhi : hi ≤ x.length) : (lastOccurrence x ⟨#[c]⟩ lo hi = none ∧ ∀ i, lo ≤ i → i < hi → x.cps.toList[i]? ≠ some c) ∨ ∃ i, lastOccurrence x ⟨#[c]⟩ lo hi = some i ∧ lo ≤ i ∧ i < hi ∧ x.cps.toList[i]? = some c ∧ ∀ k, i < k → k < hi → x.cps.toList[k]? ≠ some c := by
  have e1 : (⟨#[c]⟩ : Str).length = 1 := rfl
  have at_ : ∀ i, i < hi → x.cps.toList[i]? = some c → StrLaws.At x ⟨#[c]⟩ hi i := fun i h1 h2 => ⟨by omega, ((StrLaws.subAt_one x c i).mpr h2).2⟩
  have ta : ∀ i, StrLaws.At x ⟨#[c]⟩ hi i → i < hi ∧ x.cps.toList[i]? = some c := fun i h => ⟨by have := h.1; omega, (StrLaws.subAt_one x c i).mp ⟨by have := h.1; omega, h.2⟩⟩
  rw [StrLaws.last_eq]
  have key := StrLaws.last_run x ⟨#[c]⟩ hi (List.range' lo (hi + 1 - lo)) [] none (fun _ h => nomatch h) (fun _ h => nomatch h) (by simpa using List.pairwise_lt_range' (s := lo) (n := hi + 1 - lo))
  have keep : ∀ (l : List Nat) (st : Option Nat) (i : Nat), (forIn l st (StrLaws.lastBody x ⟨#[c]⟩ hi)).run = some i → i ∈ l ∨ st = some i := by
    intro l
    induction l with
    | nil => intro st i h; exact .inr h
    | cons a l ih =>
      intro st i h
      rw [List.forIn_cons] at h
      unfold StrLaws.lastBody at h
      split at h
      · rcases ih _ _ h with m | m
        · exact .inl (List.mem_cons_of_mem _ m)
        · cases m; exact .inl (List.mem_cons_self ..)
      · rcases ih _ _ h with m | m
        · exact .inl (List.mem_cons_of_mem _ m)
        · exact .inr m
  have mem : ∀ i, lo ≤ i → StrLaws.At x ⟨#[c]⟩ hi i → i ∈ [] ++ List.range' lo (hi + 1 - lo) := fun i h0 h1 => by have := h1.1; rw [List.nil_append]; exact List.mem_range'_1.mpr (by omega)
  cases hr : (forIn (List.range' lo (hi + 1 - lo)) none (StrLaws.lastBody x ⟨#[c]⟩ hi)).run with
  | none => rw [hr] at key; exact .inl ⟨rfl, fun i h0 h1 h2 => key i (mem i h0 (at_ i h1 h2)) (at_ i h1 h2)⟩
  | some a =>
    rw [hr] at key
    obtain ⟨t1, t2⟩ := ta a key.1
    have hlo : lo ≤ a := by
      rcases keep _ _ _ hr with m | m
      · exact (List.mem_range'_1.mp m).1
      · cases m
    exact .inr ⟨a, rfl, hlo, t1, t2, fun k hk h1 h2 => key.2 k (mem k (by omega) (at_ k h1 h2)) hk (at_ k h1 h2)⟩
theorem lastSp_of {l : T} : ∀ {n i : Nat}, 1 ≤ i → i ≤ n → l[i]? = some 32 → (∀ k, i < k → k ≤ n → l[k]? ≠ some 32) → lastSp l n = some i
  | 0, i, h1, h2, _, _ => by omega
  | n + 1, i, h1, h2, h3, h4 => by
    unfold lastSp
    by_cases e : i = n + 1
    · subst e; rw [if_pos h3]
    · rw [if_neg (h4 (n + 1) (by omega) (Nat.le_refl _))]
      exact lastSp_of h1 (by omega) h3 fun k a b => h4 k a (by omega)
theorem lastSp_no {l : T} : ∀ {n : Nat}, (∀ k, 1 ≤ k → k ≤ n → l[k]? ≠ some 32) → lastSp l n = none
  | 0, _ => rfl
  | n + 1, h => by
    unfold lastSp
    rw [if_neg (h (n + 1) (by omega) (Nat.le_refl _))]
    exact lastSp_no fun k a b => h k a (by omega)
theorem nextSp_of {l : T} : ∀ {n a i : Nat}, a ≤ i → i < a + n → l[i]? = some 32 → (∀ k, a ≤ k → k < i → l[k]? ≠ some 32) → nextSp l n a = some i
  | 0, a, i, h1, h2, _, _ => by omega
  | n + 1, a, i, h1, h2, h3, h4 => by
    unfold nextSp
    by_cases e : i = a
    · subst e; rw [if_pos h3]
    · rw [if_neg (h4 a (Nat.le_refl _) (by omega))]
      exact nextSp_of (by omega) (by omega) h3 fun k x y => h4 k (by omega) y
theorem nextSp_no {l : T} : ∀ {n a : Nat}, (∀ k, a ≤ k → k < a + n → l[k]? ≠ some 32) → nextSp l n a = none
  | 0, _, _ => rfl
  | n + 1, a, h => by
    unfold nextSp
    rw [if_neg (h a (Nat.le_refl _) (by omega))]
    exact nextSp_no fun k x y => h k (by omega) (by omega)
theorem rfind_S {l : T} {w : Nat} (h : w < l.length) : Txt.rfindIn (mkS l) " " 1 ((w : Int) + 1) = (match lastSp l w with | some i => (i : Int) | none => -1) := by
  have e : (" " : Str) = ⟨#[32]⟩ := by decide +kernel
  unfold Txt.rfindIn
  have e1 : fromIndex (mkS l).length 1 = 1 := rfl
  have e2 : toIndexW (mkS l).length ((w : Int) + 1) = w + 1 := by
    unfold toIndexW
    rw [if_neg (by omega), mkS_len]
    omega
  rw [e, e1, e2]
  rcases last_run0 (mkS l) 32 1 (w + 1) (by rw [mkS_len]; omega) with ⟨h0, hn⟩ | ⟨i, h0, h1, h2, h3, h4⟩
  · rw [h0, lastSp_no fun k a b => hn k a (by omega)]
  · rw [h0, lastSp_of h1 (by omega) h3 fun k a b => h4 k a (by omega)]
theorem find_S {l : T} {w : Nat} (h : w < l.length) : Txt.find3 (mkS l) " " ((w : Int) + 1) = (match nextSp l (l.length - (w + 1)) (w + 1) with | some i => (i : Int) | none => -1) := by
  have e : (" " : Str) = ⟨#[32]⟩ := by decide +kernel
  rw [e]
  have e1 : fromIndex (mkS l).length ((w : Int) + 1) = w + 1 := by
    unfold fromIndex
    rw [if_neg (by omega)]
    omega
  have ge : ∀ v, (mkS l).cps.getD v 0 = 32 → l[v]? = some 32 := fun v hv => by
    by_cases hl : v < l.length
    · exact StrLaws.getElem?_of_getD (x := mkS l) (by rw [mkS_len]; exact hl) hv
    · exfalso
      have : (mkS l).cps.getD v 0 = 0 := by
        show l.toArray.getD v 0 = 0
        simp [Array.getD]; omega
      rw [this] at hv; cases hv
  rcases StrLaws.find3_spec (mkS l) 32 ((w : Int) + 1) with ⟨h0, hn⟩ | ⟨k, h0, h1, h2, h3, h4⟩
  · rw [e1, mkS_len] at hn
    rw [h0, nextSp_no fun k a b c => hn k a (by omega) (StrLaws.getD_of_getElem? (x := mkS l) c)]
  · rw [e1] at h1 h4
    rw [mkS_len] at h2
    rw [h0, nextSp_of h1 (by omega) (ge k h3) fun v a b c => h4 v a b (StrLaws.getD_of_getElem? (x := mkS l) c)]
end LoW
/-! ## LoFold -/
set_option Elab.async false
set_option linter.all false
set_option maxRecDepth 100000
set_option maxHeartbeats 4000000
namespace LoW
open PySem PySem.Spec PyProof.Rows L2 LoH LO
/-! one step of a body's walk, by the shape of what stands next -/
local macro_rules | `(tactic| walk_at "fin") => `(tactic| first | (with_reducible assumption) | (with_reducible rfl) | rfl | (intro _; rfl) | (intro _ _; rfl) | skip)
local macro_rules | `(tactic| walk_at "at") => `(tactic| first | (with_reducible assumption) | (refine New.at_ (by with_reducible assumption)) | (refine New1.at_ (by with_reducible assumption)) | (refine New.same (by with_reducible assumption) _ _ ?_; walk_at "at") | (refine New1.same (by with_reducible assumption) _ _ ?_; walk_at "at") | (refine Same.get (by with_reducible assumption) ?_; walk_at "at"))
local macro_rules | `(tactic| walk_at "same") => `(tactic| first | (with_reducible assumption) | exact Same.refl _ | (refine Same.trans ?_ (New.same (by with_reducible assumption)); walk_at "same") | (refine Same.trans ?_ (New1.same (by with_reducible assumption)); walk_at "same") | (refine Same.trans ?_ (by with_reducible assumption); walk_at "same"))
local macro_rules | `(tactic| walk_at "n1") => `(tactic| first | (with_reducible assumption) | (with_reducible apply New1.post2 (New.same (by with_reducible assumption)); walk_at "n1") | (with_reducible apply New1.post2 (by with_reducible assumption); walk_at "n1"))
local macro_rules | `(tactic| walk_at "C") => `(tactic| first
  | (with_reducible apply e_cmp op_lt) <;> walk_at "fin"
  | (with_reducible apply e_cmp op_gt) <;> walk_at "fin"
  | (with_reducible apply e_cmp op_ge) <;> walk_at "fin"
  | (with_reducible apply e_cmp op_leV) <;> walk_at "fin"
  | (with_reducible apply e_cmp (op_eqV (Ctx.room ‹_›).units)) <;> walk_at "fin"
  | (with_reducible apply e_cmp (op_neV (Ctx.room ‹_›).units)) <;> walk_at "fin"
  | (with_reducible apply e_cmp op_inV) <;> walk_at "fin"
  | (with_reducible apply e_cmp op_notInV) <;> walk_at "fin"
  | (with_reducible apply e_cmp op_isN) <;> walk_at "fin"
  | (with_reducible apply e_cmp op_notN) <;> walk_at "fin"
  | (with_reducible apply e_chain_le) <;> walk_at "fin")
local macro_rules | `(tactic| walk_at "calln") => `(tactic| first | (refine e_call (CX := CX0) (E := E0) (by with_reducible assumption) ((Ctx.room ‹_›).mono (by decide)) (by with_reducible assumption) pass0 ?_) | ((with_reducible apply e_isi) <;> walk_at "fin") | ((with_reducible apply e_len) <;> walk_at "fin") | ((with_reducible apply e_ord) <;> walk_at "fin") | ((with_reducible apply e_str1) <;> walk_at "fin") | ((with_reducible apply e_int1) <;> walk_at "fin") | ((with_reducible apply e_max2) <;> walk_at "fin") | ((with_reducible apply e_min2) <;> walk_at "fin") | ((with_reducible apply e_sum1) <;> walk_at "fin") | ((with_reducible apply e_tupleL) <;> walk_at "fin"))
local macro_rules | `(tactic| walk_at "callm") => `(tactic| first | ((with_reducible apply e_parts) <;> walk_at "fin") | ((with_reducible apply e_dget2) <;> walk_at "fin") | ((with_reducible apply e_split) <;> walk_at "fin") | ((with_reducible apply e_partition) <;> walk_at "fin") | ((with_reducible apply e_join) <;> walk_at "fin") | ((with_reducible apply e_count) <;> walk_at "fin") | ((with_reducible apply e_rfind4) <;> walk_at "fin") | ((with_reducible apply e_find3) <;> walk_at "fin") | ((with_reducible apply e_append) <;> walk_at "fin") | ((with_reducible apply e_extend) <;> walk_at "fin"))
local macro_rules | `(tactic| walk_at "name") => `(tactic| first | (refine e_var (by with_reducible assumption) (by rfl) ?_) | ((with_reducible apply e_ty_int) <;> walk_at "fin") | ((with_reducible apply e_ty_str) <;> walk_at "fin") | ((with_reducible apply e_ty_bool) <;> walk_at "fin") | ((with_reducible apply e_ty_tuple) <;> walk_at "fin") | ((with_reducible apply e_ty_list) <;> walk_at "fin") | ((with_reducible apply e_LONGEST_NAME) <;> walk_at "fin") | ((with_reducible apply e_GREATEST_NUMBER) <;> walk_at "fin") | ((with_reducible apply e_LONGEST_TEXT) <;> walk_at "fin") | ((with_reducible apply e_LONGEST_TITLE) <;> walk_at "fin") | ((with_reducible apply e_MOST_MEMBERS) <;> walk_at "fin") | ((with_reducible apply e_WIDTH) <;> walk_at "fin") | ((with_reducible apply e_MOST_DIGITS) <;> walk_at "fin") | ((with_reducible apply e_LETTERS) <;> walk_at "fin") | ((with_reducible apply e_DIGITS_names) <;> walk_at "fin") | ((with_reducible apply e_DIGITS_headers) <;> walk_at "fin") | ((with_reducible apply e_MARK) <;> walk_at "fin") | ((with_reducible apply e_LAST) <;> walk_at "fin"))
local macro_rules | `(tactic| walk_at "E") => `(tactic| first
  | ((with_reducible show E1 _ (Expr.Name _ _) _ _ _); walk_at "name")
  | ((with_reducible show E1 _ (Expr.Constant _ _ _) _ _ _); first | ((with_reducible apply e_int) <;> walk_at "fin") | ((with_reducible apply e_strS) <;> walk_at "fin") | ((with_reducible apply e_bl) <;> walk_at "fin") | ((with_reducible apply e_non) <;> walk_at "fin"))
  | ((with_reducible show E1 _ (Expr.Call (Expr.Name _ _) _ _ _) _ _ _); walk_at "calln")
  | ((with_reducible show E1 _ (Expr.Call (Expr.Attribute _ _ _) _ _ _) _ _ _); walk_at "callm")
  | ((with_reducible show E1 _ (Expr.Compare _ _ _ _) _ _ _); walk_at "C")
  | ((with_reducible show E1 _ (Expr.BinOp _ _ _ _) _ _ _); first | ((with_reducible apply e_add) <;> walk_at "fin") | ((with_reducible apply e_sub) <;> walk_at "fin") | ((with_reducible apply e_mul) <;> walk_at "fin") | ((with_reducible apply e_mod) <;> walk_at "fin") | ((with_reducible apply e_fdiv) <;> walk_at "fin") | ((with_reducible apply e_pow) <;> walk_at "fin"))
  | ((with_reducible show E1 _ (Expr.Subscript _ _ _) _ _ _); first | ((with_reducible apply e_slice) <;> walk_at "fin") | ((with_reducible apply e_ix) <;> walk_at "fin"))
  | ((with_reducible show E1 _ (Expr.UnaryOp _ _ _) _ _ _); first | ((with_reducible apply e_not) <;> walk_at "fin") | ((with_reducible apply e_neg) <;> walk_at "fin"))
  | ((with_reducible show E1 _ (Expr.BoolOp _ _ _) _ _ _); first | ((with_reducible apply e_one) <;> walk_at "fin") | ((with_reducible apply e_and) <;> walk_at "fin") | ((with_reducible apply e_or) <;> walk_at "fin"))
  | ((with_reducible show E1 _ (Expr.Tuple _ _ _) _ _ _); (with_reducible apply e_tup) <;> walk_at "fin")
  | ((with_reducible show E1 _ (Expr.List _ _) _ _ _); (with_reducible apply e_lst) <;> walk_at "fin")
  | ((with_reducible show E1 _ (Expr.IfExp _ _ _ _) _ _ _); (with_reducible apply e_if) <;> walk_at "fin")
  | ((with_reducible show E1 _ (Expr.Dict _ _ _) _ _ _); (with_reducible apply e_dnew) <;> walk_at "fin"))
local macro_rules | `(tactic| walk_at "T") => `(tactic| first
  | (with_reducible apply t_cmp op_lt) <;> walk_at "fin"
  | (with_reducible apply t_cmp op_gt) <;> walk_at "fin"
  | (with_reducible apply t_cmp op_ge) <;> walk_at "fin"
  | (with_reducible apply t_cmp op_leV) <;> walk_at "fin"
  | (with_reducible apply t_cmp (op_eqV (Ctx.room ‹_›).units)) <;> walk_at "fin"
  | (with_reducible apply t_cmp (op_neV (Ctx.room ‹_›).units)) <;> walk_at "fin"
  | (with_reducible apply t_cmp op_inV) <;> walk_at "fin"
  | (with_reducible apply t_cmp op_notInV) <;> walk_at "fin"
  | (with_reducible apply t_cmp op_isN) <;> walk_at "fin"
  | (with_reducible apply t_cmp op_notN) <;> walk_at "fin"
  | (with_reducible apply t_chain_le) <;> walk_at "fin"
  | (with_reducible refine t_w (w_or ?_))
  | (with_reducible refine t_w (w_and ?_))
  | (with_reducible apply w_or)
  | (with_reducible apply w_and)
  | (with_reducible apply w_or1)
  | (with_reducible apply w_and1)
  | (with_reducible apply t_not)
  | (with_reducible apply t_call) <;> walk_at "fin")
local macro_rules | `(tactic| walk_at "V") => `(tactic| first
  | ((with_reducible show Bth _ _ _); first
    | ((with_reducible apply Bth.t) <;> walk_at "fin")
    | ((with_reducible apply Bth.f) <;> walk_at "fin")
    | ((with_reducible apply Bth.nt) <;> walk_at "fin")
    | ((with_reducible apply Bth.nf) <;> walk_at "fin")
    | (refine Bth.dT (by decide +kernel) ?_)
    | (refine Bth.dF (by decide +kernel) ?_)
    | (refine Bth.ndT (by decide +kernel) ?_)
    | (refine Bth.ndF (by decide +kernel) ?_)
    | (refine Bth.ndT (by rfl) ?_)
    | (refine Bth.dT (by rfl) ?_)
    | (refine Bth.cT (by decide +kernel) ?_)
    | (refine Bth.cF (by decide +kernel) ?_))
  | ((with_reducible show AddV _ _ _ _); (with_reducible apply AddV.i) <;> walk_at "fin")
  | ((with_reducible show EqV _ _ _ _ _); first | ((with_reducible apply EqV.I) <;> walk_at "fin") | ((with_reducible apply EqV.S) <;> walk_at "fin"))
  | ((with_reducible show NeV _ _ _ _ _); first | ((with_reducible apply NeV.I) <;> walk_at "fin") | ((with_reducible apply NeV.S) <;> walk_at "fin"))
  | ((with_reducible show InV _ _ _ _ _); first | ((with_reducible apply InV.c) <;> walk_at "fin") | (refine InV.t4 (by walk_at "at") ?_) | (refine InV.t3 (by walk_at "at") ?_) | (refine InV.t2 (by walk_at "at") ?_) | (refine InV.l4 (by walk_at "at") ?_) | (refine InV.l3 (by walk_at "at") ?_) | (refine InV.l2 (by walk_at "at") ?_))
  | ((with_reducible show NotInV _ _ _ _ _); (with_reducible apply NotInV.c) <;> walk_at "fin")
  | ((with_reducible show LeV _ _ _ _); first | ((with_reducible apply LeV.i) <;> walk_at "fin") | ((with_reducible apply LeV.s) <;> walk_at "fin"))
  | ((with_reducible show IsiV _ _ _ _); first | ((with_reducible apply IsiV.ii) <;> walk_at "fin") | ((with_reducible apply IsiV.ib) <;> walk_at "fin") | ((with_reducible apply IsiV.ss) <;> walk_at "fin") | ((with_reducible apply IsiV.ns) <;> walk_at "fin") | (refine IsiV.tt (by walk_at "at") ?_) | (refine IsiV.ll (by walk_at "at") ?_))
  | ((with_reducible show IntW _ _ _); (with_reducible apply IntW.i) <;> walk_at "fin")
  | ((with_reducible show IxV _ _ _ _ _); (refine IxV.t (SqT.of (by walk_at "at")) (by rfl) ?_))
  | ((with_reducible show LenW _ _ _ _); (refine LenW.t (SqT.of (by walk_at "at")) ?_))
  | ((with_reducible show List.length _ ≤ sizeLine ∧ _); refine ⟨line16 (by simp), fun _ _ _ => ?_⟩)
  | (refine ⟨by walk_at "same", fun _ _ => ?_⟩)
  | (refine ⟨_, rfl, ?_⟩) <;> walk_at "fin"
  | (refine And.intro rfl ?_)
  | (refine ⟨_, _, rfl, rfl, ?_⟩) <;> walk_at "fin")
local macro_rules | `(tactic| walk_at "S") => `(tactic| first
  | (with_reducible apply b_cons) <;> walk_at "fin"
  | (with_reducible apply b_nil) <;> walk_at "fin"
  | (with_reducible apply s_if) <;> walk_at "fin"
  | (with_reducible apply s_ret) <;> walk_at "fin"
  | (refine s_app _ (by with_reducible assumption) (by rfl) (by walk_at "n1") (by first | omega | (simp <;> omega)) ?_)
  | (with_reducible apply s_expr) <;> walk_at "fin"
  | (with_reducible apply s_break) <;> walk_at "fin"
  | (with_reducible apply s_pass) <;> walk_at "fin"
  | (refine s_set (by with_reducible assumption) ?_)
  | (refine g_name (by with_reducible assumption) ?_)
  | (with_reducible apply a_cons) <;> walk_at "fin"
  | (with_reducible apply a_nil) <;> walk_at "fin"
  | (with_reducible apply p_some) <;> walk_at "fin"
  | (with_reducible apply p_none) <;> walk_at "fin")
local macro_rules | `(tactic| walk_at "st") => `(tactic| first
  | ((with_reducible show E1 _ _ _ _ _); walk_at "E")
  | ((with_reducible show S1 _ _ _ _ _ _ _ _); walk_at "S")
  | ((with_reducible show B1 _ _ _ _ _ _ _ _); walk_at "S")
  | ((with_reducible show A1 _ _ _ _ _); walk_at "S")
  | ((with_reducible show P1 _ _ _ _ _); walk_at "S")
  | ((with_reducible show G1 _ _ _ _ _ _); walk_at "S")
  | ((with_reducible show T1 _ _ _ _ _); walk_at "T")
  | ((with_reducible show W1 _ _ _ _ _); walk_at "T")
  | walk_at "V")
local macro_rules | `(tactic| walk_at "go") => `(tactic| repeat walk_at "st")
theorem lastSp_le {l : T} : ∀ {n i : Nat}, lastSp l n = some i → 1 ≤ i ∧ i ≤ n ∧ l[i]? = some 32
  | 0, i, h => by cases h
  | n + 1, i, h => by
    unfold lastSp at h
    split at h
    · cases h; exact ⟨by omega, by omega, by assumption⟩
    · have := lastSp_le h; exact ⟨this.1, by omega, this.2.2⟩
theorem nextSp_le {l : T} : ∀ {n a i : Nat}, nextSp l n a = some i → a ≤ i ∧ i < a + n ∧ l[i]? = some 32
  | 0, a, i, h => by cases h
  | n + 1, a, i, h => by
    unfold nextSp at h
    split at h
    · cases h; exact ⟨by omega, by omega, by assumption⟩
    · have := nextSp_le h; exact ⟨by omega, by omega, this.2.2⟩
theorem cutAt_le (l : T) (w : Nat) : cutAt l w ≤ l.length := by
  unfold cutAt
  split
  · omega
  · split
    · rename_i h i e; have := lastSp_le e; omega
    · split
      · rename_i i e; have := nextSp_le e; omega
      · omega
theorem cutAt_pos {l : T} {w : Nat} (h : cutAt l w < l.length) : 1 ≤ cutAt l w := by
  unfold cutAt at h ⊢
  split
  · rename_i h1; rw [if_pos h1] at h; omega
  · rename_i h1
    split
    · rename_i i e; exact (lastSp_le e).1
    · split
      · rename_i i e; have := nextSp_le e; omega
      · omega
theorem foldF_fuel : ∀ (n m : Nat) (l : T), l.length ≤ n → l.length ≤ m → foldF n l = foldF m l
  | 0, 0, _, _, _ => rfl
  | 0, m + 1, l, h, _ => by
    have : l = [] := List.length_eq_zero_iff.mp (by omega)
    subst this; rfl
  | n + 1, 0, l, _, h => by
    have : l = [] := List.length_eq_zero_iff.mp (by omega)
    subst this; rfl
  | n + 1, m + 1, l, h1, h2 => by
    unfold foldF
    split
    · rename_i h
      have h3 := cutAt_pos h
      rw [foldF_fuel n m _ (by rw [List.length_drop]; omega) (by rw [List.length_drop]; omega)]
    · rfl
theorem fold60_step {l : T} (h : cutAt l 60 < l.length) : fold60 l = l.take (cutAt l 60) :: fold60 (l.drop (cutAt l 60)) := by
  have h3 := cutAt_pos h
  unfold fold60
  cases e : l.length with
  | zero => omega
  | succ n =>
    rw [foldF, if_pos (by rw [e] at h ⊢; exact h), foldF_fuel n (l.drop (cutAt l 60)).length _ (by rw [List.length_drop]; omega) (Nat.le_refl _)]
theorem fold60_end {l : T} (h : ¬ cutAt l 60 < l.length) : fold60 l = [l] := by
  unfold fold60
  cases e : l.length with
  | zero => rfl
  | succ n => rw [foldF, if_neg h]
theorem b_cut_at {X : Cx} (C : Ctx X N_cut_at (defScope s_cut_at) 1) (z : T) (wd : Nat) (hz : z.length ≤ 16000000) (H : Hp) (Q : VK) (hQ : ∀ n : Int, n = (cutAt z wd : Nat) → Q (.int n) H) :
    B1 X (defBody s_cut_at) (start N_cut_at [S z, .int wd]) H (fun _ H' => Q .non H') Q nobk nobk := by
  have hn := nm_cut_at C
  obtain ⟨v0, v1, v2, w0, w1, w2, g1⟩ := hn
  conv => arg 2; whnf
  walk_at "go"
  refine LenW.S (line16 hz) ?_
  walk_at "go"
  refine Bth.d (fun h => ?_) (fun h => ?_)
  · walk_at "go"
    refine LenW.S (line16 hz) ?_
    exact hQ _ (by unfold cutAt; rw [if_pos (by omega)])
  · walk_at "go"
    refine ⟨" ", 1, (wd : Int) + 1, rfl, ?_⟩
    rw [rfind_S (by omega)]
    have hc : ¬ z.length ≤ wd := by omega
    cases e1 : lastSp z wd with
    | some i =>
      have := lastSp_le e1
      walk_at "go"
      refine Bth.dF (by dsimp only; omega) ?_
      walk_at "go"
      refine Bth.dF (by dsimp only; omega) ?_
      walk_at "go"
      exact hQ _ (by unfold cutAt; rw [if_neg hc, e1])
    | none =>
      walk_at "go"
      refine ⟨" ", (wd : Int) + 1, rfl, ?_⟩
      rw [find_S (by omega)]
      cases e2 : nextSp z (z.length - (wd + 1)) (wd + 1) with
      | some i =>
        have := nextSp_le e2
        walk_at "go"
        refine Bth.dF (by dsimp only; omega) ?_
        walk_at "go"
        exact hQ _ (by unfold cutAt; rw [if_neg hc, e1]; dsimp only; rw [e2])
      | none =>
        walk_at "go"
        refine LenW.S (line16 hz) ?_
        exact hQ _ (by unfold cutAt; rw [if_neg hc, e1]; dsimp only; rw [e2])
def spCutAt : Sp := fun vs H Q _ => ∃ z : T, vs = [S z, .int 60] ∧ z.length ≤ 16000000 ∧ Q (.int (cutAt z 60 : Nat)) H
def spFold : Sp := fun vs H Q _ => ∃ z : T, vs = [S z, .int 60] ∧ z.length ≤ 16000000 ∧ ∀ r H', New H r (.lst ((fold60 z).map S)) H' → Q (.ref r) H'
theorem New.up {H H' : Hp} {r : Addr} {o o' : HO} (n : New H r o H') : New H r o' (upd H' r o') :=
  ⟨n.fr, fun b u e => by rw [upd_ne (ne_of_none e n.fr)]; exact n.same b u e, upd_same, fun b h => by rw [upd_ne h]; exact n.out b h⟩
theorem b_fold {X : Cx} (C : Ctx X N_fold (defScope s_fold) 2) (c1 : CalleeX X CX0 2 "cut_at" spCutAt) (z : T) (hz : z.length ≤ 16000000) (H : Hp) (Q : VK) (hQ : ∀ r H', New H r (.lst ((fold60 z).map S)) H' → Q (.ref r) H') :
    B1 X (defBody s_fold) (start N_fold [S z, .int 60]) H (fun _ H' => Q .non H') Q nobk nobk := by
  have hn := nm_fold C
  obtain ⟨v0, v1, v2, v3, w0, w1, w2, w3, g1, g2⟩ := hn
  conv => arg 2; whnf
  walk_at "go"
  refine ⟨hz, ?_⟩
  walk_at "go"
  refine SlV.sTo _ rfl (line16 hz) ?_
  walk_at "go"
  rename_i r H1 n1
  refine s_while C.toCok (fun m σ H' => ∃ (done : List T) (cur : T), m = cur.length ∧ cur.length ≤ z.length ∧ σ = [some (S cur), some (.int 60), some (.int (cutAt cur 60 : Nat)), some (.ref r)] ∧
    New H r (.lst ((done ++ [cur.take (cutAt cur 60)]).map S)) H' ∧ done.length + cur.length ≤ z.length ∧ fold60 z = done ++ fold60 cur) z.length ⟨[], z, rfl, Nat.le_refl _, rfl, n1, by simp, rfl⟩ ?_
  rintro m σ H2 ⟨done, cur, rfl, hl, rfl, n2, hd, he⟩
  have hc : cur.length ≤ 16000000 := by omega
  walk_at "go"
  refine LenW.S (line16 hc) ?_
  walk_at "go"
  refine Bth.d (fun h => ?_) (fun h => ?_)
  · have h3 : cutAt cur 60 < cur.length := by omega
    have h4 := cutAt_pos h3
    walk_at "go"
    refine SlV.sFrom _ rfl (line16 hc) ?_
    walk_at "go"
    have hc2 : (cur.drop (cutAt cur 60)).length ≤ 16000000 := by rw [List.length_drop]; omega
    refine ⟨hc2, ?_⟩
    walk_at "go"
    refine ⟨⟨_, n2.at_⟩, ?_⟩
    walk_at "go"
    refine SlV.sTo _ rfl (line16 hc2) ?_
    refine ⟨_, n2.at_, by simp [sizeLine]; omega, ?_⟩
    refine b_nil ⟨(cur.drop (cutAt cur 60)).length, by rw [List.length_drop]; omega, done ++ [cur.take (cutAt cur 60)], _, rfl, by rw [List.length_drop]; omega, rfl, ?_, ?_, ?_⟩
    · have := n2.up (o' := .lst ((done ++ [cur.take (cutAt cur 60)]).map S ++ [S ((cur.drop (cutAt cur 60)).take (cutAt (cur.drop (cutAt cur 60)) 60))]))
      rw [List.map_append, List.map_append] at *
      exact this
    · rw [List.length_append, List.length_drop]; simp; omega
    · rw [he, fold60_step h3]; simp
  · have h3 : ¬ cutAt cur 60 < cur.length := by omega
    walk_at "go"
    refine hQ r H2 ?_
    have h5 : cur.take (cutAt cur 60) = cur := List.take_of_length_le (by omega)
    rw [h5] at n2
    rw [he, fold60_end h3]
    exact n2
section
variable {P : Program} {w : World} {K : PySem.W.Frag} {mg : Str → Option Value} {base : Heap}
theorem c_cut_at (T : Tx w K mg base) : Callee P w K mg base CX0 2 "cut_at" spCutAt := by
  refine callee_of T 10 10 rfl rfl rfl rfl rfl fs_cut_at bd_cut_at (fun vs H Q E h => ?_) (fun X h1 h2 h3 h4 h5 C vs H Q E h => ?_)
  · obtain ⟨n, rfl, _⟩ := h; rfl
  · obtain ⟨n, rfl, hl, q⟩ := h
    exact b_cut_at C n 60 hl H Q fun b e => e ▸ q
theorem c_fold (T : Tx w K mg base) : Callee P w K mg base CX0 3 "fold" spFold := by
  have c1 := c_cut_at (P := P) T
  refine callee_of T 11 11 rfl rfl rfl rfl rfl fs_fold bd_fold (fun vs H Q E h => ?_) (fun X h1 h2 h3 h4 h5 C vs H Q E h => ?_)
  · obtain ⟨n, rfl, _⟩ := h; rfl
  · subst h1 h2 h3 h4 h5
    obtain ⟨n, rfl, hl, q⟩ := h
    exact b_fold C c1 n hl H Q q
end
end LoW
/-! ## LoMore -/
set_option Elab.async false
set_option linter.all false
set_option maxRecDepth 100000
set_option maxHeartbeats 4000000
/-! Comprehensions, raise, fields, the property, a new Letter, its value, dicts, stores. -/
namespace LoW
open PySem PySem.Spec PyProof.Rows L2 LoH LO
/-! ### comprehensions -/
structure IsBlk (X : Cx) (scope : Scope) (Xb : Cx) : Prop where
  eq : ∃ (s : Shared) (H : Hp) (C : Addr) (cl : List (Str × Addr)) (fp : List Addr), Xb = X.blk s H scope (compEnvC scope cl C X.env) fp
def okB (N : List Str) (scope : Scope) (i : Nat) (x : Str) : Bool := decide (N[i]? = some x) && (match scope.names.lookup x with
  | some .local => true
  | some .cell => true
  | _ => false)
theorem relabel_rel (scope : Scope) (env : Env) : relabel scope env = relS scope env.scope := rfl
section
variable {X Xb : Cx} {N : List Str} {sc scope : Scope} {i k : Nat} {x : Str}
theorem blk_ctx (C : Ctx X N sc k) (h : IsBlk X scope Xb) : Ctx Xb [] sc k := by
  obtain ⟨s, H, C', cl, fp, rfl⟩ := h.eq
  exact ⟨C.calm, C.tx, C.room, fun h => absurd rfl h, fun h => absurd rfl h, fun h => absurd rfl h, fun h => absurd rfl h, fun h => absurd rfl h⟩
theorem blk_V (C : Ctx X N sc k) (h : IsBlk X scope Xb) (c : okV N (relS scope sc) i x = true) : Slot Xb i x := by
  obtain ⟨s, H, C', cl, fp, rfl⟩ := h.eq
  unfold okV at c
  simp only [Bool.and_eq_true, decide_eq_true_eq] at c
  obtain ⟨h1, h2, h3, h4⟩ := c
  have hne := ne_of_at h1
  refine ⟨by show X.N[i]? = _; rw [C.hN hne]; exact h1, ?_, bnot_eq h3, bnot_eq h4⟩
  show Vis (relS scope X.env.scope) x
  rw [C.hsc hne]
  unfold Vis
  cases e : (relS scope sc).names.lookup x with
  | none => rw [e] at h2; simp at h2
  | some kd => rw [e] at h2; cases kd <;> simp_all
theorem blk_W (C : Ctx X N sc k) (h : IsBlk X scope Xb) (c : okB N scope i x = true) : SlotW Xb i x := by
  obtain ⟨s, H, C', cl, fp, rfl⟩ := h.eq
  unfold okB at c
  simp only [Bool.and_eq_true, decide_eq_true_eq] at c
  obtain ⟨h1, h2⟩ := c
  have hne := ne_of_at h1
  refine ⟨C.nd hne, by show X.N[i]? = _; rw [C.hN hne]; exact h1, ?_, ?_⟩
  · show L2.Loc (relS scope X.env.scope) x
    unfold L2.Loc
    cases e : scope.names.lookup x with
    | none => rw [e] at h2; simp at h2
    | some kd =>
      have h5 : (relS scope X.env.scope).names.lookup x = some kd := lookup_relS_keep (by rintro rfl; rw [e] at h2; cases h2) e
      rw [h5]
      rw [e] at h2
      cases kd <;> simp_all
  · show (scope.names.lookup x == some .cell) = true ∨ (relS scope X.env.scope).names.lookup x = some .local
    cases e : scope.names.lookup x with
    | none => rw [e] at h2; simp at h2
    | some kd =>
      have h5 : (relS scope X.env.scope).names.lookup x = some kd := lookup_relS_keep (by rintro rfl; rw [e] at h2; cases h2) e
      rw [h5]
      rw [e] at h2
      cases kd <;> simp_all
theorem blk_G (C : Ctx X N sc k) (h : IsBlk X scope Xb) (c : okG (relS scope sc) x = true) (hne : N ≠ [] := by intro h; cases h) : GlN Xb x := by
  obtain ⟨s, H, C', cl, fp, rfl⟩ := h.eq
  unfold okG at c
  simp only [Bool.and_eq_true] at c
  obtain ⟨h2, h3, h4⟩ := c
  refine ⟨?_, bnot_eq h3, of_decide_eq_false (bnot_eq h4)⟩
  show (relS scope X.env.scope).names.lookup x = some .globalImplicit
  rw [C.hsc hne]
  cases e : (relS scope sc).names.lookup x with
  | none => rw [e] at h2; simp at h2
  | some kd => rw [e] at h2; cases kd <;> simp_all
end
section
variable {X : Cx} {N : List Str} {sc scope : Scope} {k j : Nat} {x : Str} {σ : L2.St} {H : Hp} {Q : VK} {elt tg iter c : Expr} {own : List (Str × Nat)} {pos tp p p2 apos : Pos}
def LcG (X : Cx) (scope : Scope) (tg : Expr) : TG := fun v σ H Q => ∀ Xb, IsBlk X scope Xb → G1 Xb tg v σ H Q
def LcE (X : Cx) (scope : Scope) (e : Expr) : TE := fun σ H Q => ∀ Xb, IsBlk X scope Xb → E1 Xb e σ H Q
def LcT (X : Cx) (scope : Scope) (e : Expr) : TT := fun σ H Q => ∀ Xb, IsBlk X scope Xb → T1 Xb e σ H Q
theorem lc_hg : ∀ (s : Shared) (H : Hp) (C : Addr) (cl : List (Str × Addr)) (fp : List Addr), PG (X.blk s H scope (compEnvC scope cl C X.env) fp) tg (LcG X scope tg) := fun s0 H0 C cl fp => ⟨fun pins s σ H v u Q I r h => (h _ ⟨s0, H0, C, cl, fp, rfl⟩).run pins s u I r⟩
theorem lc_he : ∀ (s : Shared) (H : Hp) (C : Addr) (cl : List (Str × Addr)) (fp : List Addr), PE (X.blk s H scope (compEnvC scope cl C X.env) fp) elt (LcE X scope elt) := fun s0 H0 C cl fp => ⟨fun pins s σ H Q I h => (h _ ⟨s0, H0, C, cl, fp, rfl⟩).run pins s I⟩
theorem lc_ht : ∀ (s : Shared) (H : Hp) (C : Addr) (cl : List (Str × Addr)) (fp : List Addr), PT (X.blk s H scope (compEnvC scope cl C X.env) fp) c (LcT X scope c) := fun s0 H0 C cl fp => ⟨fun pins s σ H Q I h => (h _ ⟨s0, H0, C, cl, fp, rfl⟩).run pins s I⟩
/-- one turn, no test -/
def LcTurn (X : Cx) (scope : Scope) (k : Nat) (sc : Scope) (tg elt : Expr) (vs : List Nat) (σ : L2.St) (v : V) (H : Hp) (K : V → Hp → Prop) : Prop :=
  ∀ Xb, IsBlk X scope Xb → Ctx Xb [] sc k → G1 Xb tg v (wipe σ vs) H fun σ2 H2 => wipe σ2 vs = wipe σ vs ∧ ∀ Xb, IsBlk X scope Xb → Ctx Xb [] sc k → E1 Xb elt σ2 H2 K
/-- .. a test -/
def LcTurnT (X : Cx) (scope : Scope) (k : Nat) (sc : Scope) (tg c elt : Expr) (vs : List Nat) (σ : L2.St) (v : V) (H : Hp) (K : V → Hp → Prop) (K0 : Hp → Prop) : Prop :=
  ∀ Xb, IsBlk X scope Xb → Ctx Xb [] sc k → G1 Xb tg v (wipe σ vs) H fun σ2 H2 => wipe σ2 vs = wipe σ vs ∧ ∀ Xb, IsBlk X scope Xb → Ctx Xb [] sc k → T1 Xb c σ2 H2 fun b H3 => Bth b (∀ Xb, IsBlk X scope Xb → Ctx Xb [] sc k → E1 Xb elt σ2 H3 K) (K0 H3)
theorem G1.imp {v : V} {Q Q' : L2.St → Hp → Prop} (h : G1 X tg v σ H Q) (k : ∀ σ' H', Q σ' H' → Q' σ' H') : G1 X tg v σ H Q' := ⟨fun pins s u I r => thn (h.run pins s u I r) fun _ _ ⟨σ', H', I', q⟩ => ⟨σ', H', I', k _ _ q⟩⟩
/-- a comprehension's list, by the turn: D the list -/
def LcRun (D : Addr) (n : Nat) (G : Hp → Prop) (Y : Nat → Hp → V → Hp → Prop) (tn : V → Hp → (V → Hp → Prop) → Prop) (H2 : Hp) (Qd : Hp → Prop) : Prop :=
  ∃ Pv : Nat → Hp → Prop, Pv 0 H2 ∧ (∀ i H, i ≤ n → Pv i H → G H) ∧ (∀ i v H H', i < n → Pv i H → Y i H v H' → tn v H' fun y H4 => ∃ acc, H4 D = some (.lst acc) ∧ acc.length < sizeLine ∧ Pv (i + 1) (upd H4 D (.lst (acc ++ [y])))) ∧ ∀ H, Pv n H → Qd H
def LcRunT (D : Addr) (n : Nat) (G : Hp → Prop) (Y : Nat → Hp → V → Hp → Prop) (tn : V → Hp → (V → Hp → Prop) → (Hp → Prop) → Prop) (H2 : Hp) (Qd : Hp → Prop) : Prop :=
  ∃ Pv : Nat → Hp → Prop, Pv 0 H2 ∧ (∀ i H, i ≤ n → Pv i H → G H) ∧ (∀ i v H H', i < n → Pv i H → Y i H v H' → tn v H' (fun y H4 => ∃ acc, H4 D = some (.lst acc) ∧ acc.length < sizeLine ∧ Pv (i + 1) (upd H4 D (.lst (acc ++ [y])))) (Pv (i + 1))) ∧ ∀ H, Pv n H → Qd H
theorem lc_of (C : Ctx X N sc k) {J : It} {n : Nat} {G : Hp → Prop} {Y : Nat → Hp → V → Hp → Prop} {vs : List Nat} {D : Addr} {H1 : Hp} {Qd : Hp → Prop} (w : Walk J n G Y) (h : LcRun D n G Y (LcTurn X scope k sc tg elt vs σ) (upd H1 D (.lst [])) Qd) :
    ∃ W : Nat → Nat → Hp → Prop, (∃ m, W 0 m (upd H1 D (.lst []))) ∧ ∀ i m H, W i m H →
      (J.stop i H ∧ Qd H) ∨ (J.go i H ∧ ∃ Nx : Hp → Prop, (∀ H', Nx H' → ∃ m', m' < m ∧ W (i + 1) m' H') ∧ ∀ x H', J.yld i H x H' → LcG X scope tg x (wipe σ vs) H' fun σ2 H2 => wipe σ2 vs = wipe σ vs ∧ tYes σ2 H2 fun b H3 =>
        if b = true then LcE X scope elt σ2 H3 fun y H4 => ∃ acc, H4 D = some (.lst acc) ∧ acc.length < sizeLine ∧ Nx (upd H4 D (.lst (acc ++ [y]))) else Nx H3) := by
  obtain ⟨Pv, h0, hG, hs, hd⟩ := h
  refine lc_it w Pv h0 hG (fun i v H H' hi hP hy Xb hX => ?_) hd
  refine G1.imp (hs i v H H' hi hP hy Xb hX (blk_ctx C hX)) fun σ2 H2 q => ⟨q.1, ?_⟩
  show LcE X scope elt σ2 H2 _
  exact fun Xb hX => q.2 Xb hX (blk_ctx C hX)
theorem lc_ofT (C : Ctx X N sc k) {J : It} {n : Nat} {G : Hp → Prop} {Y : Nat → Hp → V → Hp → Prop} {vs : List Nat} {D : Addr} {H1 : Hp} {Qd : Hp → Prop} (w : Walk J n G Y) (h : LcRunT D n G Y (LcTurnT X scope k sc tg c elt vs σ) (upd H1 D (.lst [])) Qd) :
    ∃ W : Nat → Nat → Hp → Prop, (∃ m, W 0 m (upd H1 D (.lst []))) ∧ ∀ i m H, W i m H →
      (J.stop i H ∧ Qd H) ∨ (J.go i H ∧ ∃ Nx : Hp → Prop, (∀ H', Nx H' → ∃ m', m' < m ∧ W (i + 1) m' H') ∧ ∀ x H', J.yld i H x H' → LcG X scope tg x (wipe σ vs) H' fun σ2 H2 => wipe σ2 vs = wipe σ vs ∧ LcT X scope c σ2 H2 fun b H3 =>
        if b = true then LcE X scope elt σ2 H3 fun y H4 => ∃ acc, H4 D = some (.lst acc) ∧ acc.length < sizeLine ∧ Nx (upd H4 D (.lst (acc ++ [y]))) else Nx H3) := by
  obtain ⟨Pv, h0, hG, hs, hd⟩ := h
  refine lc_it w Pv h0 hG (fun i v H H' hi hP hy Xb hX => ?_) hd
  refine G1.imp (hs i v H H' hi hP hy Xb hX (blk_ctx C hX)) fun σ2 H2 q => ⟨q.1, fun Xb hX => ?_⟩
  refine T1.imp (q.2 Xb hX (blk_ctx C hX)) fun b H3 q => ?_
  cases b with
  | true => rw [if_pos rfl]; exact fun Xb hX => q.1 rfl Xb hX (blk_ctx C hX)
  | false => exact q.2 rfl
/-- [elt for tg in list] -/
theorem e_lcL (C : Ctx X N sc k) (own : List (Str × Nat)) (hb : blkC N sc scope own = true) (h : E1 X iter σ H fun u H1 => ∃ a xs, u = .ref a ∧ SqL X.K H1 a xs ∧ ∀ D H2, New H1 D (.lst []) H2 →
      LcRun D xs.length (fun H => SqL X.K H a xs) (YAt xs) (LcTurn X scope k sc tg elt (own.map (·.2)) σ) H2 (Q (.ref D)))
    (hs : ∀ x, foldedSetIterable iter X.env x = pure x := by intro _; rfl) (hne : N ≠ [] := by intro h; cases h) : E1 X (.ListComp elt [⟨tg, iter, [], 0⟩] scope pos) σ H Q := by
  refine E1.of (pe_lc C.calm (C.nd hne) (pi_list pE) (by rw [C.hN hne, C.hsc hne]; exact blkOk_by hb) lc_hg (fun _ _ _ _ _ => pts_nil) lc_he hs) (E1.imp h fun x H1 ⟨a, xs, e, hx, q⟩ => ⟨a, e, ⟨xs, hx⟩, fun D hD => ?_⟩)
  exact lc_of C walk_list (q D _ (New.of hD))
/-- [elt for tg in list if c] -/
theorem e_lcLT (C : Ctx X N sc k) (own : List (Str × Nat)) (hb : blkC N sc scope own = true) (h : E1 X iter σ H fun u H1 => ∃ a xs, u = .ref a ∧ SqL X.K H1 a xs ∧ ∀ D H2, New H1 D (.lst []) H2 →
      LcRunT D xs.length (fun H => SqL X.K H a xs) (YAt xs) (LcTurnT X scope k sc tg c elt (own.map (·.2)) σ) H2 (Q (.ref D)))
    (hs : ∀ x, foldedSetIterable iter X.env x = pure x := by intro _; rfl) (hne : N ≠ [] := by intro h; cases h) : E1 X (.ListComp elt [⟨tg, iter, [c], 0⟩] scope pos) σ H Q := by
  refine E1.of (pe_lc C.calm (C.nd hne) (pi_list pE) (by rw [C.hN hne, C.hsc hne]; exact blkOk_by hb) lc_hg (fun s H C' cl fp => pts_one (lc_ht s H C' cl fp)) lc_he hs) (E1.imp h fun x H1 ⟨a, xs, e, hx, q⟩ => ⟨a, e, ⟨xs, hx⟩, fun D hD => ?_⟩)
  exact lc_ofT C walk_list (q D _ (New.of hD))
/-- [elt for tg in tuple] -/
theorem e_lcTup (C : Ctx X N sc k) (own : List (Str × Nat)) (hb : blkC N sc scope own = true) (h : E1 X iter σ H fun u H1 => ∃ a xs, u = .ref a ∧ SqT X.K H1 a xs ∧ ∀ D H2, New H1 D (.lst []) H2 →
      LcRun D xs.length (fun H => SqT X.K H a xs) (YAt xs) (LcTurn X scope k sc tg elt (own.map (·.2)) σ) H2 (Q (.ref D)))
    (hs : ∀ x, foldedSetIterable iter X.env x = pure x := by intro _; rfl) (hne : N ≠ [] := by intro h; cases h) : E1 X (.ListComp elt [⟨tg, iter, [], 0⟩] scope pos) σ H Q := by
  refine E1.of (pe_lc C.calm (C.nd hne) (pi_tup pE) (by rw [C.hN hne, C.hsc hne]; exact blkOk_by hb) lc_hg (fun _ _ _ _ _ => pts_nil) lc_he hs) (E1.imp h fun x H1 ⟨a, xs, e, hx, q⟩ => ⟨a, e, ⟨xs, hx⟩, fun D hD => ?_⟩)
  exact lc_of C walk_tup (q D _ (New.of hD))
/-- [elt for tg in text] -/
theorem e_lcS (C : Ctx X N sc k) (own : List (Str × Nat)) (hb : blkC N sc scope own = true) (h : E1 X iter σ H fun u H1 => ∃ z : T, u = S z ∧ ∀ D H2, New H1 D (.lst []) H2 →
      LcRun D z.length (fun _ => True) (YAt (z.map fun c => V.str ⟨#[c]⟩)) (LcTurn X scope k sc tg elt (own.map (·.2)) σ) H2 (Q (.ref D)))
    (hs : ∀ x, foldedSetIterable iter X.env x = pure x := by intro _; rfl) (hne : N ≠ [] := by intro h; cases h) : E1 X (.ListComp elt [⟨tg, iter, [], 0⟩] scope pos) σ H Q := by
  refine E1.of (pe_lc C.calm (C.nd hne) (pi_str pE) (by rw [C.hN hne, C.hsc hne]; exact blkOk_by hb) lc_hg (fun _ _ _ _ _ => pts_nil) lc_he hs) (E1.imp h fun x H1 ⟨z, e, q⟩ => ⟨mkS z, e, fun D hD => ?_⟩)
  refine lc_of C ((walk_str (z := mkS z)).mono (fun _ h => h) fun i H x H' hi _ hy => ?_) (q D _ (New.of hD))
  obtain ⟨e1, c, e2, e3⟩ := hy
  refine ⟨e1, ?_⟩
  rw [List.getElem?_map, show z[i]? = some c by simpa using e2, e3]
  rfl
/-- [elt for tg in range(a, b)], [.. for tg in range(a) if c] -/
theorem e_lcR2 {a b : Expr} (C : Ctx X N sc k) (own : List (Str × Nat)) (g : GlN X "range") (hb : blkC N sc scope own = true) (h : E1 X a σ H fun x H1 => E1 X b σ H1 fun y H2 => ∃ lo hi : Int, x = .int lo ∧ y = .int hi ∧ (-(2 ^ 62) ≤ lo ∧ lo < 2 ^ 62 ∧ -(2 ^ 62) ≤ hi ∧ hi < 2 ^ 62) ∧ ∀ D H3, New H2 D (.lst []) H3 →
      LcRun D (hi - lo).toNat (fun _ => True) (YFn fun i => .int (lo + i)) (LcTurn X scope k sc tg elt (own.map (·.2)) σ) H3 (Q (.ref D)))
    (hs : starEach [a, b] X.env = [(false, eval a X.env), (false, eval b X.env)] := by rfl) (hs2 : starEach [b] X.env = [(false, eval b X.env)] := by rfl)
    (hf : ∀ x, foldedSetIterable (.Call (.Name "range" p) [a, b] [] apos) X.env x = pure x := by intro _; rfl) (hne : N ≠ [] := by intro h; cases h) : E1 X (.ListComp elt [⟨tg, .Call (.Name "range" p) [a, b] [] apos, [], 0⟩] scope pos) σ H Q := by
  refine E1.of (pe_lc C.calm (C.nd hne) (pi_range2 g.g (C.tx.free 71 rfl) (pa_cons pE (pa_cons pE pa_nil hs2) (hs.trans (congrArg _ hs2.symm))) hs hs2) (by rw [C.hN hne, C.hsc hne]; exact blkOk_by hb) lc_hg (fun _ _ _ _ _ => pts_nil) lc_he hf)
    (E1.imp h fun x H1 h1 => E1.imp h1 fun y H2 ⟨lo, hi, e1, e2, hbd, q⟩ => ⟨lo, hi, by rw [e1, e2], hbd, fun D hD => ?_⟩)
  exact lc_of C walk_range (q D _ (New.of hD))
theorem e_lcR1T {a : Expr} (C : Ctx X N sc k) (own : List (Str × Nat)) (g : GlN X "range") (hb : blkC N sc scope own = true) (h : E1 X a σ H fun x H1 => ∃ n : Nat, x = .int n ∧ n < 2 ^ 62 ∧ ∀ D H3, New H1 D (.lst []) H3 →
      LcRunT D n (fun _ => True) (YFn fun i => .int (i : Nat)) (LcTurnT X scope k sc tg c elt (own.map (·.2)) σ) H3 (Q (.ref D)))
    (hs : starEach [a] X.env = [(false, eval a X.env)] := by rfl)
    (hf : ∀ x, foldedSetIterable (.Call (.Name "range" p) [a] [] apos) X.env x = pure x := by intro _; rfl) (hne : N ≠ [] := by intro h; cases h) : E1 X (.ListComp elt [⟨tg, .Call (.Name "range" p) [a] [] apos, [c], 0⟩] scope pos) σ H Q := by
  refine E1.of (pe_lc C.calm (C.nd hne) (pi_range1 g.g (C.tx.free 71 rfl) (pa_cons pE pa_nil hs) hs) (by rw [C.hN hne, C.hsc hne]; exact blkOk_by hb) lc_hg (fun s H C' cl fp => pts_one (lc_ht s H C' cl fp)) lc_he hf)
    (E1.imp h fun x H1 ⟨n, e1, hn, q⟩ => ⟨n, by rw [e1], by omega, by omega, fun D hD => ?_⟩)
  have w := (walk_range (lo := 0) (n := n)).mono (G' := fun _ => True) (Y' := YFn fun i => .int (i : Nat)) (fun _ h => h) fun i H x H' _ _ ⟨e1, e2⟩ => ⟨e1, by rw [e2]; show V.int (0 + _) = _; rw [Int.zero_add]⟩
  rw [show ((n : Int).toNat) = n by omega]
  exact lc_ofT C w (q D _ (New.of hD))
/-! ### raise BadMail -/
abbrev BM (K : PySem.W.Frag) : Value := .ref (He.ga K "BadMail")
theorem s_raise {m : Str} {j : Nat} {rpos : Pos} {W : WX} {nx bk ct : L2.St → Hp → Prop} {rt : VK} (C : Ctx X N sc k) (tk : Takes X W) (g : GlN X "BadMail") (q : W (BM X.K) none σ H) : S1 X (.Raise (some (.Call (.Name "BadMail" p) [.Constant (.str m) j p2] [] pos)) none rpos) σ H nx rt bk ct := by
  obtain ⟨h1, h2, h3, h4⟩ := He.exc_ok (x := "BadMail") (C.tx.t.d.fact 98 rfl)
  exact S1.of (ps_raise C.calm tk (pmk_own PySem.F.excBase_ValueError h1 (C.tx.glo 60 rfl) h2 (raises_own h3 h4) g.g g.d)) q
/-- a callee that may raise, in a def that may -/
theorem e_callW {es : List Expr} {e : Expr} {W : WX} {sp : Sp} (Cl : CalleeX X (L2.CX X.prog X.w) k x sp) (hr : Room k X.A) (g : GlN X x) (tk : Takes X W) (h : A1 X (e :: es) σ H fun vs H1 => sp vs H1 Q (fun cls d H' => W cls d σ H'))
    (he : starEach (e :: es) X.env = (false, eval e X.env) :: starEach es X.env := by rfl) (hpl : (backTo pos (starEach es X.env)).any (·.1) = false := by rfl) : E1 X (.Call (.Name x p) (e :: es) [] pos) σ H Q :=
  e_callS (E := fun σ => WE W σ) Cl hr g (passAt tk) h he hpl
/-! ### stores -/
/-- xs[i] = e -/
theorem s_setix {o i e : Expr} {pos' : Pos} {nx bk ct : L2.St → Hp → Prop} {rt : VK} (h : E1 X e σ H fun v H1 => E1 X o σ H1 fun x H2 => E1 X i σ H2 fun y H3 => ∃ p xs k j, x = .ref p ∧ y = .int k ∧ H3 p = some (.lst xs) ∧ ixN xs.length k = some j ∧ nx σ (upd H3 p (.lst (xs.set j v))))
    (ha : ∀ v, assign (.Subscript o i pos') X.env v = (do
      let ov ← holding [v] (eval o X.env)
      let iv ← holding [v, ov] (eval i X.env)
      standAt pos'
      holding [v, ov, iv] (setItem ov iv v)
      release [v, ov, iv] []) := by intro _; rfl)
    (hs : swapsWithSole [.Subscript o i pos'] e pos.line X.env = pure false := by rfl) (hw : swappedStores [.Subscript o i pos'] e X.env = pure none := by rfl) (h1 : (assignEach [.Subscript o i pos'] X.env).map (·.2) = [assign (.Subscript o i pos') X.env] := by rfl) : S1 X (.Assign [.Subscript o i pos'] e pos) σ H nx rt bk ct :=
  S1.of (ps_asg pE (pg_sub pE pE set_list ha) hs hw h1) (E1.imp h fun v H1 h1 => E1.imp h1 fun x H2 h2 => E1.imp h2 fun y H3 ⟨p, xs, k, j, e1, e2, e3, e4, q⟩ => ⟨p, xs, k, j, e1, e2, e3, e4, q⟩)
/-- self.f = e -/
theorem s_fld {o e : Expr} {f : Str} {pos' : Pos} {nx bk ct : L2.St → Hp → Prop} {rt : VK} (h : E1 X e σ H fun y H1 => E1 X o σ H1 fun v H2 => ∃ a Cc dx fs, v = .ref a ∧ H2 a = some (.ins Cc dx fs) ∧ Cls X.K Cc ∧ NoAttr X.K Cc f ∧ fs.length < 1000 ∧ nx σ (upd H2 a (.ins Cc dx (putF f y fs))))
    (hs : swapsWith e (some (.Attribute o f pos')) pos.line X.env = pure false := by rfl) : S1 X (.Assign [.Attribute o f pos'] e pos) σ H nx rt bk ct :=
  S1.of (ps_fld pE pE hs) h
/-! ### dicts -/
theorem unit1 (C : Ctx X N sc k) : X.A.units + 1 < cLine := by have := C.room.units; omega
theorem e_dnew (h : ∀ p H2, New H p (.dK []) H2 → Q (.ref p) H2) : E1 X (.Dict [] [] pos) σ H Q := E1.of pe_dnewK fun p hp => h p _ (New.of hp)
theorem s_dput {o i e : Expr} {pos' : Pos} {nx bk ct : L2.St → Hp → Prop} {rt : VK} (C : Ctx X N sc k) (h : E1 X e σ H fun v H1 => E1 X o σ H1 fun x H2 => E1 X i σ H2 fun y H3 => ∃ a kvs z, x = .ref a ∧ y = S z ∧ H3 a = some (.dK kvs) ∧ kvs.length < sizeLine ∧ nx σ (upd H3 a (.dK (putK kvs (.inr (mkS z)) v))))
    (hs : swapsWith e (some (.Subscript o i pos')) pos.line X.env = pure false := by rfl) : S1 X (.Assign [.Subscript o i pos'] e pos) σ H nx rt bk ct :=
  S1.of (ps_dput (unit1 C) pE pE pE hs) (E1.imp h fun v H1 h1 => E1.imp h1 fun x H2 h2 => E1.imp h2 fun y H3 ⟨a, kvs, z, e1, e2, e3, e4, q⟩ => ⟨a, _, e1, by rw [e2]; exact DPut.k (k := .inr (mkS z)) e3 e4, q⟩)
theorem e_dget2 {o e f : Expr} (C : Ctx X N sc k) (h : E1 X o σ H fun x H1 => ∃ a kvs, x = .ref a ∧ H1 a = some (.dK kvs) ∧ E1 X e σ H1 fun y H2 => E1 X f σ H2 fun z H3 => ∃ kvs w, y = S w ∧ H3 a = some (.dK kvs) ∧ Q ((valV kvs (.inr (mkS w))).getD z) H3)
    (hb : attributeBase o "get" X.env (eval o X.env) = eval o X.env := by rfl)
    (hfew : ((backTo pos (starEach [e, f] X.env)).all (fun x => !x.1) && (backToKw pos (keywordEach [] X.env)).all (fun x => x.1.isSome) && decide (([e, f] : List Expr).length + ([] : List Keyword).length + (if ([] : List Keyword).isEmpty then 0 else 1) < 30)) = true := by rfl)
    (hline : (apos.endLine == pos.line) = true := by rfl) (htr : backTo pos (starEach [e, f] X.env) = [(false, eval e X.env), (false, eval f X.env)] := by rfl) : E1 X (.Call (.Attribute o "get" apos) [e, f] [] pos) σ H Q :=
  E1.of (pe_dget2 (unit1 C) pE pE pE ⟨hb, hfew, hline, htr⟩) (E1.imp h fun x H1 ⟨a, kvs, e1, e2, h1⟩ => ⟨a, e1, .inl ⟨kvs, .inl e2⟩, E1.imp h1 fun y H2 h2 => E1.imp h2 fun z H3 ⟨kvs', w, e3, e4, q⟩ => ⟨_, by rw [e3]; exact DGet.k (k := .inr (mkS w)) e4, q⟩⟩)
theorem e_dix {o i : Expr} (C : Ctx X N sc k) (h : E1 X o σ H fun x H1 => E1 X i σ H1 fun y H2 => ∃ a kvs w v, x = .ref a ∧ y = S w ∧ H2 a = some (.dK kvs) ∧ valV kvs (.inr (mkS w)) = some v ∧ Q v H2) (hs : NoSl i := by intro _ _; rfl) : E1 X (.Subscript o i pos) σ H Q :=
  E1.of (pe_dget (unit1 C) pE pE hs) (E1.imp h fun x H1 h1 => E1.imp h1 fun y H2 ⟨a, kvs, w, v, e1, e2, e3, e4, q⟩ => ⟨a, v, e1, by rw [e2, ← e4]; exact DGet.k (k := .inr (mkS w)) e3, q⟩)
end
/-! ### membership in a written display -/
section
variable {K : PySem.W.Frag} {H : Hp} {Q : VK} {a b c d e : T} {p : Addr}
theorem InV.t2 (h : H p = some (.tup [S b, S c])) (q : Q (.bl ([b, c].contains a)) H) : InV K (S a) (.ref p) H Q := InV.tT (ls := [b, c]) (SqT.of h) q
theorem InV.t3 (h : H p = some (.tup [S b, S c, S d])) (q : Q (.bl ([b, c, d].contains a)) H) : InV K (S a) (.ref p) H Q := InV.tT (ls := [b, c, d]) (SqT.of h) q
theorem InV.t4 (h : H p = some (.tup [S b, S c, S d, S e])) (q : Q (.bl ([b, c, d, e].contains a)) H) : InV K (S a) (.ref p) H Q := InV.tT (ls := [b, c, d, e]) (SqT.of h) q
theorem InV.l2 (h : H p = some (.lst [S b, S c])) (q : Q (.bl ([b, c].contains a)) H) : InV K (S a) (.ref p) H Q := InV.lL (ls := [b, c]) (SqL.of h) q
theorem InV.l3 (h : H p = some (.lst [S b, S c, S d])) (q : Q (.bl ([b, c, d].contains a)) H) : InV K (S a) (.ref p) H Q := InV.lL (ls := [b, c, d]) (SqL.of h) q
theorem InV.l4 (h : H p = some (.lst [S b, S c, S d, S e])) (q : Q (.bl ([b, c, d, e].contains a)) H) : InV K (S a) (.ref p) H Q := InV.lL (ls := [b, c, d, e]) (SqL.of h) q
theorem Bth.cT {k : Bool} {A B : Prop} (h : k = true) (a : A) : Bth k A B := by subst h; exact Bth.t a
theorem Bth.cF {k : Bool} {A B : Prop} (h : k = false) (b : B) : Bth k A B := by subst h; exact Bth.f b
end
/-- a new object among others -/
structure New1 (H : Hp) (p : Addr) (o : HO) (H' : Hp) : Prop where
  fr : H p = none
  same : Same H H'
  at_ : H' p = some o
theorem New1.of {H H' : Hp} {p : Addr} {o : HO} (n : New H p o H') : New1 H p o H' := ⟨n.fr, n.same, n.at_⟩
theorem New1.pre {H H1 H' : Hp} {p : Addr} {o : HO} (s : Same H H1) (n : New1 H1 p o H') : New1 H p o H' := ⟨s.free n.fr, s.trans n.same, n.at_⟩
theorem New1.post {H H1 H' : Hp} {p : Addr} {o : HO} (n : New1 H p o H1) (s : Same H1 H') : New1 H p o H' := ⟨n.fr, n.same.trans s, s _ _ n.at_⟩
theorem New1.post2 {H H1 H' : Hp} {p : Addr} {o : HO} (s : Same H1 H') (n : New1 H p o H1) : New1 H p o H' := n.post s
theorem New1.up {H H' : Hp} {r : Addr} {o o' : HO} (n : New1 H r o H') : New1 H r o' (upd H' r o') :=
  ⟨n.fr, fun b u e => by rw [upd_ne (ne_of_none e n.fr)]; exact n.same b u e, upd_same⟩
theorem Same.get {H H' : Hp} {a : Addr} {o : HO} (h : Same H H') (e : H a = some o) : H' a = some o := h _ _ e
section
variable {X : Cx} {σ : L2.St} {H H0 : Hp} {nx bk ct : L2.St → Hp → Prop} {rt : VK} {e : Expr} {x : Str} {i : Nat} {p apos cpos pos : Pos} {r : Addr}
/-- xs.append(e), the text e -/
theorem s_app (ls : List T) (sl : Slot X i x) (hx : σ[i]? = some (some (.ref r))) (n : New1 H0 r (.lst (ls.map S)) H) (hl : ls.length ≤ 15000000) (h : E1 X e σ H fun v H1 => ∃ z, v = S z ∧ Same H H1 ∧ ∀ H2, New1 H0 r (.lst ((ls ++ [z]).map S)) H2 → nx σ H2)
    (hs : swapsWith (.Call (.Attribute (.Name x p) "append" apos) [e] [] cpos) none pos.line X.env = pure false := by rfl)
    (hbase : attributeBase (.Name x p) "append" X.env (eval (.Name x p) X.env) = eval (.Name x p) X.env := by rfl) (hfew : ((backTo cpos (starEach [e] X.env)).all (fun x => !x.1) && (backToKw cpos (keywordEach [] X.env)).all (fun x => x.1.isSome)
      && decide ([e].length + ([] : List Keyword).length + (if ([] : List Keyword).isEmpty then 0 else 1) < 30)) = true := by rfl)
    (hline : (apos.endLine == cpos.line) = true := by rfl) (hst : starEach [e] X.env = (false, eval e X.env) :: starEach [] X.env := by rfl) (hplain : (backTo cpos (starEach [] X.env)).any (·.1) = false := by rfl) :
    S1 X (.Expr (.Call (.Attribute (.Name x p) "append" apos) [e] [] cpos) pos) σ H nx rt bk ct := by
  refine s_expr (e_append (e_var sl hx ⟨r, rfl, ⟨_, n.at_⟩, E1.imp h fun v H1 ⟨z, e1, sm, q⟩ => ?_⟩) hbase hfew hline hst hplain) hs
  subst e1
  have n1 := n.post sm
  refine ⟨_, n1.at_, by rw [List.length_map]; exact Nat.lt_of_lt_of_le (show ls.length < 16000000 by omega) (by decide), q _ ?_⟩
  have := n1.up (o' := .lst (ls.map S ++ [S z]))
  rw [List.map_append]; exact this
end
end LoW
set_option maxHeartbeats 4000000
namespace LoW
open PySem PySem.Spec PyProof.Rows L2 LoH LO
/-! one step of a body's walk, by the shape of what stands next -/
local macro_rules | `(tactic| walk_at "fin") => `(tactic| first | (with_reducible assumption) | (with_reducible rfl) | rfl | (intro _; rfl) | (intro _ _; rfl) | skip)
local macro_rules | `(tactic| walk_at "at") => `(tactic| first | (with_reducible assumption) | (refine New.at_ (by with_reducible assumption)) | (refine New1.at_ (by with_reducible assumption)) | (refine New.same (by with_reducible assumption) _ _ ?_; walk_at "at") | (refine New1.same (by with_reducible assumption) _ _ ?_; walk_at "at") | (refine Same.get (by with_reducible assumption) ?_; walk_at "at"))
local macro_rules | `(tactic| walk_at "same") => `(tactic| first | (with_reducible assumption) | exact Same.refl _ | (refine Same.trans ?_ (New.same (by with_reducible assumption)); walk_at "same") | (refine Same.trans ?_ (New1.same (by with_reducible assumption)); walk_at "same") | (refine Same.trans ?_ (by with_reducible assumption); walk_at "same"))
local macro_rules | `(tactic| walk_at "n1") => `(tactic| first | (with_reducible assumption) | (with_reducible apply New1.post2 (New.same (by with_reducible assumption)); walk_at "n1") | (with_reducible apply New1.post2 (by with_reducible assumption); walk_at "n1"))
local macro_rules | `(tactic| walk_at "C") => `(tactic| first
  | (with_reducible apply e_cmp op_lt) <;> walk_at "fin"
  | (with_reducible apply e_cmp op_gt) <;> walk_at "fin"
  | (with_reducible apply e_cmp op_ge) <;> walk_at "fin"
  | (with_reducible apply e_cmp op_leV) <;> walk_at "fin"
  | (with_reducible apply e_cmp (op_eqV (Ctx.room ‹_›).units)) <;> walk_at "fin"
  | (with_reducible apply e_cmp (op_neV (Ctx.room ‹_›).units)) <;> walk_at "fin"
  | (with_reducible apply e_cmp op_inV) <;> walk_at "fin"
  | (with_reducible apply e_cmp op_notInV) <;> walk_at "fin"
  | (with_reducible apply e_cmp op_isN) <;> walk_at "fin"
  | (with_reducible apply e_cmp op_notN) <;> walk_at "fin"
  | (with_reducible apply e_chain_le) <;> walk_at "fin")
local macro_rules | `(tactic| walk_at "calln") => `(tactic| first | (refine e_call (CX := CX0) (E := E0) (by with_reducible assumption) ((Ctx.room ‹_›).mono (by decide)) (by with_reducible assumption) pass0 ?_) | ((with_reducible apply e_isi) <;> walk_at "fin") | ((with_reducible apply e_len) <;> walk_at "fin") | ((with_reducible apply e_ord) <;> walk_at "fin") | ((with_reducible apply e_str1) <;> walk_at "fin") | ((with_reducible apply e_int1) <;> walk_at "fin") | ((with_reducible apply e_max2) <;> walk_at "fin") | ((with_reducible apply e_min2) <;> walk_at "fin") | ((with_reducible apply e_sum1) <;> walk_at "fin") | ((with_reducible apply e_tupleL) <;> walk_at "fin"))
local macro_rules | `(tactic| walk_at "callm") => `(tactic| first | ((with_reducible apply e_parts) <;> walk_at "fin") | ((with_reducible apply e_dget2) <;> walk_at "fin") | ((with_reducible apply e_split) <;> walk_at "fin") | ((with_reducible apply e_partition) <;> walk_at "fin") | ((with_reducible apply e_join) <;> walk_at "fin") | ((with_reducible apply e_count) <;> walk_at "fin") | ((with_reducible apply e_rfind4) <;> walk_at "fin") | ((with_reducible apply e_find3) <;> walk_at "fin") | ((with_reducible apply e_append) <;> walk_at "fin") | ((with_reducible apply e_extend) <;> walk_at "fin"))
local macro_rules | `(tactic| walk_at "name") => `(tactic| first | (refine e_var (by with_reducible assumption) (by rfl) ?_) | ((with_reducible apply e_ty_int) <;> walk_at "fin") | ((with_reducible apply e_ty_str) <;> walk_at "fin") | ((with_reducible apply e_ty_bool) <;> walk_at "fin") | ((with_reducible apply e_ty_tuple) <;> walk_at "fin") | ((with_reducible apply e_ty_list) <;> walk_at "fin") | ((with_reducible apply e_LONGEST_NAME) <;> walk_at "fin") | ((with_reducible apply e_GREATEST_NUMBER) <;> walk_at "fin") | ((with_reducible apply e_LONGEST_TEXT) <;> walk_at "fin") | ((with_reducible apply e_LONGEST_TITLE) <;> walk_at "fin") | ((with_reducible apply e_MOST_MEMBERS) <;> walk_at "fin") | ((with_reducible apply e_WIDTH) <;> walk_at "fin") | ((with_reducible apply e_MOST_DIGITS) <;> walk_at "fin") | ((with_reducible apply e_LETTERS) <;> walk_at "fin") | ((with_reducible apply e_DIGITS_names) <;> walk_at "fin") | ((with_reducible apply e_DIGITS_headers) <;> walk_at "fin") | ((with_reducible apply e_MARK) <;> walk_at "fin") | ((with_reducible apply e_LAST) <;> walk_at "fin"))
local macro_rules | `(tactic| walk_at "E") => `(tactic| first
  | ((with_reducible show E1 _ (Expr.Name _ _) _ _ _); walk_at "name")
  | ((with_reducible show E1 _ (Expr.Constant _ _ _) _ _ _); first | ((with_reducible apply e_int) <;> walk_at "fin") | ((with_reducible apply e_strS) <;> walk_at "fin") | ((with_reducible apply e_bl) <;> walk_at "fin") | ((with_reducible apply e_non) <;> walk_at "fin"))
  | ((with_reducible show E1 _ (Expr.Call (Expr.Name _ _) _ _ _) _ _ _); walk_at "calln")
  | ((with_reducible show E1 _ (Expr.Call (Expr.Attribute _ _ _) _ _ _) _ _ _); walk_at "callm")
  | ((with_reducible show E1 _ (Expr.Compare _ _ _ _) _ _ _); walk_at "C")
  | ((with_reducible show E1 _ (Expr.BinOp _ _ _ _) _ _ _); first | ((with_reducible apply e_add) <;> walk_at "fin") | ((with_reducible apply e_sub) <;> walk_at "fin") | ((with_reducible apply e_mul) <;> walk_at "fin") | ((with_reducible apply e_mod) <;> walk_at "fin") | ((with_reducible apply e_fdiv) <;> walk_at "fin") | ((with_reducible apply e_pow) <;> walk_at "fin"))
  | ((with_reducible show E1 _ (Expr.Subscript _ _ _) _ _ _); first | ((with_reducible apply e_slice) <;> walk_at "fin") | ((with_reducible apply e_ix) <;> walk_at "fin"))
  | ((with_reducible show E1 _ (Expr.UnaryOp _ _ _) _ _ _); first | ((with_reducible apply e_not) <;> walk_at "fin") | ((with_reducible apply e_neg) <;> walk_at "fin"))
  | ((with_reducible show E1 _ (Expr.BoolOp _ _ _) _ _ _); first | ((with_reducible apply e_one) <;> walk_at "fin") | ((with_reducible apply e_and) <;> walk_at "fin") | ((with_reducible apply e_or) <;> walk_at "fin"))
  | ((with_reducible show E1 _ (Expr.Tuple _ _ _) _ _ _); (with_reducible apply e_tup) <;> walk_at "fin")
  | ((with_reducible show E1 _ (Expr.List _ _) _ _ _); (with_reducible apply e_lst) <;> walk_at "fin")
  | ((with_reducible show E1 _ (Expr.IfExp _ _ _ _) _ _ _); (with_reducible apply e_if) <;> walk_at "fin")
  | ((with_reducible show E1 _ (Expr.Dict _ _ _) _ _ _); (with_reducible apply e_dnew) <;> walk_at "fin"))
local macro_rules | `(tactic| walk_at "T") => `(tactic| first
  | (with_reducible apply t_cmp op_lt) <;> walk_at "fin"
  | (with_reducible apply t_cmp op_gt) <;> walk_at "fin"
  | (with_reducible apply t_cmp op_ge) <;> walk_at "fin"
  | (with_reducible apply t_cmp op_leV) <;> walk_at "fin"
  | (with_reducible apply t_cmp (op_eqV (Ctx.room ‹_›).units)) <;> walk_at "fin"
  | (with_reducible apply t_cmp (op_neV (Ctx.room ‹_›).units)) <;> walk_at "fin"
  | (with_reducible apply t_cmp op_inV) <;> walk_at "fin"
  | (with_reducible apply t_cmp op_notInV) <;> walk_at "fin"
  | (with_reducible apply t_cmp op_isN) <;> walk_at "fin"
  | (with_reducible apply t_cmp op_notN) <;> walk_at "fin"
  | (with_reducible apply t_chain_le) <;> walk_at "fin"
  | (with_reducible refine t_w (w_or ?_))
  | (with_reducible refine t_w (w_and ?_))
  | (with_reducible apply w_or)
  | (with_reducible apply w_and)
  | (with_reducible apply w_or1)
  | (with_reducible apply w_and1)
  | (with_reducible apply t_not)
  | (with_reducible apply t_call) <;> walk_at "fin")
local macro_rules | `(tactic| walk_at "V") => `(tactic| first
  | ((with_reducible show Bth _ _ _); first
    | ((with_reducible apply Bth.t) <;> walk_at "fin")
    | ((with_reducible apply Bth.f) <;> walk_at "fin")
    | ((with_reducible apply Bth.nt) <;> walk_at "fin")
    | ((with_reducible apply Bth.nf) <;> walk_at "fin")
    | (refine Bth.dT (by decide +kernel) ?_)
    | (refine Bth.dF (by decide +kernel) ?_)
    | (refine Bth.ndT (by decide +kernel) ?_)
    | (refine Bth.ndF (by decide +kernel) ?_)
    | (refine Bth.ndT (by rfl) ?_)
    | (refine Bth.dT (by rfl) ?_)
    | (refine Bth.cT (by decide +kernel) ?_)
    | (refine Bth.cF (by decide +kernel) ?_))
  | ((with_reducible show AddV _ _ _ _); (with_reducible apply AddV.i) <;> walk_at "fin")
  | ((with_reducible show EqV _ _ _ _ _); first | ((with_reducible apply EqV.I) <;> walk_at "fin") | ((with_reducible apply EqV.S) <;> walk_at "fin"))
  | ((with_reducible show NeV _ _ _ _ _); first | ((with_reducible apply NeV.I) <;> walk_at "fin") | ((with_reducible apply NeV.S) <;> walk_at "fin"))
  | ((with_reducible show InV _ _ _ _ _); first | ((with_reducible apply InV.c) <;> walk_at "fin") | (refine InV.t4 (by walk_at "at") ?_) | (refine InV.t3 (by walk_at "at") ?_) | (refine InV.t2 (by walk_at "at") ?_) | (refine InV.l4 (by walk_at "at") ?_) | (refine InV.l3 (by walk_at "at") ?_) | (refine InV.l2 (by walk_at "at") ?_))
  | ((with_reducible show NotInV _ _ _ _ _); (with_reducible apply NotInV.c) <;> walk_at "fin")
  | ((with_reducible show LeV _ _ _ _); first | ((with_reducible apply LeV.i) <;> walk_at "fin") | ((with_reducible apply LeV.s) <;> walk_at "fin"))
  | ((with_reducible show IsiV _ _ _ _); first | ((with_reducible apply IsiV.ii) <;> walk_at "fin") | ((with_reducible apply IsiV.ib) <;> walk_at "fin") | ((with_reducible apply IsiV.ss) <;> walk_at "fin") | ((with_reducible apply IsiV.ns) <;> walk_at "fin") | (refine IsiV.tt (by walk_at "at") ?_) | (refine IsiV.ll (by walk_at "at") ?_))
  | ((with_reducible show IntW _ _ _); (with_reducible apply IntW.i) <;> walk_at "fin")
  | ((with_reducible show IxV _ _ _ _ _); (refine IxV.t (SqT.of (by walk_at "at")) (by rfl) ?_))
  | ((with_reducible show LenW _ _ _ _); (refine LenW.t (SqT.of (by walk_at "at")) ?_))
  | ((with_reducible show List.length _ ≤ sizeLine ∧ _); refine ⟨line16 (by simp), fun _ _ _ => ?_⟩)
  | (refine ⟨by walk_at "same", fun _ _ => ?_⟩)
  | (refine ⟨_, rfl, ?_⟩) <;> walk_at "fin"
  | (refine And.intro rfl ?_)
  | (refine ⟨_, _, rfl, rfl, ?_⟩) <;> walk_at "fin")
local macro_rules | `(tactic| walk_at "S") => `(tactic| first
  | (with_reducible apply b_cons) <;> walk_at "fin"
  | (with_reducible apply b_nil) <;> walk_at "fin"
  | (with_reducible apply s_if) <;> walk_at "fin"
  | (with_reducible apply s_ret) <;> walk_at "fin"
  | (refine s_app _ (by with_reducible assumption) (by rfl) (by walk_at "n1") (by first | omega | (simp <;> omega)) ?_)
  | (with_reducible apply s_expr) <;> walk_at "fin"
  | (with_reducible apply s_break) <;> walk_at "fin"
  | (with_reducible apply s_pass) <;> walk_at "fin"
  | (refine s_set (by with_reducible assumption) ?_)
  | (refine g_name (by with_reducible assumption) ?_)
  | (with_reducible apply a_cons) <;> walk_at "fin"
  | (with_reducible apply a_nil) <;> walk_at "fin"
  | (with_reducible apply p_some) <;> walk_at "fin"
  | (with_reducible apply p_none) <;> walk_at "fin")
local macro_rules | `(tactic| walk_at "st") => `(tactic| first
  | ((with_reducible show E1 _ _ _ _ _); walk_at "E")
  | ((with_reducible show S1 _ _ _ _ _ _ _ _); walk_at "S")
  | ((with_reducible show B1 _ _ _ _ _ _ _ _); walk_at "S")
  | ((with_reducible show A1 _ _ _ _ _); walk_at "S")
  | ((with_reducible show P1 _ _ _ _ _); walk_at "S")
  | ((with_reducible show G1 _ _ _ _ _ _); walk_at "S")
  | ((with_reducible show T1 _ _ _ _ _); walk_at "T")
  | ((with_reducible show W1 _ _ _ _ _); walk_at "T")
  | walk_at "V")
local macro_rules | `(tactic| walk_at "go") => `(tactic| repeat walk_at "st")
/-! ## LoBody1 -/
def Sm (z : T) : Prop := z.length ≤ 16000000
theorem asc_take : ∀ (ms : List T), asc ms = true → ∀ i, asc (ms.take i) = true
  | [], _, i => by simp [asc]
  | [a], _, i => by cases i <;> simp [asc]
  | a :: b :: r, h, i => by
    have h' : a < b ∧ asc (b :: r) = true := by simpa [asc] using h
    match i with
    | 0 => simp [asc]
    | 1 => simp [asc]
    | i + 2 =>
      have ih := asc_take (b :: r) h'.2 (i + 1)
      rw [List.take_succ_cons] at ih
      rw [List.take_succ_cons, List.take_succ_cons]
      simp only [asc, Bool.and_eq_true, decide_eq_true_eq]
      exact ⟨h'.1, ih⟩
theorem asc_snoc : ∀ (l : List T) (b a : T), asc (l ++ [b, a]) = (asc (l ++ [b]) && decide (b < a))
  | [], b, a => by simp [asc]
  | [c], b, a => by simp [asc]
  | c :: d :: r, b, a => by
    have ih := asc_snoc (d :: r) b a
    show asc (c :: d :: (r ++ [b, a])) = (asc (c :: d :: (r ++ [b])) && _)
    simp only [asc]
    rw [show d :: (r ++ [b, a]) = d :: r ++ [b, a] from rfl, ih, Bool.and_assoc]; rfl
theorem asc_step {ms : List T} {i : Nat} {b a : T} (h1 : ms[i]? = some b) (h2 : ms[i + 1]? = some a) : asc (ms.take (i + 2)) = (asc (ms.take (i + 1)) && decide (b < a)) := by
  have e1 : ms.take (i + 1) = ms.take i ++ [b] := by rw [List.take_add_one, h1]; rfl
  have e2 : ms.take (i + 2) = ms.take i ++ [b, a] := by rw [List.take_add_one, h2, e1, List.append_assoc]; rfl
  rw [e1, e2, asc_snoc]
def spIsMembers : Sp := fun vs H Q _ => ∃ (v : V) (ms : List T), vs = [v] ∧ Tp H v (.tuple (ms.map strD)) ∧ (∀ m ∈ ms, Sm m) ∧ ms.length ≤ 16000000 ∧ ∀ H', Same H H' → Q (.bl (isMembers ms)) H'
theorem members_no {ms : List T} {i : Nat} {x : T} (h : ms[i]? = some x) (hx : isName x = false) : isMembers ms = false := by
  have : ms.all isName = false := by
    rw [Bool.eq_false_iff]; intro hh
    rw [List.all_eq_true.mp hh x (List.mem_of_getElem? h)] at hx; cases hx
  unfold isMembers; rw [this]; simp
theorem members_no2 {ms : List T} {i : Nat} {b a : T} (h1 : ms[i]? = some b) (h2 : ms[i + 1]? = some a) (h : ¬ b < a) : isMembers ms = false := by
  have : asc ms = false := by
    rw [Bool.eq_false_iff]; intro hh
    have := asc_take ms hh (i + 2)
    rw [asc_step h1 h2] at this
    simp at this
    exact h this.2
  unfold isMembers; rw [this]; simp
theorem all_step {ms : List T} {i : Nat} {x : T} (h : ms[i]? = some x) (h1 : (ms.take i).all isName = true) (h2 : isName x = true) : (ms.take (i + 1)).all isName = true := by
  rw [List.take_add_one, h, List.all_append, h1]; simp [h2]
theorem b_is_members {X : Cx} (C : Ctx X N_is_members (defScope s_is_members) 2) (c1 : CalleeX X CX0 2 "is_name" spIsName) (v : V) (ms : List T) (H : Hp) (ht : Tp H v (.tuple (ms.map strD))) (hs : ∀ m ∈ ms, Sm m) (hl : ms.length ≤ 16000000) (Q : VK) (hQ : ∀ H' b, Same H H' → b = isMembers ms → Q (.bl b) H') :
    B1 X (defBody s_is_members) (start N_is_members [v]) H (fun _ H' => Q .non H') Q nobk nobk := by
  have hn := nm_is_members C
  obtain ⟨v0, v1, v2, w0, w1, w2, g1, g2, g3, g4, g5, g6⟩ := hn
  obtain ⟨a, xs, rfl, ha, hx⟩ := ht.tup_inv
  obtain rfl := hx.strs
  conv => arg 2; whnf
  walk_at "go"
  rw [List.length_map]
  refine Bth.d (fun h => ?_) (fun h => ?_)
  · walk_at "go"
    exact hQ _ _ (Same.refl _) (by unfold isMembers; rw [decide_eq_false (show ¬ ms.length ≤ 15 by omega)]; rfl)
  walk_at "go"
  refine s_for_enumT C (by with_reducible assumption) ?_
  walk_at "go"
  refine ⟨a, _, rfl, ha, fun i σ H' => ∃ o1 o2, σ = [some (.ref a), o1, o2] ∧ Same H H' ∧ (ms.take i).all isName = true ∧ asc (ms.take i) = true, ⟨none, none, rfl, Same.refl _, rfl, rfl⟩, fun i σ H' _ ⟨_, _, _, h2, _⟩ => h2 _ _ ha, ?_, ?_⟩
  · rintro i x σ H1 q H2 hi ⟨o1, o2, rfl, hH, h3, h4⟩ n2
    obtain ⟨nm, hnm, rfl⟩ : ∃ nm, ms[i]? = some nm ∧ S nm = x := by rw [List.getElem?_map] at hi; cases e : ms[i]? with
      | none => rw [e] at hi; cases hi
      | some z => rw [e] at hi; exact ⟨z, rfl, Option.some.inj hi⟩
    have hH2 : Same H H2 := hH.trans n2.same
    refine g_tup C.calm (SqT.of n2.at_) rfl ?_
    refine gs_cons ?_
    walk_at "go"
    refine gs_cons ?_
    walk_at "go"
    refine gs_nil ?_
    walk_at "go"
    refine ⟨hs nm (List.mem_of_getElem? hnm), ?_⟩
    walk_at "go"
    refine Bth.n (fun h5 => ?_) (fun h5 => ?_)
    · walk_at "go"
      exact hQ _ _ hH2 (members_no hnm h5).symm
    walk_at "go"
    refine Bth.d (fun h6 => ?_) (fun h6 => ?_)
    · obtain ⟨j, rfl⟩ : ∃ j, i = j + 1 := ⟨i - 1, by omega⟩
      have hj : j < ms.length := by have := (List.getElem?_eq_some_iff.mp hnm).1; omega
      have hp : ms[j]? = some ms[j] := List.getElem?_eq_getElem hj
      walk_at "go"
      refine IxV.t (SqT.of (hH2 _ _ ha)) (v := S ms[j]) ?_ ?_
      · rw [show (((j + 1 : Nat) : Int) - 1) = ((j : Nat) : Int) by omega]
        exact atI_nat (by rw [List.getElem?_map, hp]; rfl)
      walk_at "go"
      refine Bth.dn (fun h7 => ?_) (fun h7 => ?_)
      · walk_at "go"
        exact hQ _ _ hH2 (members_no2 hp hnm h7).symm
      · walk_at "go"
        refine ⟨_, _, rfl, hH2, all_step hnm h3 h5, ?_⟩
        rw [asc_step hp hnm, h4]; simpa using h7
    · obtain rfl : i = 0 := by omega
      walk_at "go"
      refine ⟨_, _, rfl, hH2, all_step hnm h3 h5, ?_⟩
      cases ms with
      | nil => rfl
      | cons b r => rfl
  · rintro σ H' ⟨o1, o2, rfl, hH, h3, h4⟩
    rw [List.length_map, List.take_length] at h3 h4
    walk_at "go"
    exact hQ _ _ hH (by unfold isMembers; rw [h3, h4, decide_eq_true (show ms.length ≤ 15 by omega)]; rfl)
section
variable {P : Program} {w : World} {K : PySem.W.Frag} {mg : Str → Option Value} {base : Heap}
theorem c_is_members (T : Tx w K mg base) : Callee P w K mg base CX0 3 "is_members" spIsMembers := by
  have c1 := (c_is_name (P := P) T).mono (by decide : 1 ≤ 2)
  refine callee_of T 6 6 rfl rfl rfl rfl rfl fs_is_members bd_is_members (fun vs H Q E h => ?_) (fun X h1 h2 h3 h4 h5 C vs H Q E h => ?_)
  · obtain ⟨n, _, rfl, _⟩ := h; rfl
  · subst h1 h2 h3 h4 h5
    obtain ⟨v, ms, rfl, ht, hs, hl, q⟩ := h
    exact b_is_members C c1 v ms H ht hs hl Q fun H' b hb e => e ▸ q H' hb
end
/-! ### is_seen -/
def SmR (r : Rf) : Prop := Sm r.1
theorem TpAll.refs {H : Hp} {rs : List Rf} {xs : List V} (h : TpAll H xs (rs.map refD)) {i : Nat} {x : V} (e : xs[i]? = some x) : ∃ r b, rs[i]? = some r ∧ x = .ref b ∧ H b = some (.tup [S r.1, .int r.2]) := by
  obtain ⟨d, h1, h2⟩ := h.get e
  rw [List.getElem?_map] at h1
  cases hr : rs[i]? with
  | none => rw [hr] at h1; cases h1
  | some r =>
    rw [hr] at h1
    cases h1
    obtain ⟨b, ys, rfl, hb, hy⟩ := h2.tup_inv
    obtain ⟨x1, _, rfl, t1, hy⟩ := hy.cons_inv
    obtain ⟨x2, _, rfl, t2, hy⟩ := hy.cons_inv
    obtain rfl := hy.nil_inv
    obtain rfl := t1.str_inv
    obtain rfl := t2.int_inv
    exact ⟨r, b, rfl, rfl, hb⟩
theorem Tp.ref_of {H : Hp} {b : Addr} {r : Rf} (h : H b = some (.tup [S r.1, .int r.2])) : Tp H (.ref b) (refD r) := .tup h (.cons (.str _) (.cons (.int _) .nil))
def spIsSeen : Sp := fun vs H Q _ => ∃ (v : V) (rs : List Rf), vs = [v] ∧ Tp H v (.tuple (rs.map refD)) ∧ (∀ m ∈ rs, SmR m) ∧ ∀ H', Same H H' → Q (.bl (isSeen rs)) H'
theorem seen_no {rs : List Rf} {i : Nat} {x : Rf} (h : rs[i]? = some x) (hx : isRef x = false) : isSeen rs = false := by
  have : rs.all isRef = false := by
    rw [Bool.eq_false_iff]; intro hh
    rw [List.all_eq_true.mp hh x (List.mem_of_getElem? h)] at hx; cases hx
  unfold isSeen; rw [this]; simp
theorem seen_no2 {rs : List Rf} {i : Nat} {b a : Rf} (h1 : rs[i]? = some b) (h2 : rs[i + 1]? = some a) (h : ¬ b.1 < a.1) : isSeen rs = false := by
  have : asc (rs.map (·.1)) = false := by
    rw [Bool.eq_false_iff]; intro hh
    have := asc_take _ hh (i + 2)
    rw [asc_step (b := b.1) (a := a.1) (by rw [List.getElem?_map, h1]; rfl) (by rw [List.getElem?_map, h2]; rfl)] at this
    simp at this
    exact h this.2
  unfold isSeen; rw [this]; simp
theorem allR_step {rs : List Rf} {i : Nat} {x : Rf} (h : rs[i]? = some x) (h1 : (rs.take i).all isRef = true) (h2 : isRef x = true) : (rs.take (i + 1)).all isRef = true := by
  rw [List.take_add_one, h, List.all_append, h1]; simp [h2]
theorem b_is_seen {X : Cx} (C : Ctx X N_is_seen (defScope s_is_seen) 3) (c1 : CalleeX X CX0 3 "is_ref" spIsRef) (v : V) (rs : List Rf) (H : Hp) (ht : Tp H v (.tuple (rs.map refD))) (hs : ∀ m ∈ rs, SmR m) (Q : VK) (hQ : ∀ H' b, Same H H' → b = isSeen rs → Q (.bl b) H') :
    B1 X (defBody s_is_seen) (start N_is_seen [v]) H (fun _ H' => Q .non H') Q nobk nobk := by
  have hn := nm_is_seen C
  obtain ⟨v0, v1, v2, w0, w1, w2, g1, g2, g3, g4⟩ := hn
  obtain ⟨a, xs, rfl, ha, hx⟩ := ht.tup_inv
  have hlen : xs.length = rs.length := by rw [hx.len, List.length_map]
  conv => arg 2; whnf
  walk_at "go"
  refine s_for_enumT C (by with_reducible assumption) ?_
  walk_at "go"
  refine ⟨a, _, rfl, ha, fun i σ H' => ∃ o1 o2, σ = [some (.ref a), o1, o2] ∧ Same H H' ∧ (rs.take i).all isRef = true ∧ asc ((rs.map (·.1)).take i) = true, ⟨none, none, rfl, Same.refl _, rfl, rfl⟩, fun i σ H' _ ⟨_, _, _, h2, _⟩ => h2 _ _ ha, ?_, ?_⟩
  · rintro i x σ H1 q H2 hi ⟨o1, o2, rfl, hH, h3, h4⟩ n2
    obtain ⟨r, b, hr, rfl, hb⟩ := hx.refs hi
    have hH2 : Same H H2 := hH.trans n2.same
    have hb2 := hH2 _ _ hb
    have t2 := Tp.ref_of hb2
    refine g_tup C.calm (SqT.of n2.at_) rfl ?_
    refine gs_cons ?_
    walk_at "go"
    refine gs_cons ?_
    walk_at "go"
    refine gs_nil ?_
    walk_at "go"
    refine ⟨_, r, rfl, t2, hs r (List.mem_of_getElem? hr), ?_⟩
    walk_at "go"
    refine Bth.n (fun h5 => ?_) (fun h5 => ?_)
    · walk_at "go"
      exact hQ _ _ hH2 (seen_no hr h5).symm
    walk_at "go"
    refine Bth.d (fun h6 => ?_) (fun h6 => ?_)
    · obtain ⟨j, rfl⟩ : ∃ j, i = j + 1 := ⟨i - 1, by omega⟩
      have hj : j < xs.length := by have := (List.getElem?_eq_some_iff.mp hr).1; omega
      obtain ⟨r0, b0, hr0, e0, hb0⟩ := hx.refs (List.getElem?_eq_getElem hj)
      have hb02 := hH2 _ _ hb0
      walk_at "go"
      refine IxV.t (SqT.of (hH2 _ _ ha)) (v := .ref b0) ?_ ?_
      · rw [show (((j + 1 : Nat) : Int) - 1) = ((j : Nat) : Int) by omega]
        exact atI_nat (by rw [List.getElem?_eq_getElem hj, e0])
      walk_at "go"
      refine Bth.dn (fun h7 => ?_) (fun h7 => ?_)
      · walk_at "go"
        exact hQ _ _ hH2 (seen_no2 hr0 hr h7).symm
      · walk_at "go"
        refine ⟨_, _, rfl, hH2, allR_step hr h3 h5, ?_⟩
        rw [asc_step (b := r0.1) (a := r.1) (by rw [List.getElem?_map, hr0]; rfl) (by rw [List.getElem?_map, hr]; rfl), h4]; simpa using h7
    · obtain rfl : i = 0 := by omega
      walk_at "go"
      refine ⟨_, _, rfl, hH2, allR_step hr h3 h5, ?_⟩
      cases rs with
      | nil => rfl
      | cons b r => rfl
  · rintro σ H' ⟨o1, o2, rfl, hH, h3, h4⟩
    rw [hlen, List.take_length] at h3
    rw [hlen, show rs.length = (rs.map (·.1)).length by simp, List.take_length] at h4
    walk_at "go"
    exact hQ _ _ hH (by unfold isSeen; rw [h3, h4]; rfl)
section
variable {P : Program} {w : World} {K : PySem.W.Frag} {mg : Str → Option Value} {base : Heap}
theorem c_is_seen (T : Tx w K mg base) : Callee P w K mg base CX0 4 "is_seen" spIsSeen := by
  have c1 := (c_is_ref (P := P) T).mono (by decide : 2 ≤ 3)
  refine callee_of T 15 13 rfl rfl rfl rfl rfl fs_is_seen bd_is_seen (fun vs H Q E h => ?_) (fun X h1 h2 h3 h4 h5 C vs H Q E h => ?_)
  · obtain ⟨n, _, rfl, _⟩ := h; rfl
  · subst h1 h2 h3 h4 h5
    obtain ⟨v, ms, rfl, ht, hs, q⟩ := h
    exact b_is_seen C c1 v ms H ht hs Q fun H' b hb e => e ▸ q H' hb
end
/-! ## LoBody2 -/
/-! ### target, text_of, ref_words -/
def optRD : Option Rf → PyData
  | none => .none
  | some r => refD r
/-- a body's values behind its kind -/
def bodyX (H : Hp) : Body → List V → Prop
  | .found t ms, xs => ∃ m, xs = [S t, .ref m] ∧ H m = some (.tup (ms.map S))
  | .say o, xs => xs = [optV o]
  | .reply _ r o, xs => ∃ c, xs = [.ref c, optV o] ∧ H c = some (.tup [S r.1, .int r.2])
  | .recall r, xs => ∃ c, xs = [.ref c] ∧ H c = some (.tup [S r.1, .int r.2])
  | .mark r w, xs => ∃ c, xs = [.ref c, S w] ∧ H c = some (.tup [S r.1, .int r.2])
  | .title t, xs => xs = [S t]
  | .act _ n, xs => xs = [S n]
  | .seen, xs => xs = []
  | .other _, xs => xs = []
theorem body_inv {H : Hp} {v : V} {b : Body} (h : Tp H v (bodyD b)) (hb : isBody b = true) : ∃ a xs, v = .ref a ∧ H a = some (.tup (S (LO.kindOf b) :: xs)) ∧ bodyX H b xs := by
  have rf : ∀ {x : V} {r : Rf}, Tp H x (refD r) → ∃ c, x = .ref c ∧ H c = some (.tup [S r.1, .int r.2]) := by
    intro x r h
    obtain ⟨b, ys, rfl, hb, hy⟩ := h.tup_inv
    obtain ⟨x1, _, rfl, t1, hy⟩ := hy.cons_inv
    obtain ⟨x2, _, rfl, t2, hy⟩ := hy.cons_inv
    obtain rfl := hy.nil_inv
    obtain rfl := t1.str_inv
    obtain rfl := t2.int_inv
    exact ⟨b, rfl, hb⟩
  cases b with
  | found t ms =>
    obtain ⟨a, xs, rfl, ha, hx⟩ := h.tup_inv
    obtain ⟨x1, _, rfl, t1, hx⟩ := hx.cons_inv
    obtain ⟨x2, _, rfl, t2, hx⟩ := hx.cons_inv
    obtain ⟨x3, _, rfl, t3, hx⟩ := hx.cons_inv
    obtain rfl := hx.nil_inv
    obtain rfl := t1.str_inv
    obtain rfl := t2.str_inv
    obtain ⟨m, ys, rfl, hm, hy⟩ := t3.tup_inv
    obtain rfl := hy.strs
    exact ⟨a, _, rfl, ha, m, rfl, hm⟩
  | say o =>
    obtain ⟨a, xs, rfl, ha, hx⟩ := h.tup_inv
    obtain ⟨x1, _, rfl, t1, hx⟩ := hx.cons_inv
    obtain ⟨x2, _, rfl, t2, hx⟩ := hx.cons_inv
    obtain rfl := hx.nil_inv
    obtain rfl := t1.str_inv
    obtain rfl := t2.opt_inv
    exact ⟨a, _, rfl, ha, rfl⟩
  | reply e r o =>
    obtain ⟨a, xs, rfl, ha, hx⟩ := h.tup_inv
    obtain ⟨x1, _, rfl, t1, hx⟩ := hx.cons_inv
    obtain ⟨x2, _, rfl, t2, hx⟩ := hx.cons_inv
    obtain ⟨x3, _, rfl, t3, hx⟩ := hx.cons_inv
    obtain rfl := hx.nil_inv
    obtain rfl := t1.str_inv
    obtain ⟨c, rfl, hc⟩ := rf t2
    obtain rfl := t3.opt_inv
    exact ⟨a, _, rfl, ha, c, rfl, hc⟩
  | recall r =>
    obtain ⟨a, xs, rfl, ha, hx⟩ := h.tup_inv
    obtain ⟨x1, _, rfl, t1, hx⟩ := hx.cons_inv
    obtain ⟨x2, _, rfl, t2, hx⟩ := hx.cons_inv
    obtain rfl := hx.nil_inv
    obtain rfl := t1.str_inv
    obtain ⟨c, rfl, hc⟩ := rf t2
    exact ⟨a, _, rfl, ha, c, rfl, hc⟩
  | mark r w =>
    obtain ⟨a, xs, rfl, ha, hx⟩ := h.tup_inv
    obtain ⟨x1, _, rfl, t1, hx⟩ := hx.cons_inv
    obtain ⟨x2, _, rfl, t2, hx⟩ := hx.cons_inv
    obtain ⟨x3, _, rfl, t3, hx⟩ := hx.cons_inv
    obtain rfl := hx.nil_inv
    obtain rfl := t1.str_inv
    obtain ⟨c, rfl, hc⟩ := rf t2
    obtain rfl := t3.str_inv
    exact ⟨a, _, rfl, ha, c, rfl, hc⟩
  | title t =>
    obtain ⟨a, xs, rfl, ha, hx⟩ := h.tup_inv
    obtain ⟨x1, _, rfl, t1, hx⟩ := hx.cons_inv
    obtain ⟨x2, _, rfl, t2, hx⟩ := hx.cons_inv
    obtain rfl := hx.nil_inv
    obtain rfl := t1.str_inv
    obtain rfl := t2.str_inv
    exact ⟨a, _, rfl, ha, rfl⟩
  | act k n =>
    obtain ⟨a, xs, rfl, ha, hx⟩ := h.tup_inv
    obtain ⟨x1, _, rfl, t1, hx⟩ := hx.cons_inv
    obtain ⟨x2, _, rfl, t2, hx⟩ := hx.cons_inv
    obtain rfl := hx.nil_inv
    obtain rfl := t1.str_inv
    obtain rfl := t2.str_inv
    exact ⟨a, _, rfl, ha, rfl⟩
  | seen =>
    obtain ⟨a, xs, rfl, ha, hx⟩ := h.tup_inv
    obtain ⟨x1, _, rfl, t1, hx⟩ := hx.cons_inv
    obtain rfl := hx.nil_inv
    obtain rfl := t1.str_inv
    exact ⟨a, _, rfl, ha, rfl⟩
  | other k =>
    obtain ⟨a, xs, rfl, ha, hx⟩ := h.tup_inv
    obtain ⟨x1, _, rfl, t1, hx⟩ := hx.cons_inv
    obtain rfl := hx.nil_inv
    obtain rfl := t1.str_inv
    exact ⟨a, _, rfl, ha, rfl⟩
def spTarget : Sp := fun vs H Q _ => ∃ (v : V) (b : Body), vs = [v] ∧ Tp H v (bodyD b) ∧ isBody b = true ∧ ∀ v' H', Same H H' → Tp H' v' (optRD (targetOf b)) → Q v' H'
theorem b_target {X : Cx} (C : Ctx X N_target (defScope s_target) 1) (v : V) (b : Body) (H : Hp) (ht : Tp H v (bodyD b)) (hb : isBody b = true) (Q : VK) (hQ : ∀ v' H', Same H H' → Tp H' v' (optRD (targetOf b)) → Q v' H') :
    B1 X (defBody s_target) (start N_target [v]) H (fun _ H' => Q .non H') Q nobk nobk := by
  have hn := nm_target C
  obtain ⟨v0, w0⟩ := hn
  obtain ⟨a, xs, rfl, ha, hx⟩ := body_inv ht hb
  conv => arg 2; whnf
  cases b with
  | found t ms => obtain ⟨m, rfl, hm⟩ := hx; simp only [LO.kindOf] at ha; walk_at "go"; exact hQ _ _ (by walk_at "same") .non
  | say o => obtain rfl := hx; simp only [LO.kindOf] at ha; walk_at "go"; exact hQ _ _ (by walk_at "same") .non
  | reply e r o =>
    obtain ⟨c, rfl, hc⟩ := hx
    cases e with
    | false => simp only [LO.kindOf] at ha; walk_at "go"; exact hQ _ _ (by walk_at "same") (Tp.mono (Keep.of (by walk_at "same")) (.tup hc (.cons (.str _) (.cons (.int _) .nil))))
    | true => simp only [LO.kindOf] at ha; walk_at "go"; exact hQ _ _ (by walk_at "same") (Tp.mono (Keep.of (by walk_at "same")) (.tup hc (.cons (.str _) (.cons (.int _) .nil))))
  | recall r => obtain ⟨c, rfl, hc⟩ := hx; simp only [LO.kindOf] at ha; walk_at "go"; exact hQ _ _ (by walk_at "same") (Tp.mono (Keep.of (by walk_at "same")) (.tup hc (.cons (.str _) (.cons (.int _) .nil))))
  | mark r w => obtain ⟨c, rfl, hc⟩ := hx; simp only [LO.kindOf] at ha; walk_at "go"; exact hQ _ _ (by walk_at "same") (Tp.mono (Keep.of (by walk_at "same")) (.tup hc (.cons (.str _) (.cons (.int _) .nil))))
  | title t => obtain rfl := hx; simp only [LO.kindOf] at ha; walk_at "go"; exact hQ _ _ (by walk_at "same") .non
  | act k n =>
    obtain rfl := hx
    have hk : actK k = kAdd ∨ actK k = kCut ∨ actK k = kHand := by match k with
      | 0 => exact .inl rfl
      | 1 => exact .inr (.inl rfl)
      | n + 2 => exact .inr (.inr rfl)
    simp only [LO.kindOf] at ha
    rcases hk with e | e | e <;> (rw [e] at ha; walk_at "go"; exact hQ _ _ (by walk_at "same") .non)
  | seen => obtain rfl := hx; simp only [LO.kindOf] at ha; walk_at "go"; exact hQ _ _ (by walk_at "same") .non
  | other k => exact absurd hb (by simp [isBody])
def spTextOf : Sp := fun vs H Q _ => ∃ (v : V) (b : Body), vs = [v] ∧ Tp H v (bodyD b) ∧ isBody b = true ∧ ∀ H', Same H H' → Q (optV (textOf b)) H'
theorem b_text_of {X : Cx} (C : Ctx X N_text_of (defScope s_text_of) 1) (v : V) (b : Body) (H : Hp) (ht : Tp H v (bodyD b)) (hb : isBody b = true) (Q : VK) (hQ : ∀ H', Same H H' → Q (optV (textOf b)) H') :
    B1 X (defBody s_text_of) (start N_text_of [v]) H (fun _ H' => Q .non H') Q nobk nobk := by
  have hn := nm_text_of C
  obtain ⟨v0, w0⟩ := hn
  obtain ⟨a, xs, rfl, ha, hx⟩ := body_inv ht hb
  conv => arg 2; whnf
  cases b with
  | found t ms => obtain ⟨m, rfl, hm⟩ := hx; simp only [LO.kindOf] at ha; walk_at "go"; exact hQ _ (by walk_at "same")
  | say o => obtain rfl := hx; simp only [LO.kindOf] at ha; walk_at "go"; exact hQ _ (by walk_at "same")
  | reply e r o =>
    obtain ⟨c, rfl, hc⟩ := hx
    cases e with
    | false => simp only [LO.kindOf] at ha; walk_at "go"; exact hQ _ (by walk_at "same")
    | true => simp only [LO.kindOf] at ha; walk_at "go"; exact hQ _ (by walk_at "same")
  | recall r => obtain ⟨c, rfl, hc⟩ := hx; simp only [LO.kindOf] at ha; walk_at "go"; exact hQ _ (by walk_at "same")
  | mark r w => obtain ⟨c, rfl, hc⟩ := hx; simp only [LO.kindOf] at ha; walk_at "go"; exact hQ _ (by walk_at "same")
  | title t => obtain rfl := hx; simp only [LO.kindOf] at ha; walk_at "go"; exact hQ _ (by walk_at "same")
  | act k n =>
    obtain rfl := hx
    have hk : actK k = kAdd ∨ actK k = kCut ∨ actK k = kHand := by match k with
      | 0 => exact .inl rfl
      | 1 => exact .inr (.inl rfl)
      | n + 2 => exact .inr (.inr rfl)
    simp only [LO.kindOf] at ha
    rcases hk with e | e | e <;> (rw [e] at ha; walk_at "go"; exact hQ _ (by walk_at "same"))
  | seen => obtain rfl := hx; simp only [LO.kindOf] at ha; walk_at "go"; exact hQ _ (by walk_at "same")
  | other k => exact absurd hb (by simp [isBody])
/-- a ref's words -/
def spRefWords : Sp := fun vs H Q _ => ∃ (v : V) (r : Rf), vs = [v] ∧ Tp H v (refD r) ∧ isRef r = true ∧ Q (S (refW r)) H
theorem isRef_num {r : Rf} (h : isRef r = true) : isName r.1 = true ∧ 1 ≤ r.2 ∧ r.2 ≤ 1000000000000000000 := by
  unfold isRef isNum at h
  simpa using h
theorem log2_lt {n : Int} (h0 : 0 ≤ n) (h : n ≤ 1000000000000000000) : n.natAbs.log2 < 1920 := by
  by_cases hn : n.natAbs = 0
  · rw [hn]; decide
  · rw [Nat.log2_lt hn]
    have : n.natAbs < 2 ^ 60 := by omega
    exact Nat.lt_of_lt_of_le this (Nat.pow_le_pow_right (by decide) (by decide))
theorem numI_len {n : Int} (h0 : 0 ≤ n) (h : n ≤ 1000000000000000000) : (numI n).length ≤ 19 := LoW.numN_len (by decide) (by omega)
theorem nameL {x : T} (h : isName x = true) : x.length ≤ 12 := by
  unfold isName at h
  simp only [Bool.and_eq_true, decide_eq_true_eq] at h
  exact h.2.1
theorem b_ref_words {X : Cx} (C : Ctx X N_ref_words (defScope s_ref_words) 1) (v : V) (r : Rf) (H : Hp) (ht : Tp H v (refD r)) (hr : isRef r = true) (Q : VK) (hQ : ∀ z, z = refW r → Q (S z) H) :
    B1 X (defBody s_ref_words) (start N_ref_words [v]) H (fun _ H' => Q .non H') Q nobk nobk := by
  have hn := nm_ref_words C
  obtain ⟨v0, w0, g1⟩ := hn
  obtain ⟨b, ys, rfl, hb, hy⟩ := ht.tup_inv
  obtain ⟨x1, _, rfl, t1, hy⟩ := hy.cons_inv
  obtain ⟨x2, _, rfl, t2, hy⟩ := hy.cons_inv
  obtain rfl := hy.nil_inv
  obtain rfl := t1.str_inv
  obtain rfl := t2.int_inv
  obtain ⟨h1, h2, h3⟩ := isRef_num hr
  have h4 := nameL h1
  have h5 := numI_len (by omega) h3
  conv => arg 2; whnf
  walk_at "go"
  have e1 : (tl (Str.ofString " ")) = [32] := by decide +kernel
  rw [e1]
  refine AddV.S (line16 (by simp; omega)) ?_
  walk_at "go"
  refine ⟨log2_lt (by omega) h3, ?_⟩
  rw [numI_S (by omega)]
  refine AddV.S (line16 (by simp; omega)) ?_
  exact hQ _ (by unfold refW; simp)
section
variable {P : Program} {w : World} {K : PySem.W.Frag} {mg : Str → Option Value} {base : Heap}
theorem c_target (T : Tx w K mg base) : Callee P w K mg base CX0 2 "target" spTarget := by
  refine callee_of T 8 8 rfl rfl rfl rfl rfl fs_target bd_target (fun vs H Q E h => ?_) (fun X h1 h2 h3 h4 h5 C vs H Q E h => ?_)
  · obtain ⟨n, _, rfl, _⟩ := h; rfl
  · obtain ⟨v, b, rfl, ht, hb, q⟩ := h
    exact b_target C v b H ht hb Q q
theorem c_text_of (T : Tx w K mg base) : Callee P w K mg base CX0 2 "text_of" spTextOf := by
  refine callee_of T 9 9 rfl rfl rfl rfl rfl fs_text_of bd_text_of (fun vs H Q E h => ?_) (fun X h1 h2 h3 h4 h5 C vs H Q E h => ?_)
  · obtain ⟨n, _, rfl, _⟩ := h; rfl
  · obtain ⟨v, b, rfl, ht, hb, q⟩ := h
    exact b_text_of C v b H ht hb Q q
theorem c_ref_words (T : Tx w K mg base) : Callee P w K mg base CX0 2 "ref_words" spRefWords := by
  refine callee_of T 17 15 rfl rfl rfl rfl rfl fs_ref_words bd_ref_words (fun vs H Q E h => ?_) (fun X h1 h2 h3 h4 h5 C vs H Q E h => ?_)
  · obtain ⟨n, _, rfl, _⟩ := h; rfl
  · obtain ⟨v, b, rfl, ht, hb, q⟩ := h
    exact b_ref_words C v b H ht hb Q fun z e => e ▸ q
end
/-! ## LoBody3 -/
theorem NeV.P {K : PySem.W.Frag} {H : Hp} {Q : VK} {k : T} {n m : Int} (h : partV k = .int n) (q : Q (.bl (!decide (n = m))) H) : NeV K (partV k) (.int m) H Q := by rw [h]; exact NeV.I q
theorem NeV.PN {K : PySem.W.Frag} {H : Hp} {Q : VK} {k : T} {m : Int} (h : partV k = .non) (q : Q (.bl true) H) : NeV K (partV k) (.int m) H Q := by rw [h]; exact NeV.s rfl (by rw [decide_eq_false (by intro e; cases e)]; exact q)
def SmO (o : Option T) : Prop := ∀ z, o = some z → Sm z
/-- what a body read from lines is like -/
def SmB : Body → Prop
  | .found t ms => Sm t ∧ (∀ m ∈ ms, Sm m) ∧ ms.length ≤ 16000000
  | .say o => SmO o
  | .reply _ r o => SmR r ∧ SmO o
  | .recall r => SmR r
  | .mark r w => SmR r ∧ Sm w
  | .title t => Sm t
  | .act k n => Sm n
  | .seen => True
  | .other k => partV k = .non
def spIsBody : Sp := fun vs H Q _ => ∃ (v : V) (b : Body), vs = [v] ∧ Tp H v (bodyD b) ∧ SmB b ∧ ∀ H', Same H H' → Q (.bl (isBody b)) H'
theorem body_invN {H : Hp} {v : V} {b : Body} (h : Tp H v (bodyD b)) (hb : ∀ k, b ≠ .other k) : isBody b = true ∨ isBody b = false := by cases isBody b <;> simp
theorem b_is_body {X : Cx} (C : Ctx X N_is_body (defScope s_is_body) 3) (c1 : CalleeX X CX0 3 "is_title" spIsTitle) (c2 : CalleeX X CX0 3 "is_members" spIsMembers) (c3 : CalleeX X CX0 3 "is_ref" spIsRef) (c4 : CalleeX X CX0 3 "is_text" spIsText) (c5 : CalleeX X CX0 3 "is_name" spIsName)
    (v : V) (b : Body) (H : Hp) (ht : Tp H v (bodyD b)) (hs : SmB b) (Q : VK) (hQ : ∀ H' k, Same H H' → k = isBody b → Q (.bl k) H') :
    B1 X (defBody s_is_body) (start N_is_body [v]) H (fun _ H' => Q .non H') Q nobk nobk := by
  have hn := nm_is_body C
  obtain ⟨v0, v1, w0, w1, g1, g2, g3, g4, g5, g6, g7, g8, g9, g10⟩ := hn
  conv => arg 2; whnf
  have rf : ∀ {x : V} {r : Rf}, Tp H x (refD r) → ∃ c, x = .ref c ∧ H c = some (.tup [S r.1, .int r.2]) := by
    intro x r h
    obtain ⟨b, ys, rfl, hb, hy⟩ := h.tup_inv
    obtain ⟨x1, _, rfl, t1, hy⟩ := hy.cons_inv
    obtain ⟨x2, _, rfl, t2, hy⟩ := hy.cons_inv
    obtain rfl := hy.nil_inv
    obtain rfl := t1.str_inv
    obtain rfl := t2.int_inv
    exact ⟨b, rfl, hb⟩
  cases b with
  | found t ms =>
    obtain ⟨a, xs, rfl, ha, hx⟩ := ht.tup_inv
    obtain ⟨x1, _, rfl, t1, hx⟩ := hx.cons_inv
    obtain ⟨x2, _, rfl, t2, hx⟩ := hx.cons_inv
    obtain ⟨x3, _, rfl, t3, hx⟩ := hx.cons_inv
    obtain rfl := hx.nil_inv
    obtain rfl := t1.str_inv
    obtain rfl := t2.str_inv
    walk_at "go"
    refine Bth.dF (by simp) ?_
    walk_at "go"
    refine NeV.P (by rfl) ?_
    walk_at "go"
    refine ⟨hs.1, ?_⟩
    walk_at "go"
    refine Bth.kk (fun h1 => ?_) (fun h1 => ?_)
    · walk_at "go"
      refine ⟨_, ms, rfl, t3, hs.2.1, hs.2.2, fun H' h' => hQ _ _ h' ?_⟩
      show _ = (isTitle t && isMembers ms); rw [h1]; rfl
    · exact hQ _ _ (Same.refl _) (by show _ = (isTitle t && isMembers ms); rw [h1]; rfl)
  | say o =>
    obtain ⟨a, xs, rfl, ha, hx⟩ := ht.tup_inv
    obtain ⟨x1, _, rfl, t1, hx⟩ := hx.cons_inv
    obtain ⟨x2, _, rfl, t2, hx⟩ := hx.cons_inv
    obtain rfl := hx.nil_inv
    obtain rfl := t1.str_inv
    obtain rfl := t2.opt_inv
    walk_at "go"
    refine Bth.dF (by simp) ?_
    walk_at "go"
    refine NeV.P (by rfl) ?_
    walk_at "go"
    refine ⟨hs, ?_⟩
    exact hQ _ _ (by walk_at "same") rfl
  | reply e r o =>
    obtain ⟨a, xs, rfl, ha, hx⟩ := ht.tup_inv
    obtain ⟨x1, _, rfl, t1, hx⟩ := hx.cons_inv
    obtain ⟨x2, _, rfl, t2, hx⟩ := hx.cons_inv
    obtain ⟨x3, _, rfl, t3, hx⟩ := hx.cons_inv
    obtain rfl := hx.nil_inv
    obtain rfl := t1.str_inv
    obtain ⟨c, rfl, hc⟩ := rf t2
    obtain rfl := t3.opt_inv
    have ek : LO.kindOf (.reply e r o) = kReply ∨ LO.kindOf (.reply e r o) = kEdit := by cases e <;> simp [LO.kindOf]
    rcases ek with ek | ek <;> (
      rw [ek] at ha
      walk_at "go"
      refine Bth.dF (by simp) ?_
      walk_at "go"
      refine NeV.P (by rfl) ?_
      walk_at "go"
      refine ⟨_, r, rfl, Tp.mono (Keep.of (by walk_at "same")) t2, hs.1, ?_⟩
      walk_at "go"
      refine Bth.n (fun h1 => ?_) (fun h1 => ?_)
      · walk_at "go"
        exact hQ _ _ (by walk_at "same") (by show _ = (isRef r && isText o); rw [h1]; rfl)
      · walk_at "go"
        refine ⟨hs.2, ?_⟩
        exact hQ _ _ (by walk_at "same") (by show _ = (isRef r && isText o); rw [h1]; rfl))
  | recall r =>
    obtain ⟨a, xs, rfl, ha, hx⟩ := ht.tup_inv
    obtain ⟨x1, _, rfl, t1, hx⟩ := hx.cons_inv
    obtain ⟨x2, _, rfl, t2, hx⟩ := hx.cons_inv
    obtain rfl := hx.nil_inv
    obtain rfl := t1.str_inv
    walk_at "go"
    refine Bth.dF (by simp) ?_
    walk_at "go"
    refine NeV.P (by rfl) ?_
    walk_at "go"
    refine ⟨_, r, rfl, Tp.mono (Keep.of (by walk_at "same")) t2, hs, ?_⟩
    walk_at "go"
    refine Bth.n (fun h1 => ?_) (fun h1 => ?_)
    · walk_at "go"
      exact hQ _ _ (by walk_at "same") (by show _ = isRef r; rw [h1])
    · walk_at "go"
      exact hQ _ _ (by walk_at "same") (by show _ = isRef r; rw [h1])
  | mark r w =>
    obtain ⟨a, xs, rfl, ha, hx⟩ := ht.tup_inv
    obtain ⟨x1, _, rfl, t1, hx⟩ := hx.cons_inv
    obtain ⟨x2, _, rfl, t2, hx⟩ := hx.cons_inv
    obtain ⟨x3, _, rfl, t3, hx⟩ := hx.cons_inv
    obtain rfl := hx.nil_inv
    obtain rfl := t1.str_inv
    obtain rfl := t3.str_inv
    walk_at "go"
    refine Bth.dF (by simp) ?_
    walk_at "go"
    refine NeV.P (by rfl) ?_
    walk_at "go"
    refine ⟨_, r, rfl, Tp.mono (Keep.of (by walk_at "same")) t2, hs.1, ?_⟩
    walk_at "go"
    refine Bth.n (fun h1 => ?_) (fun h1 => ?_)
    · walk_at "go"
      exact hQ _ _ (by walk_at "same") (by show _ = (isRef r && isName w); rw [h1]; rfl)
    · walk_at "go"
      refine ⟨hs.2, ?_⟩
      exact hQ _ _ (by walk_at "same") (by show _ = (isRef r && isName w); rw [h1]; rfl)
  | title t =>
    obtain ⟨a, xs, rfl, ha, hx⟩ := ht.tup_inv
    obtain ⟨x1, _, rfl, t1, hx⟩ := hx.cons_inv
    obtain ⟨x2, _, rfl, t2, hx⟩ := hx.cons_inv
    obtain rfl := hx.nil_inv
    obtain rfl := t1.str_inv
    obtain rfl := t2.str_inv
    walk_at "go"
    refine Bth.dF (by simp) ?_
    walk_at "go"
    refine NeV.P (by rfl) ?_
    walk_at "go"
    refine ⟨hs, ?_⟩
    exact hQ _ _ (by walk_at "same") rfl
  | act k n =>
    obtain ⟨a, xs, rfl, ha, hx⟩ := ht.tup_inv
    obtain ⟨x1, _, rfl, t1, hx⟩ := hx.cons_inv
    obtain ⟨x2, _, rfl, t2, hx⟩ := hx.cons_inv
    obtain rfl := hx.nil_inv
    obtain rfl := t1.str_inv
    obtain rfl := t2.str_inv
    have hk : actK k = kAdd ∨ actK k = kCut ∨ actK k = kHand := by match k with
      | 0 => exact .inl rfl
      | 1 => exact .inr (.inl rfl)
      | n + 2 => exact .inr (.inr rfl)
    rcases hk with e | e | e <;> (
      rw [e] at ha
      walk_at "go"
      refine Bth.dF (by simp) ?_
      walk_at "go"
      refine NeV.P (by rfl) ?_
      walk_at "go"
      refine ⟨hs, ?_⟩
      exact hQ _ _ (by walk_at "same") rfl)
  | seen =>
    obtain ⟨a, xs, rfl, ha, hx⟩ := ht.tup_inv
    obtain ⟨x1, _, rfl, t1, hx⟩ := hx.cons_inv
    obtain rfl := hx.nil_inv
    obtain rfl := t1.str_inv
    walk_at "go"
    refine NeV.P (by rfl) ?_
    walk_at "go"
    exact hQ _ _ (by walk_at "same") rfl
  | other k =>
    obtain ⟨a, xs, rfl, ha, hx⟩ := ht.tup_inv
    obtain ⟨x1, _, rfl, t1, hx⟩ := hx.cons_inv
    obtain rfl := hx.nil_inv
    obtain rfl := t1.str_inv
    walk_at "go"
    refine Bth.dF (by simp) ?_
    walk_at "go"
    refine NeV.PN hs ?_
    walk_at "go"
    exact hQ _ _ (by walk_at "same") rfl
section
variable {P : Program} {w : World} {K : PySem.W.Frag} {mg : Str → Option Value} {base : Heap}
theorem c_is_body (T : Tx w K mg base) : Callee P w K mg base CX0 4 "is_body" spIsBody := by
  have c1 := (c_is_title (P := P) T).mono (by decide : 2 ≤ 3)
  have c2 := (c_is_members (P := P) T)
  have c3 := (c_is_ref (P := P) T).mono (by decide : 2 ≤ 3)
  have c4 := (c_is_text (P := P) T).mono (by decide : 2 ≤ 3)
  have c5 := (c_is_name (P := P) T).mono (by decide : 1 ≤ 3)
  refine callee_of T 7 7 rfl rfl rfl rfl rfl fs_is_body bd_is_body (fun vs H Q E h => ?_) (fun X h1 h2 h3 h4 h5 C vs H Q E h => ?_)
  · obtain ⟨n, _, rfl, _⟩ := h; rfl
  · subst h1 h2 h3 h4 h5
    obtain ⟨v, b, rfl, ht, hs, q⟩ := h
    exact b_is_body C c1 c2 c3 c4 c5 v b H ht hs Q fun H' k hk e => e ▸ q H' hk
end
/-! ## LoLet -/
/-! ### the class Letter -/
abbrev LC (K : PySem.W.Frag) : Addr := He.ga K "Letter"
def sAuthor : Str := "author"
def sNumber : Str := "number"
def sStamp : Str := "stamp"
def sSeen : Str := "seen"
def sBody : Str := "body"
/-- a letter's attributes -/
structure LetAt (K : PySem.W.Frag) (H : Hp) (a : Addr) (x : LV) : Prop where
  at_ : ∃ dx fs vs vb, H a = some (.ins (LC K) dx fs) ∧ fs.lookup ("author" : Str) = some (S x.author) ∧ fs.lookup ("number" : Str) = some (.int x.number) ∧ fs.lookup ("stamp" : Str) = some (.int x.stamp) ∧ fs.lookup ("seen" : Str) = some vs ∧ fs.lookup ("body" : Str) = some vb ∧
    Tp H vs (.tuple (x.seen.map refD)) ∧ Tp H vb (bodyD x.body) ∧ fs.lookup ("value" : Str) = none ∧ fs.lookup ("ref" : Str) = none
theorem LetAt.mono {K : PySem.W.Frag} {H H' : Hp} {a : Addr} {x : LV} (h : LetAt K H a x) (k : Keep H H') : LetAt K H' a x := by
  obtain ⟨dx, fs, vs, vb, h1, h2, h3, h4, h5, h6, h7, h8, h9, h10⟩ := h.at_
  exact ⟨dx, fs, vs, vb, k.i _ _ _ _ h1, h2, h3, h4, h5, h6, h7.mono k, h8.mono k, h9, h10⟩
section
variable {w : World} {K : PySem.W.Frag} {mg : Str → Option Value} {base : Heap}
theorem Tx.cls (T : Tx w K mg base) : Cls K (LC K) := He.cls_ok (x := "Letter") (T.t.d.fact 90 rfl)
theorem Tx.nAuthor (T : Tx w K mg base) : NoAttr K (LC K) "author" := He.noat_ok (x := "Letter") (T.t.d.fact 91 rfl)
theorem Tx.nNumber (T : Tx w K mg base) : NoAttr K (LC K) "number" := He.noat_ok (x := "Letter") (T.t.d.fact 92 rfl)
theorem Tx.nStamp (T : Tx w K mg base) : NoAttr K (LC K) "stamp" := He.noat_ok (x := "Letter") (T.t.d.fact 93 rfl)
theorem Tx.nSeen (T : Tx w K mg base) : NoAttr K (LC K) "seen" := He.noat_ok (x := "Letter") (T.t.d.fact 94 rfl)
theorem Tx.nBody (T : Tx w K mg base) : NoAttr K (LC K) "body" := He.noat_ok (x := "Letter") (T.t.d.fact 95 rfl)
theorem Tx.meth (T : Tx w K mg base) : Meth K (LC K) "value" (He.ma K (LC K) "value") := He.meth_ok (x := "Letter") (m := "value") (T.t.d.fact 96 rfl)
theorem Tx.mkr (T : Tx w K mg base) : Mk K (LC K) (He.ma K (LC K) "__init__") := He.mkr_ok (x := "Letter") (T.t.d.fact 97 rfl)
end
/-! ### __init__ -/
theorem putF_len (f : Str) (v : V) : ∀ fs : List (Str × V), (putF f v fs).length ≤ fs.length + 1
  | [] => by simp [putF]
  | (g, x) :: r => by
    have := putF_len f v r
    unfold putF
    split <;> simp <;> omega
abbrev pf1 (y1 : V) : List (Str × V) := putF ("author" : Str) y1 []
abbrev pf2 (y1 y2 : V) : List (Str × V) := putF ("number" : Str) y2 (pf1 y1)
abbrev pf3 (y1 y2 y3 : V) : List (Str × V) := putF ("stamp" : Str) y3 (pf2 y1 y2)
abbrev pf4 (y1 y2 y3 y4 : V) : List (Str × V) := putF ("seen" : Str) y4 (pf3 y1 y2 y3)
abbrev pf5 (y1 y2 y3 y4 y5 : V) : List (Str × V) := putF ("body" : Str) y5 (pf4 y1 y2 y3 y4)
def initH (C : Addr) (H : Hp) (a dx : Addr) (y1 y2 y3 y4 y5 : V) : Hp := upd (upd (upd (upd (upd H a (.ins C dx (pf1 y1))) a (.ins C dx (pf2 y1 y2))) a (.ins C dx (pf3 y1 y2 y3))) a (.ins C dx (pf4 y1 y2 y3 y4))) a (.ins C dx (pf5 y1 y2 y3 y4 y5))
def spInit (C : Addr) : Sp := fun vs H Q _ => ∃ (a : Addr) (dx : Addr) (y1 y2 y3 y4 y5 : V), vs = [.ref a, y1, y2, y3, y4, y5] ∧ H a = some (.ins C dx []) ∧ Q .non (initH C H a dx y1 y2 y3 y4 y5)
theorem b_init {X : Cx} (C : Ctx X N_Letter_init (defScope s_Letter_init) 1) (a dx : Addr) (y1 y2 y3 y4 y5 : V) (H : Hp) (ha : H a = some (.ins (LC X.K) dx [])) (Q : VK)
    (hQ : ∀ H', H' = initH (LC X.K) H a dx y1 y2 y3 y4 y5 → Q .non H') :
    B1 X (defBody s_Letter_init) (start N_Letter_init [.ref a, y1, y2, y3, y4, y5]) H (fun _ H' => Q .non H') Q nobk nobk := by
  have hn := nm_Letter_init C
  obtain ⟨v0, v1, v2, v3, v4, v5, w0⟩ := hn
  have l1 : (putF ("author" : Str) y1 []).length ≤ 1 := putF_len _ _ _
  have l2 : (putF ("number" : Str) y2 (putF ("author" : Str) y1 [])).length ≤ 2 := Nat.le_trans (putF_len _ _ _) (Nat.succ_le_succ l1)
  have l3 : (putF ("stamp" : Str) y3 (putF ("number" : Str) y2 (putF ("author" : Str) y1 []))).length ≤ 3 := Nat.le_trans (putF_len _ _ _) (Nat.succ_le_succ l2)
  have l4 : (putF ("seen" : Str) y4 (putF ("stamp" : Str) y3 (putF ("number" : Str) y2 (putF ("author" : Str) y1 [])))).length ≤ 4 := Nat.le_trans (putF_len _ _ _) (Nat.succ_le_succ l3)
  conv => arg 2; whnf
  walk_at "go"
  refine s_fld ?_
  walk_at "go"
  refine ⟨a, _, dx, _, rfl, ha, C.tx.cls, C.tx.nAuthor, by decide, ?_⟩
  walk_at "go"
  refine s_fld ?_
  walk_at "go"
  refine ⟨a, _, dx, _, rfl, upd_same, C.tx.cls, C.tx.nNumber, by omega, ?_⟩
  walk_at "go"
  refine s_fld ?_
  walk_at "go"
  refine ⟨a, _, dx, _, rfl, upd_same, C.tx.cls, C.tx.nStamp, by omega, ?_⟩
  walk_at "go"
  refine s_fld ?_
  walk_at "go"
  refine ⟨a, _, dx, _, rfl, upd_same, C.tx.cls, C.tx.nSeen, by omega, ?_⟩
  walk_at "go"
  refine s_fld ?_
  walk_at "go"
  refine ⟨a, _, dx, _, rfl, upd_same, C.tx.cls, C.tx.nBody, by omega, ?_⟩
  walk_at "go"
  exact hQ _ rfl
/-! ### value, ref -/
def spValue (K : PySem.W.Frag) : Sp := fun vs H Q _ => ∃ (a : Addr) (x : LV), vs = [.ref a] ∧ LetAt K H a x ∧ ∀ v' H', Same H H' → Tp H' v' (lvD x) → Q v' H'
theorem e_fldL {X : Cx} {N : List Str} {sc : Scope} {k : Nat} {σ : L2.St} {H : Hp} {Q : VK} {e : Expr} {pos : Pos} {f : Str} (C : Ctx X N sc k) (n : NoAttr X.K (LC X.K) f) (h : E1 X e σ H fun u H1 => ∃ a dx fs v, u = .ref a ∧ H1 a = some (.ins (LC X.K) dx fs) ∧ fs.lookup f = some v ∧ Q v H1)
    (hb : attributeBase e f X.env (eval e X.env) = eval e X.env := by rfl) : E1 X (.Attribute e f pos) σ H Q :=
  e_fld (E1.imp h fun u H1 ⟨a, dx, fs, v, e1, e2, e3, q⟩ => ⟨a, _, dx, fs, v, e1, e2, C.tx.cls, n, e3, q⟩) hb
theorem b_value {X : Cx} (C : Ctx X N_Letter_value (defScope s_Letter_value) 1) (a : Addr) (x : LV) (H : Hp) (hx : LetAt X.K H a x) (Q : VK) (hQ : ∀ v' H', Same H H' → Tp H' v' (lvD x) → Q v' H') :
    B1 X (defBody s_Letter_value) (start N_Letter_value [.ref a]) H (fun _ H' => Q .non H') Q nobk nobk := by
  have hn := nm_Letter_value C
  obtain ⟨v0, w0⟩ := hn
  obtain ⟨dx, fs, vs, vb, h1, h2, h3, h4, h5, h6, h7, h8, h9, h10⟩ := hx.at_
  conv => arg 2; whnf
  walk_at "go"
  refine e_fldL C C.tx.nAuthor ?_
  walk_at "go"
  refine ⟨a, dx, fs, _, rfl, h1, h2, ?_⟩
  walk_at "go"
  refine e_fldL C C.tx.nNumber ?_
  walk_at "go"
  refine ⟨a, dx, fs, _, rfl, h1, h3, ?_⟩
  walk_at "go"
  refine e_fldL C C.tx.nStamp ?_
  walk_at "go"
  refine ⟨a, dx, fs, _, rfl, h1, h4, ?_⟩
  walk_at "go"
  refine e_fldL C C.tx.nSeen ?_
  walk_at "go"
  refine ⟨a, dx, fs, _, rfl, h1, h5, ?_⟩
  walk_at "go"
  refine e_fldL C C.tx.nBody ?_
  walk_at "go"
  refine ⟨a, dx, fs, _, rfl, h1, h6, ?_⟩
  walk_at "go"
  exact hQ _ _ (by walk_at "same") (.tup (by walk_at "at") (.cons (.str _) (.cons (.int _) (.cons (.int _) (.cons (h7.mono (Keep.of (by walk_at "same"))) (.cons (h8.mono (Keep.of (by walk_at "same"))) .nil))))))
def spRef (K : PySem.W.Frag) : Sp := fun vs H Q _ => ∃ (a : Addr) (x : LV), vs = [.ref a] ∧ LetAt K H a x ∧ ∀ v' H', Same H H' → Tp H' v' (refD (x.author, x.number)) → Q v' H'
theorem b_ref {X : Cx} (C : Ctx X N_Letter_ref (defScope s_Letter_ref) 1) (a : Addr) (x : LV) (H : Hp) (hx : LetAt X.K H a x) (Q : VK) (hQ : ∀ v' H', Same H H' → Tp H' v' (refD (x.author, x.number)) → Q v' H') :
    B1 X (defBody s_Letter_ref) (start N_Letter_ref [.ref a]) H (fun _ H' => Q .non H') Q nobk nobk := by
  have hn := nm_Letter_ref C
  obtain ⟨v0, w0⟩ := hn
  obtain ⟨dx, fs, vs, vb, h1, h2, h3, h4, h5, h6, h7, h8, h9, h10⟩ := hx.at_
  conv => arg 2; whnf
  walk_at "go"
  refine e_fldL C C.tx.nAuthor ?_
  walk_at "go"
  refine ⟨a, dx, fs, _, rfl, h1, h2, ?_⟩
  walk_at "go"
  refine e_fldL C C.tx.nNumber ?_
  walk_at "go"
  refine ⟨a, dx, fs, _, rfl, h1, h3, ?_⟩
  walk_at "go"
  exact hQ _ _ (by walk_at "same") (.tup (by walk_at "at") (.cons (.str _) (.cons (.int _) .nil)))
section
variable {P : Program} {w : World} {K : PySem.W.Frag} {mg : Str → Option Value} {base : Heap}
/-- a method's promise -/
def CalleeM (P : Program) (w : World) (K : PySem.W.Frag) (mg : Str → Option Value) (base : Heap) (k : Nat) (f : Addr) (sp : Sp) : Prop :=
  ∃ (fd : FuncData) (ps : List Str), FnOk P w K mg base CX0 k f fd ps sp ∧ Binds K fd ps []
theorem calleeM_of {d : He.DefD} {N ps : List Str} {k : Nat} {sp : Sp} {m : Str} (T : Tx w K mg base) (j : Nat) (hd : LoH.fn[j]? = some d) (hat : d.at_ = (("Letter" : Str), some m)) (hdf : d.dfl = []) (hkw : d.kwd = []) (Sc : FnScope N ps d.scope) (hb : BindsAll ps d.name d.qual d.params d.body d.scope)
    (len : ∀ vs H Q E, sp vs H Q E → vs.length = ps.length)
    (body : ∀ (X : Cx), X.prog = P → X.w = w → X.K = K → X.mg = mg → X.base = base → Ctx X N d.scope k → ∀ (vs : List V) (H : Hp) (Q : VK) (E : XK), sp vs H Q E → B1 X d.body (start N vs) H (fun _ H' => Q .non H') Q nobk nobk) :
    CalleeM P w K mg base (k + 1) (He.ma K (LC K) m) sp := by
  obtain ⟨fd, F⟩ := T.t.d.def_ j hd
  have e1 : d.dvs K = [] := by unfold He.DefD.dvs; rw [hdf]; rfl
  have e2 : d.kws K = [] := by unfold He.DefD.kws; rw [hkw]; rfl
  rw [e1, e2] at F
  have ea : He.fAd K d.at_ = He.ma K (LC K) m := by rw [hat]; rfl
  rw [ea] at F
  refine ⟨fd, ps, ?_, F.bindsN hb⟩
  refine F.ok Sc len fun cdv A outer s H vs Q E hr h => ⟨_, pB, ?_⟩
  exact body _ rfl rfl rfl rfl rfl ⟨rfl, T, hr, fun _ => passes_of rfl, fun _ => Sc.nd, fun _ => rfl, fun _ => rfl, fun _ => rfl⟩ vs H Q E h
theorem c_init (T : Tx w K mg base) : CalleeM P w K mg base 2 (He.ma K (LC K) "__init__") (spInit (LC K)) := by
  refine calleeM_of T 13 rfl rfl rfl rfl fs_Letter_init bd_Letter_init (fun vs H Q E h => ?_) (fun X h1 h2 h3 h4 h5 C vs H Q E h => ?_)
  · obtain ⟨a, dx, y1, y2, y3, y4, y5, rfl, _⟩ := h; rfl
  · subst h1 h2 h3 h4 h5
    obtain ⟨a, dx, y1, y2, y3, y4, y5, rfl, ha, q⟩ := h
    exact b_init C a dx y1 y2 y3 y4 y5 H ha Q fun H' e => e ▸ q
theorem c_value (T : Tx w K mg base) : CalleeM P w K mg base 2 (He.ma K (LC K) "value") (spValue K) := by
  refine calleeM_of T 14 rfl rfl rfl rfl fs_Letter_value bd_Letter_value (fun vs H Q E h => ?_) (fun X h1 h2 h3 h4 h5 C vs H Q E h => ?_)
  · obtain ⟨a, x, rfl, _⟩ := h; rfl
  · subst h1 h2 h3 h4 h5
    obtain ⟨a, x, rfl, hx, q⟩ := h
    exact b_value C a x H hx Q q
end
/-! ### a new letter, its value, its ref -/
section
variable {X : Cx} {N : List Str} {sc : Scope} {k : Nat} {σ : L2.St} {H : Hp} {Q : VK} {e o : Expr} {es : List Expr} {pos p apos : Pos}
theorem lk5 (y1 y2 y3 y4 y5 : V) : (pf5 y1 y2 y3 y4 y5).lookup ("author" : Str) = some y1 ∧ (pf5 y1 y2 y3 y4 y5).lookup ("number" : Str) = some y2 ∧ (pf5 y1 y2 y3 y4 y5).lookup ("stamp" : Str) = some y3 ∧ (pf5 y1 y2 y3 y4 y5).lookup ("seen" : Str) = some y4 ∧
    (pf5 y1 y2 y3 y4 y5).lookup ("body" : Str) = some y5 ∧ (pf5 y1 y2 y3 y4 y5).lookup ("value" : Str) = none ∧ (pf5 y1 y2 y3 y4 y5).lookup ("ref" : Str) = none := by
  have n1 : ¬ ("author" : Str) = ("number" : Str) := by decide +kernel
  have n2 : ¬ ("author" : Str) = ("stamp" : Str) := by decide +kernel
  have n3 : ¬ ("author" : Str) = ("seen" : Str) := by decide +kernel
  have n4 : ¬ ("author" : Str) = ("body" : Str) := by decide +kernel
  have n5 : ¬ ("number" : Str) = ("stamp" : Str) := by decide +kernel
  have n6 : ¬ ("number" : Str) = ("seen" : Str) := by decide +kernel
  have n7 : ¬ ("number" : Str) = ("body" : Str) := by decide +kernel
  have n8 : ¬ ("stamp" : Str) = ("seen" : Str) := by decide +kernel
  have n9 : ¬ ("stamp" : Str) = ("body" : Str) := by decide +kernel
  have n10 : ¬ ("seen" : Str) = ("body" : Str) := by decide +kernel
  have v1 : ¬ ("value" : Str) = ("author" : Str) := by decide +kernel
  have v2 : ¬ ("value" : Str) = ("number" : Str) := by decide +kernel
  have v3 : ¬ ("value" : Str) = ("stamp" : Str) := by decide +kernel
  have v4 : ¬ ("value" : Str) = ("seen" : Str) := by decide +kernel
  have v5 : ¬ ("value" : Str) = ("body" : Str) := by decide +kernel
  have r1 : ¬ ("ref" : Str) = ("author" : Str) := by decide +kernel
  have r2 : ¬ ("ref" : Str) = ("number" : Str) := by decide +kernel
  have r3 : ¬ ("ref" : Str) = ("stamp" : Str) := by decide +kernel
  have r4 : ¬ ("ref" : Str) = ("seen" : Str) := by decide +kernel
  have r5 : ¬ ("ref" : Str) = ("body" : Str) := by decide +kernel
  refine ⟨?_, ?_, ?_, ?_, ?_, ?_, ?_⟩
  · rw [lookup_putF, if_neg n4, lookup_putF, if_neg n3, lookup_putF, if_neg n2, lookup_putF, if_neg n1, lookup_putF, if_pos rfl]
  · rw [lookup_putF, if_neg n7, lookup_putF, if_neg n6, lookup_putF, if_neg n5, lookup_putF, if_pos rfl]
  · rw [lookup_putF, if_neg n9, lookup_putF, if_neg n8, lookup_putF, if_pos rfl]
  · rw [lookup_putF, if_neg n10, lookup_putF, if_pos rfl]
  · rw [lookup_putF, if_pos rfl]
  · rw [lookup_putF, if_neg v5, lookup_putF, if_neg v4, lookup_putF, if_neg v3, lookup_putF, if_neg v2, lookup_putF, if_neg v1]; rfl
  · rw [lookup_putF, if_neg r5, lookup_putF, if_neg r4, lookup_putF, if_neg r3, lookup_putF, if_neg r2, lookup_putF, if_neg r1]; rfl
theorem initH_same {C : Addr} {H : Hp} {a dx : Addr} {y1 y2 y3 y4 y5 : V} (h1 : H a = none) (h2 : H dx = none) : Same H (initH C (upd (upd H dx (.own a)) a (.ins C dx [])) a dx y1 y2 y3 y4 y5) := by
  intro b u e
  unfold initH
  have n1 := ne_of_none e h1
  have n2 := ne_of_none e h2
  rw [upd_ne n1, upd_ne n1, upd_ne n1, upd_ne n1, upd_ne n1, upd_ne n1, upd_ne n2]
  exact e
/-- Letter(..) -/
theorem e_letter {kk : Nat} (C : Ctx X N sc k) (c : CalleeM X.prog X.w X.K X.mg X.base kk (He.ma X.K (LC X.K) "__init__") (spInit (LC X.K))) (hr : Room (kk + 1) X.A) (g : GlN X "Letter")
    (h : A1 X (e :: es) σ H fun vs H1 => ∃ (y4 y5 : V) (x : LV), vs = [S x.author, .int x.number, .int x.stamp, y4, y5] ∧ Tp H1 y4 (.tuple (x.seen.map refD)) ∧ Tp H1 y5 (bodyD x.body) ∧ ∀ a H2, Same H1 H2 → LetAt X.K H2 a x → Q (.ref a) H2)
    (he : starEach (e :: es) X.env = (false, eval e X.env) :: starEach es X.env := by rfl) (hpl : (backTo pos (starEach es X.env)).any (·.1) = false := by rfl) : E1 X (.Call (.Name "Letter" p) (e :: es) [] pos) σ H Q := by
  obtain ⟨fd, ps, F, hb⟩ := c
  refine E1.of (pe_make (E := E0) C.tx.mkr F hr g.g (C.tx.glo 61 rfl) hb .nil pass0 pA g.d he hpl) (A1.imp h fun vs H1 ⟨y4, y5, x, e1, t4, t5, q⟩ => ?_)
  subst e1
  intro a dx h1 h2 hne
  refine ⟨a, dx, _, _, _, y4, y5, rfl, upd_same, rfl, ?_⟩
  have hs := initH_same (C := LC X.K) (y1 := S x.author) (y2 := .int x.number) (y3 := .int x.stamp) (y4 := y4) (y5 := y5) h1 h2
  obtain ⟨k1, k2, k3, k4, k5, k6, k7⟩ := lk5 (S x.author) (.int x.number) (.int x.stamp) y4 y5
  exact q a _ hs ⟨dx, pf5 (S x.author) (.int x.number) (.int x.stamp) y4 y5, y4, y5, upd_same, k1, k2, k3, k4, k5, t4.mono (Keep.of hs), t5.mono (Keep.of hs), k6, k7⟩
/-- x.value() -/
theorem e_value {kk : Nat} (C : Ctx X N sc k) (c : CalleeM X.prog X.w X.K X.mg X.base kk (He.ma X.K (LC X.K) "value") (spValue X.K)) (hr : Room kk X.A)
    (h : E1 X o σ H fun v H1 => ∃ a x, v = .ref a ∧ LetAt X.K H1 a x ∧ ∀ v' H2, Same H1 H2 → Tp H2 v' (lvD x) → Q v' H2) {pl : Sem Bool}
    (ht : eval (.Call (.Attribute o "value" apos) [] [] pos) X.env = (do
      let ov ← eval o X.env
      standAt apos.atName
      let (f, first) ← holding [ov] (getMethod ov "value" pl)
      callWith pos f first (backTo pos (starEach [] X.env)) (backToKw pos (keywordEach [] X.env))) := by rfl) : E1 X (.Call (.Attribute o "value" apos) [] [] pos) σ H Q := by
  obtain ⟨fd, ps, F, hb⟩ := c
  refine E1.of (pe_meth0 (E := E0) pE C.tx.cls C.tx.meth F hr hb .nil pass0 ht) (E1.imp h fun v H1 ⟨a, x, e1, hx, q⟩ => ?_)
  obtain ⟨dx, fs, vs, vb, h1, h2, h3, h4, h5, h6, h7, h8, h9, h10⟩ := hx.at_
  exact ⟨a, dx, fs, e1, h1, h9, by rw [e1]; exact ⟨a, x, rfl, hx, q⟩⟩
end
/-! ## LoProp -/
/-! ### the property ref -/
theorem bd_Letter_ref : BindsAll ps_Letter_ref "ref" "Letter.ref" (defArgs s_Letter_ref) (defBody s_Letter_ref) (defScope s_Letter_ref) := fun _ _ _ _ _ _ us hl => match us, hl with | [_], _ => rfl
theorem ba2 {a b : Bool} (h : (a && b) = true) : a = true ∧ b = true := by simpa using h
section
variable {w : World} {K : PySem.W.Frag} {mg : Str → Option Value} {base : Heap}
theorem dO_ok {a : Option Bool} {b : Bool} (h : LoH.dO a b = true) : a = some b := of_decide_eq_true h
/-- the facts of ex, one by one -/
structure ExF (K : PySem.W.Frag) : Prop where
  p1 : PySem.W.findIn K (.ref (LC K)) "ref" = some (some (.ref (LoH.refP K)))
  p2 : PySem.W.specialIn K (.ref (LoH.refP K)) "__get__" = some (some (.builtin "property.__get__"))
  p3 : PySem.W.takesIn K (.ref (LoH.refP K)) = some true
  p4 : ∃ rest, PySem.W.recIn K (LoH.refP K) "property" = some (.ref (LoH.refG K) :: rest)
  p5 : LoH.fnB K (LoH.refG K) "ref" "Letter.ref" = true
  p6 : PySem.W.findIn K (.ref (LC K)) "__class__" = some (some (.builtin "object.__class__"))
  p7 : PySem.W.specialIn K (.builtin "object.__class__") "__get__" = some (some (.builtin "getset_descriptor.__get__"))
  p8 : PySem.W.takesIn K (.builtin "object.__class__") = some true
  p9 : PySem.W.mroIn K (LC K) (.type "object") = some true
  p10 : PySem.W.kitOne K (.ref (LC K)) (.ref (LC K)) = some true
  p11 : PySem.W.findIn K (.ref (He.ga K "BadMail")) "__getattribute__" = some (some (.builtin "BaseException.__getattribute__"))
  p12 : PySem.W.findIn K (.ref (He.ga K "BadMail")) "__getattr__" = some none
  p13 : PySem.W.subIn K (.ref (He.ga K "BadMail")) (.type "BaseException") = some true
  p14 : PySem.W.hasDictIn K (He.ga K "BadMail") = true
  p15 : PySem.W.findIn K (.ref (He.ga K "BadMail")) "__class__" = some (some (.builtin "object.__class__"))
  p16 : PySem.W.mroIn K (He.ga K "BadMail") (.type "object") = some true
  p17 : PySem.W.kitOne K (.ref (He.ga K "BadMail")) (.ref (He.ga K "BadMail")) = some true
  p18 : PySem.W.kitOne K (.ref (He.ga K "BadMail")) (.type "ValueError") = some true
  p19 : PySem.W.kitOne K (.ref (He.ga K "BadMail")) (.ref (He.ga K "BadLetter")) = some false
theorem Tx.exf (T : Tx w K mg base) : ExF K := by
  have h := T.more
  unfold LoH.ex at h
  obtain ⟨h, h20⟩ := ba2 h
  obtain ⟨h, h19⟩ := ba2 h
  obtain ⟨h, h18⟩ := ba2 h
  obtain ⟨h, h17⟩ := ba2 h
  obtain ⟨h, h16⟩ := ba2 h
  obtain ⟨h, h15⟩ := ba2 h
  obtain ⟨h, h14⟩ := ba2 h
  obtain ⟨h, h13⟩ := ba2 h
  obtain ⟨h, h12⟩ := ba2 h
  obtain ⟨h, h11⟩ := ba2 h
  obtain ⟨h, h10⟩ := ba2 h
  obtain ⟨h, h9⟩ := ba2 h
  obtain ⟨h, h8⟩ := ba2 h
  obtain ⟨h, h7⟩ := ba2 h
  obtain ⟨h, h6⟩ := ba2 h
  obtain ⟨h, h5⟩ := ba2 h
  obtain ⟨h, h4⟩ := ba2 h
  obtain ⟨h, h3⟩ := ba2 h
  obtain ⟨h1, h2⟩ := ba2 h
  refine ⟨He.eqO_ok h1, He.eqO_ok h2, dO_ok h3, ?_, h5, He.eqO_ok h6, He.eqO_ok h7, dO_ok h8, dO_ok h9, dO_ok h10, He.eqO_ok h11, He.eqO_ok h12, dO_ok h13, h14, He.eqO_ok h15, dO_ok h16, dO_ok h17, dO_ok h18, dO_ok h19⟩
  unfold LoH.refG
  cases e : PySem.W.recIn K (LoH.refP K) "property" with
  | none => rw [e] at h4; cases h4
  | some l =>
    rw [e] at h4
    cases l with
    | nil => cases h4
    | cons g r =>
      cases g with
      | ref g => exact ⟨r, rfl⟩
      | _ => cases h4
theorem Tx.getter (T : Tx w K mg base) : ∃ fd, FunD K d_Letter_ref.name d_Letter_ref.qual d_Letter_ref.params d_Letter_ref.body d_Letter_ref.scope [] [] (LoH.refG K) fd := by
  have e := T.rg
  obtain ⟨kp, c2⟩ := ba2 (T.exf.p5)
  unfold LoH.fnAt at e
  cases q : K.lookup (LoH.refG K) with
  | none =>
    rw [q] at c2
    cases c2
  | some o =>
    obtain ⟨oc, od, dt, osl⟩ := o
    rw [q] at c2 e
    cases dt with
    | func fd =>
      obtain ⟨n1, n2, n3, n4, n5, n6, n7, n8, n9, n10, n11, n12, n13, n14, n15⟩ := fd
      have e2 : (some (n1, n2, n3, n4, n5, n6, n7, n15) : He.FnW) = some (d_Letter_ref.name, d_Letter_ref.qual, d_Letter_ref.params, .stmts d_Letter_ref.body, d_Letter_ref.scope, mainGlobals, [], builtinsNs) := e
      simp only [Option.some.injEq, Prod.mk.injEq] at e2
      obtain ⟨h1, h2, h3, h4, h5, h6, h7, h8⟩ := e2
      subst h1 h2 h3 h4 h5 h6 h7 h8
      have c3 : (PySem.W.codeIn K n13 d_Letter_ref.qual && (He.dflB K n8 [] && He.kwdB K n9 [])) = true := c2
      obtain ⟨k1, k2⟩ := ba2 c3
      obtain ⟨k3, k4⟩ := ba2 k2
      exact ⟨_, ⟨oc, od, n8, n9, n10, n11, n12, n13, n14, osl, rfl, q, k1, He.dflB_ok k3, He.kwdB_ok k4⟩, kp⟩
    | _ => cases c2
variable {P : Program}
theorem c_ref (T : Tx w K mg base) : CalleeM P w K mg base 2 (LoH.refG K) (spRef K) := by
  obtain ⟨fd, F⟩ := T.getter
  refine ⟨fd, ps_Letter_ref, ?_, F.bindsN bd_Letter_ref⟩
  refine F.ok fs_Letter_ref (fun vs H Q E h => ?_) fun cdv A outer s H vs Q E hr h => ⟨_, pB, ?_⟩
  · obtain ⟨a, x, rfl, _⟩ := h; rfl
  · obtain ⟨a, x, rfl, hx, q⟩ := h
    exact b_ref ⟨rfl, T, hr, fun _ => passes_of rfl, fun _ => fs_Letter_ref.nd, fun _ => rfl, fun _ => rfl, fun _ => rfl⟩ a x H hx Q q
end
theorem e_ref {X : Cx} {N : List Str} {sc : Scope} {k kk : Nat} {σ : L2.St} {H : Hp} {Q : VK} {e : Expr} {pos : Pos} (C : Ctx X N sc k) (c : CalleeM X.prog X.w X.K X.mg X.base kk (LoH.refG X.K) (spRef X.K)) (hr : Room (kk + 1) X.A)
    (h : E1 X e σ H fun v H1 => ∃ a x, v = .ref a ∧ LetAt X.K H1 a x ∧ ∀ v' H2, Same H1 H2 → Tp H2 v' (refD (x.author, x.number)) → Q v' H2)
    (hab : attributeBase e "ref" X.env (eval e X.env) = eval e X.env := by rfl) : E1 X (.Attribute e "ref" pos) σ H Q := by
  obtain ⟨fd, ps, F, hb⟩ := c
  have f := C.tx.exf
  refine E1.of (pe_prop (E := E0) pE C.tx.cls ⟨f.p1, f.p2, f.p3, f.p4⟩ F hr hb .nil pass0 hab) (E1.imp h fun v H1 ⟨a, x, e1, hx, q⟩ => ?_)
  obtain ⟨dx, fs, vs, vb, h1, h2, h3, h4, h5, h6, h7, h8, h9, h10⟩ := hx.at_
  exact ⟨a, dx, fs, e1, h1, a, x, rfl, hx, q⟩
/-! ## LoEq -/
/-! Equality and membership of data. -/
/-- code points -/
def aT (z : T) : Prop := ∀ c ∈ z, c < 1114112
theorem strOk_S {z : T} (h : aT z) : PyData.strOk (mkS z) = true := by
  show z.toArray.all (fun c => decide (c < 0x110000)) = true
  rw [List.all_toArray, List.all_eq_true]
  exact fun c hc => decide_eq_true (h c hc)
theorem aT_name {z : T} (h : isName z = true) : aT z := fun c hc => by
  unfold isName at h
  simp only [Bool.and_eq_true] at h
  have := List.all_eq_true.mp h.2.2.1 c hc
  simp [isLet, isDig] at this; omega
theorem aT_plain {z : T} (h : isPlain z = true) : aT z := fun c hc => by
  have := List.all_eq_true.mp h c hc
  simp at this; omega
theorem aT_title {z : T} (h : isTitle z = true) : aT z := by
  unfold isTitle at h
  simp only [Bool.and_eq_true] at h
  exact aT_plain h.2
theorem aT_text {z : T} (h : isText (some z) = true) : aT z := fun c hc => by
  unfold isText at h
  simp only [Bool.and_eq_true] at h
  by_cases h10 : c = 10
  · omega
  · exact aT_plain h.2.2 c (List.mem_filter.mpr ⟨hc, by simp [h10]⟩)
theorem refD_lay {r : Rf} (h : aT r.1) : (refD r).canLay0 = true := by simp [refD, PyData.canLay0, PyData.canLayAll0, strOk_S h]
theorem refD_depth (r : Rf) : (refD r).depth = 1 := by simp [refD, PyData.depth, PyData.depthAll]
theorem optD_lay {o : Option T} (h : ∀ z, o = some z → aT z) : (optD o).canLay0 = true := by cases o <;> simp [optD, PyData.canLay0]; exact strOk_S (h _ rfl)
theorem optD_depth (o : Option T) : (optD o).depth = 0 := by cases o <;> simp [optD, PyData.depth]
theorem refs_lay : ∀ rs : List Rf, (∀ r ∈ rs, aT r.1) → PyData.canLayAll0 (rs.map refD) = true
  | [], _ => by simp [PyData.canLayAll0]
  | r :: rs, h => by simp [PyData.canLayAll0, refD_lay (h r (by simp)), refs_lay rs (fun r hr => h r (List.mem_cons_of_mem _ hr))]
theorem refs_depth : ∀ rs : List Rf, PyData.depthAll (rs.map refD) ≤ 1
  | [] => by simp [PyData.depthAll]
  | r :: rs => by
    have h1 := refs_depth rs
    have h2 := refD_depth r
    simp only [List.map_cons, PyData.depthAll]
    omega
theorem strs_lay : ∀ rs : List T, (∀ r ∈ rs, aT r) → PyData.canLayAll0 (rs.map strD) = true
  | [], _ => by simp [PyData.canLayAll0]
  | r :: rs, h => by
    have h1 : (strD r).canLay0 = true := by simp [strD, PyData.canLay0, strOk_S (h r (by simp))]
    simp [PyData.canLayAll0, h1, strs_lay rs (fun r hr => h r (List.mem_cons_of_mem _ hr))]
theorem strs_depth : ∀ rs : List T, PyData.depthAll (rs.map strD) = 0
  | [] => by simp [PyData.depthAll]
  | r :: rs => by
    have h1 := strs_depth rs
    have h2 : (strD r).depth = 0 := by simp [strD, PyData.depth]
    simp only [List.map_cons, PyData.depthAll, h1, h2]; rfl
theorem str_lay {r : T} (h : aT r) : (strD r).canLay0 = true := by simp [strD, PyData.canLay0, strOk_S h]
theorem str_depth (r : T) : (strD r).depth = 0 := by simp [strD, PyData.depth]
theorem kinds_a (b : Body) (hb : isBody b = true) : aT (LO.kindOf b) := by
  cases b with
  | reply e r o => cases e <;> (intro c hc; simp [LO.kindOf, kReply, kEdit] at hc; omega)
  | act k n => match k with
    | 0 => intro c hc; simp [LO.kindOf, actK, kAdd] at hc; omega
    | 1 => intro c hc; simp [LO.kindOf, actK, kCut] at hc; omega
    | n + 2 => intro c hc; simp [LO.kindOf, actK, kHand] at hc; omega
  | other k => exact absurd hb (by simp [isBody])
  | found t ms => intro c hc; simp [LO.kindOf, kFound] at hc; omega
  | say o => intro c hc; simp [LO.kindOf, kSay] at hc; omega
  | recall r => intro c hc; simp [LO.kindOf, kRecall] at hc; omega
  | mark r w => intro c hc; simp [LO.kindOf, kMark] at hc; omega
  | title t => intro c hc; simp [LO.kindOf, kTitle] at hc; omega
  | seen => intro c hc; simp [LO.kindOf, kSeen] at hc; omega
theorem isRef_a {r : Rf} (h : isRef r = true) : aT r.1 := by
  unfold isRef at h
  simp only [Bool.and_eq_true] at h
  exact aT_name h.1
theorem isText_a {o : Option T} (h : isText o = true) : ∀ z, o = some z → aT z := fun z e => by subst e; exact aT_text h
theorem isMembers_a {ms : List T} (h : isMembers ms = true) : ∀ m ∈ ms, aT m := fun m hm => by
  unfold isMembers at h
  simp only [Bool.and_eq_true] at h
  exact aT_name (List.all_eq_true.mp h.2.1 m hm)
theorem bodyD_lay {b : Body} (hb : isBody b = true) : (bodyD b).canLay0 = true := by
  have hk := str_lay (kinds_a b hb)
  cases b with
  | found t ms =>
    unfold isBody at hb; simp only [Bool.and_eq_true] at hb
    have h1 := str_lay (aT_title hb.1)
    have h2 := strs_lay ms (isMembers_a hb.2)
    simp only [bodyD, PyData.canLay0, PyData.canLayAll0, Bool.and_true, Bool.and_eq_true]
    exact ⟨hk, h1, h2⟩
  | say o => simp only [bodyD, PyData.canLay0, PyData.canLayAll0, Bool.and_true, Bool.and_eq_true]; exact ⟨hk, optD_lay (isText_a hb)⟩
  | reply e r o =>
    unfold isBody at hb; simp only [Bool.and_eq_true] at hb
    simp only [bodyD, PyData.canLay0, PyData.canLayAll0, Bool.and_true, Bool.and_eq_true]; exact ⟨hk, refD_lay (isRef_a hb.1), optD_lay (isText_a hb.2)⟩
  | recall r => simp only [bodyD, PyData.canLay0, PyData.canLayAll0, Bool.and_true, Bool.and_eq_true]; exact ⟨hk, refD_lay (isRef_a hb)⟩
  | mark r w =>
    unfold isBody at hb; simp only [Bool.and_eq_true] at hb
    simp only [bodyD, PyData.canLay0, PyData.canLayAll0, Bool.and_true, Bool.and_eq_true]; exact ⟨hk, refD_lay (isRef_a hb.1), str_lay (aT_name hb.2)⟩
  | title t => simp only [bodyD, PyData.canLay0, PyData.canLayAll0, Bool.and_true, Bool.and_eq_true]; exact ⟨hk, str_lay (aT_title hb)⟩
  | act k n => simp only [bodyD, PyData.canLay0, PyData.canLayAll0, Bool.and_true, Bool.and_eq_true]; exact ⟨hk, str_lay (aT_name hb)⟩
  | seen => simp only [bodyD, PyData.canLay0, PyData.canLayAll0, Bool.and_true]; exact hk
  | other k => exact absurd hb (by simp [isBody])
theorem bodyD_depth (b : Body) : (bodyD b).depth ≤ 4 := by
  cases b with
  | found t ms =>
    have h := strs_depth ms
    simp only [bodyD, PyData.depth, PyData.depthAll, str_depth, h]; decide
  | say o => simp only [bodyD, PyData.depth, PyData.depthAll, str_depth, optD_depth]; decide
  | reply e r o => simp only [bodyD, PyData.depth, PyData.depthAll, str_depth, optD_depth, refD_depth]; decide
  | recall r => simp only [bodyD, PyData.depth, PyData.depthAll, str_depth, refD_depth]; decide
  | mark r w => simp only [bodyD, PyData.depth, PyData.depthAll, str_depth, refD_depth]; decide
  | title t => simp only [bodyD, PyData.depth, PyData.depthAll, str_depth]; decide
  | act k n => simp only [bodyD, PyData.depth, PyData.depthAll, str_depth]; decide
  | seen => simp only [bodyD, PyData.depth, PyData.depthAll, str_depth]; decide
  | other k => simp only [bodyD, PyData.depth, PyData.depthAll, str_depth]; decide
theorem letter_parts {x : LV} (h : isLetter x = true) : isName x.author = true ∧ isNum x.number = true ∧ isNum x.stamp = true ∧ isSeen x.seen = true ∧ isBody x.body = true ∧ x.seen.contains (x.author, x.number) = true := by
  unfold isLetter at h
  simp only [Bool.and_eq_true] at h
  exact ⟨h.1, h.2.1, h.2.2.1, h.2.2.2.1, h.2.2.2.2.1, h.2.2.2.2.2.1⟩
theorem seen_refs {rs : List Rf} (h : isSeen rs = true) : ∀ r ∈ rs, isRef r = true := by
  unfold isSeen at h
  simp only [Bool.and_eq_true] at h
  exact List.all_eq_true.mp h.1
theorem lvD_shaped {x : LV} (h : isLetter x = true) : SeqAt.shaped (lvD x) = true := by
  obtain ⟨p1, p2, p3, p4, p5, _⟩ := letter_parts h
  have h1 : (lvD x).canLay0 = true := by
    simp only [lvD, PyData.canLay0, PyData.canLayAll0, Bool.and_true, Bool.and_eq_true, Bool.true_and]
    exact ⟨str_lay (aT_name p1), refs_lay _ fun r hr => isRef_a (seen_refs p4 r hr), bodyD_lay p5⟩
  have h2 : (lvD x).depth ≤ 64 := by
    have a := refs_depth x.seen
    have b := bodyD_depth x.body
    have c := str_depth x.author
    simp only [lvD, PyData.depth, PyData.depthAll, c]
    omega
  show ((lvD x).canLay0 && decide ((lvD x).depth ≤ 64)) = true
  rw [h1, decide_eq_true h2]; rfl
theorem refsT_shaped {rs : List Rf} (h : ∀ r ∈ rs, aT r.1) : SeqAt.shaped (.tuple (rs.map refD)) = true := by
  have a := refs_depth rs
  show (PyData.canLay0 (.tuple (rs.map refD)) && decide (PyData.depth (.tuple (rs.map refD)) ≤ 64)) = true
  rw [Bool.and_eq_true]
  exact ⟨by simp only [PyData.canLay0]; exact refs_lay rs h, decide_eq_true (by simp only [PyData.depth]; omega)⟩
theorem refsL_shaped {rs : List Rf} (h : ∀ r ∈ rs, aT r.1) : SeqAt.shaped (.list (rs.map refD)) = true := by
  have a := refs_depth rs
  show (PyData.canLay0 (.list (rs.map refD)) && decide (PyData.depth (.list (rs.map refD)) ≤ 64)) = true
  rw [Bool.and_eq_true]
  exact ⟨by simp only [PyData.canLay0]; exact refs_lay rs h, decide_eq_true (by simp only [PyData.depth]; omega)⟩
theorem strsL_shaped {rs : List T} (h : ∀ r ∈ rs, aT r) : SeqAt.shaped (.list (rs.map strD)) = true := by
  have a := strs_depth rs
  show (PyData.canLay0 (.list (rs.map strD)) && decide (PyData.depth (.list (rs.map strD)) ≤ 64)) = true
  rw [Bool.and_eq_true]
  exact ⟨by simp only [PyData.canLay0]; exact strs_lay rs h, decide_eq_true (by simp only [PyData.depth]; omega)⟩
theorem bq {α : Type} [BEq α] [LawfulBEq α] [DecidableEq α] (a b : α) : (a == b) = decide (a = b) := by
  by_cases h : a = b
  · subst h; simp
  · rw [decide_eq_false h]; exact beq_eq_false_iff_ne.mpr h
theorem strD_eqv (a b : T) : PyData.eqv (strD a) (strD b) = decide (a = b) := by
  have e : PyData.eqv (strD a) (strD b) = (mkS a == mkS b) := by simp only [strD, PyData.eqv]
  rw [e, bq]
  by_cases h : a = b
  · subst h; simp
  · rw [decide_eq_false h, decide_eq_false fun e => h (mkS_inj e)]
theorem refD_eqv (r s : Rf) : PyData.eqv (refD r) (refD s) = decide (r = s) := by
  obtain ⟨a, i⟩ := r
  obtain ⟨b, j⟩ := s
  have e : PyData.eqv (refD (a, i)) (refD (b, j)) = ((mkS a == mkS b) && ((i == j) && true)) := by simp only [refD, PyData.eqv, PyData.eqvAll]
  rw [e, bq, bq, Bool.and_true]
  by_cases h : a = b
  · subst h
    by_cases h2 : i = j
    · subst h2; simp
    · simp [h2]
  · simp only [Prod.mk.injEq, h, false_and, decide_false, Bool.and_eq_false_imp, decide_eq_true_eq]
    intro e; exact absurd (mkS_inj e) h
theorem eqvAll_refs : ∀ rs ss : List Rf, PyData.eqvAll (rs.map refD) (ss.map refD) = decide (rs = ss)
  | [], [] => by simp [PyData.eqvAll]
  | [], s :: ss => by simp [PyData.eqvAll]
  | r :: rs, [] => by simp [PyData.eqvAll]
  | r :: rs, s :: ss => by
    rw [List.map_cons, List.map_cons, PyData.eqvAll, refD_eqv, eqvAll_refs rs ss]
    by_cases h : r = s <;> simp [h]
theorem eqvAll_strs : ∀ rs ss : List T, PyData.eqvAll (rs.map strD) (ss.map strD) = decide (rs = ss)
  | [], [] => by simp [PyData.eqvAll]
  | [], s :: ss => by simp [PyData.eqvAll]
  | r :: rs, [] => by simp [PyData.eqvAll]
  | r :: rs, s :: ss => by
    rw [List.map_cons, List.map_cons, PyData.eqvAll, strD_eqv, eqvAll_strs rs ss]
    by_cases h : r = s <;> simp [h]
theorem eqvT_refs (rs ss : List Rf) : PyData.eqv (.tuple (rs.map refD)) (.tuple (ss.map refD)) = decide (rs = ss) := by rw [PyData.eqv, eqvAll_refs]
theorem eqvL_refs (rs ss : List Rf) : PyData.eqv (.list (rs.map refD)) (.list (ss.map refD)) = decide (rs = ss) := by rw [PyData.eqv, eqvAll_refs]
theorem eqvL_strs (rs ss : List T) : PyData.eqv (.list (rs.map strD)) (.list (ss.map strD)) = decide (rs = ss) := by rw [PyData.eqv, eqvAll_strs]
theorem any_refs (rs : List Rf) (r : Rf) : ((rs.map refD).any fun z => PyData.eqv z (refD r)) = rs.contains r := by
  induction rs with
  | nil => rfl
  | cons s ss ih =>
    rw [List.map_cons, List.any_cons, ih, refD_eqv, List.contains_cons]
    congr 1
    rw [bq]
    by_cases h : s = r
    · subst h; simp
    · rw [decide_eq_false h, decide_eq_false fun e => h e.symm]
/-- r not in a tuple of refs -/
theorem op_notInT {X : Cx} (hu : X.A.units + 65 < cLine) : OpR X (compareOp .NotIn) (fun x y H Q => ∃ (r : Rf) (rs : List Rf), Tp H x (refD r) ∧ aT r.1 ∧ (∀ r ∈ rs, aT r.1) ∧ Tp H y (.tuple (rs.map refD)) ∧ Q (.bl (!rs.contains r)) H) := by
  intro pins s σ H x y v u Q I rx ry h
  obtain ⟨r, rs, hd, ar, ars, he, q⟩ := h
  obtain ⟨as, r1⟩ := Dp.reads I (refD r) x v hd.dp rx
  obtain ⟨bs, r2⟩ := Dp.reads I (.tuple (rs.map refD)) y u he.dp ry
  refine SeqAt.notIn_tuple_reads r2 r1 (refs_lay rs ars) (refD_lay ar) ?_ ?_
  · have a := refD_depth r
    rw [a]
    have : min (PyData.depthAll (rs.map refD)) 1 ≤ 1 := Nat.min_le_right _ _
    omega
  · rw [any_refs]
    exact ⟨.bl _, H, I, rfl, q⟩
section
variable {K : PySem.W.Frag} {H : Hp} {Q : VK} {x y : V}
theorem EqV.refsT {rs ss : List Rf} (a1 : ∀ r ∈ rs, aT r.1) (a2 : ∀ r ∈ ss, aT r.1) (h1 : Tp H x (.tuple (rs.map refD))) (h2 : Tp H y (.tuple (ss.map refD))) (q : Q (.bl (decide (rs = ss))) H) : EqV K x y H Q := EqV.d h1.dp h2.dp (refsT_shaped a1) (refsT_shaped a2) (by rw [eqvT_refs]; exact q)
/-- a list of texts as data -/
theorem dp_strs {a : Addr} {ls : List T} (h : H a = some (.lst (ls.map S))) : Dp K H (.ref a) (.list (ls.map strD)) := .lst (SqL.of h) (TpAll.dp (TpAll.of_strs ls))
theorem eqv_strsL {a b : Addr} {ls ms : List T} (a1 : ∀ r ∈ ls, aT r) (a2 : ∀ r ∈ ms, aT r) (h1 : H a = some (.lst (ls.map S))) (h2 : H b = some (.lst (ms.map S))) (q : Q (.bl (decide (ls = ms))) H) : EqV K (.ref a) (.ref b) H Q := EqV.d (dp_strs h1) (dp_strs h2) (strsL_shaped a1) (strsL_shaped a2) (by rw [eqvL_strs]; exact q)
theorem nev_strsL {a b : Addr} {ls ms : List T} (a1 : ∀ r ∈ ls, aT r) (a2 : ∀ r ∈ ms, aT r) (h1 : H a = some (.lst (ls.map S))) (h2 : H b = some (.lst (ms.map S))) (q : Q (.bl (!decide (ls = ms))) H) : NeV K (.ref a) (.ref b) H Q := NeV.d (dp_strs h1) (dp_strs h2) (strsL_shaped a1) (strsL_shaped a2) (by rw [eqvL_strs]; exact q)
theorem optV_inj {a b : Option T} (h : optV a = optV b) : a = b := by
  cases a <;> cases b <;> first | rfl | (cases h; done) | (rw [S_inj h])
theorem nev_opt {a b : Option T} (q : Q (.bl (!decide (a = b))) H) : NeV K (optV a) (optV b) H Q := by
  refine NeV.s (by cases a <;> cases b <;> rfl) ?_
  have e : decide (optV a = optV b) = decide (a = b) := by
    by_cases h : a = b
    · subst h; simp
    · rw [decide_eq_false h, decide_eq_false fun e => h (optV_inj e)]
  rw [e]; exact q
theorem NeV.lv {a : LV} (ha : isLetter a = true) (h1 : Tp H x (lvD a)) (h2 : Tp H y (lvD a)) (q : Q (.bl false) H) : NeV K x y H Q := NeV.d h1.dp h2.dp (lvD_shaped ha) (lvD_shaped ha) (by rw [SeqAt.eqv_refl _ (SeqAt.canLay_of_shaped (lvD_shaped ha))]; exact q)
end
/-! ## LoIsL -/
structure SmL (x : LV) : Prop where
  a : Sm x.author
  s : ∀ r ∈ x.seen, SmR r
  b : SmB x.body
def spIsLetter : Sp := fun vs H Q _ => ∃ (v : V) (x : LV), vs = [v] ∧ Tp H v (lvD x) ∧ SmL x ∧ ∀ H', Same H H' → Q (.bl (isLetter x)) H'
theorem lv_inv {H : Hp} {v : V} {x : LV} (h : Tp H v (lvD x)) : ∃ a y4 y5, v = .ref a ∧ H a = some (.tup [S x.author, .int x.number, .int x.stamp, y4, y5]) ∧ Tp H y4 (.tuple (x.seen.map refD)) ∧ Tp H y5 (bodyD x.body) := by
  obtain ⟨a, xs, rfl, ha, hx⟩ := h.tup_inv
  obtain ⟨x1, _, rfl, t1, hx⟩ := hx.cons_inv
  obtain ⟨x2, _, rfl, t2, hx⟩ := hx.cons_inv
  obtain ⟨x3, _, rfl, t3, hx⟩ := hx.cons_inv
  obtain ⟨x4, _, rfl, t4, hx⟩ := hx.cons_inv
  obtain ⟨x5, _, rfl, t5, hx⟩ := hx.cons_inv
  obtain rfl := hx.nil_inv
  obtain rfl := t1.str_inv
  obtain rfl := t2.int_inv
  obtain rfl := t3.int_inv
  exact ⟨a, x4, x5, rfl, ha, t4, t5⟩
theorem b_is_letter {X : Cx} (C : Ctx X N_is_letter (defScope s_is_letter) 4) (c1 : CalleeX X CX0 4 "is_name" spIsName) (c2 : CalleeX X CX0 4 "is_number" spIsNumber) (c3 : CalleeX X CX0 4 "is_seen" spIsSeen) (c4 : CalleeX X CX0 4 "is_body" spIsBody)
    (v : V) (x : LV) (H : Hp) (ht : Tp H v (lvD x)) (hs : SmL x) (Q : VK) (hQ : ∀ H' k, Same H H' → k = isLetter x → Q (.bl k) H') :
    B1 X (defBody s_is_letter) (start N_is_letter [v]) H (fun _ H' => Q .non H') Q nobk nobk := by
  have hn := nm_is_letter C
  obtain ⟨v0, v1, v2, v3, v4, v5, w0, w1, w2, w3, w4, w5, g1, g2, g3, g4, g5, g6, g7⟩ := hn
  obtain ⟨a, y4, y5, rfl, ha, t4, t5⟩ := lv_inv ht
  conv => arg 2; whnf
  walk_at "go"
  refine s_asg ?_
  walk_at "go"
  refine g_tup C.calm (SqT.of ha) rfl ?_
  refine gs_cons ?_
  walk_at "go"
  refine gs_cons ?_
  walk_at "go"
  refine gs_cons ?_
  walk_at "go"
  refine gs_cons ?_
  walk_at "go"
  refine gs_cons ?_
  walk_at "go"
  refine gs_nil ?_
  walk_at "go"
  refine ⟨hs.a, ?_⟩
  walk_at "go"
  refine Bth.n (fun h1 => ?_) (fun h1 => ?_)
  · walk_at "go"
    exact hQ _ _ (Same.refl _) (by unfold isLetter; rw [h1]; rfl)
  walk_at "go"
  refine Bth.n (fun h2 => ?_) (fun h2 => ?_)
  · walk_at "go"
    exact hQ _ _ (Same.refl _) (by unfold isLetter; rw [h1, h2]; rfl)
  walk_at "go"
  refine Bth.n (fun h3 => ?_) (fun h3 => ?_)
  · walk_at "go"
    exact hQ _ _ (Same.refl _) (by unfold isLetter; rw [h1, h2, h3]; rfl)
  walk_at "go"
  refine ⟨_, x.seen, rfl, t4, hs.s, fun H1 s1 => ?_⟩
  walk_at "go"
  refine Bth.n (fun h4 => ?_) (fun h4 => ?_)
  · walk_at "go"
    exact hQ _ _ s1 (by unfold isLetter; rw [h1, h2, h3, h4]; rfl)
  walk_at "go"
  refine ⟨_, x.body, rfl, t5.mono (Keep.of s1), hs.b, fun H2 s2 => ?_⟩
  have s12 := s1.trans s2
  walk_at "go"
  refine Bth.n (fun h5 => ?_) (fun h5 => ?_)
  · walk_at "go"
    exact hQ _ _ s12 (by unfold isLetter; rw [h1, h2, h3, h4, h5]; rfl)
  have an := aT_name h1
  have as : ∀ r ∈ x.seen, aT r.1 := fun r hr => isRef_a (seen_refs h4 r hr)
  refine b_nil (b_cons (s_if (t_w (w_or (t_cmp (op_notInT (X := X) (by have := C.room.un; omega)) ?_)))))
  walk_at "go"
  rename_i H3 n3
  have s3 : Same H H3 := s12.trans n3.same
  refine ⟨(x.author, x.number), x.seen, .tup n3.at_ (.cons (.str _) (.cons (.int _) .nil)), an, as, t4.mono (Keep.of s3), ?_⟩
  refine ⟨_, rfl, ?_⟩
  refine Bth.n (fun h6 => ?_) (fun h6 => ?_)
  · walk_at "go"
    exact hQ _ _ s3 (by unfold isLetter; rw [h1, h2, h3, h4, h5, h6]; rfl)
  walk_at "go"
  refine Bth.d (fun h7 => ?_) (fun h7 => ?_)
  · walk_at "go"
    exact hQ _ _ s3 (by unfold isLetter; rw [h1, h2, h3, h4, h5, h6, decide_eq_false (show ¬ x.number ≤ x.stamp by omega)]; rfl)
  obtain ⟨b, xs, rfl, hb, hx⟩ := body_inv (t5.mono (Keep.of s3)) h5
  have hle : decide (x.number ≤ x.stamp) = true := decide_eq_true (by omega)
  have ca : x.seen.contains (x.author, x.number) = true := h6
  have base : isLetter x = (match x.body with
    | .found _ ms => decide (x.stamp = 1) && (decide (x.seen = [(x.author, 1)]) && !ms.contains x.author)
    | _ => decide (1 < x.stamp)) := by
    unfold isLetter; rw [h1, h2, h3, h4, h5, ca, hle]; (simp only [Bool.true_and]) <;> (cases x.body <;> rfl)
  have a0 : H3 a = some (.tup [S x.author, .int x.number, .int x.stamp, y4, .ref b]) := s3 _ _ ha
  have t4' := t4.mono (Keep.of s3)
  have two : (∃ t ms, x.body = .found t ms) ∨ (LO.kindOf x.body ≠ kFound ∧ isLetter x = decide (1 < x.stamp)) := by
    rw [base]
    cases ebody : x.body with
    | found t ms => exact .inl ⟨t, ms, rfl⟩
    | reply e r o => exact .inr ⟨by cases e <;> simp [LO.kindOf, kReply, kEdit, kFound], rfl⟩
    | act k n => exact .inr ⟨by match k with
      | 0 => simp [LO.kindOf, actK, kAdd, kFound]
      | 1 => simp [LO.kindOf, actK, kCut, kFound]
      | n + 2 => simp [LO.kindOf, actK, kHand, kFound], rfl⟩
    | other k => rw [ebody] at h5; exact absurd h5 (by simp [isBody])
    | say o => exact .inr ⟨by simp [LO.kindOf, kSay, kFound], rfl⟩
    | recall o => exact .inr ⟨by simp [LO.kindOf, kRecall, kFound], rfl⟩
    | mark o => exact .inr ⟨by simp [LO.kindOf, kMark, kFound], rfl⟩
    | title o => exact .inr ⟨by simp [LO.kindOf, kTitle, kFound], rfl⟩
    | seen => exact .inr ⟨by simp [LO.kindOf, kSeen, kFound], rfl⟩
  rcases two with ⟨t, ms, ebody⟩ | ⟨hk, base2⟩
  · rw [ebody] at hx hb base
    obtain ⟨m, rfl, hm⟩ := hx
    simp only [LO.kindOf] at hb
    dsimp only at base
    walk_at "go"
    refine Bth.d (fun h8 => ?_) (fun h8 => ?_)
    · walk_at "go"
      rename_i H4 n4 _ H5 n5
      have k35 : Same H3 H5 := n4.same.trans n5.same
      refine EqV.refsT as (ss := [(x.author, 1)]) (by intro r hr; rw [List.mem_singleton.mp hr]; exact an) (t4'.mono (Keep.of k35)) (.tup n5.at_ (.cons (.tup (n5.same _ _ n4.at_) (.cons (.str _) (.cons (.int _) .nil))) .nil)) ?_
      walk_at "go"
      refine Bth.d (fun h9 => ?_) (fun h9 => ?_)
      · walk_at "go"
        refine NotInV.tT (SqT.of (k35 _ _ hm)) ?_
        exact hQ _ _ (s3.trans k35) (by rw [base, decide_eq_true h8, decide_eq_true h9]; rfl)
      · exact hQ _ _ (s3.trans k35) (by rw [base, decide_eq_true h8, decide_eq_false h9]; rfl)
    · exact hQ _ _ s3 (by rw [base, decide_eq_false h8]; rfl)
  · walk_at "go"
    refine IxV.t (SqT.of hb) (atI_nat (j := 0) rfl) ?_
    walk_at "go"
    refine Bth.dF (show ¬ LO.kindOf x.body = tl (Str.ofString "found") by rw [show tl (Str.ofString "found") = kFound by decide +kernel]; exact hk) ?_
    walk_at "go"
    exact hQ _ _ s3 (by rw [base2])
section
variable {P : Program} {w : World} {K : PySem.W.Frag} {mg : Str → Option Value} {base : Heap}
theorem c_is_letter (T : Tx w K mg base) : Callee P w K mg base CX0 5 "is_letter" spIsLetter := by
  have c1 := (c_is_name (P := P) T).mono (by decide : 1 ≤ 4)
  have c2 := (c_is_number (P := P) T).mono (by decide : 1 ≤ 4)
  have c3 := (c_is_seen (P := P) T)
  have c4 := (c_is_body (P := P) T)
  refine callee_of T 16 14 rfl rfl rfl rfl rfl fs_is_letter bd_is_letter (fun vs H Q E h => ?_) (fun X h1 h2 h3 h4 h5 C vs H Q E h => ?_)
  · obtain ⟨n, _, rfl, _⟩ := h; rfl
  · subst h1 h2 h3 h4 h5
    obtain ⟨v, x, rfl, ht, hs, q⟩ := h
    exact b_is_letter C c1 c2 c3 c4 v x H ht hs Q fun H' k hk e => e ▸ q H' hk
end
/-! ## LoLine -/
/-! ### unfold, head_end, text_end -/
/-- the lines' lengths together -/
def tot (ls : List T) : Nat := (ls.map List.length).sum
theorem tot_cons (l : T) (ls : List T) : tot (l :: ls) = l.length + tot ls := by simp [tot]
theorem tot_app (a b : List T) : tot (a ++ b) = tot a + tot b := by simp [tot]
theorem tot_mem {ls : List T} {l : T} (h : l ∈ ls) : l.length ≤ tot ls := by
  induction ls with
  | nil => cases h
  | cons a r ih =>
    rw [tot_cons]
    rcases List.mem_cons.mp h with rfl | h
    · omega
    · have := ih h; omega
theorem unf_step (acc : List T) (l : T) (r : List T) : unf acc (l :: r) = if l.head? ≠ some 32 then unf (acc ++ [l]) r else if acc = [] then none else unf (acc.dropLast ++ [acc.getLastD [] ++ l]) r := by rw [unf]
def spUnfold (K : PySem.W.Frag) : Sp := fun vs H Q E => ∃ (a : Addr) (ls : List T), vs = [.ref a] ∧ H a = some (.lst (ls.map S)) ∧ tot ls ≤ 16000000 ∧ ls.length ≤ 16000000 ∧
  (∀ hs r H', unf [] ls = some hs → New H r (.lst (hs.map S)) H' → Q (.ref r) H') ∧ (unf [] ls = none → ∀ H', Same H H' → E (BM K) none H')
theorem take1 (z : T) : (z.take 1 = [32]) ↔ z.head? = some 32 := by
  cases z with
  | nil => simp
  | cons c r => simp
theorem b_unfold {X : Cx} (C : Ctx X N_unfold (defScope s_unfold) 2) (E : XK) (tk : Takes X (fun cls a _ H => E cls a H)) (a : Addr) (ls : List T) (H : Hp) (ha : H a = some (.lst (ls.map S))) (hl : tot ls ≤ 16000000) (hn : ls.length ≤ 16000000) (Q : VK)
    (h1 : ∀ hs r H', unf [] ls = some hs → New H r (.lst (hs.map S)) H' → Q (.ref r) H') (h2 : unf [] ls = none → ∀ H', Same H H' → E (BM X.K) none H') :
    B1 X (defBody s_unfold) (start N_unfold [.ref a]) H (fun _ H' => Q .non H') Q nobk nobk := by
  have hnm := nm_unfold C
  obtain ⟨v0, v1, v2, w0, w1, w2, g1⟩ := hnm
  conv => arg 2; whnf
  walk_at "go"
  rename_i r H0 n0
  refine s_for_list C.toCok ?_
  walk_at "go"
  refine ⟨a, ls.map S, rfl, SqL.of (n0.same _ _ ha), fun i σ H' => ∃ o1, σ = [some (.ref a), some (.ref r), o1] ∧ ∃ acc, New H r (.lst (acc.map S)) H' ∧ unf [] ls = unf acc (ls.drop i) ∧ tot acc ≤ tot (ls.take i) ∧ acc.length ≤ i,
    ⟨none, rfl, [], n0, by simp, by simp [tot], by simp⟩, fun i σ H' _ ⟨_, _, _, n, _⟩ => SqL.of (n.same _ _ ha), ?_, ?_⟩
  · rintro i v σ H1 hi ⟨o1, rfl, acc, n, hu, ht, hlen⟩
    obtain ⟨l, hl', rfl⟩ : ∃ l, ls[i]? = some l ∧ S l = v := by rw [List.getElem?_map] at hi; cases e : ls[i]? with
      | none => rw [e] at hi; cases hi
      | some z => rw [e] at hi; exact ⟨z, rfl, Option.some.inj hi⟩
    have hi2 : i < ls.length := (List.getElem?_eq_some_iff.mp hl').1
    have hd : ls.drop i = l :: ls.drop (i + 1) := by
      rw [List.drop_eq_getElem_cons hi2]; congr 1; exact (List.getElem?_eq_some_iff.mp hl').2
    rw [hd, unf_step] at hu
    have htk : tot (ls.take (i + 1)) = tot (ls.take i) + l.length := by rw [List.take_add_one, hl', tot_app]; simp [tot]
    have hle : tot (ls.take (i + 1)) ≤ tot ls := by
      have := tot_app (ls.take (i + 1)) (ls.drop (i + 1)); rw [List.take_append_drop] at this; omega
    have hl16 : l.length ≤ 16000000 := by omega
    walk_at "go"
    refine SlV.sTo 1 rfl (line16 hl16) ?_
    walk_at "go"
    rw [show tl (Str.ofString " ") = [32] by decide +kernel]
    refine Bth.dn (fun h => ?_) (fun h => ?_)
    · have hh : l.head? ≠ some 32 := fun e => h ((take1 l).mpr e)
      rw [if_pos hh] at hu
      walk_at "go"
      refine ⟨⟨_, n.at_⟩, ?_⟩
      walk_at "go"
      refine ⟨_, n.at_, line16 (by simp; omega), ?_⟩
      walk_at "go"
      refine ⟨acc ++ [l], ?_, hu, by rw [tot_app, htk, tot_cons]; simp [tot] at *; omega, by simp; omega⟩
      have := n.up (o' := .lst (acc.map S ++ [S l]))
      rw [List.map_append]; exact this
    · have hh : l.head? = some 32 := (take1 l).mp h
      rw [if_neg (by simpa using hh)] at hu
      walk_at "go"
      refine t_truth ?_
      walk_at "go"
      by_cases hacc : acc = []
      · subst hacc
        rw [if_pos rfl] at hu
        refine ⟨false, .inl ⟨[], SqL.of n.at_, rfl⟩, ?_⟩
        walk_at "go"
        refine s_raise C tk (by with_reducible assumption) ?_
        exact h2 hu _ n.same
      · obtain ⟨A, b, rfl⟩ : ∃ A b, acc = A ++ [b] := ⟨acc.dropLast, acc.getLast hacc, (List.dropLast_concat_getLast hacc).symm⟩
        rw [if_neg hacc, List.dropLast_concat, List.getLastD_concat] at hu
        have e2 : (A ++ [b]).map S = A.map S ++ [S b] := by simp
        rw [e2] at n
        refine ⟨true, .inl ⟨_, SqL.of n.at_, by cases A <;> rfl⟩, ?_⟩
        have hb : b.length ≤ tot (ls.take i) := Nat.le_trans (tot_mem (by simp)) ht
        have hbl : b.length + l.length ≤ 16000000 := by omega
        walk_at "go"
        refine s_setix ?_
        walk_at "go"
        refine IxV.l (SqL.of n.at_) (atI_last (A.map S) (S b)) ?_
        walk_at "go"
        refine AddV.S (line16 hbl) ?_
        walk_at "go"
        refine ⟨r, _, -1, A.length, rfl, rfl, n.at_, ?_, ?_⟩
        · unfold ixN
          simp; omega
        have e3 : (A.map S ++ [S b]).set A.length (S (b ++ l)) = (A ++ [b ++ l]).map S := by
          rw [List.map_append, List.set_append_right _ _ (by simp)]; simp
        rw [e3]
        walk_at "go"
        refine ⟨A ++ [b ++ l], n.up, hu, ?_, by simp at hlen ⊢; omega⟩
        rw [tot_app] at ht ⊢
        rw [htk]
        simp [tot] at ht ⊢; omega
  · rintro σ H' ⟨o1, rfl, acc, n, hu, ht, hlen⟩
    rw [List.length_map, List.drop_length] at hu
    walk_at "go"
    exact h1 acc r H' hu n
section
variable {P : Program} {w : World} {K : PySem.W.Frag} {mg : Str → Option Value} {base : Heap}
theorem c_unfold (T : Tx w K mg base) : Callee P w K mg base (L2.CX P w) 3 "unfold" (spUnfold K) := by
  refine calleeX_of T 12 12 rfl rfl rfl rfl rfl fs_unfold bd_unfold (fun vs H Q E h => ?_) (fun X h1 h2 h3 h4 h5 C vs H Q E tk hst hfr h => ?_)
  · obtain ⟨a, ls, rfl, _⟩ := h; rfl
  · subst h1 h2 h3 h4 h5
    obtain ⟨a, ls, rfl, ha, hl, hn, q1, q2⟩ := h
    exact b_unfold C E tk a ls H ha hl hn Q q1 q2
end
/-! ### the first empty line; the first line that is no text row -/
def spHeadEnd : Sp := fun vs H Q _ => ∃ (a : Addr) (ls : List T) (i : Nat), vs = [.ref a, .int i] ∧ H a = some (.lst (ls.map S)) ∧ ls.length ≤ 16000000 ∧ i ≤ ls.length ∧ Q (.int ((i + (headOf (ls.drop i)).length : Nat) : Int)) H
theorem headOf_cons (l : T) (r : List T) : headOf (l :: r) = if l = [] then [] else l :: headOf r := by
  unfold headOf
  by_cases h : l = []
  · rw [if_pos h, List.takeWhile_cons_of_neg (by simp [h])]
  · rw [if_neg h, List.takeWhile_cons_of_pos (by simp [h])]
theorem b_head_end {X : Cx} (C : Ctx X N_head_end (defScope s_head_end) 1) (a : Addr) (ls : List T) (i : Nat) (H : Hp) (ha : H a = some (.lst (ls.map S))) (hn : ls.length ≤ 16000000) (hi : i ≤ ls.length) (Q : VK)
    (hQ : ∀ n : Int, n = ((i + (headOf (ls.drop i)).length : Nat) : Int) → Q (.int n) H) :
    B1 X (defBody s_head_end) (start N_head_end [.ref a, .int i]) H (fun _ H' => Q .non H') Q nobk nobk := by
  have hnm := nm_head_end C
  obtain ⟨v0, v1, w0, w1, g1⟩ := hnm
  conv => arg 2; whnf
  walk_at "go"
  refine s_while C.toCok (fun m σ H' => ∃ j : Nat, H' = H ∧ σ = [some (.ref a), some (.int j)] ∧ j ≤ ls.length ∧ m = ls.length - j ∧ i + (headOf (ls.drop i)).length = j + (headOf (ls.drop j)).length) (ls.length - i) ⟨i, rfl, rfl, hi, rfl, rfl⟩ ?_
  rintro m σ H2 ⟨j, rfl, rfl, hj, rfl, he⟩
  walk_at "go"
  refine LenW.l (SqL.of ha) ?_
  rw [List.length_map]
  walk_at "go"
  refine Bth.d (fun h => ?_) (fun h => ?_)
  · have hj2 : j < ls.length := by omega
    have hd : ls.drop j = ls[j] :: ls.drop (j + 1) := List.drop_eq_getElem_cons hj2
    rw [hd, headOf_cons] at he
    walk_at "go"
    refine IxV.l (SqL.of ha) (v := S ls[j]) (atI_nat (by rw [List.getElem?_map, List.getElem?_eq_getElem hj2]; rfl)) ?_
    walk_at "go"
    rw [show tl (Str.ofString "") = [] by decide +kernel]
    refine Bth.dn (fun h2 => ?_) (fun h2 => ?_)
    · rw [if_neg h2] at he
      refine b_cons ?_
      refine s_aug_add (m := (j : Int)) (by with_reducible assumption) (by rfl) ?_
      walk_at "go"
      refine ⟨ls.length - (j + 1), by omega, j + 1, rfl, ?_, by omega, rfl, by simp at he; omega⟩
      simp
    · rw [if_pos h2] at he
      walk_at "go"
      exact hQ _ (by rw [he]; simp)
  · have hj2 : j = ls.length := by omega
    rw [hj2, List.drop_length] at he
    walk_at "go"
    exact hQ _ (by rw [he, hj2]; simp [headOf])
def spTextEnd : Sp := fun vs H Q _ => ∃ (a : Addr) (ls : List T) (i : Nat), vs = [.ref a, .int i] ∧ H a = some (.lst (ls.map S)) ∧ ls.length ≤ 16000000 ∧ (∀ l ∈ ls, Sm l) ∧ Q (.int ((i + ((ls.drop i).takeWhile isRow).length : Nat) : Int)) H
theorem rows_cons (l : T) (r : List T) : (l :: r).takeWhile isRow = if l.take 1 = [124] then l :: r.takeWhile isRow else [] := by
  have e : isRow l = decide (l.take 1 = [124]) := by
    unfold isRow
    cases l with
    | nil => simp
    | cons c r => simp
  by_cases h : l.take 1 = [124]
  · rw [if_pos h, List.takeWhile_cons_of_pos (by rw [e]; exact decide_eq_true h)]
  · rw [if_neg h, List.takeWhile_cons_of_neg (by rw [e]; simpa using h)]
theorem b_text_end {X : Cx} (C : Ctx X N_text_end (defScope s_text_end) 1) (a : Addr) (ls : List T) (i : Nat) (H : Hp) (ha : H a = some (.lst (ls.map S))) (hn : ls.length ≤ 16000000) (hs : ∀ l ∈ ls, Sm l) (Q : VK)
    (hQ : ∀ n : Int, n = ((i + ((ls.drop i).takeWhile isRow).length : Nat) : Int) → Q (.int n) H) :
    B1 X (defBody s_text_end) (start N_text_end [.ref a, .int i]) H (fun _ H' => Q .non H') Q nobk nobk := by
  have hnm := nm_text_end C
  obtain ⟨v0, v1, w0, w1, g1, g2⟩ := hnm
  conv => arg 2; whnf
  walk_at "go"
  refine s_while C.toCok (fun m σ H' => ∃ j : Nat, H' = H ∧ σ = [some (.ref a), some (.int j)] ∧ m = ls.length - j ∧ i + ((ls.drop i).takeWhile isRow).length = j + ((ls.drop j).takeWhile isRow).length) (ls.length - i) ⟨i, rfl, rfl, rfl, rfl⟩ ?_
  rintro m σ H2 ⟨j, rfl, rfl, rfl, he⟩
  walk_at "go"
  refine LenW.l (SqL.of ha) ?_
  rw [List.length_map]
  walk_at "go"
  refine Bth.d (fun h => ?_) (fun h => ?_)
  · have hj2 : j < ls.length := by omega
    have hd : ls.drop j = ls[j] :: ls.drop (j + 1) := List.drop_eq_getElem_cons hj2
    rw [hd, rows_cons] at he
    walk_at "go"
    refine IxV.l (SqL.of ha) (v := S ls[j]) (atI_nat (by rw [List.getElem?_map, List.getElem?_eq_getElem hj2]; rfl)) ?_
    walk_at "go"
    refine SlV.sTo 1 rfl (line16 (hs _ (List.getElem_mem hj2))) ?_
    walk_at "go"
    rw [show (Str.ofString "|") = mkS [124] by decide +kernel, show (mkS [124]).1.toList = [124] from rfl]
    refine Bth.d (fun h2 => ?_) (fun h2 => ?_)
    · rw [if_pos h2] at he
      refine b_cons ?_
      refine s_aug_add (m := (j : Int)) (by with_reducible assumption) (by rfl) ?_
      walk_at "go"
      refine ⟨ls.length - (j + 1), by omega, j + 1, rfl, ?_, rfl, by simp at he; omega⟩
      simp
    · rw [if_neg h2] at he
      walk_at "go"
      exact hQ _ (by rw [he]; simp)
  · have hj2 : ls.length ≤ j := by omega
    rw [List.drop_eq_nil_of_le hj2] at he
    walk_at "go"
    exact hQ _ (by rw [he]; simp)
section
variable {P : Program} {w : World} {K : PySem.W.Frag} {mg : Str → Option Value} {base : Heap}
theorem c_head_end (T : Tx w K mg base) : Callee P w K mg base CX0 2 "head_end" spHeadEnd := by
  refine callee_of T 25 23 rfl rfl rfl rfl rfl fs_head_end bd_head_end (fun vs H Q E h => ?_) (fun X h1 h2 h3 h4 h5 C vs H Q E h => ?_)
  · obtain ⟨n, _, _, rfl, _⟩ := h; rfl
  · obtain ⟨a, ls, i, rfl, ha, hn, hi, q⟩ := h
    exact b_head_end C a ls i H ha hn hi Q fun n e => e ▸ q
theorem c_text_end (T : Tx w K mg base) : Callee P w K mg base CX0 2 "text_end" spTextEnd := by
  refine callee_of T 26 24 rfl rfl rfl rfl rfl fs_text_end bd_text_end (fun vs H Q E h => ?_) (fun X h1 h2 h3 h4 h5 C vs H Q E h => ?_)
  · obtain ⟨n, _, _, rfl, _⟩ := h; rfl
  · obtain ⟨a, ls, i, rfl, ha, hn, hs, q⟩ := h
    exact b_text_end C a ls i H ha hn hs Q fun n e => e ▸ q
end
/-! ## LoRd1 -/
def spReadNumber : Sp := fun vs H Q _ => ∃ (z : T), vs = [S z] ∧ Sm z ∧ Q (.int (readNum z)) H
theorem b_read_number {X : Cx} (C : Ctx X N_read_number (defScope s_read_number) 1) (z : T) (hz : Sm z) (H : Hp) (Q : VK) (hQ : ∀ n, n = readNum z → Q (.int n) H) :
    B1 X (defBody s_read_number) (start N_read_number [S z]) H (fun _ H' => Q .non H') Q nobk nobk := by
  have hn := nm_read_number C
  obtain ⟨v0, v1, w0, w1, g1, g2, g3, g4⟩ := hn
  conv => arg 2; whnf
  walk_at "go"
  refine LenW.S (line16 hz) ?_
  walk_at "go"
  refine Bth.d (fun h1 => ?_) (fun h1 => ?_)
  · walk_at "go"
    refine Bth.dn (fun h2 => ?_) (fun h2 => ?_)
    · walk_at "go"
      exact hQ _ (by unfold readNum; rw [decide_eq_false (show ¬ z.length ≤ 19 by omega)]; simp)
    walk_at "go"
    refine s_for_str C.toCok ?_
    walk_at "go"
    refine ⟨fun i σ H' => ∃ o1, σ = [some (S z), o1] ∧ H' = H ∧ (z.take i).all isDig = true, ⟨none, rfl, rfl, by simp⟩, ?_, ?_⟩
    · rintro i c σ H1 hi ⟨o1, rfl, rfl, h3⟩
      walk_at "go"
      rw [mem_digits]
      refine Bth.n (fun h4 => ?_) (fun h4 => ?_)
      · walk_at "go"
        refine hQ _ ?_
        have : z.all isDig = false := by
          rw [Bool.eq_false_iff]; intro hh
          have := List.all_eq_true.mp hh c (List.mem_of_getElem? hi)
          rw [this] at h4; cases h4
        unfold readNum; rw [this]; simp
      · walk_at "go"
        rw [List.take_add_one, show z[i]? = some c from hi, List.all_append, h3]
        simp [h4]
    · rintro σ H1 ⟨o1, rfl, rfl, h3⟩
      rw [show (mkS z).cps.toList = z from rfl, List.take_length] at h3
      walk_at "go"
      refine IntW.s (int_S h3 (by intro e; subst e; simp at h1) (by omega)) (by rw [mkS_len]; omega) ?_
      refine hQ _ ?_
      unfold readNum
      rw [h3, decide_eq_true (show 1 ≤ z.length by omega), decide_eq_true (show z.length ≤ 19 by omega)]; rfl
  · walk_at "go"
    exact hQ _ (by unfold readNum; rw [decide_eq_false (show ¬ 1 ≤ z.length by omega)]; simp)
theorem par1_sm (a : Nat) : ∀ z : T, (par1 a z).1.length ≤ z.length ∧ (par1 a z).2.length ≤ z.length
  | [] => by simp [par1]
  | c :: r => by
    have ih := par1_sm a r
    unfold par1
    split <;> simp <;> omega
theorem par2_sm (a b : Nat) : ∀ z : T, (par2 a b z).1.length ≤ z.length ∧ (par2 a b z).2.length ≤ z.length
  | [] => by simp [par2]
  | [c] => by simp [par2]
  | c :: d :: r => by
    have ih := par2_sm a b (d :: r)
    unfold par2
    split
    · simp; omega
    · simp at ih ⊢; omega
def spReadRef : Sp := fun vs H Q _ => ∃ (z : T), vs = [S z] ∧ Sm z ∧ ∀ v' H', Same H H' → Tp H' v' (refD (readRef z)) → Q v' H'
theorem b_read_ref {X : Cx} (C : Ctx X N_read_ref (defScope s_read_ref) 2) (c1 : CalleeX X CX0 2 "read_number" spReadNumber) (z : T) (hz : Sm z) (H : Hp) (Q : VK) (hQ : ∀ v' H', Same H H' → Tp H' v' (refD (readRef z)) → Q v' H') :
    B1 X (defBody s_read_ref) (start N_read_ref [S z]) H (fun _ H' => Q .non H') Q nobk nobk := by
  have hn := nm_read_ref C
  obtain ⟨v0, v1, v2, v3, w0, w1, w2, w3, g1⟩ := hn
  conv => arg 2; whnf
  walk_at "go"
  refine s_asg ?_
  walk_at "go"
  refine ⟨by rw [mkS_len]; exact line16 hz, fun p H1 n1 => ?_⟩
  obtain ⟨m, em⟩ := part1 32 z
  rw [show tl (Str.ofString " ") = [32] by decide +kernel, em] at n1
  refine g_tup C.calm (SqT.of n1.at_) rfl ?_
  refine gs_cons ?_
  walk_at "go"
  refine gs_cons ?_
  walk_at "go"
  refine gs_cons ?_
  walk_at "go"
  refine gs_nil ?_
  walk_at "go"
  have hs := par1_sm 32 z
  refine ⟨show (par1 32 z).2.length ≤ 16000000 by unfold Sm at hz; omega, ?_⟩
  walk_at "go"
  refine hQ _ _ (by walk_at "same") (Tp.ref_of (r := ((par1 32 z).1, readNum (par1 32 z).2)) ?_)
  walk_at "at"
section
variable {P : Program} {w : World} {K : PySem.W.Frag} {mg : Str → Option Value} {base : Heap}
theorem c_read_number (T : Tx w K mg base) : Callee P w K mg base CX0 2 "read_number" spReadNumber := by
  refine callee_of T 20 18 rfl rfl rfl rfl rfl fs_read_number bd_read_number (fun vs H Q E h => ?_) (fun X h1 h2 h3 h4 h5 C vs H Q E h => ?_)
  · obtain ⟨n, rfl, _⟩ := h; rfl
  · obtain ⟨z, rfl, hz, q⟩ := h
    exact b_read_number C z hz H Q fun n e => e ▸ q
theorem c_read_ref (T : Tx w K mg base) : Callee P w K mg base CX0 3 "read_ref" spReadRef := by
  have c1 := c_read_number (P := P) T
  refine callee_of T 21 19 rfl rfl rfl rfl rfl fs_read_ref bd_read_ref (fun vs H Q E h => ?_) (fun X h1 h2 h3 h4 h5 C vs H Q E h => ?_)
  · obtain ⟨n, rfl, _⟩ := h; rfl
  · subst h1 h2 h3 h4 h5
    obtain ⟨z, rfl, hz, q⟩ := h
    exact b_read_ref C c1 z hz H Q q
end
/-! ## LoHdr -/
def spBodyLines : Sp := fun vs H Q _ => ∃ (v : V) (b : Body), vs = [v] ∧ Tp H v (bodyD b) ∧ isBody b = true ∧ ∀ r H', New1 H r (.lst ((bodyL b).map S)) H' → Q (.ref r) H'
theorem titleL {t : T} (h : isTitle t = true) : t.length ≤ 60 := by
  unfold isTitle at h
  simp only [Bool.and_eq_true, decide_eq_true_eq] at h
  exact h.1
theorem textL {t : T} (h : isText (some t) = true) : t.length ≤ 400 := by
  unfold isText at h
  simp only [Bool.and_eq_true, decide_eq_true_eq] at h
  exact h.2.1
section
variable {v : V} {H : Hp} {Q : VK} {E : XK} {b : Body} {r : Rf} {z : T}
theorem tgt_none {H0 : Hp} (ht : Tp H0 v (bodyD b)) (s0 : Same H0 H) (hb : isBody b = true) (h : targetOf b = none) (q : ∀ H', Same H H' → Q .non H') : spTarget [v] H Q E :=
  ⟨v, b, rfl, ht.mono (Keep.of s0), hb, fun v' H' s t => by rw [h] at t; rw [t.non_inv]; exact q H' s⟩
theorem tgt_some {H0 : Hp} (ht : Tp H0 v (bodyD b)) (s0 : Same H0 H) (hb : isBody b = true) (h : targetOf b = some r) (q : ∀ c H', Same H H' → Tp H' (.ref c) (refD r) → Q (.ref c) H') : spTarget [v] H Q E :=
  ⟨v, b, rfl, ht.mono (Keep.of s0), hb, fun v' H' s t => by
    rw [h] at t
    obtain ⟨c, xs, rfl, _⟩ := Tp.tup_inv t
    exact q c H' s t⟩
theorem txt_none {H0 : Hp} (ht : Tp H0 v (bodyD b)) (s0 : Same H0 H) (hb : isBody b = true) (h : textOf b = none) (q : ∀ H', Same H H' → Q .non H') : spTextOf [v] H Q E :=
  ⟨v, b, rfl, ht.mono (Keep.of s0), hb, fun H' s => by rw [h]; exact q H' s⟩
theorem txt_some {H0 : Hp} (ht : Tp H0 v (bodyD b)) (s0 : Same H0 H) (hb : isBody b = true) (h : textOf b = some z) (q : ∀ H', Same H H' → Q (S z) H') : spTextOf [v] H Q E :=
  ⟨v, b, rfl, ht.mono (Keep.of s0), hb, fun H' s => by rw [h]; exact q H' s⟩
theorem tp_at {H' : Hp} {d : PyData} (t : Tp H v d) (s : Same H H') : Tp H' v d := t.mono (Keep.of s)
theorem count_len (z : T) : nlCount z ≤ z.length := by unfold nlCount; exact List.count_le_length
end
theorem refL {r : Rf} (h : isRef r = true) : (refW r).length ≤ 40 := by
  obtain ⟨h1, h2, h3⟩ := isRef_num h
  have h4 := nameL h1
  have h5 := numI_len (n := r.2) (by omega) h3
  unfold refW; simp; omega
theorem sum_le {ls : List T} {k : Nat} (h : ∀ l ∈ ls, l.length ≤ k) : (ls.map List.length).sum ≤ ls.length * k := by
  induction ls with
  | nil => simp
  | cons a r ih =>
    have h1 := h a (by simp)
    have h2 := ih fun l hl => h l (List.mem_cons_of_mem _ hl)
    simp only [List.map_cons, List.sum_cons, List.length_cons, Nat.add_mul, Nat.one_mul]; omega
theorem membersJ {ms : List T} (h : isMembers ms = true) : (ms.map (Str.length ∘ mkS)).sum + ms.length * (mkS (tl (Str.ofString ", "))).length ≤ 1000 := by
  unfold isMembers at h
  simp only [Bool.and_eq_true, decide_eq_true_eq, List.all_eq_true] at h
  have a1 : ms.length ≤ 15 := h.1
  have a2 := sum_le (ls := ms) (k := 12) fun l hl => nameL (h.2.1 l hl)
  have a3 : ms.map (Str.length ∘ mkS) = ms.map List.length := List.map_congr_left fun l _ => mkS_len l
  have a4 : (mkS (tl (Str.ofString ", "))).length = 2 := by decide +kernel
  rw [a3, a4]; omega
theorem membersL {ms : List T} (h : isMembers ms = true) : (joinL cs ms).length ≤ 1000 := by
  have a1 := joinL_len cs ms
  have a2 := membersJ h
  have a3 : ms.map (Str.length ∘ mkS) = ms.map List.length := List.map_congr_left fun l _ => mkS_len l
  have a4 : (mkS (tl (Str.ofString ", "))).length = 2 := by decide +kernel
  rw [a3, a4] at a2
  have a5 : cs.length = 2 := rfl
  rw [a5] at a1; omega
local macro_rules | `(tactic| walk_at "tn") => `(tactic| (refine tgt_none (by with_reducible assumption) (by walk_at "same") (by with_reducible assumption) (by rfl) fun _ _ => ?_; walk_at "go"))
local macro_rules | `(tactic| walk_at "ts") => `(tactic| (refine tgt_some (by with_reducible assumption) (by walk_at "same") (by with_reducible assumption) (by rfl) fun _ _ _ _ => ?_; walk_at "go"))
local macro_rules | `(tactic| walk_at "xn") => `(tactic| (refine txt_none (by with_reducible assumption) (by walk_at "same") (by with_reducible assumption) (by rfl) fun _ _ => ?_; walk_at "go"))
local macro_rules | `(tactic| walk_at "xs") => `(tactic| (refine txt_some (by with_reducible assumption) (by walk_at "same") (by with_reducible assumption) (by rfl) fun _ _ => ?_; walk_at "go"))
local macro_rules | `(tactic| walk_at "nn") => `(tactic| (refine Bth.ndF (by intro e; cases e) ?_; walk_at "go"))
theorem lines_ok {z : T} {H : Hp} {Q : VK} (hz : z.length ≤ 400) (q : Q (S (hLines ++ numN (nlCount z + 1))) H) : (Txt.count (mkS z) (mkS (tl (Str.ofString "\n"))) + 1).natAbs.log2 < 1920 ∧
    AddV (S (tl (Str.ofString "Lines: "))) (V.str (Str.ofString (toString (Txt.count (mkS z) (mkS (tl (Str.ofString "\n"))) + 1)))) H Q := by
  have ec : Txt.count (mkS z) (mkS (tl (Str.ofString "\n"))) = (nlCount z : Nat) := count_S z
  have hc := count_len z
  rw [ec]
  refine ⟨log2_lt (by omega) (by omega), ?_⟩
  have es : (Str.ofString (toString (((nlCount z : Nat) : Int) + 1))) = mkS (numN (nlCount z + 1)) := num_S (nlCount z + 1)
  have hl : (numN (nlCount z + 1)).length ≤ 19 := LoW.numN_len (by decide) (by omega)
  rw [es, show tl (Str.ofString "Lines: ") = hLines by decide +kernel]
  exact AddV.S (line16 (by simp [hLines]; omega)) q
theorem ref_add {r : Rf} {H : Hp} {Q : VK} (h : isRef r = true) (q : Q (S (hRef ++ refW r)) H) : AddV (S (tl (Str.ofString "Ref: "))) (S (refW r)) H Q := by
  have := refL h
  rw [show tl (Str.ofString "Ref: ") = hRef by decide +kernel]
  exact AddV.S (line16 (by simp [hRef]; omega)) q
theorem rw_ok {v : V} {r : Rf} {H : Hp} {Q : VK} {E : XK} (ht : Tp H v (refD r)) (h : isRef r = true) (q : Q (S (refW r)) H) : spRefWords [v] H Q E := ⟨v, r, rfl, ht, h, q⟩
local macro_rules | `(tactic| walk_at "rw") => `(tactic| (refine rw_ok (by with_reducible assumption) (by with_reducible assumption) ?_; walk_at "go"; refine ref_add (by with_reducible assumption) ?_; walk_at "go"))
local macro_rules | `(tactic| walk_at "ln") => `(tactic| (refine lines_ok (by with_reducible assumption) ?_; walk_at "go"))
theorem b_body_lines {X : Cx} (C : Ctx X N_body_lines (defScope s_body_lines) 2) (c1 : CalleeX X CX0 2 "target" spTarget) (c2 : CalleeX X CX0 2 "text_of" spTextOf) (c3 : CalleeX X CX0 2 "ref_words" spRefWords)
    (v : V) (b : Body) (H : Hp) (ht : Tp H v (bodyD b)) (hb : isBody b = true) (Q : VK) (hQ : ∀ r H', New1 H r (.lst ((bodyL b).map S)) H' → Q (.ref r) H') :
    B1 X (defBody s_body_lines) (start N_body_lines [v]) H (fun _ H' => Q .non H') Q nobk nobk := by
  have hn := nm_body_lines C
  obtain ⟨v0, v1, v2, w0, w1, w2, g1, g2, g3, g4⟩ := hn
  obtain ⟨a, xs, rfl, ha, hx⟩ := body_inv ht hb
  obtain ⟨kd, hk⟩ : ∃ kd, LO.kindOf b = kd := ⟨_, rfl⟩
  have hQ2 : ∀ r H' (ls : List T), New1 H r (.lst (ls.map S)) H' → ls = bodyL b → Q (.ref r) H' := fun r H' ls n e => hQ r H' (e ▸ n)
  rw [hk] at ha
  conv => arg 2; whnf
  have eT : tl (Str.ofString "Title: ") = hTitle := by decide +kernel
  have eM : tl (Str.ofString "Members: ") = hMembers := by decide +kernel
  have eR : tl (Str.ofString "Ref: ") = hRef := by decide +kernel
  have eL : tl (Str.ofString "Lines: ") = hLines := by decide +kernel
  have eW : tl (Str.ofString "Word: ") = hWord := by decide +kernel
  have eN : tl (Str.ofString "Name: ") = hName := by decide +kernel
  refine b_cons ?_
  walk_at "go"
  refine IxV.t (SqT.of ha) (atI_nat (j := 0) rfl) ?_
  refine b_cons ?_
  refine s_set (by with_reducible assumption) ?_
  refine e_lst (a_nil ⟨line16 (by simp), fun r H1 n => ?_⟩)
  have n0 : New1 H r (.lst (([] : List T).map S)) H1 := New1.of n
  have eC : tl (Str.ofString ", ") = cs := by decide +kernel
  have eS : (Str.ofString ", ") = mkS cs := by decide +kernel
  cases b with
  | found t ms =>
    obtain ⟨m, rfl, hm⟩ := hx
    obtain rfl : kd = kFound := hk.symm
    have hb2 : isTitle t = true ∧ isMembers ms = true := by unfold isBody at hb; simpa using hb
    have l1 := titleL hb2.1
    have l2 := membersL hb2.2
    walk_at "go"
    rw [eT]
    refine AddV.S (line16 (by simp [hTitle]; omega)) ?_
    walk_at "go"
    refine ⟨_, ms.map mkS, rfl, .inr (SqT.of (by rw [strs_S]; walk_at "at")), ?_, ?_⟩
    · rw [List.map_map]
      exact Nat.le_trans (show (ms.map (Str.length ∘ mkS)).sum + (ms.map mkS).length * (mkS (tl (Str.ofString ", "))).length ≤ 1000 by rw [List.length_map]; exact membersJ hb2.2) (by decide)
    rw [eC, join_S, eM]
    refine AddV.S (line16 (by simp [hMembers]; omega)) ?_
    walk_at "go"
    walk_at "tn"
    walk_at "xn"
    exact hQ2 _ _ _ (by walk_at "n1") (by rfl)
  | say o =>
    obtain rfl := hx
    obtain rfl : kd = kSay := hk.symm
    obtain ⟨z, rfl⟩ : ∃ z, o = some z := by cases o with
      | none => exact absurd hb (by simp [isBody, isText])
      | some z => exact ⟨z, rfl⟩
    have l1 := textL (show isText (some z) = true from hb)
    walk_at "go"
    walk_at "tn"
    walk_at "xs"
    walk_at "nn"
    walk_at "xs"
    walk_at "ln"
    exact hQ2 _ _ _ (by walk_at "n1") (by rfl)
  | reply e r o =>
    obtain ⟨c, rfl, hc⟩ := hx
    have hb2 : isRef r = true ∧ isText o = true := by unfold isBody at hb; simpa using hb
    obtain ⟨z, rfl⟩ : ∃ z, o = some z := by cases o with
      | none => exact absurd hb2.2 (by simp [isText])
      | some z => exact ⟨z, rfl⟩
    have l1 := textL hb2.2
    have hr : isRef r = true := hb2.1
    have ek : kd = kReply ∨ kd = kEdit := by rw [← hk]; cases e <;> simp [LO.kindOf]
    rcases ek with rfl | rfl <;> (
      walk_at "go"
      walk_at "ts"
      walk_at "nn"
      walk_at "ts"
      walk_at "rw"
      walk_at "xs"
      walk_at "nn"
      walk_at "xs"
      walk_at "ln"
      exact hQ2 _ _ _ (by walk_at "n1") (by rfl))
  | recall r =>
    obtain ⟨c, rfl, hc⟩ := hx
    obtain rfl : kd = kRecall := hk.symm
    have hb2 : isRef r = true := hb
    have hr : isRef r = true := hb2
    walk_at "go"
    walk_at "ts"
    walk_at "nn"
    walk_at "ts"
    walk_at "rw"
    walk_at "xn"
    exact hQ2 _ _ _ (by walk_at "n1") (by rfl)
  | mark r w =>
    obtain ⟨c, rfl, hc⟩ := hx
    obtain rfl : kd = kMark := hk.symm
    have hb2 : isRef r = true ∧ isName w = true := by unfold isBody at hb; simpa using hb
    have hr : isRef r = true := hb2.1
    have l1 := nameL hb2.2
    walk_at "go"
    walk_at "ts"
    walk_at "nn"
    walk_at "ts"
    walk_at "rw"
    walk_at "xn"
    rw [eW]
    refine AddV.S (line16 (by simp [hWord]; omega)) ?_
    walk_at "go"
    exact hQ2 _ _ _ (by walk_at "n1") (by rfl)
  | title t =>
    obtain rfl := hx
    obtain rfl : kd = kTitle := hk.symm
    have l1 := titleL (show isTitle t = true from hb)
    walk_at "go"
    rw [eT]
    refine AddV.S (line16 (by simp [hTitle]; omega)) ?_
    walk_at "go"
    walk_at "tn"
    walk_at "xn"
    exact hQ2 _ _ _ (by walk_at "n1") (by rfl)
  | act k nm =>
    obtain rfl := hx
    have l1 := nameL (show isName nm = true from hb)
    have ek : kd = kAdd ∨ kd = kCut ∨ kd = kHand := by
      rw [← hk]
      match k with
      | 0 => exact .inl rfl
      | 1 => exact .inr (.inl rfl)
      | n + 2 => exact .inr (.inr rfl)
    rcases ek with rfl | rfl | rfl <;> (
      walk_at "go"
      walk_at "tn"
      walk_at "xn"
      rw [eN]
      refine AddV.S (line16 (by simp [hName]; omega)) ?_
      walk_at "go"
      exact hQ2 _ _ _ (by walk_at "n1") (by rfl))
  | seen =>
    obtain rfl := hx
    obtain rfl : kd = kSeen := hk.symm
    walk_at "go"
    walk_at "tn"
    walk_at "xn"
    exact hQ2 _ _ _ (by walk_at "n1") (by rfl)
  | other k => exact absurd hb (by simp [isBody])
/-! ## LoHdr2 -/
section
variable {P : Program} {w : World} {K : PySem.W.Frag} {mg : Str → Option Value} {base : Heap}
theorem c_body_lines (T : Tx w K mg base) : Callee P w K mg base CX0 3 "body_lines" spBodyLines := by
  have c1 := (c_target (P := P) T)
  have c2 := (c_text_of (P := P) T)
  have c3 := (c_ref_words (P := P) T)
  refine callee_of T 18 16 rfl rfl rfl rfl rfl fs_body_lines bd_body_lines (fun vs H Q E h => ?_) (fun X h1 h2 h3 h4 h5 C vs H Q E h => ?_)
  · obtain ⟨v, _, rfl, _⟩ := h; rfl
  · subst h1 h2 h3 h4 h5
    obtain ⟨v, b, rfl, ht, hb, q⟩ := h
    exact b_body_lines C c1 c2 c3 v b H ht hb Q q
end
def spHeaderLines (K : PySem.W.Frag) : Sp := fun vs H Q _ => ∃ (a : Addr) (x : LV), vs = [.ref a] ∧ LetAt K H a x ∧ isLetter x = true ∧ x.seen.length ≤ 380000 ∧ ∀ r H', New1 H r (.lst ((hdr x).map S)) H' → Q (.ref r) H'
theorem seenJ {rs : List Rf} (h : ∀ r ∈ rs, isRef r = true) (hl : rs.length ≤ 380000) : ((rs.map refW).map List.length).sum + rs.length * 2 ≤ 15960000 := by
  have a2 := sum_le (ls := rs.map refW) (k := 40) fun l hl => by
    obtain ⟨r, hr, rfl⟩ := List.mem_map.mp hl
    exact refL (h r hr)
  rw [List.length_map] at a2; omega
theorem bodyL_len (b : Body) : (bodyL b).length ≤ 3 := by
  have hl : ∀ o : Option T, (linesH o).length ≤ 1 := fun o => by cases o <;> simp [linesH]
  cases b with
  | say o => have := hl o; simp [bodyL]; omega
  | reply e r o => have := hl o; simp [bodyL]; omega
  | _ => simp [bodyL]
theorem kindL : ∀ {b : Body}, isBody b = true → (LO.kindOf b).length ≤ 10
  | .reply false _ _, _ => by simp [LO.kindOf, kReply]
  | .reply true _ _, _ => by simp [LO.kindOf, kEdit]
  | .act 0 _, _ => by simp [LO.kindOf, actK, kAdd]
  | .act 1 _, _ => by simp [LO.kindOf, actK, kCut]
  | .act (n + 2) _, _ => by simp [LO.kindOf, actK, kHand]
  | .found _ _, _ => by simp [LO.kindOf, kFound]
  | .say _, _ => by simp [LO.kindOf, kSay]
  | .recall _, _ => by simp [LO.kindOf, kRecall]
  | .mark _ _, _ => by simp [LO.kindOf, kMark]
  | .title _, _ => by simp [LO.kindOf, kTitle]
  | .seen, _ => by simp [LO.kindOf, kSeen]
theorem seenL {rs : List Rf} (h : ∀ r ∈ rs, isRef r = true) (hl : rs.length ≤ 380000) : (joinL cs (rs.map refW)).length ≤ 15960000 := by
  have a1 := joinL_len cs (rs.map refW)
  have a2 := seenJ h hl
  rw [List.length_map] at a1
  have e5 : cs.length = 2 := rfl
  rw [e5] at a1
  omega
theorem b_header_lines {X : Cx} (C : Ctx X N_header_lines (defScope s_header_lines) 3) (c1 : CalleeX X CX0 3 "ref_words" spRefWords) (c2 : CalleeX X CX0 3 "body_lines" spBodyLines) (c3 : CalleeM X.prog X.w X.K X.mg X.base 2 (LoH.refG X.K) (spRef X.K))
    (a : Addr) (x : LV) (H : Hp) (hx : LetAt X.K H a x) (hok : isLetter x = true) (hl : x.seen.length ≤ 380000) (Q : VK) (hQ : ∀ r H', New1 H r (.lst ((hdr x).map S)) H' → Q (.ref r) H') :
    B1 X (defBody s_header_lines) (start N_header_lines [.ref a]) H (fun _ H' => Q .non H') Q nobk nobk := by
  have hn := nm_header_lines C
  obtain ⟨p1, p2, p3, p4, p5, p6⟩ := letter_parts hok
  have hr1 : isRef (x.author, x.number) = true := by unfold isRef; simp [p1, p2]
  have hrs := seen_refs p4
  obtain ⟨v0, w0, g1, g2, g3⟩ := hn
  obtain ⟨dx, fs, vs, vb, h1, h2, h3, h4, h5, h6, h7, h8, h9, h10⟩ := hx.at_
  have p3' : 1 ≤ x.stamp ∧ x.stamp ≤ 1000000000000000000 := by unfold isNum at p3; simpa using p3
  have hsl : (numI x.stamp).length ≤ 19 := numI_len (by omega) p3'.2
  have hrl := refL hr1
  obtain ⟨ba, bxs, rfl, hba, hbx⟩ := body_inv h8 p5
  obtain ⟨sa, sxs, rfl, hsa, hsx⟩ := h7.tup_inv
  have hkl := kindL p5
  conv => arg 2; whnf
  walk_at "go"
  refine e_ref C c3 (C.room.mono (by decide)) ?_
  walk_at "go"
  refine ⟨a, x, rfl, hx, fun v1 H1 s1 t1 => ?_⟩
  walk_at "go"
  refine rw_ok t1 hr1 ?_
  walk_at "go"
  rw [show tl (Str.ofString "From: ") = hFrom by decide +kernel]
  refine AddV.S (line16 (by simp [hFrom]; omega)) ?_
  walk_at "go"
  refine e_fldL C C.tx.nStamp ?_
  walk_at "go"
  refine ⟨a, dx, fs, _, rfl, s1 _ _ h1, h4, ?_⟩
  walk_at "go"
  refine ⟨log2_lt (by omega) p3'.2, ?_⟩
  rw [numI_S (by omega), show tl (Str.ofString "Stamp: ") = hStamp by decide +kernel]
  refine AddV.S (line16 (by simp [hStamp]; omega)) ?_
  walk_at "go"
  refine e_lcTup C [(("pair" : Str), 1)] (by decide +kernel) ?_
  refine e_fldL C C.tx.nSeen ?_
  walk_at "go"
  refine ⟨a, dx, fs, _, rfl, s1 _ _ h1, h5, sa, sxs, rfl, SqT.of (s1 _ _ hsa), fun D H2 n2 => ?_⟩
  have hlen : sxs.length = x.seen.length := by rw [hsx.len, List.length_map]
  have sH2 : Same H H2 := s1.trans n2.same
  refine ⟨fun i H' => New1 H1 D (.lst (((x.seen.map refW).take i).map S)) H', New1.of n2, fun i H' _ n => SqT.of (n.same _ _ (s1 _ _ hsa)), ?_, ?_⟩
  · rintro i v H' _ hi n ⟨rfl, hv⟩ Xb hX CB
    obtain ⟨r, b, hr, rfl, hb⟩ := hsx.refs hv
    refine g_name (blk_W C hX (x := "pair") (i := 1) (by decide +kernel)) ⟨rfl, fun Xb hX CB => ?_⟩
    have vp : Slot Xb 1 ("pair" : Str) := blk_V C hX (by decide +kernel)
    have gp : GlN Xb ("ref_words" : Str) := blk_G C hX (by decide +kernel)
    have c1b : CalleeX Xb CX0 3 "ref_words" spRefWords := by
      obtain ⟨s, H0, C', cl, fp, rfl⟩ := hX.eq
      exact c1
    walk_at "go"
    refine rw_ok (Tp.ref_of (n.same _ _ (s1 _ _ hb))) (hrs r (List.mem_of_getElem? hr)) ?_
    refine ⟨_, n.at_, ?_, ?_⟩
    · rw [List.length_map]
      have : ((x.seen.map refW).take i).length ≤ 380000 := by rw [List.length_take, List.length_map]; omega
      exact Nat.lt_of_le_of_lt this (by decide)
    · have e1 : (x.seen.map refW).take (i + 1) = (x.seen.map refW).take i ++ [refW r] := by
        rw [List.take_add_one, List.getElem?_map, hr]; rfl
      show New1 H1 D (.lst (((x.seen.map refW).take (i + 1)).map S)) _
      rw [e1, List.map_append]
      exact n.up
  · intro H' n
    rw [hlen, show x.seen.length = (x.seen.map refW).length by simp, List.take_length] at n
    have sH : Same H H' := s1.trans n.same
    refine ⟨_, (x.seen.map refW).map mkS, rfl, .inl (SqL.of (by rw [strs_S]; exact n.at_)), ?_, ?_⟩
    · have e3 : (x.seen.map refW).map (Str.length ∘ mkS) = (x.seen.map refW).map List.length := List.map_congr_left fun l _ => mkS_len l
      have e4 : (mkS (tl (Str.ofString ", "))).length = 2 := by decide +kernel
      have := seenJ hrs hl
      rw [List.map_map]
      show ((x.seen.map refW).map (Str.length ∘ mkS)).sum + _ ≤ _
      rw [e3, e4, List.length_map, List.length_map]
      omega
    have jl := seenL hrs hl
    rw [show tl (Str.ofString ", ") = cs by decide +kernel, join_S, show tl (Str.ofString "Seen: ") = hSeen by decide +kernel]
    refine AddV.S (line16 (by simp [hSeen]; omega)) ?_
    walk_at "go"
    refine e_fldL C C.tx.nBody ?_
    walk_at "go"
    refine ⟨a, dx, fs, _, rfl, sH _ _ h1, h6, ?_⟩
    walk_at "go"
    refine IxV.t (SqT.of (sH _ _ hba)) (atI_nat (j := 0) rfl) ?_
    rw [show tl (Str.ofString "Kind: ") = hKind by decide +kernel]
    refine AddV.S (line16 (by simp [hKind]; omega)) ?_
    walk_at "go"
    rename_i la H3 n3
    have sH3 : Same H H3 := sH.trans n3.same
    refine e_fldL C C.tx.nBody ?_
    walk_at "go"
    refine ⟨a, dx, fs, _, rfl, sH3 _ _ h1, h6, ?_⟩
    walk_at "go"
    refine ⟨_, x.body, rfl, h8.mono (Keep.of sH3), p5, fun r H4 n4 => ?_⟩
    refine AddV.l (n4.same _ _ n3.at_) n4.at_ ?_ ?_
    · rw [List.length_map]
      have := bodyL_len x.body
      exact line16 (by simp; omega)
    · intro q hq
      have nq := New1.of (New.of (o := .lst ([S (hFrom ++ refW (x.author, x.number)), S (hStamp ++ numI x.stamp), S (hSeen ++ joinL cs (x.seen.map refW)), S (hKind ++ LO.kindOf x.body)] ++ (bodyL x.body).map S)) hq)
      exact hQ q _ (New1.pre (sH3.trans n4.same) nq)
section
variable {P : Program} {w : World} {K : PySem.W.Frag} {mg : Str → Option Value} {base : Heap}
theorem c_header_lines (T : Tx w K mg base) : Callee P w K mg base CX0 4 "header_lines" (spHeaderLines K) := by
  have c1 := (c_ref_words (P := P) T).mono (by decide : 2 ≤ 3)
  have c2 := (c_body_lines (P := P) T)
  have c3 := c_ref (P := P) T
  refine callee_of T 19 17 rfl rfl rfl rfl rfl fs_header_lines bd_header_lines (fun vs H Q E h => ?_) (fun X h1 h2 h3 h4 h5 C vs H Q E h => ?_)
  · obtain ⟨v, _, rfl, _⟩ := h; rfl
  · subst h1 h2 h3 h4 h5
    obtain ⟨a, x, rfl, hx, hok, hl, q⟩ := h
    exact b_header_lines C c1 c2 c3 a x H hx hok hl Q q
end
/-! ## LoRd2 -/
/-- a dict of texts that answers as g -/
def DRep (kvs : List (Key × V)) (g : T → Option T) : Prop := ∀ k : T, valV kvs (.inr (mkS k)) = (g k).map S
theorem optS (o : Option T) : (o.map S).getD (S []) = S (o.getD []) := by cases o <;> rfl
section
variable {X : Cx} {N : List Str} {sc : Scope} {k i : Nat} {σ : L2.St} {H : Hp} {Q : VK} {x key : Str} {p apos pos c1 c2 : Pos} {j1 j2 : Nat} {d : Addr} {kvs : List (Key × V)} {g : T → Option T}
/-- fields.get('key', '') -/
theorem e_fgv (C : Ctx X N sc k) (sl : Slot X i x) (hx : σ[i]? = some (some (.ref d))) (hd : H d = some (.dK kvs)) (hg : DRep kvs g) (q : Q (S ((g (tl key)).getD [])) H)
    (hb : attributeBase (.Name x p) "get" X.env (eval (.Name x p) X.env) = eval (.Name x p) X.env := by rfl)
    (hfew : ((backTo pos (starEach [.Constant (.str key) j1 c1, .Constant (.str "") j2 c2] X.env)).all (fun x => !x.1) && (backToKw pos (keywordEach [] X.env)).all (fun x => x.1.isSome) && decide (([.Constant (.str key) j1 c1, .Constant (.str "") j2 c2] : List Expr).length + ([] : List Keyword).length + (if ([] : List Keyword).isEmpty then 0 else 1) < 30)) = true := by rfl)
    (hline : (apos.endLine == pos.line) = true := by rfl) (htr : backTo pos (starEach [.Constant (.str key) j1 c1, .Constant (.str "") j2 c2] X.env) = [(false, eval (.Constant (.str key) j1 c1) X.env), (false, eval (.Constant (.str "") j2 c2) X.env)] := by rfl) :
    E1 X (.Call (.Attribute (.Name x p) "get" apos) [.Constant (.str key) j1 c1, .Constant (.str "") j2 c2] [] pos) σ H Q := by
  refine e_dget2 C (e_var sl hx ⟨d, kvs, rfl, hd, e_strS (e_strS ⟨kvs, tl key, rfl, hd, ?_⟩)⟩) hb hfew hline htr
  rw [hg (tl key), show S (tl "") = S [] by rw [show tl ("" : Str) = [] by decide +kernel], optS]
  exact q
end
local macro_rules | `(tactic| walk_at "callm") => `(tactic| (refine e_fgv ‹_› (by with_reducible assumption) (by rfl) (by walk_at "at") (by with_reducible assumption) ?_))
def spReadBody : Sp := fun vs H Q _ => ∃ (d : Addr) (kvs : List (Key × V)) (g : T → Option T) (o : Option T), vs = [.ref d, optV o] ∧ H d = some (.dK kvs) ∧ DRep kvs g ∧ (∀ k z, g k = some z → Sm z) ∧
  ∀ v' H', Same H H' → Tp H' v' (bodyD (readBody g o)) → Q v' H'
theorem sm_getD {g : T → Option T} (hs : ∀ k z, g k = some z → Sm z) (k : T) : Sm ((g k).getD []) := by
  cases e : g k with
  | none => exact (by decide : ([] : T).length ≤ 16000000)
  | some z => exact hs k z e
theorem tpk {H : Hp} (k : T) : Tp H (S k) (strD k) := .str k
theorem b_read_body {X : Cx} (C : Ctx X N_read_body (defScope s_read_body) 3) (c1 : CalleeX X CX0 3 "read_ref" spReadRef) (d : Addr) (kvs : List (Key × V)) (g : T → Option T) (o : Option T) (H : Hp) (hd : H d = some (.dK kvs)) (hg : DRep kvs g) (hs : ∀ k z, g k = some z → Sm z) (Q : VK)
    (hQ : ∀ v' H', Same H H' → Tp H' v' (bodyD (readBody g o)) → Q v' H') : B1 X (defBody s_read_body) (start N_read_body [.ref d, optV o]) H (fun _ H' => Q .non H') Q nobk nobk := by
  have hn := nm_read_body C
  obtain ⟨v0, v1, v2, v3, v4, w0, w1, w2, w3, w4, g1, g2⟩ := hn
  have eK : tl (Str.ofString "Kind") = wKind := by decide +kernel
  have eM : tl (Str.ofString "Members") = wMembers := by decide +kernel
  have eT : tl (Str.ofString "Title") = wTitle := by decide +kernel
  have eR : tl (Str.ofString "Ref") = wRef := by decide +kernel
  have eW : tl (Str.ofString "Word") = wWord := by decide +kernel
  have eN : tl (Str.ofString "Name") = wName := by decide +kernel
  have sR := sm_getD hs (tl (Str.ofString "Ref"))
  obtain ⟨k, hk⟩ : ∃ k, (g wKind).getD [] = k := ⟨_, rfl⟩
  have rb : ∀ b : Body, (let k := (g wKind).getD []
    if k = kFound then Body.found ((g wTitle).getD []) (if (g wMembers).getD [] = [] then [] else spl2 44 32 ((g wMembers).getD []))
    else if k = kTitle then .title ((g wTitle).getD [])
    else if k = kSay then .say o
    else if k = kReply then .reply false (readRef ((g wRef).getD [])) o
    else if k = kEdit then .reply true (readRef ((g wRef).getD [])) o
    else if k = kRecall then .recall (readRef ((g wRef).getD []))
    else if k = kMark then .mark (readRef ((g wRef).getD [])) ((g wWord).getD [])
    else if k = kAdd then .act 0 ((g wName).getD [])
    else if k = kCut then .act 1 ((g wName).getD [])
    else if k = kHand then .act 2 ((g wName).getD [])
    else if k = kSeen then .seen
    else .other k) = b → readBody g o = b := fun b e => e
  rw [hk] at rb
  dsimp only at rb
  rw [← eT, ← eM, ← eR, ← eW, ← eN] at rb
  conv => arg 2; whnf
  walk_at "go"
  rw [eK, hk]
  by_cases h1 : k = kFound
  · subst h1
    have e := rb _ (if_pos rfl)
    rw [e] at hQ
    walk_at "go"
    have sM := sm_getD hs (tl (Str.ofString "Members"))
    obtain ⟨ns, hns⟩ : ∃ ns, (g (tl (Str.ofString "Members"))).getD [] = ns := ⟨_, rfl⟩
    rw [hns] at hQ sM ⊢
    refine t_truth ?_
    walk_at "go"
    refine ⟨decide (ns ≠ []), ⟨by rw [mkS_len]; exact line16 sM, ?_⟩, ?_⟩
    · rw [mkS_len]
      cases ns with
      | nil => rfl
      | cons c r => simp; omega
      done
    refine Bth.d (fun h2 => ?_) (fun h2 => ?_)
    · rw [if_neg h2] at hQ
      walk_at "go"
      refine ⟨by rw [mkS_len]; exact Nat.le_trans (Nat.add_le_add_right sM 2) (by decide), fun p H1 n1 => ?_⟩
      rw [show (mkS (tl (Str.ofString ", "))) = mkS [44, 32] by decide +kernel, split2 44 32 (by decide) (by decide), strs_S] at n1
      refine ⟨p, _, rfl, SqL.of n1.at_, fun p2 H2 n2 => ?_⟩
      walk_at "go"
      exact hQ _ _ (by walk_at "same") (.tup (by walk_at "at") (.cons (tpk _) (.cons (.str _) (.cons (.tup (by walk_at "at") (TpAll.of_strs _)) .nil))))
    · have h3 : ns = [] := by simpa using h2
      rw [if_pos h3] at hQ
      walk_at "go"
      exact hQ _ _ (by walk_at "same") (.tup (by walk_at "at") (.cons (tpk _) (.cons (.str _) (.cons (.tup (by walk_at "at") .nil) .nil))))
  by_cases h2 : k = kTitle
  · subst h2
    have e := rb _ ((if_neg (by decide)).trans (if_pos rfl))
    rw [e] at hQ
    walk_at "go"
    exact hQ _ _ (by walk_at "same") (.tup (by walk_at "at") (.cons (tpk _) (.cons (.str _) .nil)))
  by_cases h3 : k = kSay
  · subst h3
    have e := rb _ ((if_neg (by decide)).trans ((if_neg (by decide)).trans (if_pos rfl)))
    rw [e] at hQ
    walk_at "go"
    exact hQ _ _ (by walk_at "same") (.tup (by walk_at "at") (.cons (tpk _) (.cons (Tp.opt o) .nil)))
  by_cases h4 : k = kReply
  · subst h4
    have e := rb _ ((if_neg (by decide)).trans ((if_neg (by decide)).trans ((if_neg (by decide)).trans (if_pos rfl))))
    rw [e] at hQ
    walk_at "go"
    intro s1 t1
    walk_at "go"
    exact hQ _ _ (by walk_at "same") (.tup (by walk_at "at") (.cons (tpk kReply) (.cons (t1.mono (Keep.of (by walk_at "same"))) (.cons (Tp.opt o) .nil))))
  by_cases h5 : k = kEdit
  · subst h5
    have e := rb _ ((if_neg (by decide)).trans ((if_neg (by decide)).trans ((if_neg (by decide)).trans ((if_neg (by decide)).trans (if_pos rfl)))))
    rw [e] at hQ
    walk_at "go"
    intro s1 t1
    walk_at "go"
    exact hQ _ _ (by walk_at "same") (.tup (by walk_at "at") (.cons (tpk kEdit) (.cons (t1.mono (Keep.of (by walk_at "same"))) (.cons (Tp.opt o) .nil))))
  by_cases h6 : k = kRecall
  · subst h6
    have e := rb _ ((if_neg (by decide)).trans ((if_neg (by decide)).trans ((if_neg (by decide)).trans ((if_neg (by decide)).trans ((if_neg (by decide)).trans (if_pos rfl))))))
    rw [e] at hQ
    walk_at "go"
    intro s1 t1
    walk_at "go"
    exact hQ _ _ (by walk_at "same") (.tup (by walk_at "at") (.cons (tpk _) (.cons (t1.mono (Keep.of (by walk_at "same"))) .nil)))
  by_cases h7 : k = kMark
  · subst h7
    have e := rb _ ((if_neg (by decide)).trans ((if_neg (by decide)).trans ((if_neg (by decide)).trans ((if_neg (by decide)).trans ((if_neg (by decide)).trans ((if_neg (by decide)).trans (if_pos rfl)))))))
    rw [e] at hQ
    walk_at "go"
    intro s1 t1
    walk_at "go"
    exact hQ _ _ (by walk_at "same") (.tup (by walk_at "at") (.cons (tpk _) (.cons (t1.mono (Keep.of (by walk_at "same"))) (.cons (.str _) .nil))))
  by_cases h8 : k = kAdd
  · subst h8
    have e := rb _ ((if_neg (by decide)).trans ((if_neg (by decide)).trans ((if_neg (by decide)).trans ((if_neg (by decide)).trans ((if_neg (by decide)).trans ((if_neg (by decide)).trans ((if_neg (by decide)).trans (if_pos rfl))))))))
    rw [e] at hQ
    walk_at "go"
    exact hQ _ _ (by walk_at "same") (.tup (by walk_at "at") (.cons (tpk kAdd) (.cons (.str _) .nil)))
  by_cases h9 : k = kCut
  · subst h9
    have e := rb _ ((if_neg (by decide)).trans ((if_neg (by decide)).trans ((if_neg (by decide)).trans ((if_neg (by decide)).trans ((if_neg (by decide)).trans ((if_neg (by decide)).trans ((if_neg (by decide)).trans ((if_neg (by decide)).trans (if_pos rfl)))))))))
    rw [e] at hQ
    walk_at "go"
    exact hQ _ _ (by walk_at "same") (.tup (by walk_at "at") (.cons (tpk kCut) (.cons (.str _) .nil)))
  by_cases h10 : k = kHand
  · subst h10
    have e := rb _ ((if_neg (by decide)).trans ((if_neg (by decide)).trans ((if_neg (by decide)).trans ((if_neg (by decide)).trans ((if_neg (by decide)).trans ((if_neg (by decide)).trans ((if_neg (by decide)).trans ((if_neg (by decide)).trans ((if_neg (by decide)).trans (if_pos rfl))))))))))
    rw [e] at hQ
    walk_at "go"
    exact hQ _ _ (by walk_at "same") (.tup (by walk_at "at") (.cons (tpk kHand) (.cons (.str _) .nil)))
  by_cases h11 : k = kSeen
  · subst h11
    have e := rb _ ((if_neg (by decide)).trans ((if_neg (by decide)).trans ((if_neg (by decide)).trans ((if_neg (by decide)).trans ((if_neg (by decide)).trans ((if_neg (by decide)).trans ((if_neg (by decide)).trans ((if_neg (by decide)).trans ((if_neg (by decide)).trans ((if_neg (by decide)).trans (if_pos rfl)))))))))))
    rw [e] at hQ
    walk_at "go"
    exact hQ _ _ (by walk_at "same") (.tup (by walk_at "at") (.cons (tpk _) .nil))
  have e := rb _ ((if_neg h1).trans ((if_neg h2).trans ((if_neg h3).trans ((if_neg h4).trans ((if_neg h5).trans ((if_neg h6).trans ((if_neg h7).trans ((if_neg h8).trans ((if_neg h9).trans ((if_neg h10).trans ((if_neg h11).trans rfl)))))))))))
  rw [e] at hQ
  have f1 : ¬ k = tl (Str.ofString "found") := h1
  have f2 : ¬ k = tl (Str.ofString "title") := h2
  have f3 : ¬ k = tl (Str.ofString "say") := h3
  have f4 : [tl (Str.ofString "reply"), tl (Str.ofString "edit")].contains k = false := by
    rw [show tl (Str.ofString "reply") = kReply by decide +kernel, show tl (Str.ofString "edit") = kEdit by decide +kernel]; simp [h4, h5]
  have f5 : ¬ k = tl (Str.ofString "recall") := h6
  have f6 : ¬ k = tl (Str.ofString "mark") := h7
  have f7 : [tl (Str.ofString "add"), tl (Str.ofString "cut"), tl (Str.ofString "hand")].contains k = false := by
    rw [show tl (Str.ofString "add") = kAdd by decide +kernel, show tl (Str.ofString "cut") = kCut by decide +kernel, show tl (Str.ofString "hand") = kHand by decide +kernel]; simp [h8, h9, h10]
  refine Bth.dF f1 ?_
  walk_at "go"
  refine Bth.dF f2 ?_
  walk_at "go"
  refine Bth.dF f3 ?_
  walk_at "go"
  refine Bth.cF f4 ?_
  walk_at "go"
  refine Bth.dF f5 ?_
  walk_at "go"
  refine Bth.dF f6 ?_
  walk_at "go"
  refine Bth.cF f7 ?_
  walk_at "go"
  exact hQ _ _ (by walk_at "same") (.tup (by walk_at "at") (.cons (tpk _) .nil))
section
variable {P : Program} {w : World} {K : PySem.W.Frag} {mg : Str → Option Value} {base : Heap}
theorem c_read_body (T : Tx w K mg base) : Callee P w K mg base CX0 4 "read_body" spReadBody := by
  have c1 := (c_read_ref (P := P) T)
  refine callee_of T 22 20 rfl rfl rfl rfl rfl fs_read_body bd_read_body (fun vs H Q E h => ?_) (fun X h1 h2 h3 h4 h5 C vs H Q E h => ?_)
  · obtain ⟨_, _, _, _, rfl, _⟩ := h; rfl
  · subst h1 h2 h3 h4 h5
    obtain ⟨d, kvs, g, o, rfl, hd, hg, hs, q⟩ := h
    exact b_read_body C c1 d kvs g o H hd hg hs Q q
end
/-! ## LoRdH -/
local macro_rules | `(tactic| walk_at "callm") => `(tactic| (refine e_fgv ‹_› (by with_reducible assumption) (by rfl) (by walk_at "at") (by with_reducible assumption) ?_))
theorem TpAll.snoc {H : Hp} : ∀ {ds : List PyData} {vs : List V} {d : PyData} {v : V}, TpAll H vs ds → Tp H v d → TpAll H (vs ++ [v]) (ds ++ [d])
  | [], vs, d, v, h, t => by obtain rfl := h.nil_inv; exact .cons t .nil
  | e :: ds, vs, d, v, h, t => by
    obtain ⟨w, ws, rfl, h1, h2⟩ := h.cons_inv
    exact .cons h1 (TpAll.snoc h2 t)
theorem ref_tup {H : Hp} {v : V} {r : Rf} (h : Tp H v (refD r)) : ∃ b, v = .ref b ∧ H b = some (.tup [S r.1, .int r.2]) := by
  obtain ⟨b, ys, rfl, hb, hy⟩ := h.tup_inv
  obtain ⟨x1, _, rfl, t1, hy⟩ := hy.cons_inv
  obtain ⟨x2, _, rfl, t2, hy⟩ := hy.cons_inv
  obtain rfl := hy.nil_inv
  obtain rfl := t1.str_inv
  obtain rfl := t2.int_inv
  exact ⟨b, rfl, hb⟩
theorem fget_snoc : ∀ (ls : List T) (l k : T), fget (ls ++ [l]) k = if (par2 58 32 l).1 = k then some (par2 58 32 l).2 else fget ls k
  | [], l, k => by simp [fget]
  | a :: r, l, k => by
    have ih := fget_snoc r l k
    show fget (a :: (r ++ [l])) k = _
    rw [fget, ih]
    split
    · rename_i h; split at h
      · rename_i h2; rw [if_pos h2]; exact h.symm
      · rename_i h2; rw [if_neg h2, fget, h]
    · rename_i h; split at h
      · cases h
      · rename_i h2; rw [if_neg h2, fget, h]
theorem DRep.put {kvs : List (Key × V)} {ls : List T} {l : T} (h : DRep kvs (fget ls)) : DRep (putK kvs (.inr (mkS (par2 58 32 l).1)) (S (par2 58 32 l).2)) (fget (ls ++ [l])) := by
  intro k
  rw [L2.valV_put, fget_snoc, h k]
  by_cases e : (par2 58 32 l).1 = k
  · subst e; simp
  · rw [if_neg e, if_neg (fun q => e (mkS_inj (Sum.inr.inj q)).symm)]
theorem fget_sm {ls : List T} (h : ∀ l ∈ ls, Sm l) : ∀ k z, fget ls k = some z → Sm z := by
  induction ls with
  | nil => intro k z e; cases e
  | cons a r ih =>
    intro k z e
    rw [fget] at e
    split at e
    · rename_i h2; cases e; exact ih (fun l hl => h l (List.mem_cons_of_mem _ hl)) k z h2
    · split at e
      · cases e
        have := (par2_sm 58 32 a).2
        have := h a (by simp)
        unfold Sm at *; omega
      · cases e
def spReadHeaders (K : PySem.W.Frag) : Sp := fun vs H Q E => ∃ (a : Addr) (ls : List T) (o : Option T), vs = [.ref a, optV o] ∧ H a = some (.lst (ls.map S)) ∧ (∀ l ∈ ls, l.length ≤ 370000 ∧ aT l) ∧ ls.length ≤ 15000000 ∧ SmO o ∧
  (∀ x p H', readHeaders ls o = some x → Same H H' → LetAt K H' p x → Q (.ref p) H') ∧ (readHeaders ls o = none → ∀ H', Same H H' → E (BM K) none H')
theorem spl2_sm (a b : Nat) : ∀ z : T, (spl2 a b z).length ≤ z.length + 1 ∧ ∀ p ∈ spl2 a b z, p.length ≤ z.length
  | [] => by simp [spl2]
  | [c] => by simp [spl2]
  | c :: d :: r => by
    unfold spl2
    split
    · have ih := spl2_sm a b r
      refine ⟨by simp; omega, fun p hp => ?_⟩
      rcases List.mem_cons.mp hp with rfl | hp
      · simp
      · have := ih.2 p hp; simp; omega
    · have ih := spl2_sm a b (d :: r)
      cases e : spl2 a b (d :: r) with
      | nil => simp
      | cons q qs =>
        rw [e] at ih
        refine ⟨by simp at ih ⊢; omega, fun p hp => ?_⟩
        rcases List.mem_cons.mp hp with rfl | hp
        · have := ih.2 q (by simp); simp at this ⊢; omega
        · have := ih.2 p (List.mem_cons_of_mem _ hp); simp at this ⊢; omega
theorem fget_len {ls : List T} {m : Nat} (h : ∀ l ∈ ls, l.length ≤ m) : ∀ k z, fget ls k = some z → z.length ≤ m := by
  induction ls with
  | nil => intro k z e; cases e
  | cons a r ih =>
    intro k z e
    rw [fget] at e
    split at e
    · rename_i h2; cases e; exact ih (fun l hl => h l (List.mem_cons_of_mem _ hl)) k z h2
    · split at e
      · cases e
        have := (par2_sm 58 32 a).2
        have := h a (by simp)
        omega
      · cases e
theorem getD_len {g : T → Option T} {m : Nat} (h : ∀ k z, g k = some z → z.length ≤ m) (k : T) : ((g k).getD []).length ≤ m := by
  cases e : g k with
  | none => simp
  | some z => exact h k z e
theorem partV_other {k : T} (h1 : k ≠ kFound) (h2 : k ≠ kSay) (h3 : k ≠ kReply) (h4 : k ≠ kEdit) (h5 : k ≠ kRecall) (h6 : k ≠ kMark) (h7 : k ≠ kTitle) (h8 : k ≠ kAdd) (h9 : k ≠ kCut) (h10 : k ≠ kHand) (h11 : k ≠ kSeen) : partV k = .non := by
  unfold partV; rw [if_neg h1, if_neg h2, if_neg h3, if_neg h4, if_neg h5, if_neg h6, if_neg h7, if_neg h8, if_neg h9, if_neg h10, if_neg h11]
theorem readRef_sm {z : T} (h : z.length ≤ 370000) : SmR (readRef z) := by
  have := (par1_sm 32 z).1
  show (par1 32 z).1.length ≤ 16000000
  omega
theorem readBody_sm {g : T → Option T} {o : Option T} (h : ∀ k z, g k = some z → z.length ≤ 370000) (ho : SmO o) : SmB (readBody g o) := by
  have G := getD_len h
  have S : ∀ k, Sm ((g k).getD []) := fun k => Nat.le_trans (G k) (by decide)
  unfold readBody
  dsimp only
  split
  · refine ⟨S _, ?_, ?_⟩
    · intro m hm
      split at hm
      · cases hm
      · have := (spl2_sm 44 32 _).2 m hm; have := G wMembers; show m.length ≤ 16000000; omega
    · split
      · simp
      · have := (spl2_sm 44 32 ((g wMembers).getD [])).1; have := G wMembers; omega
  split
  · exact S _
  split
  · exact ho
  split
  · exact ⟨readRef_sm (G _), ho⟩
  split
  · exact ⟨readRef_sm (G _), ho⟩
  split
  · exact readRef_sm (G _)
  split
  · exact ⟨readRef_sm (G _), S _⟩
  split
  · exact S _
  split
  · exact S _
  split
  · exact S _
  split
  · exact trivial
  · exact partV_other ‹_› ‹_› ‹_› ‹_› ‹_› ‹_› ‹_› ‹_› ‹_› ‹_› ‹_›
theorem aT_app {a b : T} (h1 : aT a) (h2 : aT b) : aT (a ++ b) := fun c hc => by
  rcases List.mem_append.mp hc with h | h
  · exact h1 c h
  · exact h2 c h
theorem aT_num (n : Nat) : aT (numN n) := fun c hc => by
  have := List.all_eq_true.mp (show (numN n).all isDig = true by
    have := TL.numL_digits n
    exact List.all_eq_true.mpr fun d hd => by
      have := this d hd
      unfold isDig; simp; omega) c hc
  simp [isDig] at this; omega
theorem aT_refW {r : Rf} (h : isRef r = true) : aT (refW r) := aT_app (isRef_a h) (aT_app (by intro c hc; simp at hc; omega) (aT_num _))
theorem aT_join {s : T} (hs : aT s) : ∀ ls : List T, (∀ l ∈ ls, aT l) → aT (joinL s ls)
  | [], _ => by intro c hc; cases hc
  | [p], h => h p (by simp)
  | p :: q :: r, h => aT_app (h p (by simp)) (aT_app hs (aT_join hs (q :: r) fun l hl => h l (List.mem_cons_of_mem _ hl)))
theorem aT_low {z : T} (h : z.all (fun c => decide (c < 200)) = true) : aT z := fun c hc => by
  have := List.all_eq_true.mp h c hc
  simp at this; omega
theorem hdr_a {x : LV} (h : isLetter x = true) : ∀ l ∈ hdr x, aT l := by
  obtain ⟨p1, p2, p3, p4, p5, _⟩ := letter_parts h
  have hr : isRef (x.author, x.number) = true := by unfold isRef; simp [p1, p2]
  have hL : ∀ o : Option T, ∀ l ∈ linesH o, aT l := by
    intro o l hl
    cases o with
    | none => simp [linesH] at hl
    | some z => simp [linesH] at hl; subst hl; exact aT_app (aT_low (by decide)) (aT_num _)
  have hB : ∀ l ∈ bodyL x.body, aT l := by
    intro l hl
    cases e : x.body with
    | found t ms =>
      rw [e] at hl p5
      unfold isBody at p5; simp only [Bool.and_eq_true] at p5
      simp only [bodyL, List.mem_cons, List.not_mem_nil, or_false] at hl
      rcases hl with rfl | rfl
      · exact aT_app (aT_low (by decide)) (aT_title p5.1)
      · exact aT_app (aT_low (by decide)) (aT_join (aT_low (by decide)) _ (isMembers_a p5.2))
    | say o => rw [e] at hl; exact hL o l hl
    | reply b r o =>
      rw [e] at hl p5
      unfold isBody at p5; simp only [Bool.and_eq_true] at p5
      rcases List.mem_cons.mp hl with rfl | hl
      · exact aT_app (aT_low (by decide)) (aT_refW p5.1)
      · exact hL o l hl
    | recall r => rw [e] at hl p5; simp [bodyL] at hl; subst hl; exact aT_app (aT_low (by decide)) (aT_refW p5)
    | mark r w =>
      rw [e] at hl p5
      unfold isBody at p5; simp only [Bool.and_eq_true] at p5
      simp only [bodyL, List.mem_cons, List.not_mem_nil, or_false] at hl
      rcases hl with rfl | rfl
      · exact aT_app (aT_low (by decide)) (aT_refW p5.1)
      · exact aT_app (aT_low (by decide)) (aT_name p5.2)
    | title t => rw [e] at hl p5; simp [bodyL] at hl; subst hl; exact aT_app (aT_low (by decide)) (aT_title p5)
    | act k n => rw [e] at hl p5; simp [bodyL] at hl; subst hl; exact aT_app (aT_low (by decide)) (aT_name p5)
    | seen => rw [e] at hl; simp [bodyL] at hl
    | other k => rw [e] at p5; exact absurd p5 (by simp [isBody])
  intro l hl
  rcases List.mem_append.mp (show l ∈ [hFrom ++ refW (x.author, x.number), hStamp ++ numI x.stamp, hSeen ++ joinL cs (x.seen.map refW), hKind ++ LO.kindOf x.body] ++ bodyL x.body from hl) with hl | hl
  · simp only [List.mem_cons, List.not_mem_nil, or_false] at hl
    rcases hl with rfl | rfl | rfl | rfl
    · exact aT_app (aT_low (by decide)) (aT_refW hr)
    · exact aT_app (aT_low (by decide)) (aT_num _)
    · refine aT_app (aT_low (by decide)) (aT_join (aT_low (by decide)) _ fun l hl => ?_)
      obtain ⟨r, hr, rfl⟩ := List.mem_map.mp hl
      exact aT_refW (seen_refs p4 r hr)
    · exact aT_app (aT_low (by decide)) (kinds_a _ p5)
  · exact hB l hl
theorem b_read_headers {X : Cx} (C : Ctx X N_read_headers (defScope s_read_headers) 5) (c1 : CalleeX X CX0 5 "read_ref" spReadRef) (c2 : CalleeX X CX0 5 "read_number" spReadNumber) (c3 : CalleeX X CX0 5 "read_body" spReadBody) (c4 : CalleeX X CX0 5 "is_letter" spIsLetter)
    (c5 : CalleeX X CX0 5 "header_lines" (spHeaderLines X.K)) (c6 : CalleeX X CX0 5 "text_of" spTextOf) (ci : CalleeM X.prog X.w X.K X.mg X.base 2 (He.ma X.K (LC X.K) "__init__") (spInit (LC X.K)))
    (E : XK) (tk : Takes X (fun cls a _ H => E cls a H)) (a : Addr) (ls : List T) (o : Option T) (H : Hp) (ha : H a = some (.lst (ls.map S))) (hl : ∀ l ∈ ls, l.length ≤ 370000 ∧ aT l) (hn : ls.length ≤ 15000000) (ho : SmO o) (Q : VK)
    (q1 : ∀ x p H', readHeaders ls o = some x → Same H H' → LetAt X.K H' p x → Q (.ref p) H') (q2 : readHeaders ls o = none → ∀ H', Same H H' → E (BM X.K) none H') :
    B1 X (defBody s_read_headers) (start N_read_headers [.ref a, optV o]) H (fun _ H' => Q .non H') Q nobk nobk := by
  have hnm := nm_read_headers C
  obtain ⟨v0, v1, v2, v3, v4, v5, v6, v7, v8, v9, v10, v11, v12, w0, w1, w2, w3, w4, w5, w6, w7, w8, w9, w10, w11, w12, g1, g2, g3, g4, g5, g6, g7, g8, g9⟩ := hnm
  have hl7 : ∀ l ∈ ls, l.length ≤ 370000 := fun l h => (hl l h).1
  have G := getD_len (fget_len hl7)
  have S' : ∀ k, Sm ((fget ls k).getD []) := fun k => Nat.le_trans (G k) (by decide)
  have eF : tl (Str.ofString "From") = wFrom := by decide +kernel
  have eSt : tl (Str.ofString "Stamp") = wStamp := by decide +kernel
  have eSe : tl (Str.ofString "Seen") = wSeen := by decide +kernel
  conv => arg 2; whnf
  refine b_cons ?_
  refine s_set (by with_reducible assumption) ?_
  refine e_dnew fun d H0 n0 => ?_
  refine b_cons ?_
  refine s_for_list C.toCok ?_
  walk_at "go"
  refine ⟨a, ls.map S, rfl, SqL.of (n0.same _ _ ha), fun i σ H' => ∃ o3 o4 o5 o6, σ = [some (.ref a), some (optV o), some (.ref d), o3, o4, o5, o6, none, none, none, none, none, none, none] ∧ ∃ kvs, New1 H d (.dK kvs) H' ∧ DRep kvs (fget (ls.take i)) ∧ kvs.length ≤ i,
    ⟨none, none, none, none, rfl, [], New1.of n0, fun k => rfl, by simp⟩, fun i σ H' _ ⟨_, _, _, _, _, _, n, _⟩ => SqL.of (n.same _ _ ha), ?_, ?_⟩
  · rintro i v σ H1 hi ⟨o3, o4, o5, o6, rfl, kvs, n, hg, hlen⟩
    obtain ⟨l, hl', rfl⟩ : ∃ l, ls[i]? = some l ∧ S l = v := by rw [List.getElem?_map] at hi; cases e : ls[i]? with
      | none => rw [e] at hi; cases hi
      | some z => rw [e] at hi; exact ⟨z, rfl, Option.some.inj hi⟩
    have hi2 : i < ls.length := (List.getElem?_eq_some_iff.mp hl').1
    have hll := hl7 l (List.mem_of_getElem? hl')
    walk_at "go"
    refine s_asg ?_
    walk_at "go"
    refine ⟨by rw [mkS_len]; exact line16 (Nat.le_trans hll (by decide)), fun p H2 n2 => ?_⟩
    obtain ⟨m, em⟩ := part2 58 32 l
    rw [show tl (Str.ofString ": ") = [58, 32] by decide +kernel, em] at n2
    refine g_tup C.calm (SqT.of n2.at_) rfl ?_
    refine gs_cons ?_
    walk_at "go"
    refine gs_cons ?_
    walk_at "go"
    refine gs_cons ?_
    walk_at "go"
    refine gs_nil ?_
    refine b_cons ?_
    refine s_dput C ?_
    walk_at "go"
    refine ⟨d, kvs, _, rfl, rfl, n2.same _ _ n.at_, Nat.lt_of_le_of_lt (show kvs.length ≤ 15000000 by omega) (by decide), ?_⟩
    refine b_nil ⟨_, _, _, _, rfl, _, (n.post n2.same).up, ?_, Nat.le_trans (length_putK _ _ _) (by omega)⟩
    rw [List.take_add_one, hl']
    exact hg.put
  · rintro σ H1 ⟨o3, o4, o5, o6, rfl, kvs, n, hg, hlen⟩
    rw [List.length_map, List.take_length] at hg
    have sF := S' (tl (Str.ofString "From"))
    have sSt := S' (tl (Str.ofString "Stamp"))
    have hd := n.at_
    walk_at "go"
    refine s_asg ?_
    walk_at "go"
    intro s1 t1
    rename_i v1 H2
    obtain ⟨b1, rfl, hb1⟩ := ref_tup t1
    refine g_tup C.calm (SqT.of hb1) rfl ?_
    refine gs_cons ?_
    walk_at "go"
    refine gs_cons ?_
    walk_at "go"
    refine gs_nil ?_
    walk_at "go"
    refine ⟨sSt, ?_⟩
    walk_at "go"
    refine e_lcL C [(("words" : Str), 13)] (by decide +kernel) ?_
    walk_at "go"
    have gSe := G (tl (Str.ofString "Seen"))
    obtain ⟨ss, hss⟩ : ∃ ss, (fget ls (tl (Str.ofString "Seen"))).getD [] = ss := ⟨_, rfl⟩
    rw [hss] at gSe ⊢
    refine ⟨by rw [mkS_len]; exact line16 (by omega), fun p H3 n3 => ?_⟩
    rw [show (mkS (tl (Str.ofString ", "))) = mkS [44, 32] by decide +kernel, split2 44 32 (by decide) (by decide), strs_S] at n3
    have hps := spl2_sm 44 32 ss
    obtain ⟨ps, hps'⟩ : ∃ ps, spl2 44 32 ss = ps := ⟨_, rfl⟩
    rw [hps'] at n3 hps
    refine ⟨p, ps.map S, rfl, SqL.of n3.at_, fun D H4 n4 => ?_⟩
    refine ⟨fun i H' => ∃ acc, New1 H3 D (.lst acc) H' ∧ TpAll H' acc (((ps.take i).map readRef).map refD) ∧ acc.length ≤ i, ⟨[], New1.of n4, .nil, by simp⟩, fun i H' _ ⟨_, n, _⟩ => SqL.of (n.same _ _ n3.at_), ?_, ?_⟩
    · rintro i v H' _ hi ⟨acc, na, ta, hacc⟩ ⟨rfl, hv⟩ Xb hX CB
      rw [List.length_map] at hi
      have hv2 : ps[i]? = some ps[i] := List.getElem?_eq_getElem hi
      rw [List.getElem?_map, hv2] at hv
      cases hv
      refine g_name (blk_W C hX (x := "words") (i := 13) (by decide +kernel)) ⟨rfl, fun Xb hX CB => ?_⟩
      have vp : Slot Xb 13 ("words" : Str) := blk_V C hX (by decide +kernel)
      have gp : GlN Xb ("read_ref" : Str) := blk_G C hX (by decide +kernel)
      have c1b : CalleeX Xb CX0 5 "read_ref" spReadRef := by
        obtain ⟨s, H0, C', cl, fp, rfl⟩ := hX.eq
        exact c1
      walk_at "go"
      refine ⟨Nat.le_trans (hps.2 _ (List.getElem_mem hi)) (by omega), fun v5 H5 s5 t5 => ?_⟩
      have na5 := na.post s5
      refine ⟨acc, na5.at_, Nat.lt_of_le_of_lt (show acc.length ≤ 15000000 by omega) (by decide), acc ++ [v5], na5.up, ?_, by simp; omega⟩
      have e1 : ((ps.take (i + 1)).map readRef).map refD = ((ps.take i).map readRef).map refD ++ [refD (readRef ps[i])] := by
        rw [List.take_add_one, hv2, List.map_append, List.map_append]; rfl
      rw [e1]
      have kp : Keep H5 (upd H5 D (.lst (acc ++ [v5]))) := Keep.lst na5.at_
      exact TpAll.snoc ((ta.mono (Keep.of s5)).mono kp) (t5.mono kp)
    · rintro H5 ⟨acc, na, ta, hacc⟩
      rw [List.length_map, List.take_length] at ta
      refine ⟨D, acc, rfl, SqL.of na.at_, fun q H6 n6 => ?_⟩
      have hd6 : H6 d = some (.dK kvs) := n6.same _ _ (na.same _ _ (n3.same _ _ (s1 _ _ n.at_)))
      have sS : Same H H6 := (n.same.trans s1).trans (n3.same.trans (na.same.trans n6.same))
      walk_at "go"
      refine ⟨d, kvs, fget ls, o, rfl, hd6, hg, fget_sm (fun l h => Nat.le_trans (hl7 l h) (by decide)), fun v7 H7 s7 t7 => ?_⟩
      obtain ⟨x, hx⟩ : ∃ x, readVal ls o = x := ⟨_, rfl⟩
      have xa : (readRef ((fget ls (tl (Str.ofString "From"))).getD [])).1 = x.author := by rw [← hx, eF]; rfl
      have xn : (readRef ((fget ls (tl (Str.ofString "From"))).getD [])).2 = x.number := by rw [← hx, eF]; rfl
      have xs : readNum ((fget ls (tl (Str.ofString "Stamp"))).getD []) = x.stamp := by rw [← hx, eSt]; rfl
      have xe : ps.map readRef = x.seen := by rw [← hx, ← hps', ← hss, eSe]; rfl
      have xb : readBody (fget ls) o = x.body := by rw [← hx]; rfl
      rw [xa, xn, xs]
      rw [xe] at ta
      rw [xb] at t7
      have sl : SmL x := by
        refine ⟨?_, ?_, ?_⟩
        · rw [← xa]; exact Nat.le_trans (par1_sm 32 _).1 (Nat.le_trans (G _) (by decide))
        · intro r hr
          rw [← xe] at hr
          obtain ⟨p', hp', rfl⟩ := List.mem_map.mp hr
          exact readRef_sm (Nat.le_trans (hps.2 p' hp') gSe)
        · rw [← xb]; exact readBody_sm (fget_len hl7) ho
      have xlen : x.seen.length ≤ 380000 := by rw [← xe, List.length_map]; have := hps.1; omega
      walk_at "go"
      rename_i vt H8 n8
      have t8 : Tp H8 (.ref vt) (lvD x) := .tup n8.at_ (.cons (.str _) (.cons (.int _) (.cons (.int _) (.cons (Tp.mono (Keep.of (s7.trans n8.same)) (.tup n6.at_ (ta.mono (Keep.of n6.same)))) (.cons (t7.mono (Keep.of n8.same)) .nil)))))
      have sH8 : Same H H8 := sS.trans (s7.trans n8.same)
      have t4 : Tp H8 (.ref q) (.tuple (x.seen.map refD)) := Tp.mono (Keep.of (s7.trans n8.same)) (.tup n6.at_ (ta.mono (Keep.of n6.same)))
      have t5 : Tp H8 v7 (bodyD x.body) := t7.mono (Keep.of n8.same)
      have bad : ¬ (isLetter x = true ∧ hdr x = ls ∧ textOf x.body = o) → readHeaders ls o = none := fun hc => by
        unfold readHeaders; rw [hx, if_neg hc]
      refine ⟨_, x, rfl, t8, sl, fun H9 s9 => ?_⟩
      walk_at "go"
      refine Bth.n (fun hb => ?_) (fun hb => ?_)
      · walk_at "go"
        refine s_raise C tk (by with_reducible assumption) ?_
        exact q2 (bad fun hc => by rw [hc.1] at hb; cases hb) _ (sH8.trans s9)
      walk_at "go"
      refine e_letter C ci (C.room.mono (by decide)) (by with_reducible assumption) ?_
      walk_at "go"
      refine ⟨.ref q, v7, x, rfl, t4.mono (Keep.of s9), t5.mono (Keep.of s9), fun p H10 s10 lt => ?_⟩
      have sH10 : Same H H10 := sH8.trans (s9.trans s10)
      walk_at "go"
      refine ⟨_, x, rfl, lt, hb, xlen, fun r H11 n11 => ?_⟩
      walk_at "go"
      refine nev_strsL (hdr_a hb) (fun l h => (hl l h).2) n11.at_ (n11.same _ _ (sH10 _ _ ha)) ?_
      walk_at "go"
      refine Bth.dn (fun hne => ?_) (fun he => ?_)
      · walk_at "go"
        refine s_raise C tk (by with_reducible assumption) ?_
        exact q2 (bad fun hc => hne hc.2.1) _ (sH10.trans n11.same)
      have lt2 := lt.mono (Keep.of n11.same)
      obtain ⟨dx, fs, vs, vb, h1, h2, h3, h4, h5, h6, h7, h8, h9, h10⟩ := lt2.at_
      walk_at "go"
      refine e_fldL C C.tx.nBody ?_
      walk_at "go"
      refine ⟨p, dx, fs, _, rfl, h1, h6, ?_⟩
      walk_at "go"
      refine ⟨_, x.body, rfl, h8, (letter_parts hb).2.2.2.2.1, fun H12 s12 => ?_⟩
      walk_at "go"
      refine nev_opt ?_
      walk_at "go"
      refine Bth.dn (fun hne => ?_) (fun he2 => ?_)
      · walk_at "go"
        refine s_raise C tk (by with_reducible assumption) ?_
        exact q2 (bad fun hc => hne hc.2.2) _ ((sH10.trans n11.same).trans s12)
      walk_at "go"
      refine q1 x p _ ?_ ((sH10.trans n11.same).trans s12) (lt2.mono (Keep.of s12))
      unfold readHeaders
      rw [hx, if_pos ⟨hb, he, he2⟩]
section
variable {P : Program} {w : World} {K : PySem.W.Frag} {mg : Str → Option Value} {base : Heap}
theorem c_read_headers (T : Tx w K mg base) : Callee P w K mg base (L2.CX P w) 6 "read_headers" (spReadHeaders K) := by
  have c1 := (c_read_ref (P := P) T).mono (by decide : 3 ≤ 5)
  have c2 := (c_read_number (P := P) T).mono (by decide : 2 ≤ 5)
  have c3 := (c_read_body (P := P) T).mono (by decide : 4 ≤ 5)
  have c4 := (c_is_letter (P := P) T).mono (by decide : 5 ≤ 5)
  have c5 := (c_header_lines (P := P) T).mono (by decide : 4 ≤ 5)
  have c6 := (c_text_of (P := P) T).mono (by decide : 2 ≤ 5)
  have ci := c_init (P := P) T
  refine calleeX_of T 23 21 rfl rfl rfl rfl rfl fs_read_headers bd_read_headers (fun vs H Q E h => ?_) (fun X h1 h2 h3 h4 h5 C vs H Q E tk hst hfr h => ?_)
  · obtain ⟨a, ls, o, rfl, _⟩ := h; rfl
  · subst h1 h2 h3 h4 h5
    obtain ⟨a, ls, o, rfl, ha, hl, hn, ho, q1, q2⟩ := h
    exact b_read_headers C c1 c2 c3 c4 c5 c6 ci E tk a ls o H ha hl hn ho Q q1 q2
end
/-! ## LoRdM -/
theorem tw_take {α : Type} (p : α → Bool) : ∀ l : List α, l.take (l.takeWhile p).length = l.takeWhile p
  | [] => rfl
  | a :: r => by
    by_cases h : p a = true
    · rw [List.takeWhile_cons_of_pos h, List.length_cons, List.take_succ_cons, tw_take p r]
    · rw [List.takeWhile_cons_of_neg h]; rfl
theorem dw_drop {α : Type} (p : α → Bool) : ∀ l : List α, l.drop (l.takeWhile p).length = l.dropWhile p
  | [] => rfl
  | a :: r => by
    by_cases h : p a = true
    · rw [List.takeWhile_cons_of_pos h, List.dropWhile_cons_of_pos h, List.length_cons, List.drop_succ_cons, dw_drop p r]
    · rw [List.takeWhile_cons_of_neg h, List.dropWhile_cons_of_neg h]; rfl
theorem unf_prop : ∀ (ls acc hs : List T), unf acc ls = some hs → tot hs = tot acc + tot ls ∧ hs.length ≤ acc.length + ls.length ∧ ((∀ l ∈ acc, aT l) → (∀ l ∈ ls, aT l) → ∀ l ∈ hs, aT l)
  | [], acc, hs, h => by
    rw [unf] at h; cases h
    exact ⟨by simp [tot], by simp, fun h1 _ => h1⟩
  | l :: r, acc, hs, h => by
    rw [unf_step] at h
    split at h
    · obtain ⟨e1, e2, e3⟩ := unf_prop r _ hs h
      refine ⟨?_, ?_, fun h1 h2 => e3 ?_ (fun m hm => h2 m (List.mem_cons_of_mem _ hm))⟩
      · rw [e1, tot_app, tot_cons]; simp [tot]; omega
      · simp at e2 ⊢; omega
      · intro m hm
        rcases List.mem_append.mp hm with hm | hm
        · exact h1 m hm
        · rw [List.mem_singleton.mp hm]; exact h2 l (by simp)
    · split at h
      · cases h
      · rename_i hne
        obtain ⟨A, b, rfl⟩ : ∃ A b, acc = A ++ [b] := ⟨acc.dropLast, acc.getLast hne, (List.dropLast_concat_getLast hne).symm⟩
        rw [List.dropLast_concat, List.getLastD_concat] at h
        obtain ⟨e1, e2, e3⟩ := unf_prop r _ hs h
        refine ⟨?_, ?_, fun h1 h2 => e3 ?_ (fun m hm => h2 m (List.mem_cons_of_mem _ hm))⟩
        · rw [e1, tot_app, tot_app, tot_cons]; simp [tot]; omega
        · simp at e2 ⊢; omega
        · intro m hm
          rcases List.mem_append.mp hm with hm | hm
          · exact h1 m (List.mem_append_left _ hm)
          · rw [List.mem_singleton.mp hm]; exact aT_app (h1 b (by simp)) (h2 l (by simp))
def spReadMail (K : PySem.W.Frag) : Sp := fun vs H Q E => ∃ (a : Addr) (ls : List T) (i : Nat), vs = [.ref a, .int i] ∧ H a = some (.lst (ls.map S)) ∧ i ≤ ls.length ∧ (∀ l ∈ ls, aT l) ∧ ls.length ≤ 370000 ∧ tot ls ≤ 370000 ∧
  (∀ x r p q H', readMail (ls.drop i) = some (x, r) → Same H H' → LetAt K H' p x → H' q = some (.tup [.ref p, .int ((ls.length - r.length : Nat) : Int)]) → Q (.ref q) H') ∧ (readMail (ls.drop i) = none → ∀ H', Same H H' → E (BM K) none H')
theorem drop1_sum : ∀ rows : List T, ((rows.map (·.drop 1)).map List.length).sum ≤ tot rows
  | [] => by simp [tot]
  | a :: r => by
    have := drop1_sum r
    rw [tot_cons]
    simp at this ⊢; omega
theorem b_read_mail {X : Cx} (C : Ctx X N_read_mail (defScope s_read_mail) 6) (c1 : CalleeX X CX0 6 "head_end" spHeadEnd) (c2 : CalleeX X CX0 6 "text_end" spTextEnd) (c3 : CalleeX X (L2.CX X.prog X.w) 6 "unfold" (spUnfold X.K)) (c4 : CalleeX X (L2.CX X.prog X.w) 6 "read_headers" (spReadHeaders X.K))
    (E : XK) (tk : Takes X (fun cls a _ H => E cls a H)) (a : Addr) (ls : List T) (i : Nat) (H : Hp) (ha : H a = some (.lst (ls.map S))) (hi : i ≤ ls.length) (hA : ∀ l ∈ ls, aT l) (hn : ls.length ≤ 370000) (ht : tot ls ≤ 370000) (Q : VK)
    (q1 : ∀ x r p q H', readMail (ls.drop i) = some (x, r) → Same H H' → LetAt X.K H' p x → H' q = some (.tup [.ref p, .int ((ls.length - r.length : Nat) : Int)]) → Q (.ref q) H') (q2 : readMail (ls.drop i) = none → ∀ H', Same H H' → E (BM X.K) none H') :
    B1 X (defBody s_read_mail) (start N_read_mail [.ref a, .int i]) H (fun _ H' => Q .non H') Q nobk nobk := by
  have hnm := nm_read_mail C
  have hsm : ∀ l ∈ ls, Sm l := fun l h => Nat.le_trans (tot_mem h) (by omega)
  obtain ⟨v0, v1, v2, v3, v4, v5, w0, w1, w2, w3, w4, w5, g1, g2, g3, g4, g5, g6, g7⟩ := hnm
  obtain ⟨m, hm⟩ : ∃ m, i + (headOf (ls.drop i)).length = m := ⟨_, rfl⟩
  have hr1 : rest1 (ls.drop i) = ls.drop (m + 1) := by
    unfold rest1
    rw [← dw_drop, List.drop_drop, List.drop_drop]
    show ls.drop (i + (headOf (ls.drop i)).length + 1) = _
    rw [hm]
  obtain ⟨e, he⟩ : ∃ e, m + 1 + ((ls.drop (m + 1)).takeWhile isRow).length = e := ⟨_, rfl⟩
  have hdw : (rest1 (ls.drop i)).dropWhile isRow = ls.drop e := by rw [hr1, ← dw_drop, List.drop_drop, he]
  have hml : m ≤ ls.length := by
    have h1 : (headOf (ls.drop i)).length ≤ (ls.drop i).length := by unfold headOf; exact (List.takeWhile_sublist _).length_le
    rw [List.length_drop] at h1; omega
  conv => arg 2; whnf
  walk_at "go"
  refine ⟨a, ls, i, rfl, ha, by omega, hi, ?_⟩
  rw [hm]
  walk_at "go"
  refine ⟨a, ls, m + 1, rfl, ha, by omega, hsm, ?_⟩
  rw [he]
  walk_at "go"
  refine LenW.l (SqL.of ha) ?_
  rw [List.length_map]
  walk_at "go"
  refine Bth.d (fun h1 => ?_) (fun h1 => ?_)
  · walk_at "go"
    refine s_raise C tk (by with_reducible assumption) ?_
    refine q2 ?_ _ (Same.refl _)
    unfold readMail
    rw [hdw, List.drop_eq_nil_of_le (by omega)]
  have he2 : e < ls.length := by omega
  have hde : ls.drop e = ls[e] :: ls.drop (e + 1) := List.drop_eq_getElem_cons he2
  walk_at "go"
  refine IxV.l (SqL.of ha) (v := S ls[e]) (atI_nat (by rw [List.getElem?_map, List.getElem?_eq_getElem he2]; rfl)) ?_
  walk_at "go"
  rw [show (Str.ofString ".") = mkS [46] by decide +kernel, show (mkS [46]).1.toList = [46] from rfl]
  refine Bth.dn (fun h2 => ?_) (fun h2 => ?_)
  · walk_at "go"
    refine s_raise C tk (by with_reducible assumption) ?_
    refine q2 ?_ _ (Same.refl _)
    unfold readMail
    rw [hdw, hde]
    dsimp only
    rw [if_neg h2]
  have hrm : readMail (ls.drop i) = (match unf [] (headOf (ls.drop i)) with
    | none => none
    | some hs => (match readHeaders hs (textIn ((rest1 (ls.drop i)).takeWhile isRow)) with
      | none => none
      | some x => some (x, ls.drop (e + 1)))) := by
    unfold readMail
    rw [hdw, hde]
    dsimp only
    refine (if_pos h2).trans ?_
    cases unf [] (headOf (ls.drop i)) with
    | none => rfl
    | some hs =>
      (dsimp only) <;> (cases readHeaders hs (textIn ((rest1 (ls.drop i)).takeWhile isRow)) <;> rfl)
  obtain ⟨rows, hrows⟩ : ∃ rows, (ls.drop (m + 1)).takeWhile isRow = rows := ⟨_, rfl⟩
  rw [hr1, hrows] at hrm
  rw [hrows] at he
  have hrt : (ls.drop (m + 1)).take (e - (m + 1)) = rows := by
    rw [← hrows, ← tw_take isRow (ls.drop (m + 1)), hrows]
    congr 1; omega
  have hrsm : ∀ r ∈ rows, r ∈ ls := fun r hr => by
    rw [← hrt] at hr; exact List.mem_of_mem_drop (List.mem_of_mem_take hr)
  have hrtot : tot rows ≤ tot ls := by
    rw [← hrt]
    have a1 := tot_app ((ls.drop (m + 1)).take (e - (m + 1))) ((ls.drop (m + 1)).drop (e - (m + 1)))
    rw [List.take_append_drop] at a1
    have a2 := tot_app (ls.take (m + 1)) (ls.drop (m + 1))
    rw [List.take_append_drop] at a2
    omega
  have hrlen : rows.length ≤ ls.length := by omega
  have hhd : (ls.drop i).take (m - i) = headOf (ls.drop i) := by
    rw [show m - i = (headOf (ls.drop i)).length by omega]
    unfold headOf
    exact tw_take _ _
  have hhm : ∀ l ∈ headOf (ls.drop i), l ∈ ls := fun l hl => by
    rw [← hhd] at hl; exact List.mem_of_mem_drop (List.mem_of_mem_take hl)
  have hhtot : tot (headOf (ls.drop i)) ≤ tot ls := by
    rw [← hhd]
    have a1 := tot_app ((ls.drop i).take (m - i)) ((ls.drop i).drop (m - i))
    rw [List.take_append_drop] at a1
    have a2 := tot_app (ls.take i) (ls.drop i)
    rw [List.take_append_drop] at a2
    omega
  have hhlen : (headOf (ls.drop i)).length ≤ ls.length := by omega
  walk_at "go"
  refine Bth.d (fun h3 => ?_) (fun h3 => ?_)
  · have hne : rows ≠ [] := by intro e2; rw [e2] at he; simp at he; omega
    have ho : textIn rows = some (joinL [10] (rows.map (·.drop 1))) := by unfold textIn; rw [if_neg hne]
    walk_at "go"
    refine e_lcL C [(("line" : Str), 6)] (by decide +kernel) ?_
    walk_at "go"
    refine SlV.lMid (m + 1) e (by omega) rfl (SqL.of ha) fun p H1 n1 => ?_
    rw [← List.map_drop, ← List.map_take, hrt] at n1
    refine ⟨p, rows.map S, rfl, SqL.of n1.at_, fun D H2 n2 => ?_⟩
    refine ⟨fun i H' => New1 H1 D (.lst ((((rows.map (·.drop 1)).take i)).map S)) H', New1.of n2, fun i H' _ n => SqL.of (n.same _ _ n1.at_), ?_, ?_⟩
    · rintro i v H' _ hi2 n ⟨rfl, hv⟩ Xb hX CB
      rw [List.length_map] at hi2
      have hv2 : rows[i]? = some rows[i] := List.getElem?_eq_getElem hi2
      rw [List.getElem?_map, hv2] at hv
      cases hv
      refine g_name (blk_W C hX (x := "line") (i := 6) (by decide +kernel)) ⟨rfl, fun Xb hX CB => ?_⟩
      have vp : Slot Xb 6 ("line" : Str) := blk_V C hX (by decide +kernel)
      walk_at "go"
      refine SlV.sFrom 1 rfl (line16 (hsm _ (hrsm _ (List.getElem_mem hi2)))) ?_
      refine ⟨_, n.at_, Nat.lt_of_le_of_lt (show _ ≤ 370000 by rw [List.length_map, List.length_take, List.length_map]; omega) (by decide), ?_⟩
      show New1 H1 D (.lst ((((rows.map (·.drop 1)).take (i + 1))).map S)) _
      have e1 : (rows.map (·.drop 1)).take (i + 1) = (rows.map (·.drop 1)).take i ++ [rows[i].drop 1] := by
        rw [List.take_add_one, List.getElem?_map, hv2]; rfl
      rw [e1, List.map_append]
      exact n.up
    · intro H' n
      rw [List.length_map, show rows.length = (rows.map (·.drop 1)).length by simp, List.take_length] at n
      have hsum := drop1_sum rows
      have jl : (joinL [10] (rows.map (·.drop 1))).length ≤ 16000000 := by
        have := joinL_len [10] (rows.map (·.drop 1))
        rw [List.length_map] at this
        simp only [List.length_cons, List.length_nil] at this
        omega
      refine ⟨_, (rows.map (·.drop 1)).map mkS, rfl, .inl (SqL.of (by rw [strs_S]; exact n.at_)), ?_, ?_⟩
      · have e3 : (rows.map (·.drop 1)).map (Str.length ∘ mkS) = (rows.map (·.drop 1)).map List.length := List.map_congr_left fun l _ => mkS_len l
        have e4 : (mkS (tl (Str.ofString "\n"))).length = 1 := by decide +kernel
        rw [List.map_map]
        show ((rows.map (·.drop 1)).map (Str.length ∘ mkS)).sum + _ ≤ _
        rw [e3, e4, List.length_map, List.length_map]
        omega
      rw [show tl (Str.ofString "\n") = [10] by decide +kernel, join_S]
      have sH : Same H H' := n1.same.trans n.same
      walk_at "go"
      refine e_callW c4 C.room (by with_reducible assumption) tk ?_
      walk_at "go"
      refine e_callW c3 C.room (by with_reducible assumption) tk ?_
      walk_at "go"
      refine SlV.lMid i m rfl rfl (SqL.of (sH _ _ ha)) fun p2 H5 n5 => ?_
      rw [← List.map_drop, ← List.map_take, hhd] at n5
      walk_at "go"
      have s5 : Same H H5 := Same.trans sH n5.same
      refine ⟨p2, _, rfl, n5.at_, by omega, by omega, fun hs r5 H6 eu n6 => ?_, fun eu H6 s6 => q2 (by rw [hrm, eu]) _ (s5.trans s6)⟩
      walk_at "go"
      have up := unf_prop _ _ _ eu
      have tot0 : tot ([] : List T) = 0 := rfl
      refine ⟨r5, hs, some (joinL [10] (rows.map (·.drop 1))), rfl, n6.at_, fun l hl => ⟨Nat.le_trans (tot_mem hl) (by rw [up.1, tot0]; omega), up.2.2 (by intro l h; cases h) (fun l h => hA l (hhm l h)) l hl⟩, by have := up.2.1; simp at this; omega, (fun z hz => by cases hz; exact jl), fun x p3 H7 e7 s7 lt => ?_, fun e7 H7 s7 => q2 (by rw [hrm, eu, ho]; dsimp only; rw [e7]) _ ((s5.trans n6.same).trans s7)⟩
      walk_at "go"
      rename_i pt H8 n8
      refine q1 x (ls.drop (e + 1)) p3 pt H8 (by rw [hrm, eu, ho]; dsimp only; rw [e7]) (((s5.trans n6.same).trans s7).trans n8.same) (lt.mono (Keep.of n8.same)) ?_
      rw [n8.at_, List.length_drop, show ls.length - (ls.length - (e + 1)) = e + 1 by omega]
      rfl
  · have hr0 : rows = [] := List.length_eq_zero_iff.mp (by omega)
    have ho : textIn rows = none := by rw [hr0]; rfl
    walk_at "go"
    refine e_callW c4 C.room (by with_reducible assumption) tk ?_
    walk_at "go"
    refine e_callW c3 C.room (by with_reducible assumption) tk ?_
    walk_at "go"
    refine SlV.lMid i m rfl rfl (SqL.of ((Same.refl H) _ _ ha)) fun p2 H5 n5 => ?_
    rw [← List.map_drop, ← List.map_take, hhd] at n5
    walk_at "go"
    have s5 : Same H H5 := Same.trans (Same.refl H) n5.same
    refine ⟨p2, _, rfl, n5.at_, by omega, by omega, fun hs r5 H6 eu n6 => ?_, fun eu H6 s6 => q2 (by rw [hrm, eu]) _ (s5.trans s6)⟩
    walk_at "go"
    have up := unf_prop _ _ _ eu
    have tot0 : tot ([] : List T) = 0 := rfl
    refine ⟨r5, hs, none, rfl, n6.at_, fun l hl => ⟨Nat.le_trans (tot_mem hl) (by rw [up.1, tot0]; omega), up.2.2 (by intro l h; cases h) (fun l h => hA l (hhm l h)) l hl⟩, by have := up.2.1; simp at this; omega, (fun z hz => by cases hz), fun x p3 H7 e7 s7 lt => ?_, fun e7 H7 s7 => q2 (by rw [hrm, eu, ho]; dsimp only; rw [e7]) _ ((s5.trans n6.same).trans s7)⟩
    walk_at "go"
    rename_i pt H8 n8
    refine q1 x (ls.drop (e + 1)) p3 pt H8 (by rw [hrm, eu, ho]; dsimp only; rw [e7]) (((s5.trans n6.same).trans s7).trans n8.same) (lt.mono (Keep.of n8.same)) ?_
    rw [n8.at_, List.length_drop, show ls.length - (ls.length - (e + 1)) = e + 1 by omega]
    rfl
section
variable {P : Program} {w : World} {K : PySem.W.Frag} {mg : Str → Option Value} {base : Heap}
theorem c_read_mail (T : Tx w K mg base) : Callee P w K mg base (L2.CX P w) 7 "read_mail" (spReadMail K) := by
  have c1 := (c_head_end (P := P) T).mono (by decide : 2 ≤ 6)
  have c2 := (c_text_end (P := P) T).mono (by decide : 2 ≤ 6)
  have c3 := (c_unfold (P := P) T).mono (by decide : 3 ≤ 6)
  have c4 := (c_read_headers (P := P) T)
  refine calleeX_of T 27 25 rfl rfl rfl rfl rfl fs_read_mail bd_read_mail (fun vs H Q E h => ?_) (fun X h1 h2 h3 h4 h5 C vs H Q E tk hst hfr h => ?_)
  · obtain ⟨a, ls, i, rfl, _⟩ := h; rfl
  · subst h1 h2 h3 h4 h5
    obtain ⟨a, ls, i, rfl, ha, hi, hA, hn, ht, q1, q2⟩ := h
    exact b_read_mail C c1 c2 c3 c4 E tk a ls i H ha hi hA hn ht Q q1 q2
end
/-! ## LoMail -/
theorem fold60_len : ∀ (n : Nat) (l : T), (foldF n l).length ≤ n + 1
  | 0, l => by simp [foldF]
  | n + 1, l => by
    unfold foldF
    split
    · have := fold60_len n (l.drop (cutAt l 60)); simp; omega
    · simp
theorem hdr_len {x : LV} (h : isLetter x = true) (hl : x.seen.length ≤ 60) : ∀ l ∈ hdr x, l.length ≤ 3000 := by
  obtain ⟨p1, p2, p3, p4, p5, _⟩ := letter_parts h
  have hr : isRef (x.author, x.number) = true := by unfold isRef; simp [p1, p2]
  have hr2 := refL hr
  have p3' : 1 ≤ x.stamp ∧ x.stamp ≤ 1000000000000000000 := by unfold isNum at p3; simpa using p3
  have hsl : (numI x.stamp).length ≤ 19 := numI_len (by omega) p3'.2
  have hkl := kindL p5
  have hsn : (joinL cs (x.seen.map refW)).length ≤ 2600 := by
    have a1 := joinL_len cs (x.seen.map refW)
    have a2 := sum_le (ls := x.seen.map refW) (k := 40) fun l hl => by
      obtain ⟨r, hr, rfl⟩ := List.mem_map.mp hl
      exact refL (seen_refs p4 r hr)
    rw [List.length_map] at a1 a2
    have e5 : cs.length = 2 := rfl
    rw [e5] at a1; omega
  have hL : ∀ o : Option T, isText o = true → ∀ l ∈ linesH o, l.length ≤ 3000 := by
    intro o ho l hl
    cases o with
    | none => simp [linesH] at hl
    | some z =>
      have a1 := textL ho
      have a2 := count_len z
      have a3 : (numN (nlCount z + 1)).length ≤ 19 := LoW.numN_len (by decide) (by omega)
      simp [linesH] at hl; subst hl
      simp [hLines]; omega
  have hB : ∀ l ∈ bodyL x.body, l.length ≤ 3000 := by
    intro l hl
    cases e : x.body with
    | found t ms =>
      rw [e] at hl p5
      unfold isBody at p5; simp only [Bool.and_eq_true] at p5
      simp only [bodyL, List.mem_cons, List.not_mem_nil, or_false] at hl
      have a1 := titleL p5.1
      have a2 := membersL p5.2
      rcases hl with rfl | rfl
      · simp [hTitle]; omega
      · simp [hMembers]; omega
    | say o => rw [e] at hl p5; exact hL o p5 l hl
    | reply b r o =>
      rw [e] at hl p5
      unfold isBody at p5; simp only [Bool.and_eq_true] at p5
      rcases List.mem_cons.mp hl with rfl | hl
      · have := refL p5.1; simp [hRef]; omega
      · exact hL o p5.2 l hl
    | recall r => rw [e] at hl p5; simp [bodyL] at hl; subst hl; have := refL (show isRef r = true from p5); simp [hRef]; omega
    | mark r w =>
      rw [e] at hl p5
      unfold isBody at p5; simp only [Bool.and_eq_true] at p5
      simp only [bodyL, List.mem_cons, List.not_mem_nil, or_false] at hl
      have a1 := refL p5.1
      have a2 := nameL p5.2
      rcases hl with rfl | rfl
      · simp [hRef]; omega
      · simp [hWord]; omega
    | title t => rw [e] at hl p5; simp [bodyL] at hl; subst hl; have := titleL (show isTitle t = true from p5); simp [hTitle]; omega
    | act k n => rw [e] at hl p5; simp [bodyL] at hl; subst hl; have := nameL (show isName n = true from p5); simp [hName]; omega
    | seen => rw [e] at hl; simp [bodyL] at hl
    | other k => rw [e] at p5; exact absurd p5 (by simp [isBody])
  intro l hl
  rcases List.mem_append.mp (show l ∈ [hFrom ++ refW (x.author, x.number), hStamp ++ numI x.stamp, hSeen ++ joinL cs (x.seen.map refW), hKind ++ LO.kindOf x.body] ++ bodyL x.body from hl) with hl | hl
  · simp only [List.mem_cons, List.not_mem_nil, or_false] at hl
    rcases hl with rfl | rfl | rfl | rfl
    · simp [hFrom]; omega
    · simp [hStamp]; omega
    · simp [hSeen]; omega
    · simp [hKind]; omega
  · exact hB l hl
theorem spl1_sm (a : Nat) : ∀ z : T, (spl1 a z).length ≤ z.length + 1 ∧ ∀ p ∈ spl1 a z, p.length ≤ z.length
  | [] => by simp [spl1]
  | c :: r => by
    have ih := spl1_sm a r
    unfold spl1
    split
    · refine ⟨by simp; omega, fun p hp => ?_⟩
      rcases List.mem_cons.mp hp with rfl | hp
      · simp
      · have := ih.2 p hp; simp; omega
    · cases e : spl1 a r with
      | nil => simp
      | cons q qs =>
        rw [e] at ih
        refine ⟨by simp at ih ⊢; omega, fun p hp => ?_⟩
        rcases List.mem_cons.mp hp with rfl | hp
        · have := ih.2 q (by simp); simp at this ⊢; omega
        · have := ih.2 p (List.mem_cons_of_mem _ hp); simp at this ⊢; omega
def spMailLines (K : PySem.W.Frag) : Sp := fun vs H Q _ => ∃ (a : Addr) (x : LV), vs = [.ref a] ∧ LetAt K H a x ∧ isLetter x = true ∧ x.seen.length ≤ 60 ∧ ∀ r H', New1 H r (.lst ((mailL x).map S)) H' → Q (.ref r) H'
theorem b_mail_lines {X : Cx} (C : Ctx X N_mail_lines (defScope s_mail_lines) 4) (c1 : CalleeX X CX0 4 "header_lines" (spHeaderLines X.K)) (c2 : CalleeX X CX0 4 "fold" spFold) (c3 : CalleeX X CX0 4 "text_of" spTextOf)
    (a : Addr) (x : LV) (H : Hp) (hx : LetAt X.K H a x) (hok : isLetter x = true) (hl : x.seen.length ≤ 60) (Q : VK) (hQ : ∀ r H', New1 H r (.lst ((mailL x).map S)) H' → Q (.ref r) H') :
    B1 X (defBody s_mail_lines) (start N_mail_lines [.ref a]) H (fun _ H' => Q .non H') Q nobk nobk := by
  have hnm := nm_mail_lines C
  have hln := hdr_len hok hl
  have hcnt : (hdr x).length ≤ 7 := by
    have := bodyL_len x.body
    show ([hFrom ++ refW (x.author, x.number), hStamp ++ numI x.stamp, hSeen ++ joinL cs (x.seen.map refW), hKind ++ LO.kindOf x.body] ++ bodyL x.body).length ≤ 7
    simp; omega
  obtain ⟨v0, v1, v2, v3, w0, w1, w2, w3, g1, g2, g3, g4, g5, g6⟩ := hnm
  conv => arg 2; whnf
  refine b_cons ?_
  refine s_set (by with_reducible assumption) ?_
  refine e_lst (a_nil ⟨line16 (by simp), fun r H0 n => ?_⟩)
  have n0 : New1 H r (.lst (([] : List T).map S)) H0 := New1.of n
  refine b_cons ?_
  refine s_for_list C.toCok ?_
  walk_at "go"
  refine ⟨a, x, rfl, hx.mono (Keep.of n0.same), hok, by omega, fun rh H1 n1 => ?_⟩
  have n01 := n0.post n1.same
  refine ⟨rh, (hdr x).map S, rfl, SqL.of n1.at_, fun i σ H' => ∃ o2, σ = [some (.ref a), some (.ref r), o2, none] ∧ ∃ acc, New1 H r (.lst (acc.map S)) H' ∧ H' rh = some (.lst ((hdr x).map S)) ∧ acc = (((hdr x).take i).map fold60).flatten ∧ acc.length ≤ i * 3001,
    ⟨none, rfl, [], n01, n1.at_, rfl, by simp⟩, fun i σ H' _ ⟨_, _, _, _, hr, _⟩ => SqL.of hr, ?_, ?_⟩
  · rintro i v σ H2 hi ⟨o2, rfl, acc, na, hr, hacc, hlen⟩
    obtain ⟨l, hl', rfl⟩ : ∃ l, (hdr x)[i]? = some l ∧ S l = v := by rw [List.getElem?_map] at hi; cases e : (hdr x)[i]? with
      | none => rw [e] at hi; cases hi
      | some z => rw [e] at hi; exact ⟨z, rfl, Option.some.inj hi⟩
    have hi2 : i < (hdr x).length := (List.getElem?_eq_some_iff.mp hl').1
    have hll := hln l (List.mem_of_getElem? hl')
    walk_at "go"
    refine ⟨⟨_, na.at_⟩, ?_⟩
    walk_at "go"
    refine ⟨by omega, fun rf H3 n3 => ?_⟩
    have hf := fold60_len l.length l
    have ex : (acc ++ fold60 l).map S = acc.map S ++ (fold60 l).map S := by simp
    have hne : rh ≠ r := by intro e; have h := n1.fr; rw [e, n0.at_] at h; cases h
    refine ⟨rf, _, _, rfl, n3.same _ _ na.at_, n3.at_, ?_, ?_⟩
    · rw [List.length_map, List.length_map]
      exact line16 (by have : (fold60 l).length ≤ l.length + 1 := hf; omega)
    rw [← ex]
    walk_at "go"
    refine ⟨acc ++ fold60 l, (na.post n3.same).up, ?_, ?_, ?_⟩
    · rw [upd_ne hne]; exact n3.same _ _ hr
    · rw [hacc, List.take_add_one, hl', List.map_append, List.flatten_append]; simp
    · have : (fold60 l).length ≤ l.length + 1 := hf
      simp; omega
  · rintro σ H2 ⟨o2, rfl, acc, na, hr, hacc, hlen⟩
    rw [List.length_map] at hlen
    rw [List.length_map, List.take_length] at hacc
    have hacl : acc.length ≤ 30000 := by
      have : (hdr x).length * 3001 ≤ 7 * 3001 := Nat.mul_le_mul_right _ hcnt
      omega
    have p5 := (letter_parts hok).2.2.2.2.1
    refine b_cons ?_
    refine s_app acc (by with_reducible assumption) (by rfl) na (by omega) ?_
    walk_at "go"
    rename_i H4 n4
    rw [show tl (Str.ofString "") = [] by decide +kernel] at n4
    obtain ⟨dx, fs, vs, vb, h1, h2, h3, h4, h5, h6, h7, h8, h9, h10⟩ := (hx.mono (Keep.of n4.same)).at_
    refine e_fldL C C.tx.nBody ?_
    walk_at "go"
    refine ⟨a, dx, fs, _, rfl, h1, h6, ?_⟩
    walk_at "go"
    refine ⟨_, x.body, rfl, h8, p5, fun H5 s5 => ?_⟩
    have n5 := n4.post s5
    have eml : mailL x = acc ++ [[]] ++ (textRows (textOf x.body) ++ [[46]]) := by rw [hacc]; unfold mailL; simp
    cases et : textOf x.body with
    | none =>
      rw [et] at eml
      show B1 X _ _ H5 _ _ _ _
      have ev : optV none = V.non := rfl
      rw [ev]
      walk_at "go"
      rename_i H6 n6
      refine hQ r H6 ?_
      rw [eml]
      have e2 : (acc ++ [[]] ++ [tl (Str.ofString ".")]).map S = (acc ++ [[]] ++ (textRows none ++ [[46]])).map S := by
        rw [show tl (Str.ofString ".") = [46] by decide +kernel]; rfl
      rw [← e2]
      exact n6
    | some z =>
      rw [et] at eml
      have ez : isText (some z) = true := by
        cases eb : x.body with
        | say o => rw [eb] at et p5; cases et; exact p5
        | reply b r o => rw [eb] at et p5; cases et; unfold isBody at p5; simp only [Bool.and_eq_true] at p5; exact p5.2
        | _ => rw [eb] at et; cases et
      have zl := textL ez
      have ev : optV (some z) = S z := rfl
      rw [ev]
      walk_at "go"
      refine Bth.ndF (by intro e; cases e) ?_
      walk_at "go"
      refine s_for_list C.toCok ?_
      walk_at "go"
      refine ⟨by rw [mkS_len]; exact line16 (by omega), fun p H6 n6 => ?_⟩
      rw [show (mkS (tl (Str.ofString "\n"))) = mkS [10] by decide +kernel, split1 10 (by decide), strs_S] at n6
      have hsp := spl1_sm 10 z
      refine ⟨p, (spl1 10 z).map S, rfl, SqL.of n6.at_, fun i σ H' => ∃ o2, σ = [some (.ref a), some (.ref r), o2, some (S z)] ∧ New1 H r (.lst ((acc ++ [[]] ++ ((spl1 10 z).take i).map (fun l => 124 :: l)).map S)) H' ∧ H' p = some (.lst ((spl1 10 z).map S)),
        ⟨o2, rfl, by simpa using n5.post n6.same, n6.at_⟩, fun i σ H' _ ⟨_, _, _, hp⟩ => SqL.of hp, ?_, ?_⟩
      · rintro i v σ H7 hi ⟨o2', rfl, n7, hp⟩
        obtain ⟨l, hl', rfl⟩ : ∃ l, (spl1 10 z)[i]? = some l ∧ S l = v := by rw [List.getElem?_map] at hi; cases e : (spl1 10 z)[i]? with
          | none => rw [e] at hi; cases hi
          | some z => rw [e] at hi; exact ⟨z, rfl, Option.some.inj hi⟩
        have hi2 : i < (spl1 10 z).length := (List.getElem?_eq_some_iff.mp hl').1
        have hll := hsp.2 l (List.mem_of_getElem? hl')
        have hnp : p ≠ r := by intro e; have h := n6.fr; rw [e, n5.at_] at h; cases h
        refine g_name (by with_reducible assumption) ?_
        refine b_one (s_expr (e_append ?_))
        walk_at "go"
        refine ⟨⟨_, n7.at_⟩, ?_⟩
        walk_at "go"
        rw [show (Str.ofString "|") = mkS [124] by decide +kernel]
        refine AddV.S (line16 (by simp; omega)) ?_
        refine ⟨_, n7.at_, Nat.lt_of_le_of_lt (show _ ≤ 40000 by simp; omega) (by decide), ?_⟩
        refine ⟨_, rfl, ?_, by rw [upd_ne hnp]; exact hp⟩
        have e3 : (acc ++ [[]] ++ ((spl1 10 z).take (i + 1)).map (fun l => 124 :: l)).map S = (acc ++ [[]] ++ ((spl1 10 z).take i).map (fun l => 124 :: l)).map S ++ [S ([124] ++ l)] := by
          rw [List.take_add_one, hl']; simp
        rw [e3]
        exact n7.up
      · rintro σ H7 ⟨o2', rfl, n7, hp⟩
        rw [List.length_map, List.take_length] at n7
        have hlm : ((spl1 10 z).map (fun l => 124 :: l)).length ≤ 401 := by rw [List.length_map]; omega
        refine b_nil (b_cons ?_)
        refine s_app (acc ++ [[]] ++ (spl1 10 z).map (fun l => 124 :: l)) (by with_reducible assumption) (by rfl) n7 (by simp at hlm ⊢; omega) ?_
        walk_at "go"
        rename_i H8 n8
        refine hQ r H8 ?_
        rw [eml]
        have e2 : (acc ++ [[]] ++ (spl1 10 z).map (fun l => 124 :: l) ++ [tl (Str.ofString ".")]).map S = (acc ++ [[]] ++ (textRows (some z) ++ [[46]])).map S := by
          rw [show tl (Str.ofString ".") = [46] by decide +kernel]; simp [textRows]
        rw [← e2]
        exact n8
section
variable {P : Program} {w : World} {K : PySem.W.Frag} {mg : Str → Option Value} {base : Heap}
theorem c_mail_lines (T : Tx w K mg base) : Callee P w K mg base CX0 5 "mail_lines" (spMailLines K) := by
  have c1 := (c_header_lines (P := P) T)
  have c2 := (c_fold (P := P) T).mono (by decide : 3 ≤ 4)
  have c3 := (c_text_of (P := P) T).mono (by decide : 2 ≤ 4)
  refine callee_of T 24 22 rfl rfl rfl rfl rfl fs_mail_lines bd_mail_lines (fun vs H Q E h => ?_) (fun X h1 h2 h3 h4 h5 C vs H Q E h => ?_)
  · obtain ⟨v, _, rfl, _⟩ := h; rfl
  · subst h1 h2 h3 h4 h5
    obtain ⟨a, x, rfl, hx, hok, hl, q⟩ := h
    exact b_mail_lines C c1 c2 c3 a x H hx hok hl Q q
end
/-! ## LoArch -/
/-- letters, one by one -/
inductive Lets (K : PySem.W.Frag) (H : Hp) : List Addr → List LV → Prop
  | nil : Lets K H [] []
  | cons {p : Addr} {x : LV} {ps : List Addr} {xs : List LV} : LetAt K H p x → Lets K H ps xs → Lets K H (p :: ps) (x :: xs)
theorem Lets.mono {K : PySem.W.Frag} {H H' : Hp} (k : Keep H H') : ∀ {ps : List Addr} {xs : List LV}, Lets K H ps xs → Lets K H' ps xs
  | _, _, .nil => .nil
  | _, _, .cons h r => .cons (h.mono k) (r.mono k)
theorem Lets.len {K : PySem.W.Frag} {H : Hp} : ∀ {ps : List Addr} {xs : List LV}, Lets K H ps xs → ps.length = xs.length
  | _, _, .nil => rfl
  | _, _, .cons _ r => congrArg (· + 1) r.len
theorem Lets.get {K : PySem.W.Frag} {H : Hp} : ∀ {ps : List Addr} {xs : List LV} {i : Nat} {p : Addr}, Lets K H ps xs → ps[i]? = some p → ∃ x, xs[i]? = some x ∧ LetAt K H p x
  | _, _, i, p, .nil, h => by simp at h
  | _, _, 0, p, .cons h r, e => by simp at e; subst e; exact ⟨_, by simp, h⟩
  | _, _, i + 1, p, .cons h r, e => by
    obtain ⟨x, h1, h2⟩ := r.get (i := i) (by simpa using e)
    exact ⟨x, by simpa using h1, h2⟩
theorem Lets.snoc {K : PySem.W.Frag} {H : Hp} {p : Addr} {x : LV} (h : LetAt K H p x) : ∀ {ps : List Addr} {xs : List LV}, Lets K H ps xs → Lets K H (ps ++ [p]) (xs ++ [x])
  | _, _, .nil => .cons h .nil
  | _, _, .cons a r => .cons a (r.snoc h)
def spArchive (K : PySem.W.Frag) : Sp := fun vs H Q _ => ∃ (a : Addr) (ps : List Addr) (xs : List LV), vs = [.ref a] ∧ H a = some (.lst (ps.map V.ref)) ∧ Lets K H ps xs ∧ (∀ x ∈ xs, isLetter x = true ∧ x.seen.length ≤ 60) ∧
  (xs.map mailL).flatten.length ≤ 1000000 ∧ tot (xs.map mailL).flatten ≤ 1000000 ∧ ∀ H', Same H H' → Q (S (joinN (xs.map mailL).flatten)) H'
theorem joinL_nil : ∀ ls : List T, joinL [] ls = ls.flatten
  | [] => rfl
  | [p] => by simp [joinL]
  | p :: q :: r => by
    show p ++ ([] ++ joinL [] (q :: r)) = _
    rw [joinL_nil (q :: r)]; simp
theorem sum_nl (ls : List T) : ((ls.map (· ++ [10])).map List.length).sum = tot ls + ls.length := by
  induction ls with
  | nil => simp [tot]
  | cons a r ih => simp [tot] at ih ⊢; omega
theorem b_archive {X : Cx} (C : Ctx X N_archive (defScope s_archive) 5) (c1 : CalleeX X CX0 5 "mail_lines" (spMailLines X.K)) (a : Addr) (ps : List Addr) (xs : List LV) (H : Hp) (ha : H a = some (.lst (ps.map V.ref))) (hL : Lets X.K H ps xs)
    (hok : ∀ x ∈ xs, isLetter x = true ∧ x.seen.length ≤ 60) (hn : (xs.map mailL).flatten.length ≤ 1000000) (ht : tot (xs.map mailL).flatten ≤ 1000000) (Q : VK) (hQ : ∀ H', Same H H' → Q (S (joinN (xs.map mailL).flatten)) H') :
    B1 X (defBody s_archive) (start N_archive [.ref a]) H (fun _ H' => Q .non H') Q nobk nobk := by
  have hnm := nm_archive C
  obtain ⟨v0, v1, v2, w0, w1, w2, g1⟩ := hnm
  have hlen := hL.len
  conv => arg 2; whnf
  refine b_cons ?_
  refine s_set (by with_reducible assumption) ?_
  refine e_lst (a_nil ⟨line16 (by simp), fun r H0 n => ?_⟩)
  have n0 : New1 H r (.lst (([] : List T).map S)) H0 := New1.of n
  refine b_cons ?_
  refine s_for_list C.toCok ?_
  walk_at "go"
  refine ⟨a, ps.map V.ref, rfl, SqL.of (n0.same _ _ ha), fun i σ H' => ∃ o2, σ = [some (.ref a), some (.ref r), o2, none] ∧ New1 H r (.lst ((((xs.take i).map mailL).flatten).map S)) H',
    ⟨none, rfl, by simpa using n0⟩, fun i σ H' _ ⟨_, _, n⟩ => SqL.of (n.same _ _ ha), ?_, ?_⟩
  · rintro i v σ H2 hi ⟨o2, rfl, na⟩
    obtain ⟨p, hp, rfl⟩ : ∃ p, ps[i]? = some p ∧ V.ref p = v := by rw [List.getElem?_map] at hi; cases e : ps[i]? with
      | none => rw [e] at hi; cases hi
      | some z => rw [e] at hi; exact ⟨z, rfl, Option.some.inj hi⟩
    obtain ⟨x, hx, hlx⟩ := hL.get hp
    have hxm := List.mem_of_getElem? hx
    walk_at "go"
    refine ⟨⟨_, na.at_⟩, ?_⟩
    walk_at "go"
    refine ⟨p, x, rfl, hlx.mono (Keep.of na.same), (hok x hxm).1, (hok x hxm).2, fun rm H3 n3 => ?_⟩
    have e1 : ((xs.take (i + 1)).map mailL).flatten = ((xs.take i).map mailL).flatten ++ mailL x := by
      rw [List.take_add_one, hx, List.map_append, List.flatten_append]; simp
    have hle : (((xs.take (i + 1)).map mailL).flatten).length ≤ 1000000 := by
      have : (xs.map mailL).flatten = ((xs.take (i + 1)).map mailL).flatten ++ ((xs.drop (i + 1)).map mailL).flatten := by
        rw [← List.flatten_append, ← List.map_append, List.take_append_drop]
      rw [this, List.length_append] at hn; omega
    rw [e1, List.length_append] at hle
    refine ⟨rm, _, _, rfl, n3.same _ _ na.at_, n3.at_, line16 (by rw [List.length_map, List.length_map]; omega), ?_⟩
    refine b_nil ⟨_, rfl, ?_⟩
    rw [e1, List.map_append]
    exact (na.post n3.same).up
  · rintro σ H2 ⟨o2, rfl, na⟩
    rw [List.length_map, hlen, List.take_length] at na
    obtain ⟨L, hLL⟩ : ∃ L, (xs.map mailL).flatten = L := ⟨_, rfl⟩
    rw [hLL] at na hn ht hQ
    walk_at "go"
    refine e_lcL C [(("line" : Str), 3)] (by decide +kernel) ?_
    walk_at "go"
    refine ⟨r, L.map S, rfl, SqL.of na.at_, fun D H3 n3 => ?_⟩
    refine ⟨fun i H' => New1 H2 D (.lst (((L.map (· ++ [10])).take i).map S)) H', New1.of n3, fun i H' _ n => SqL.of (n.same _ _ na.at_), ?_, ?_⟩
    · rintro i v H' _ hi2 n ⟨rfl, hv⟩ Xb hX CB
      rw [List.length_map] at hi2
      have hv2 : L[i]? = some L[i] := List.getElem?_eq_getElem hi2
      rw [List.getElem?_map, hv2] at hv
      cases hv
      refine g_name (blk_W C hX (x := "line") (i := 3) (by decide +kernel)) ⟨rfl, fun Xb hX CB => ?_⟩
      have vp : Slot Xb 3 ("line" : Str) := blk_V C hX (by decide +kernel)
      walk_at "go"
      rw [show tl (Str.ofString "\n") = [10] by decide +kernel]
      have := tot_mem (List.getElem_mem hi2)
      refine AddV.S (line16 (by simp; omega)) ?_
      refine ⟨_, n.at_, Nat.lt_of_le_of_lt (show _ ≤ 1000000 by rw [List.length_map, List.length_take, List.length_map]; omega) (by decide), ?_⟩
      show New1 H2 D (.lst (((L.map (· ++ [10])).take (i + 1)).map S)) _
      have e1 : (L.map (· ++ [10])).take (i + 1) = (L.map (· ++ [10])).take i ++ [L[i] ++ [10]] := by
        rw [List.take_add_one, List.getElem?_map, hv2]; rfl
      rw [e1, List.map_append]
      exact n.up
    · intro H' n
      rw [List.length_map, show L.length = (L.map (· ++ [10])).length by simp, List.take_length] at n
      refine ⟨_, (L.map (· ++ [10])).map mkS, rfl, .inl (SqL.of (by rw [strs_S]; exact n.at_)), ?_, ?_⟩
      · have e3 : (L.map (· ++ [10])).map (Str.length ∘ mkS) = (L.map (· ++ [10])).map List.length := List.map_congr_left fun l _ => mkS_len l
        have e4 : (mkS (tl (Str.ofString ""))).length = 0 := by decide +kernel
        rw [List.map_map]
        show ((L.map (· ++ [10])).map (Str.length ∘ mkS)).sum + _ ≤ _
        rw [e3, e4, sum_nl]
        omega
      rw [show tl (Str.ofString "") = [] by decide +kernel, join_S, joinL_nil]
      exact hQ _ (na.same.trans n.same)
section
variable {P : Program} {w : World} {K : PySem.W.Frag} {mg : Str → Option Value} {base : Heap}
theorem c_archive (T : Tx w K mg base) : Callee P w K mg base CX0 6 "archive" (spArchive K) := by
  have c1 := (c_mail_lines (P := P) T)
  refine callee_of T 28 26 rfl rfl rfl rfl rfl fs_archive bd_archive (fun vs H Q E h => ?_) (fun X h1 h2 h3 h4 h5 C vs H Q E h => ?_)
  · obtain ⟨v, _, _, rfl, _⟩ := h; rfl
  · subst h1 h2 h3 h4 h5
    obtain ⟨a, ps, xs, rfl, ha, hL, hok, hn, ht, q⟩ := h
    exact b_archive C c1 a ps xs H ha hL hok hn ht Q q
end
/-! ## LoTry -/
section
variable {X : Cx} {N : List Str} {sc : Scope} {k : Nat} {σ : L2.St} {H : Hp} {nx bk ct : L2.St → Hp → Prop} {rt : VK} {body : List Stmt} {np pp pos pos' : Pos}
theorem tr_ctx (C : Ctx X N sc k) {pn : List (Addr × Obj)} {xe : Value → Shared → Prop} (po : PassesOwn (model X.prog X.w) X.A X.env xe) : Ctx (X.tr pn xe) N sc k :=
  ⟨C.calm, C.tx, C.room, fun _ => po, C.nd, C.hN, C.hsc, C.hfn⟩
/-- try: body, except BadMail: pass -/
theorem s_try (C : Ctx X N sc k) (hs : X.stack = X.env :: X.outer) (hf : X.env.frame = some X.env.locals) (g : GlN X "BadMail")
    (h : ∀ (W : WX) (pn : List (Addr × Obj)) (xe : Value → Shared → Prop), Takes (X.tr pn xe) W → Ctx (X.tr pn xe) N sc k → (∀ σ H, nx σ H → W (BM X.K) none σ H) → B1 (X.tr pn xe) body σ H nx rt bk ct) :
    S1 X (.Try body [.ExceptHandler (some (.Name "BadMail" np)) none [.Pass pp] pos'] [] [] pos) σ H nx rt bk ct := by
  have hx : PySem.W.exmOne X.K (BM X.K) (BM X.K) = some true := He.exm_ok (x := "BadMail") (y := "BadMail") (b := true) (C.tx.t.d.fact 99 rfl)
  refine S1.of (ps_try_many (Wout := fun _ _ _ _ => False) (l := [(BM X.K, fun _ _ _ D σ H => D.nx σ H)]) (tb := fun W D σ H => ∀ (pn : List (Addr × Obj)) (xe : Value → Shared → Prop), Takes (X.tr pn xe) W → PassesOwn (model X.prog X.w) X.A X.env xe → B1 (X.tr pn xe) body σ H D.nx D.rt D.bk D.ct)
    hs hf ?_ ?_ ?_) ?_
  · rintro u s' ⟨a, B, sI, pins, σ, H, cls, d, _, _, _, _, _, _, _, _, w⟩
    exact False.elim w
  · intro W pn xe tk po
    exact ⟨fun pins s σ H D I h => (h pn xe tk po).run pins s I⟩
  · refine .cons ⟨g.g, g.d, .inl (C.tx.glo 60 rfl)⟩ (fun a oe cls d pn hz hv => pss_one ps_pass) .nil
  · intro pn xe tk po
    refine h _ pn xe tk (tr_ctx C po) fun σ H q => ⟨true, hx, fun _ a ha => q, fun e => by cases e⟩
end
section
variable {P : Program} {w : World} {K : PySem.W.Frag} {mg : Str → Option Value} {base : Heap} {x : Str} {sp : Sp} {d : He.DefD} {N ps : List Str} {k : Nat}
/-- a def that lets no exception out, its frame told -/
theorem calleeS_of (T : Tx w K mg base) (j i : Nat) (hd : LoH.fn[j]? = some d) (hg : LoH.fa[i]? = some (.glo x)) (hat : d.at_ = (x, none)) (hdf : d.dfl = []) (hkw : d.kwd = []) (S : FnScope N ps d.scope) (hb : BindsAll ps d.name d.qual d.params d.body d.scope)
    (len : ∀ vs H Q E, sp vs H Q E → vs.length = ps.length)
    (body : ∀ (X : Cx), X.prog = P → X.w = w → X.K = K → X.mg = mg → X.base = base → Ctx X N d.scope k → X.stack = X.env :: X.outer → X.env.frame = some X.env.locals → ∀ (vs : List V) (H : Hp) (Q : VK) (E : XK), sp vs H Q E → B1 X d.body (start N vs) H (fun _ H' => Q .non H') Q nobk nobk) :
    Callee P w K mg base CX0 (k + 1) x sp := by
  obtain ⟨fd, F⟩ := T.t.d.def_ j hd
  have e1 : d.dvs K = [] := by unfold He.DefD.dvs; rw [hdf]; rfl
  have e2 : d.kws K = [] := by unfold He.DefD.kws; rw [hkw]; rfl
  rw [e1, e2] at F
  have ea : He.fAd K d.at_ = He.ga K x := by rw [hat]; rfl
  rw [ea] at F
  refine ⟨_, fd, ps, ?_, T.glo i hg, F.kp, F.bindsN hb⟩
  refine F.ok S len fun cdv A outer s H vs Q E hr h => ⟨_, pB, ?_⟩
  exact body _ rfl rfl rfl rfl rfl ⟨rfl, T, hr, fun _ => passes_of rfl, fun _ => S.nd, fun _ => rfl, fun _ => rfl, fun _ => rfl⟩ rfl rfl vs H Q E h
end
/-! ### reading on -/
theorem readMail_suf {ls : List T} {x : LV} {r : List T} (h : readMail ls = some (x, r)) : r <:+ ls ∧ r.length < ls.length := by
  unfold readMail at h
  have h1 : (rest1 ls).dropWhile isRow <:+ rest1 ls := List.dropWhile_suffix _
  have h2 : rest1 ls <:+ ls := by unfold rest1; exact (List.drop_suffix _ _).trans (List.dropWhile_suffix _)
  cases e : (rest1 ls).dropWhile isRow with
  | nil => rw [e] at h; cases h
  | cons l t =>
    rw [e] at h h1
    dsimp only at h
    have h3 : l :: t <:+ ls := h1.trans h2
    have h4 : t <:+ ls := (List.suffix_cons l t).trans h3
    have h5 := h3.length_le
    split at h
    · split at h
      · cases h
      · split at h
        · cases h
        · cases h; exact ⟨h4, by simp at h5; omega⟩
    · cases h
theorem readAll_fuel : ∀ (n m : Nat) (ls : List T), ls.length ≤ n → ls.length ≤ m → readAll n ls = readAll m ls
  | 0, 0, _, _, _ => rfl
  | 0, m + 1, ls, h, _ => by
    have : ls = [] := List.length_eq_zero_iff.mp (by omega)
    subst this; rfl
  | n + 1, 0, ls, _, h => by
    have : ls = [] := List.length_eq_zero_iff.mp (by omega)
    subst this; rfl
  | n + 1, m + 1, ls, h1, h2 => by
    unfold readAll
    split
    · rfl
    · cases e : readMail ls with
      | none => rfl
      | some q =>
        obtain ⟨x, r⟩ := q
        have := (readMail_suf e).2
        dsimp only
        rw [readAll_fuel n m r (by omega) (by omega)]
theorem readAll_some {n : Nat} {ls : List T} {x : LV} {r : List T} (h : readMail ls = some (x, r)) (hn : ls.length ≤ n) : readAll n ls = (x :: (readAll n r).1, (readAll n r).2) := by
  have hs := (readMail_suf h).2
  cases n with
  | zero => omega
  | succ n =>
    conv => lhs; unfold readAll
    rw [if_neg (by intro e; subst e; simp at hs), h]
    dsimp only
    rw [readAll_fuel n (n + 1) r (by omega) (by omega)]
theorem readAll_none {n : Nat} {ls : List T} (h : readMail ls = none) : readAll n ls = ([], ls) := by
  cases n with
  | zero => rfl
  | succ n =>
    unfold readAll
    split
    · rename_i e; rw [e]
    · rw [h]
theorem readAll_nil (n : Nat) : readAll n [] = ([], []) := by cases n <;> rfl
/-! ## LoBeg -/
theorem cutV_m1 (xs : List V) : cutV xs none (some (-1)) = xs.dropLast := by
  unfold cutV
  have e : HT.sIx xs.length xs.length (some (-1)) = xs.length - 1 := by
    show (if (-1 : Int) < 0 then ((-1 : Int) + (xs.length : Int)).toNat else min (-1 : Int).toNat xs.length) = _
    rw [if_pos (by decide)]; omega
  rw [HT.sIx_none, e, List.drop_zero, Nat.sub_zero, List.dropLast_eq_take]
def spReadBeg (K : PySem.W.Frag) : Sp := fun vs H Q _ => ∃ (t : T), vs = [S t] ∧ t.length ≤ 360000 ∧ aT t ∧ ∀ q la ps H', Same H H' → H la = none → H' la = some (.lst (ps.map V.ref)) → Lets K H' ps (readBeg t).1 → H' q = some (.tup [.ref la, .int ((readBeg t).2 : Nat)]) → Q (.ref q) H'
theorem spl1_tot (a : Nat) : ∀ z : T, tot (spl1 a z) ≤ z.length ∧ ((∀ c ∈ z, c < 1114112) → ∀ p ∈ spl1 a z, aT p)
  | [] => by simp [spl1, tot, aT]
  | c :: r => by
    have ih := spl1_tot a r
    unfold spl1
    split
    · refine ⟨by rw [tot_cons]; simp; omega, fun h p hp => ?_⟩
      rcases List.mem_cons.mp hp with rfl | hp
      · intro c hc; cases hc
      · exact ih.2 (fun c hc => h c (List.mem_cons_of_mem _ hc)) p hp
    · cases e : spl1 a r with
      | nil => exact absurd e (spl1_ne a r)
      | cons q qs =>
        rw [e] at ih
        refine ⟨by rw [tot_cons] at *; simp; omega, fun h p hp => ?_⟩
        rcases List.mem_cons.mp hp with rfl | hp
        · intro d hd
          rcases List.mem_cons.mp hd with rfl | hd
          · exact h _ (by simp)
          · exact ih.2 (fun c hc => h c (List.mem_cons_of_mem _ hc)) q (by simp) d hd
        · exact ih.2 (fun c hc => h c (List.mem_cons_of_mem _ hc)) p (List.mem_cons_of_mem _ hp)
theorem tot_take (ls : List T) (i : Nat) : tot (ls.take i) ≤ tot ls := by
  have a1 := tot_app (ls.take i) (ls.drop i)
  rw [List.take_append_drop] at a1
  omega
theorem joinN_len (ls : List T) : (joinN ls).length = tot ls + ls.length := by
  unfold joinN
  rw [List.length_flatten, sum_nl]
theorem sum_int : ∀ ms : List T, (ms.map fun l => (((l.length + 1 : Nat)) : Int)).sum = ((tot ms + ms.length : Nat) : Int)
  | [] => rfl
  | a :: r => by
    have ih := sum_int r
    rw [List.map_cons, List.sum_cons, ih, tot_cons, List.length_cons]
    omega
theorem b_read_beginning {X : Cx} (C : Ctx X N_read_beginning (defScope s_read_beginning) 7) (hst : X.stack = X.env :: X.outer) (hfr : X.env.frame = some X.env.locals) (c1 : CalleeX X (L2.CX X.prog X.w) 7 "read_mail" (spReadMail X.K)) (t : T) (ht : t.length ≤ 360000) (hA : aT t) (H : Hp) (Q : VK)
    (hQ : ∀ q la ps H', Same H H' → H la = none → H' la = some (.lst (ps.map V.ref)) → Lets X.K H' ps (readBeg t).1 → H' q = some (.tup [.ref la, .int ((readBeg t).2 : Nat)]) → Q (.ref q) H') :
    B1 X (defBody s_read_beginning) (start N_read_beginning [S t]) H (fun _ H' => Q .non H') Q nobk nobk := by
  have hnm := nm_read_beginning C
  obtain ⟨v0, v1, v2, v3, v4, v5, w0, w1, w2, w3, w4, w5, g1, g2, g3, g4⟩ := hnm
  have hsp := spl1_sm 10 t
  have hst2 := spl1_tot 10 t
  obtain ⟨ls, hls⟩ : ∃ ls, LO.linesOf t = ls := ⟨_, rfl⟩
  have hn : ls.length ≤ 370000 := by rw [← hls]; unfold LO.linesOf; rw [List.length_dropLast]; omega
  have htt : tot ls ≤ 370000 := by
    rw [← hls]; unfold LO.linesOf; rw [List.dropLast_eq_take]
    exact Nat.le_trans (tot_take _ _) (by omega)
  have hAl : ∀ l ∈ ls, aT l := fun l hl => by
    rw [← hls] at hl; unfold LO.linesOf at hl
    exact hst2.2 hA l (List.dropLast_subset _ hl)
  conv => arg 2; whnf
  walk_at "go"
  refine ⟨by rw [mkS_len]; exact line16 (by omega), fun p H1 n1 => ?_⟩
  rw [show (mkS (tl (Str.ofString "\n"))) = mkS [10] by decide +kernel, split1 10 (by decide), strs_S] at n1
  walk_at "go"
  refine SlV.l (SqL.of n1.at_) fun L H2 n2 => ?_
  rw [cutV_m1, ← List.map_dropLast, show (spl1 10 t).dropLast = ls from hls] at n2
  walk_at "go"
  rename_i la H3 n3
  have hL3 : H3 L = some (.lst (ls.map S)) := n3.same _ _ n2.at_
  have n30 : New1 H la (.lst (([] : List Addr).map V.ref)) H3 := New1.pre (n1.same.trans n2.same) (New1.of n3)
  have hLla : L ≠ la := by intro e; have h := n3.fr; rw [← e, n2.at_] at h; cases h
  refine S1.imp (nx := fun σ H' => ∃ (i : Nat) (xs : List LV) (ps : List Addr) (o : Option V), σ = [some (S t), some (.ref L), some (.ref la), some (.int (i : Nat)), o, none, none] ∧ New1 H la (.lst (ps.map V.ref)) H' ∧ H' L = some (.lst (ls.map S)) ∧ Lets X.K H' ps xs ∧ i ≤ ls.length ∧
    readAll ls.length ls = (xs, ls.drop i)) (s_try C hst hfr (by with_reducible assumption) ?_) ?_ (fun _ _ h => h) (fun _ _ h => h) (fun _ _ h => h)
  · intro W pn xe tk Ct hW
    have hnm := nm_read_beginning Ct
    obtain ⟨v0, v1, v2, v3, v4, v5, w0, w1, w2, w3, w4, w5, g1, g2, g3, g4⟩ := hnm
    have c1t : CalleeX (X.tr pn xe) (L2.CX X.prog X.w) 7 "read_mail" (spReadMail X.K) := c1
    refine b_one (s_while Ct.toCok (fun m σ H' => ∃ (i : Nat) (xs : List LV) (ps : List Addr) (o : Option V), m = ls.length - i ∧ σ = [some (S t), some (.ref L), some (.ref la), some (.int (i : Nat)), o, none, none] ∧ New1 H la (.lst (ps.map V.ref)) H' ∧ H' L = some (.lst (ls.map S)) ∧ Lets X.K H' ps xs ∧ i ≤ ls.length ∧ ps.length ≤ i ∧
      readAll ls.length ls = (xs ++ (readAll ls.length (ls.drop i)).1, (readAll ls.length (ls.drop i)).2)) ls.length ⟨0, [], [], none, rfl, rfl, n30, hL3, .nil, Nat.zero_le _, Nat.le_refl _, by simp⟩ ?_)
    rintro m σ H4 ⟨i, xs, ps, o, rfl, rfl, n4, hL4, hLt, hi, hpl, hrd⟩
    walk_at "go"
    refine LenW.l (SqL.of hL4) ?_
    rw [List.length_map]
    walk_at "go"
    refine Bth.d (fun h => ?_) (fun h => ?_)
    · walk_at "go"
      refine s_asg ?_
      refine e_callW c1t Ct.room (by with_reducible assumption) tk ?_
      walk_at "go"
      refine ⟨L, ls, i, rfl, hL4, hi, hAl, hn, htt, fun x r p q H5 er s5 lt hq => ?_, fun en H5 s5 => hW _ _ ?_⟩
      · obtain ⟨hsuf, hlt⟩ := readMail_suf er
        have hdl : (ls.drop i).length = ls.length - i := List.length_drop
        obtain ⟨i', hi'⟩ : ∃ i', ls.length - r.length = i' := ⟨_, rfl⟩
        have hr : r = ls.drop i' := by
          have := List.suffix_iff_eq_drop.mp (hsuf.trans (List.drop_suffix _ _))
          rw [← hi']; exact this
        rw [hi'] at hq
        have hrd2 : readAll ls.length ls = ((xs ++ [x]) ++ (readAll ls.length (ls.drop i')).1, (readAll ls.length (ls.drop i')).2) := by
          rw [hrd, readAll_some er (by omega), hr]; simp
        have n5 := n4.post s5
        refine g_tup Ct.calm (SqT.of hq) rfl ?_
        refine gs_cons ?_
        refine g_name (by with_reducible assumption) ?_
        refine gs_cons ?_
        refine g_name (by with_reducible assumption) ?_
        refine gs_nil ?_
        refine b_one (s_expr (e_append ?_))
        walk_at "go"
        refine ⟨⟨_, n5.at_⟩, ?_⟩
        walk_at "go"
        refine ⟨_, n5.at_, Nat.lt_of_le_of_lt (show _ ≤ 370000 by rw [List.length_map]; omega) (by decide), ?_⟩
        have kp : Keep H5 (upd H5 la (.lst (ps.map V.ref ++ [.ref p]))) := Keep.lst n5.at_
        refine ⟨ls.length - i', by omega, i', xs ++ [x], ps ++ [p], _, rfl, rfl, ?_, by rw [upd_ne hLla]; exact s5 _ _ hL4, Lets.snoc (lt.mono kp) ((hLt.mono (Keep.of s5)).mono kp), by omega, by simp; omega, hrd2⟩
        rw [List.map_append]
        exact n5.up
      · rw [readAll_none en] at hrd
        exact ⟨i, xs, ps, o, rfl, n4.post s5, s5 _ _ hL4, hLt.mono (Keep.of s5), hi, by rw [hrd]; simp⟩
    · have hi2 : i = ls.length := by omega
      rw [hi2, List.drop_length, readAll_nil] at hrd
      exact ⟨i, xs, ps, o, rfl, n4, hL4, hLt, hi, by rw [hrd, hi2, List.drop_length]; simp⟩
  · rintro σ H4 ⟨i, xs, ps, o, rfl, n4, hL4, hLt, hi, hrd⟩
    walk_at "go"
    refine e_lcL C [(("line" : Str), 6)] (by decide +kernel) ?_
    walk_at "go"
    refine SlV.lTo i rfl (SqL.of hL4) fun pp H5 n5 => ?_
    rw [← List.map_take] at n5
    obtain ⟨ms, hms⟩ : ∃ ms, ls.take i = ms := ⟨_, rfl⟩
    rw [hms] at n5
    have hmn : ms.length ≤ 370000 := by rw [← hms, List.length_take]; omega
    have hmt : tot ms ≤ 370000 := by rw [← hms]; exact Nat.le_trans (tot_take _ _) htt
    refine ⟨pp, ms.map S, rfl, SqL.of n5.at_, fun D H6 n6 => ?_⟩
    refine ⟨fun j H' => New1 H5 D (.lst (((ms.map fun l => (((l.length + 1 : Nat)) : Int)).take j).map V.int)) H', New1.of n6, fun j H' _ n => SqL.of (n.same _ _ n5.at_), ?_, ?_⟩
    · rintro j v H' _ hj n ⟨rfl, hv⟩ Xb hX CB
      rw [List.length_map] at hj
      have hv2 : ms[j]? = some ms[j] := List.getElem?_eq_getElem hj
      rw [List.getElem?_map, hv2] at hv
      cases hv
      refine g_name (blk_W C hX (x := "line") (i := 6) (by decide +kernel)) ⟨rfl, fun Xb hX CB => ?_⟩
      have vp : Slot Xb 6 ("line" : Str) := blk_V C hX (by decide +kernel)
      have gp : GlN Xb ("len" : Str) := blk_G C hX (by decide +kernel)
      have hlj := tot_mem (List.getElem_mem hj)
      walk_at "go"
      refine LenW.S (line16 (by omega)) ?_
      walk_at "go"
      refine ⟨_, n.at_, Nat.lt_of_le_of_lt (show _ ≤ 370000 by rw [List.length_map, List.length_take, List.length_map]; omega) (by decide), ?_⟩
      show New1 H5 D (.lst (((ms.map fun l => (((l.length + 1 : Nat)) : Int)).take (j + 1)).map V.int)) _
      have e1 : (ms.map fun l => (((l.length + 1 : Nat)) : Int)).take (j + 1) = (ms.map fun l => (((l.length + 1 : Nat)) : Int)).take j ++ [((ms[j].length + 1 : Nat) : Int)] := by
        rw [List.take_add_one, List.getElem?_map, hv2]; rfl
      rw [e1, List.map_append]
      exact n.up
    · intro H' n
      rw [List.length_map, show ms.length = (ms.map fun l => (((l.length + 1 : Nat)) : Int)).length by simp, List.take_length] at n
      refine ⟨D, _, rfl, SqL.of n.at_, ?_⟩
      have es : (ms.map fun l => (((l.length + 1 : Nat)) : Int)).sum = ((tot ms + ms.length : Nat) : Int) := sum_int ms
      rw [es]
      have sH : Same H4 H' := n5.same.trans n.same
      walk_at "go"
      rename_i q H7 n7
      have sH7 : Same H4 H7 := sH.trans n7.same
      have hbeg : readBeg t = (xs, (joinN ms).length) := by
        unfold readBeg
        rw [hls, hrd]
        dsimp only
        rw [List.length_drop, show ls.length - (ls.length - i) = i by omega, hms]
      refine hQ q la ps H7 (n4.same.trans sH7) n4.fr (sH7 _ _ n4.at_) ?_ ?_
      · rw [hbeg]; exact hLt.mono (Keep.of sH7)
      · rw [hbeg, n7.at_, joinN_len]
section
variable {P : Program} {w : World} {K : PySem.W.Frag} {mg : Str → Option Value} {base : Heap}
theorem c_read_beginning (T : Tx w K mg base) : Callee P w K mg base CX0 8 "read_beginning" (spReadBeg K) := by
  have c1 := (c_read_mail (P := P) T)
  refine calleeS_of T 29 27 rfl rfl rfl rfl rfl fs_read_beginning bd_read_beginning (fun vs H Q E h => ?_) (fun X h1 h2 h3 h4 h5 C hst hfr vs H Q E h => ?_)
  · obtain ⟨t, rfl, _⟩ := h; rfl
  · subst h1 h2 h3 h4 h5
    obtain ⟨t, rfl, ht, hA, q⟩ := h
    exact b_read_beginning C hst hfr c1 t ht hA H Q q
end
/-! ### read_archive -/
def spReadArch (K : PySem.W.Frag) : Sp := fun vs H Q E => ∃ (t : T), vs = [S t] ∧ t.length ≤ 360000 ∧ aT t ∧
  ((readBeg t).2 = t.length → ∀ la ps H', Same H H' → H la = none → H' la = some (.lst (ps.map V.ref)) → Lets K H' ps (readBeg t).1 → Q (.ref la) H') ∧ ((readBeg t).2 ≠ t.length → ∀ H', Same H H' → E (BM K) none H')
theorem b_read_archive {X : Cx} (C : Ctx X N_read_archive (defScope s_read_archive) 8) (c1 : CalleeX X CX0 8 "read_beginning" (spReadBeg X.K)) (E : XK) (tk : Takes X (fun cls a _ H => E cls a H)) (t : T) (ht : t.length ≤ 360000) (hA : aT t) (H : Hp) (Q : VK)
    (q1 : (readBeg t).2 = t.length → ∀ la ps H', Same H H' → H la = none → H' la = some (.lst (ps.map V.ref)) → Lets X.K H' ps (readBeg t).1 → Q (.ref la) H') (q2 : (readBeg t).2 ≠ t.length → ∀ H', Same H H' → E (BM X.K) none H') :
    B1 X (defBody s_read_archive) (start N_read_archive [S t]) H (fun _ H' => Q .non H') Q nobk nobk := by
  have hnm := nm_read_archive C
  obtain ⟨v0, v1, v2, w0, w1, w2, g1, g2, g3⟩ := hnm
  conv => arg 2; whnf
  walk_at "go"
  refine s_asg ?_
  walk_at "go"
  refine ⟨ht, hA, fun q la ps H1 s1 hla hl1 hL hq => ?_⟩
  refine g_tup C.calm (SqT.of hq) rfl ?_
  refine gs_cons ?_
  walk_at "go"
  refine gs_cons ?_
  walk_at "go"
  refine gs_nil ?_
  walk_at "go"
  refine LenW.S (line16 (by omega)) ?_
  walk_at "go"
  refine Bth.dn (fun h => ?_) (fun h => ?_)
  · walk_at "go"
    refine s_raise C tk (by with_reducible assumption) ?_
    exact q2 (by omega) _ s1
  · walk_at "go"
    exact q1 (by omega) la ps _ s1 hla hl1 hL
section
variable {P : Program} {w : World} {K : PySem.W.Frag} {mg : Str → Option Value} {base : Heap}
theorem c_read_archive (T : Tx w K mg base) : Callee P w K mg base (L2.CX P w) 9 "read_archive" (spReadArch K) := by
  have c1 := (c_read_beginning (P := P) T)
  refine calleeX_of T 30 28 rfl rfl rfl rfl rfl fs_read_archive bd_read_archive (fun vs H Q E h => ?_) (fun X h1 h2 h3 h4 h5 C vs H Q E tk hst hfr h => ?_)
  · obtain ⟨t, rfl, _⟩ := h; rfl
  · subst h1 h2 h3 h4 h5
    obtain ⟨t, rfl, ht, hA, q1, q2⟩ := h
    exact b_read_archive C c1 E tk t ht hA H Q q1 q2
end
/-! ## LoL1 -/
/-- all but a is kept -/
structure But (a : Addr) (H H' : Hp) : Prop where
  k : ∀ b o, b ≠ a → H b = some o → H' b = some o
theorem But.refl (a : Addr) (H : Hp) : But a H H := ⟨fun _ _ _ h => h⟩
theorem But.trans {a : Addr} {H H1 H2 : Hp} (x : But a H H1) (y : But a H1 H2) : But a H H2 := ⟨fun b o n h => y.k b o n (x.k b o n h)⟩
theorem But.of {a : Addr} {H H' : Hp} (h : Same H H') : But a H H' := ⟨fun b o _ e => h b o e⟩
theorem But.upd {a : Addr} {H : Hp} {o : HO} : But a H (upd H a o) := ⟨fun b u n e => by rw [upd_ne n]; exact e⟩
/-- a stream of choices -/
def Strm (H : Hp) (a : Addr) : Prop := ∃ d s : Int, H a = some (.lst [.int d, .int s]) ∧ 0 ≤ d ∧ 0 ≤ s ∧ s < 2147483647
theorem But.keep {a : Addr} {H H' : Hp} (s : Strm H a) (b : But a H H') : Keep H H' := by
  obtain ⟨d, q, h, _⟩ := s
  exact ⟨fun c xs e => b.k c _ (by intro z; rw [z, h] at e; cases e) e, fun c C dx fs e => b.k c _ (by intro z; rw [z, h] at e; cases e) e⟩
def spNext : Sp := fun vs H Q _ => ∃ (a : Addr) (n : Int), vs = [.ref a, .int n] ∧ Strm H a ∧ 1 ≤ n ∧ n ≤ 1000000000000 ∧ ∀ (k : Int) H', 0 ≤ k → k < n → But a H H' → Strm H' a → Q (.int k) H'
theorem b_next {X : Cx} (C : Ctx X N_law_next (defScope s_law_next) 1) (a : Addr) (n : Int) (H : Hp) (hs : Strm H a) (h1 : 1 ≤ n) (h2 : n ≤ 1000000000000) (Q : VK) (hQ : ∀ (k : Int) H', 0 ≤ k → k < n → But a H H' → Strm H' a → Q (.int k) H') :
    B1 X (defBody s_law_next) (start N_law_next [.ref a, .int n]) H (fun _ H' => Q .non H') Q nobk nobk := by
  have hnm := nm_law_next C
  obtain ⟨v0, v1, v2, w0, w1, w2, g1⟩ := hnm
  obtain ⟨d, s, ha, hd, hs0, hs1⟩ := hs
  conv => arg 2; whnf
  walk_at "go"
  refine IxV.l (SqL.of ha) (v := .int d) (by rfl) ?_
  walk_at "go"
  refine Bth.d (fun h3 => ?_) (fun h3 => ?_)
  · walk_at "go"
    refine IxV.l (SqL.of ha) (v := .int d) (by rfl) ?_
    walk_at "go"
    refine ⟨show (0 : Int) < n by omega, ?_⟩
    walk_at "go"
    refine s_setix ?_
    walk_at "go"
    refine IxV.l (SqL.of ha) (v := .int d) (by rfl) ?_
    walk_at "go"
    refine ⟨⟨by omega, ?_⟩, ?_⟩
    · rw [Nat.log2_lt (by omega)]
      have : n.natAbs < 2 ^ 60 := by omega
      exact Nat.lt_of_lt_of_le this (Nat.pow_le_pow_right (by decide) (by decide))
    walk_at "go"
    refine ⟨a, _, 0, 0, rfl, rfl, ha, by rfl, ?_⟩
    walk_at "go"
    refine hQ _ _ (Int.emod_nonneg _ (by omega)) (Int.emod_lt_of_pos _ (by omega)) But.upd ⟨d / n, s, upd_same, Int.ediv_nonneg hd (by omega), hs0, hs1⟩
  · walk_at "go"
    refine s_setix ?_
    walk_at "go"
    refine IxV.l (SqL.of ha) (v := .int s) (by rfl) ?_
    walk_at "go"
    refine ⟨.inr ⟨by decide, by decide⟩, ?_⟩
    walk_at "go"
    refine ⟨show (0 : Int) < 2147483647 by decide, ?_⟩
    walk_at "go"
    refine ⟨a, _, 1, 1, rfl, rfl, ha, by rfl, ?_⟩
    have ha' : upd H a (.lst ([V.int d, V.int s].set 1 (V.int ((s * 48271 + 12820163) % 2147483647)))) a = some (.lst [.int d, .int ((s * 48271 + 12820163) % 2147483647)]) := upd_same
    walk_at "go"
    refine IxV.l (SqL.of ha') (v := .int ((s * 48271 + 12820163) % 2147483647)) (by rfl) ?_
    walk_at "go"
    refine ⟨.inr ⟨by decide, by decide⟩, ?_⟩
    walk_at "go"
    refine ⟨show (0 : Int) < 2147483399 by decide, ?_⟩
    walk_at "go"
    refine ⟨⟨by decide, by decide +kernel⟩, ?_⟩
    walk_at "go"
    refine ⟨show (0 : Int) < n by omega, ?_⟩
    exact hQ _ _ (Int.emod_nonneg _ (by omega)) (Int.emod_lt_of_pos _ (by omega)) But.upd ⟨d, _, ha', hd, Int.emod_nonneg _ (by decide), Int.emod_lt_of_pos _ (by decide)⟩
section
variable {P : Program} {w : World} {K : PySem.W.Frag} {mg : Str → Option Value} {base : Heap}
theorem c_next (T : Tx w K mg base) : Callee P w K mg base CX0 2 "_law_next" spNext := by
  refine callee_of T 34 32 rfl rfl rfl rfl rfl fs_law_next bd_law_next (fun vs H Q E h => ?_) (fun X h1 h2 h3 h4 h5 C vs H Q E h => ?_)
  · obtain ⟨_, _, rfl, _⟩ := h; rfl
  · obtain ⟨a, n, rfl, hs, h1, h2, q⟩ := h
    exact b_next C a n H hs h1 h2 Q q
end
/-! ## LoL2 -/
theorem e_p9 {X : Cx} {σ : L2.St} {H : Hp} {Q : VK} {j1 j2 : Nat} {p1 p2 p3 : Pos} (q : Q (.int 1000000000) H) : E1 X (.BinOp (.Constant (.int 10) j1 p1) .Pow (.Constant (.int 9) j2 p2) p3) σ H Q :=
  e_pow (e_int (e_int ⟨10, 9, rfl, rfl, ⟨by decide, by decide, by decide⟩, by show Q (V.int ((10 : Int) ^ (9 : Int).toNat)) H; rw [show (10 : Int) ^ (9 : Int).toNat = 1000000000 by decide]; exact q⟩))
theorem e_p18 {X : Cx} {σ : L2.St} {H : Hp} {Q : VK} {j1 j2 : Nat} {p1 p2 p3 : Pos} (q : Q (.int 1000000000000000000) H) : E1 X (.BinOp (.Constant (.int 10) j1 p1) .Pow (.Constant (.int 18) j2 p2) p3) σ H Q :=
  e_pow (e_int (e_int ⟨10, 18, rfl, rfl, ⟨by decide, by decide, by decide⟩, by show Q (V.int ((10 : Int) ^ (18 : Int).toNat)) H; rw [show (10 : Int) ^ (18 : Int).toNat = 1000000000000000000 by decide]; exact q⟩))
local macro_rules | `(tactic| walk_at "E") => `(tactic| first | ((with_reducible apply e_p9) <;> walk_at "fin") | ((with_reducible apply e_p18) <;> walk_at "fin"))
theorem spNext.mk {a : Addr} {n : Int} {H : Hp} {Q : VK} {E : XK} (s : Strm H a) (h1 : 1 ≤ n) (h2 : n ≤ 1000000000000) (q : ∀ (k : Int) H', 0 ≤ k → k < n → But a H H' → Strm H' a → Q (.int k) H') : spNext [.ref a, .int n] H Q E := ⟨a, n, rfl, s, h1, h2, q⟩
def spLNumber : Sp := fun vs H Q _ => ∃ (a : Addr), vs = [.ref a] ∧ Strm H a ∧ ∀ (k : Int) H', 1 ≤ k → k ≤ 1000000000000000000 → But a H H' → Strm H' a → Q (.int k) H'
theorem b_lnumber {X : Cx} (C : Ctx X N_law_number (defScope s_law_number) 2) (c1 : CalleeX X CX0 2 "_law_next" spNext) (a : Addr) (H : Hp) (hs : Strm H a) (Q : VK) (hQ : ∀ (k : Int) H', 1 ≤ k → k ≤ 1000000000000000000 → But a H H' → Strm H' a → Q (.int k) H') :
    B1 X (defBody s_law_number) (start N_law_number [.ref a]) H (fun _ H' => Q .non H') Q nobk nobk := by
  have hnm := nm_law_number C
  obtain ⟨v0, v1, w0, w1, g1⟩ := hnm
  conv => arg 2; whnf
  walk_at "go"
  refine spNext.mk hs (by decide) (by decide) fun k H1 k0 k1 b1 s1 => ?_
  walk_at "go"
  refine Bth.d (fun h => ?_) (fun h => ?_)
  · walk_at "go"
    exact hQ _ _ (by decide) (by decide) b1 s1
  walk_at "go"
  refine Bth.d (fun h => ?_) (fun h => ?_)
  · walk_at "go"
    refine spNext.mk s1 (by decide) (by decide) fun k2 H2 k20 k21 b2 s2 => ?_
    walk_at "go"
    exact hQ _ _ (by omega) (by omega) (b1.trans b2) s2
  walk_at "go"
  refine Bth.d (fun h => ?_) (fun h => ?_)
  · walk_at "go"
    refine spNext.mk s1 (by decide) (by decide) fun k2 H2 k20 k21 b2 s2 => ?_
    walk_at "go"
    refine ⟨.inr ⟨by decide, by decide⟩, ?_⟩
    walk_at "go"
    refine spNext.mk s2 (by decide) (by decide) fun k3 H3 k30 k31 b3 s3 => ?_
    walk_at "go"
    exact hQ _ _ (by omega) (by omega) ((b1.trans b2).trans b3) s3
  · walk_at "go"
    refine spNext.mk s1 (by decide) (by decide) fun k2 H2 k20 k21 b2 s2 => ?_
    walk_at "go"
    exact hQ _ _ (by omega) (by omega) (b1.trans b2) s2
section
variable {P : Program} {w : World} {K : PySem.W.Frag} {mg : Str → Option Value} {base : Heap}
theorem c_lnumber (T : Tx w K mg base) : Callee P w K mg base CX0 3 "_law_number" spLNumber := by
  have c1 := c_next (P := P) T
  refine callee_of T 35 33 rfl rfl rfl rfl rfl fs_law_number bd_law_number (fun vs H Q E h => ?_) (fun X h1 h2 h3 h4 h5 C vs H Q E h => ?_)
  · obtain ⟨_, rfl, _⟩ := h; rfl
  · subst h1 h2 h3 h4 h5
    obtain ⟨a, rfl, hs, q⟩ := h
    exact b_lnumber C c1 a H hs Q q
end
/-! ## LoL3 -/
theorem Strm.same {H H' : Hp} {a : Addr} (s : Strm H a) (h : Same H H') : Strm H' a := by
  obtain ⟨d, q, e, r⟩ := s
  exact ⟨d, q, h _ _ e, r⟩
theorem Strm.ne {H H' : Hp} {a p : Addr} {o : HO} (s : Strm H a) (n : New H p o H') : p ≠ a := by
  obtain ⟨d, q, e, r⟩ := s
  intro z; have h := n.fr; rw [z, e] at h; cases h
def spLName : Sp := fun vs H Q _ => ∃ (a : Addr), vs = [.ref a] ∧ Strm H a ∧ ∀ (z : T) H', isName z = true → But a H H' → Strm H' a → Q (S z) H'
def lets36 : T := [97, 98, 99, 100, 101, 102, 103, 104, 105, 106, 107, 108, 109, 110, 111, 112, 113, 114, 115, 116, 117, 118, 119, 120, 121, 122, 48, 49, 50, 51, 52, 53, 54, 55, 56, 57]
theorem name_snoc {z : T} {c : Nat} (hz : isName z = true) (hl : z.length ≤ 11) (hc : (isLet c || isDig c) = true) : isName (z ++ [c]) = true := by
  unfold isName at *
  simp only [Bool.and_eq_true, decide_eq_true_eq] at *
  obtain ⟨h1, h2, h3, h4⟩ := hz
  refine ⟨by simp, by simp; omega, ?_, ?_⟩
  · rw [List.all_append, h3]; simp [hc]
  · cases z with
    | nil => simp at h1
    | cons a r => simpa using h4
theorem lets_at {k : Int} (h0 : 0 ≤ k) (h1 : k < 36) : ∃ c, atI lets36 k = some c ∧ (isLet c || isDig c) = true ∧ (k < 26 → isLet c = true) := by
  obtain ⟨n, rfl⟩ := Int.eq_ofNat_of_zero_le h0
  have hn : n < 36 := by omega
  have key : ∀ n : Fin 36, (isLet (lets36[n.val]'(by have := n.2; exact this)) || isDig (lets36[n.val]'(by have := n.2; exact this))) = true ∧ (n.val < 26 → isLet (lets36[n.val]'(by have := n.2; exact this)) = true) := by decide
  refine ⟨lets36[n]'hn, atI_nat (List.getElem?_eq_getElem hn), (key ⟨n, hn⟩).1, fun h => (key ⟨n, hn⟩).2 (by show n < 26; omega)⟩
theorem b_lname {X : Cx} (C : Ctx X N_law_name (defScope s_law_name) 2) (c1 : CalleeX X CX0 2 "_law_next" spNext) (a : Addr) (H : Hp) (hs : Strm H a) (Q : VK) (hQ : ∀ (z : T) H', isName z = true → But a H H' → Strm H' a → Q (S z) H') :
    B1 X (defBody s_law_name) (start N_law_name [.ref a]) H (fun _ H' => Q .non H') Q nobk nobk := by
  have hnm := nm_law_name C
  obtain ⟨v0, v1, v2, v3, v4, v5, w0, w1, w2, w3, w4, w5, g1, g2⟩ := hnm
  have eL : tl (Str.ofString "abcdefghijklmnopqrstuvwxyz0123456789") = lets36 := by decide +kernel
  conv => arg 2; whnf
  walk_at "go"
  rw [eL]
  refine spNext.mk hs (by decide) (by decide) fun k H1 k0 k1 b1 s1 => ?_
  walk_at "go"
  refine Bth.d (fun h => ?_) (fun h => ?_)
  · walk_at "go"
    rename_i p H2 n2
    refine spNext.mk (s1.same n2.same) (by decide) (by decide) fun k2 H3 k20 k21 b3 s3 => ?_
    have hp : H3 p = some (.tup ([tl (Str.ofString "a"), tl (Str.ofString "anna"), tl (Str.ofString "anna2"), tl (Str.ofString "ann"), tl (Str.ofString "bert"), tl (Str.ofString "z9")].map S)) := b3.k _ _ (s1.ne n2) n2.at_
    have hb : But a H H3 := b1.trans ((But.of n2.same).trans b3)
    obtain ⟨n, rfl⟩ := Int.eq_ofNat_of_zero_le k20
    have hn : n < 6 := by omega
    have key : ∀ n : Fin 6, isName ([tl (Str.ofString "a"), tl (Str.ofString "anna"), tl (Str.ofString "anna2"), tl (Str.ofString "ann"), tl (Str.ofString "bert"), tl (Str.ofString "z9")][n.val]'(by have := n.2; exact this)) = true := by decide +kernel
    refine IxV.t (SqT.of hp) (v := S ([tl (Str.ofString "a"), tl (Str.ofString "anna"), tl (Str.ofString "anna2"), tl (Str.ofString "ann"), tl (Str.ofString "bert"), tl (Str.ofString "z9")][n]'hn)) (atI_nat (by rw [List.getElem?_map, List.getElem?_eq_getElem hn]; rfl)) ?_
    exact hQ _ _ (key ⟨n, hn⟩) hb s3
  · walk_at "go"
    refine spNext.mk s1 (by decide) (by decide) fun k2 H3 k20 k21 b3 s3 => ?_
    walk_at "go"
    rename_i p H4 n4
    have hk : k = 1 ∨ k = 2 ∨ k = 3 := by omega
    obtain ⟨m, hm, hm2⟩ : ∃ m : Nat, m ≤ 11 ∧ atI [V.int 0, V.int 11, V.int k2] (k - 1) = some (.int (m : Int)) := by
      obtain ⟨n2, rfl⟩ := Int.eq_ofNat_of_zero_le k20
      rcases hk with rfl | rfl | rfl
      · exact ⟨0, by omega, rfl⟩
      · exact ⟨11, by omega, rfl⟩
      · exact ⟨n2, by omega, rfl⟩
    refine IxV.t (SqT.of n4.at_) hm2 ?_
    walk_at "go"
    have s4 := s3.same n4.same
    refine spNext.mk s4 (by decide) (by decide) fun k5 H5 k50 k51 b5 s5 => ?_
    obtain ⟨c, hc1, hc2, hc3⟩ := lets_at k50 (by omega)
    refine IxV.s (z := mkS lets36) (by rw [mkS_len]; exact line16 (by decide)) hc1 ?_
    have b05 : But a H H5 := (b1.trans b3).trans ((But.of n4.same).trans b5)
    walk_at "go"
    refine s_for_range1 C.toCok (by with_reducible assumption) (C.tx.free 71 rfl) ?_
    walk_at "go"
    have c26 := hc3 (by omega)
    have n1 : isName [c] = true := by unfold isName; simp [c26]
    refine ⟨by omega, fun i σ H' => ∃ (z : T) (o5 : Option V), σ = [some (.ref a), some (S lets36), some (.int k), some (.int (m : Int)), some (S z), o5] ∧ isName z = true ∧ z.length = i + 1 ∧ But a H H' ∧ Strm H' a, ⟨[c], none, rfl, n1, rfl, b05, s5⟩, ?_, ?_⟩
    · rintro i σ H6 hi ⟨z, o5, rfl, hz, hzl, b6, s6⟩
      walk_at "go"
      refine spNext.mk s6 (by decide) (by decide) fun k7 H7 k70 k71 b7 s7 => ?_
      obtain ⟨c', hd1, hd2, hd3⟩ := lets_at k70 (by omega)
      refine IxV.s (z := mkS lets36) (by rw [mkS_len]; exact line16 (by decide)) hd1 ?_
      refine AddV.S (b := [c']) (line16 (by simp; omega)) ?_
      refine b_nil ⟨z ++ [c'], _, rfl, name_snoc hz (by omega) hd2, by simp; omega, b6.trans b7, s7⟩
    · rintro σ H6 ⟨z, o5, rfl, hz, hzl, b6, s6⟩
      walk_at "go"
      exact hQ z _ hz b6 s6
section
variable {P : Program} {w : World} {K : PySem.W.Frag} {mg : Str → Option Value} {base : Heap}
theorem c_lname (T : Tx w K mg base) : Callee P w K mg base CX0 3 "_law_name" spLName := by
  have c1 := c_next (P := P) T
  refine callee_of T 36 34 rfl rfl rfl rfl rfl fs_law_name bd_law_name (fun vs H Q E h => ?_) (fun X h1 h2 h3 h4 h5 C vs H Q E h => ?_)
  · obtain ⟨_, rfl, _⟩ := h; rfl
  · subst h1 h2 h3 h4 h5
    obtain ⟨a, rfl, hs, q⟩ := h
    exact b_lname C c1 a H hs Q q
end
/-! ## LoL4 -/
def spLLine : Sp := fun vs H Q _ => ∃ (a : Addr) (n : Nat), vs = [.ref a, .int n] ∧ n ≤ 400 ∧ Strm H a ∧ ∀ (z : T) H', isPlain z = true → z.length = n → But a H H' → Strm H' a → Q (S z) H'
theorem plain_app {a b : T} (h1 : isPlain a = true) (h2 : isPlain b = true) : isPlain (a ++ b) = true := by
  unfold isPlain at *; rw [List.all_append, h1, h2]; rfl
theorem b_lline {X : Cx} (C : Ctx X N_law_line (defScope s_law_line) 2) (c1 : CalleeX X CX0 2 "_law_next" spNext) (a : Addr) (n : Nat) (hn : n ≤ 400) (H : Hp) (hs : Strm H a) (Q : VK) (hQ : ∀ (z : T) H', isPlain z = true → z.length = n → But a H H' → Strm H' a → Q (S z) H') :
    B1 X (defBody s_law_line) (start N_law_line [.ref a, .int n]) H (fun _ H' => Q .non H') Q nobk nobk := by
  have hnm := nm_law_line C
  obtain ⟨v0, v1, v2, v3, v4, v5, v6, v7, v8, w0, w1, w2, w3, w4, w5, w6, w7, w8, g1, g2, g3⟩ := hnm
  conv => arg 2; whnf
  walk_at "go"
  obtain ⟨cs0, hcs⟩ : ∃ cs0, tl (Str.ofString " !\"#$&'()*+,-./0123456789:;<=>?@ABCDEFGHIJKLMNOPQRSTUVWXYZ[\\]^_`") ++ tl (Str.ofString "abcdefghijklmnopqrstuvwxyz{|}~") = cs0 := ⟨_, rfl⟩
  have hcl : cs0.length = 94 := by rw [← hcs]; decide +kernel
  have hcp : isPlain cs0 = true := by rw [← hcs]; decide +kernel
  have pick : ∀ k : Int, 0 ≤ k → k < 94 → ∃ c, atI cs0 k = some c ∧ isPlain [c] = true := by
    intro k k0 k1
    obtain ⟨n, rfl⟩ := Int.eq_ofNat_of_zero_le k0
    have hn : n < cs0.length := by omega
    refine ⟨cs0[n], atI_nat (List.getElem?_eq_getElem hn), ?_⟩
    have := List.all_eq_true.mp hcp _ (List.getElem_mem hn)
    unfold isPlain; simp at this ⊢; exact this
  refine AddV.S (line16 (by rw [← List.length_append, hcs, hcl]; decide)) ?_
  rw [hcs]
  walk_at "go"
  refine spNext.mk hs (by decide) (by decide) fun k1 H1 k10 k11 b1 s1 => ?_
  walk_at "go"
  refine spNext.mk s1 (by decide) (by decide) fun k2 H2 k20 k21 b2 s2 => ?_
  walk_at "go"
  refine spNext.mk s2 (by decide) (by decide) fun k3 H3 k30 k31 b3 s3 => ?_
  have b03 := (b1.trans b2).trans b3
  walk_at "go"
  refine s_for_range1 C.toCok (by with_reducible assumption) (C.tx.free 71 rfl) ?_
  walk_at "go"
  refine ⟨by omega, fun i σ H' => ∃ (z : T) (o7 o8 : Option V), σ = [some (.ref a), some (.int (n : Int)), some (S cs0), some (.int k1), some (.int k2), some (.int (2 + k3)), some (S z), o7, o8] ∧ isPlain z = true ∧ z.length = i ∧ But a H H' ∧ Strm H' a, ⟨tl (Str.ofString ""), none, none, rfl, by decide +kernel, by decide +kernel, b03, s3⟩, ?_, ?_⟩
  · rintro i σ H6 hi ⟨z, o7, o8, rfl, hz, hzl, b6, s6⟩
    walk_at "go"
    refine ⟨.inl ⟨by omega, by omega⟩, ?_⟩
    walk_at "go"
    refine ⟨show (0 : Int) < 94 by decide, ?_⟩
    obtain ⟨c, hc, hcq⟩ := pick ((k1 + k2 * (i : Int)) % 94) (Int.emod_nonneg _ (by decide)) (Int.emod_lt_of_pos _ (by decide))
    refine IxV.s (z := mkS cs0) (by rw [mkS_len, hcl]; exact line16 (by decide)) hc ?_
    walk_at "go"
    refine Bth.d (fun h8 => ?_) (fun h8 => ?_)
    · walk_at "go"
      refine spNext.mk s6 (by decide) (by decide) fun k7 H7 k70 k71 b7 s7 => ?_
      obtain ⟨c2, hc2, hcq2⟩ := pick k7 k70 k71
      refine IxV.s (z := mkS cs0) (by rw [mkS_len, hcl]; exact line16 (by decide)) hc2 ?_
      walk_at "go"
      refine ⟨show (0 : Int) < 2 + k3 by omega, ?_⟩
      walk_at "go"
      refine Bth.d (fun h9 => ?_) (fun h9 => ?_)
      · walk_at "go"
        refine AddV.S (line16 (by rw [show (tl (Str.ofString " ")).length = 1 by decide +kernel]; omega)) ?_
        exact b_nil ⟨_, _, _, rfl, plain_app hz (by decide +kernel), by rw [List.length_append, show (tl (Str.ofString " ")).length = 1 by decide +kernel]; omega, (b6.trans b7), s7⟩
      · walk_at "go"
        refine AddV.S (b := [c2]) (line16 (by simp; omega)) ?_
        exact b_nil ⟨_, _, _, rfl, plain_app hz hcq2, by simp; omega, (b6.trans b7), s7⟩
    · walk_at "go"
      refine ⟨show (0 : Int) < 2 + k3 by omega, ?_⟩
      walk_at "go"
      refine Bth.d (fun h9 => ?_) (fun h9 => ?_)
      · walk_at "go"
        refine AddV.S (line16 (by rw [show (tl (Str.ofString " ")).length = 1 by decide +kernel]; omega)) ?_
        exact b_nil ⟨_, _, _, rfl, plain_app hz (by decide +kernel), by rw [List.length_append, show (tl (Str.ofString " ")).length = 1 by decide +kernel]; omega, b6, s6⟩
      · walk_at "go"
        refine AddV.S (b := [c]) (line16 (by simp; omega)) ?_
        exact b_nil ⟨_, _, _, rfl, plain_app hz hcq, by simp; omega, b6, s6⟩
  · rintro σ H6 ⟨z, o7, o8, rfl, hz, hzl, b6, s6⟩
    walk_at "go"
    exact hQ z _ hz hzl b6 s6
section
variable {P : Program} {w : World} {K : PySem.W.Frag} {mg : Str → Option Value} {base : Heap}
theorem c_lline (T : Tx w K mg base) : Callee P w K mg base CX0 3 "_law_line" spLLine := by
  have c1 := c_next (P := P) T
  refine callee_of T 38 36 rfl rfl rfl rfl rfl fs_law_line bd_law_line (fun vs H Q E h => ?_) (fun X h1 h2 h3 h4 h5 C vs H Q E h => ?_)
  · obtain ⟨_, _, rfl, _⟩ := h; rfl
  · subst h1 h2 h3 h4 h5
    obtain ⟨a, n, rfl, hn, hs, q⟩ := h
    exact b_lline C c1 a n hn H hs Q q
end
def spLTitle : Sp := fun vs H Q _ => ∃ (a : Addr), vs = [.ref a] ∧ Strm H a ∧ ∀ (z : T) H', isTitle z = true → But a H H' → Strm H' a → Q (S z) H'
theorem b_ltitle {X : Cx} (C : Ctx X N_law_title (defScope s_law_title) 3) (c1 : CalleeX X CX0 3 "_law_next" spNext) (c2 : CalleeX X CX0 3 "_law_line" spLLine) (a : Addr) (H : Hp) (hs : Strm H a) (Q : VK) (hQ : ∀ (z : T) H', isTitle z = true → But a H H' → Strm H' a → Q (S z) H') :
    B1 X (defBody s_law_title) (start N_law_title [.ref a]) H (fun _ H' => Q .non H') Q nobk nobk := by
  have hnm := nm_law_title C
  obtain ⟨v0, v1, w0, w1, g1, g2⟩ := hnm
  conv => arg 2; whnf
  walk_at "go"
  refine spNext.mk hs (by decide) (by decide) fun k1 H1 k10 k11 b1 s1 => ?_
  walk_at "go"
  refine spNext.mk s1 (by decide) (by decide) fun k2 H2 k20 k21 b2 s2 => ?_
  walk_at "go"
  rename_i p H3 n3
  refine spNext.mk (s2.same n3.same) (by decide) (by decide) fun k4 H4 k40 k41 b4 s4 => ?_
  have hp := b4.k _ _ (s2.ne n3) n3.at_
  obtain ⟨m, hm, hm2⟩ : ∃ m : Nat, m ≤ 60 ∧ atI [V.int 0, V.int 60, V.int k1, V.int k2] k4 = some (.int (m : Int)) := by
    obtain ⟨n1, rfl⟩ := Int.eq_ofNat_of_zero_le k10
    obtain ⟨n2, rfl⟩ := Int.eq_ofNat_of_zero_le k20
    have hk : k4 = 0 ∨ k4 = 1 ∨ k4 = 2 ∨ k4 = 3 := by omega
    rcases hk with rfl | rfl | rfl | rfl
    · exact ⟨0, by omega, rfl⟩
    · exact ⟨60, by omega, rfl⟩
    · exact ⟨n1, by omega, rfl⟩
    · exact ⟨n2, by omega, rfl⟩
  refine IxV.t (SqT.of hp) hm2 ?_
  walk_at "go"
  refine ⟨a, m, rfl, by omega, s4, fun z H5 hz hl b5 s5 => ?_⟩
  exact hQ z _ (by unfold isTitle; rw [hz, decide_eq_true (show z.length ≤ 60 by omega)]; rfl) ((b1.trans b2).trans ((But.of n3.same).trans (b4.trans b5))) s5
section
variable {P : Program} {w : World} {K : PySem.W.Frag} {mg : Str → Option Value} {base : Heap}
theorem c_ltitle (T : Tx w K mg base) : Callee P w K mg base CX0 4 "_law_title" spLTitle := by
  have c1 := (c_next (P := P) T).mono (by decide : 2 ≤ 3)
  have c2 := c_lline (P := P) T
  refine callee_of T 39 37 rfl rfl rfl rfl rfl fs_law_title bd_law_title (fun vs H Q E h => ?_) (fun X h1 h2 h3 h4 h5 C vs H Q E h => ?_)
  · obtain ⟨_, rfl, _⟩ := h; rfl
  · subst h1 h2 h3 h4 h5
    obtain ⟨a, rfl, hs, q⟩ := h
    exact b_ltitle C c1 c2 a H hs Q q
end
/-! ## LoL5 -/
def spLText : Sp := fun vs H Q _ => ∃ (a : Addr), vs = [.ref a] ∧ Strm H a ∧ ∀ (z : T) H', isText (some z) = true → But a H H' → Strm H' a → Q (S z) H'
theorem b_ltext {X : Cx} (C : Ctx X N_law_text (defScope s_law_text) 3) (c1 : CalleeX X CX0 3 "_law_next" spNext) (c2 : CalleeX X CX0 3 "_law_line" spLLine) (a : Addr) (H : Hp) (hs : Strm H a) (Q : VK) (hQ : ∀ (z : T) H', isText (some z) = true → But a H H' → Strm H' a → Q (S z) H') :
    B1 X (defBody s_law_text) (start N_law_text [.ref a]) H (fun _ H' => Q .non H') Q nobk nobk := by
  have hnm := nm_law_text C
  obtain ⟨v0, v1, v2, v3, v4, v5, v6, w0, w1, w2, w3, w4, w5, w6, g1, g2, g3, g4⟩ := hnm
  conv => arg 2; whnf
  walk_at "go"
  refine spNext.mk hs (by decide) (by decide) fun k1 H1 k10 k11 b1 s1 => ?_
  walk_at "go"
  refine spNext.mk s1 (by decide) (by decide) fun k2 H2 k20 k21 b2 s2 => ?_
  walk_at "go"
  refine spNext.mk s2 (by decide) (by decide) fun k3 H3 k30 k31 b3 s3 => ?_
  walk_at "go"
  rename_i p H4 n4
  refine spNext.mk (s3.same n4.same) (by decide) (by decide) fun k5 H5 k50 k51 b5 s5 => ?_
  have hp := b5.k _ _ (s3.ne n4) n4.at_
  have b05 : But a H H5 := ((b1.trans b2).trans b3).trans ((But.of n4.same).trans b5)
  obtain ⟨m, hm1, hm, hm2⟩ : ∃ m : Nat, 1 ≤ m ∧ m ≤ 400 ∧ atI [V.int 1, V.int (400 - k1), V.int (1 + k2), V.int (1 + k3)] k5 = some (.int (m : Int)) := by
    obtain ⟨n1, rfl⟩ := Int.eq_ofNat_of_zero_le k10
    obtain ⟨n2, rfl⟩ := Int.eq_ofNat_of_zero_le k20
    obtain ⟨n3, rfl⟩ := Int.eq_ofNat_of_zero_le k30
    have hk : k5 = 0 ∨ k5 = 1 ∨ k5 = 2 ∨ k5 = 3 := by omega
    rcases hk with rfl | rfl | rfl | rfl
    · exact ⟨1, by omega, by omega, rfl⟩
    · exact ⟨400 - n1, by omega, by omega, by show some (V.int _) = _; congr 2; omega⟩
    · exact ⟨1 + n2, by omega, by omega, by show some (V.int _) = _; congr 2⟩
    · exact ⟨1 + n3, by omega, by omega, by show some (V.int _) = _; congr 2⟩
  refine IxV.t (SqT.of hp) hm2 ?_
  walk_at "go"
  refine ⟨a, m, rfl, hm, s5, fun ln H6 hpl hll b6 s6 => ?_⟩
  have b06 := b05.trans b6
  walk_at "go"
  refine spNext.mk s6 (by decide) (by decide) fun k7 H7 k70 k71 b7 s7 => ?_
  walk_at "go"
  rename_i p8 H8 n8
  refine spNext.mk (s7.same n8.same) (by decide) (by decide) fun k9 H9 k90 k91 b9 s9 => ?_
  have hp8 := b9.k _ _ (s7.ne n8) n8.at_
  have b09 : But a H H9 := (b06.trans b7).trans ((But.of n8.same).trans b9)
  obtain ⟨gp, hg1, hg2⟩ : ∃ gp : Int, 1 ≤ gp ∧ atI [V.int 1, V.int 2, V.int (3 + k7), V.int 1000, V.int 1000, V.int 1000] k9 = some (.int gp) := by
    have hk : k9 = 0 ∨ k9 = 1 ∨ k9 = 2 ∨ k9 = 3 ∨ k9 = 4 ∨ k9 = 5 := by omega
    rcases hk with rfl | rfl | rfl | rfl | rfl | rfl
    · exact ⟨1, by omega, rfl⟩
    · exact ⟨2, by omega, rfl⟩
    · exact ⟨3 + k7, by omega, rfl⟩
    · exact ⟨1000, by omega, rfl⟩
    · exact ⟨1000, by omega, rfl⟩
    · exact ⟨1000, by omega, rfl⟩
  refine IxV.t (SqT.of hp8) hg2 ?_
  walk_at "go"
  refine spNext.mk s9 (by decide) (by decide) fun ka Ha ka0 ka1 ba sa => ?_
  have b0a := b09.trans ba
  walk_at "go"
  refine s_for_range1 C.toCok (by with_reducible assumption) (C.tx.free 71 rfl) ?_
  walk_at "go"
  refine ⟨by omega, fun i σ H' => ∃ (z : T) (o6 : Option V), σ = [some (.ref a), some (.int (m : Int)), some (S ln), some (.int gp), some (.int ka), some (S z), o6] ∧ isPlain (z.filter (· ≠ 10)) = true ∧ z.length = i ∧ H' = Ha, ⟨tl (Str.ofString ""), none, rfl, by decide +kernel, by decide +kernel, rfl⟩, ?_, ?_⟩
  · rintro i σ H6' hi ⟨z, o6, rfl, hz, hzl, rfl⟩
    walk_at "go"
    refine ⟨show (0 : Int) < gp by omega, ?_⟩
    walk_at "go"
    refine Bth.d (fun h9 => ?_) (fun h9 => ?_)
    · walk_at "go"
      rw [show tl (Str.ofString "\n") = [10] by decide +kernel]
      refine AddV.S (line16 (by simp; omega)) ?_
      exact b_nil (b_nil ⟨_, _, rfl, by rw [List.filter_append]; simpa using hz, by simp; omega, rfl⟩)
    · walk_at "go"
      have hil : i < ln.length := by omega
      refine IxV.s (z := mkS ln) (by rw [mkS_len]; exact line16 (by omega)) (atI_nat (List.getElem?_eq_getElem hil)) ?_
      refine AddV.S (b := [ln[i]]) (line16 (by simp; omega)) ?_
      have hq := List.all_eq_true.mp hpl _ (List.getElem_mem hil)
      refine b_nil (b_nil ⟨_, _, rfl, ?_, by simp; omega, rfl⟩)
      rw [List.filter_append]
      refine plain_app hz ?_
      unfold isPlain
      rw [List.all_eq_true]
      intro d hd
      rw [List.mem_singleton.mp (List.mem_filter.mp hd).1]
      exact hq
  · rintro σ H6' ⟨z, o6, rfl, hz, hzl, rfl⟩
    walk_at "go"
    refine hQ z _ ?_ b0a sa
    show (decide (1 ≤ z.length) && (decide (z.length ≤ 400) && isPlain (z.filter (· ≠ 10)))) = true
    rw [hz, decide_eq_true (show 1 ≤ z.length by omega), decide_eq_true (show z.length ≤ 400 by omega)]; rfl
section
variable {P : Program} {w : World} {K : PySem.W.Frag} {mg : Str → Option Value} {base : Heap}
theorem c_ltext (T : Tx w K mg base) : Callee P w K mg base CX0 4 "_law_text" spLText := by
  have c1 := (c_next (P := P) T).mono (by decide : 2 ≤ 3)
  have c2 := c_lline (P := P) T
  refine callee_of T 40 38 rfl rfl rfl rfl rfl fs_law_text bd_law_text (fun vs H Q E h => ?_) (fun X h1 h2 h3 h4 h5 C vs H Q E h => ?_)
  · obtain ⟨_, rfl, _⟩ := h; rfl
  · subst h1 h2 h3 h4 h5
    obtain ⟨a, rfl, hs, q⟩ := h
    exact b_ltext C c1 c2 a H hs Q q
end
/-! ## LoL6 -/
def spLIs : Sp := fun vs H Q _ => ∃ (i j : Int), vs = [.int i, .int j] ∧ Q (.bl (decide (i = j))) H
theorem b_lis {X : Cx} (C : Ctx X N_law_is (defScope s_law_is) 1) (i j : Int) (H : Hp) (Q : VK) (hQ : Q (.bl (decide (i = j))) H) :
    B1 X (defBody s_law_is) (start N_law_is [.int i, .int j]) H (fun _ H' => Q .non H') Q nobk nobk := by
  have hnm := nm_law_is C
  obtain ⟨v0, v1, w0, w1, g1, g2, g3⟩ := hnm
  conv => arg 2; whnf
  walk_at "go"
section
variable {P : Program} {w : World} {K : PySem.W.Frag} {mg : Str → Option Value} {base : Heap}
theorem c_lis (T : Tx w K mg base) : Callee P w K mg base CX0 2 "_law_is" spLIs := by
  refine callee_of T 31 29 rfl rfl rfl rfl rfl fs_law_is bd_law_is (fun vs H Q E h => ?_) (fun X h1 h2 h3 h4 h5 C vs H Q E h => ?_)
  · obtain ⟨_, _, rfl, _⟩ := h; rfl
  · obtain ⟨i, j, rfl, q⟩ := h
    exact b_lis C i j H Q q
end
/-! ## LoL7 -/
def spLCell (K : PySem.W.Frag) : Sp := fun vs H Q _ => ∃ (p : Addr) (ns : List Int) (k : Nat), vs = [.ref p, .int k] ∧ SqL K H p (ns.map V.int) ∧ ∀ n : Int, Q (.int n) H
theorem b_lcell {X : Cx} (C : Ctx X N_law_cell (defScope s_law_cell) 1) (p : Addr) (ns : List Int) (k : Nat) (H : Hp) (hp : SqL X.K H p (ns.map V.int)) (Q : VK) (hQ : ∀ n : Int, Q (.int n) H) :
    B1 X (defBody s_law_cell) (start N_law_cell [.ref p, .int k]) H (fun _ H' => Q .non H') Q nobk nobk := by
  have hnm := nm_law_cell C
  obtain ⟨v0, v1, w0, w1, g1⟩ := hnm
  conv => arg 2; whnf
  walk_at "go"
  refine LenW.l hp ?_
  rw [List.length_map]
  walk_at "go"
  refine Bth.d (fun h => ?_) (fun h => ?_)
  · have hk : k < ns.length := by omega
    walk_at "go"
    refine IxV.l hp (v := .int ns[k]) (atI_nat (by rw [List.getElem?_map, List.getElem?_eq_getElem hk]; rfl)) ?_
    exact hQ _
  · walk_at "go"
    exact hQ _
section
variable {P : Program} {w : World} {K : PySem.W.Frag} {mg : Str → Option Value} {base : Heap}
theorem c_lcell (T : Tx w K mg base) : Callee P w K mg base CX0 2 "_law_cell" (spLCell K) := by
  refine callee_of T 32 30 rfl rfl rfl rfl rfl fs_law_cell bd_law_cell (fun vs H Q E h => ?_) (fun X h1 h2 h3 h4 h5 C vs H Q E h => ?_)
  · obtain ⟨_, _, _, rfl, _⟩ := h; rfl
  · subst h1 h2 h3 h4 h5
    obtain ⟨p, ns, k, rfl, hp, q⟩ := h
    exact b_lcell C p ns k H hp Q q
end
/-! ## LoL8 -/
def spLStream : Sp := fun vs H Q _ => ∃ (n : Int) (k : Nat), vs = [.int n, .int k] ∧ k ≤ 1000 ∧ ∀ a H', Same H H' → H a = none → Strm H' a → Q (.ref a) H'
theorem b_lstream {X : Cx} (C : Ctx X N_law_stream (defScope s_law_stream) 1) (n : Int) (k : Nat) (hk : k ≤ 1000) (H : Hp) (Q : VK) (hQ : ∀ a H', Same H H' → H a = none → Strm H' a → Q (.ref a) H') :
    B1 X (defBody s_law_stream) (start N_law_stream [.int n, .int k]) H (fun _ H' => Q .non H') Q nobk nobk := by
  have hnm := nm_law_stream C
  obtain ⟨v0, v1, v2, w0, w1, w2, g1⟩ := hnm
  conv => arg 2; whnf
  walk_at "go"
  refine Bth.d (fun h => ?_) (fun h => ?_) <;> (
    walk_at "go"
    refine ⟨.inr ⟨by decide, by decide⟩, ?_⟩
    walk_at "go"
    refine ⟨.inr ⟨by decide, by decide⟩, ?_⟩
    walk_at "go"
    refine ⟨show (0 : Int) < 2147483647 by decide, ?_⟩
    walk_at "go"
    rename_i a H2 n2
    exact hQ a H2 n2.same n2.fr ⟨_, _, n2.at_, by omega, Int.emod_nonneg _ (by decide), Int.emod_lt_of_pos _ (by decide)⟩)
section
variable {P : Program} {w : World} {K : PySem.W.Frag} {mg : Str → Option Value} {base : Heap}
theorem c_lstream (T : Tx w K mg base) : Callee P w K mg base CX0 2 "_law_stream" spLStream := by
  refine callee_of T 33 31 rfl rfl rfl rfl rfl fs_law_stream bd_law_stream (fun vs H Q E h => ?_) (fun X h1 h2 h3 h4 h5 C vs H Q E h => ?_)
  · obtain ⟨_, _, rfl, _⟩ := h; rfl
  · obtain ⟨n, k, rfl, hk, q⟩ := h
    exact b_lstream C n k hk H Q q
end
/-! ## LoL9 -/
/-- a list of our own among draws: only the stream at a and new objects change -/
structure Nw (a : Addr) (H : Hp) (p : Addr) (o : HO) (H' : Hp) : Prop where
  b : But a H H'
  s : Strm H' a
  f : H p = none
  n : p ≠ a
  at_ : H' p = some o
theorem Nw.of {a p : Addr} {H H' : Hp} {o : HO} (s : Strm H a) (n : New H p o H') : Nw a H p o H' := ⟨But.of n.same, s.same n.same, n.fr, s.ne n, n.at_⟩
theorem Strm.free {a p : Addr} {H H' : Hp} (s : Strm H' a) (b : But a H H') (h : H' p = none) : H p = none := by
  cases e : H p with
  | none => rfl
  | some o =>
    by_cases z : p = a
    · subst z; obtain ⟨d, q, e2, _⟩ := s; rw [e2] at h; cases h
    · rw [b.k p o z e] at h; cases h
theorem Nw.pre {a p : Addr} {H H1 H' : Hp} {o : HO} (b : But a H H1) (s1 : Strm H1 a) (n : Nw a H1 p o H') : Nw a H p o H' := ⟨b.trans n.b, n.s, s1.free b n.f, n.n, n.at_⟩
theorem Nw.draw {a p : Addr} {H H1 H' : Hp} {o : HO} (n : Nw a H p o H1) (b : But a H1 H') (s : Strm H' a) : Nw a H p o H' := ⟨n.b.trans b, s, n.f, n.n, b.k p o n.n n.at_⟩
theorem Nw.same {a p : Addr} {H H1 H' : Hp} {o : HO} (n : Nw a H p o H1) (b : Same H1 H') : Nw a H p o H' := ⟨n.b.trans (But.of b), n.s.same b, n.f, n.n, b p o n.at_⟩
theorem Nw.up {a p : Addr} {H H1 : Hp} {o o' : HO} (n : Nw a H p o H1) : Nw a H p o' (upd H1 p o') := by
  refine ⟨⟨fun b u z e => ?_⟩, ?_, n.f, n.n, upd_same⟩
  · rw [upd_ne (ne_of_none e n.f)]; exact n.b.k b u z e
  · obtain ⟨d, q, e, r⟩ := n.s
    exact ⟨d, q, by rw [upd_ne (fun z => n.n z.symm)]; exact e, r⟩
theorem lt_of_nlt {a b : T} (h : ¬ b < a) (hne : a ≠ b) : a < b := by
  by_cases h1 : a < b
  · exact h1
  · exact absurd (List.le_antisymm (List.not_lt.mp h) (List.not_lt.mp h1)) hne
theorem asc_of_sorted : ∀ ys : List Str, sortedS ys = true → ys.Nodup → asc (ys.map tl) = true
  | [], _, _ => rfl
  | [a], _, _ => rfl
  | a :: b :: r, h, hn => by
    have h1 : (!ltCps b.cps.toList a.cps.toList && risingS b r) = true := h
    rw [Bool.and_eq_true, ltCps_eq] at h1
    have hne : tl a ≠ tl b := fun e => by
      have : a = b := by rw [← mkS_tl a, ← mkS_tl b, e]
      rw [this] at hn; simp at hn
    have h2 : tl a < tl b := lt_of_nlt (by simpa using h1.1) hne
    have ih := asc_of_sorted (b :: r) h1.2 (List.nodup_cons.mp hn).2
    show (decide (tl a < tl b) && asc (tl b :: r.map tl)) = true
    rw [decide_eq_true h2]; exact ih
/-- any list of names in ascending order -/
structure NmL (ls : List T) : Prop where
  len : ls.length ≤ 15
  nm : ls.all isName = true
  as : asc ls = true
def spLNames : Sp := fun vs H Q _ => ∃ (a : Addr) (m : Int), vs = [.ref a, .int m] ∧ Strm H a ∧ 0 ≤ m ∧ m ≤ 15 ∧ ∀ p ls H', NmL ls → But a H H' → Strm H' a → H p = none → H' p = some (.lst (ls.map S)) → Q (.ref p) H'
def pq : T := [97, 98, 99, 100, 101, 102, 103, 104, 105, 106, 107, 108, 109, 110, 111, 112]
theorem pq_ok (i n : Nat) (hi : i < 3) (hn : n < 16) : NmL (((pq.drop i).take n).map fun c => [112, c]) ∨ 15 < (((pq.drop i).take n)).length := by
  have key : ∀ i : Fin 3, ∀ n : Fin 16, ((((pq.drop i.val).take n.val).map fun c => [112, c]).all isName && asc (((pq.drop i.val).take n.val).map fun c => [112, c])) = true := by decide +kernel
  have h := key ⟨i, hi⟩ ⟨n, hn⟩
  rw [Bool.and_eq_true] at h
  by_cases hl : (((pq.drop i).take n)).length ≤ 15
  · exact .inl ⟨by rw [List.length_map]; exact hl, h.1, h.2⟩
  · exact .inr (by omega)
theorem b_lnames {X : Cx} (C : Ctx X N_law_names (defScope s_law_names) 3) (c1 : CalleeX X CX0 3 "_law_next" spNext) (c2 : CalleeX X CX0 3 "_law_name" spLName) (a : Addr) (m : Int) (H : Hp) (hs : Strm H a) (m0 : 0 ≤ m) (m1 : m ≤ 15) (Q : VK)
    (hQ : ∀ p ls H', NmL ls → But a H H' → Strm H' a → H p = none → H' p = some (.lst (ls.map S)) → Q (.ref p) H') :
    B1 X (defBody s_law_names) (start N_law_names [.ref a, .int m]) H (fun _ H' => Q .non H') Q nobk nobk := by
  have hnm := nm_law_names C
  obtain ⟨v0, v1, v2, v3, v4, v5, w0, w1, w2, w3, w4, w5, g1, g2, g3, g4⟩ := hnm
  have main : ∀ H1, But a H H1 → Strm H1 a → B1 X ((defBody s_law_names).drop 1) (start N_law_names [.ref a, .int m]) H1 (fun _ H' => Q .non H') Q nobk nobk := by
    intro H1 b1 s1
    conv => arg 2; whnf
    walk_at "go"
    rename_i p H2 n2
    have n2' : Nw a H p (.lst (([] : List T).map S)) H2 := Nw.pre b1 s1 (Nw.of s1 n2)
    refine s_for_range1 C.toCok (by with_reducible assumption) (C.tx.free 71 rfl) ?_
    walk_at "go"
    refine spNext.mk n2'.s (by omega) (by omega) fun k H3 k0 k1 b3 s3 => ?_
    have n3 := n2'.draw b3 s3
    obtain ⟨n, rfl⟩ := Int.eq_ofNat_of_zero_le k0
    refine ⟨n, rfl, by omega, fun i σ H' => ∃ (ls : List T) (o4 o5 : Option V), σ = [some (.ref a), some (.int m), none, some (.ref p), o4, o5, none] ∧ Nw a H p (.lst (ls.map S)) H' ∧ ls.length ≤ i ∧ ls.all isName = true ∧ ls.Nodup, ⟨[], none, none, rfl, n3, Nat.le_refl _, rfl, List.nodup_nil⟩, ?_, ?_⟩
    · rintro i σ H4 hi ⟨ls, o4, o5, rfl, n4, hl, ha, hd⟩
      walk_at "go"
      refine ⟨n4.s, fun z H5 hz b5 s5 => ?_⟩
      have n5 := n4.draw b5 s5
      walk_at "go"
      refine NotInV.lL (ls := ls) (SqL.of n5.at_) ?_
      refine ⟨_, rfl, Bth.n (fun h => ?_) (fun h => ?_)⟩
      · refine b_one (s_expr (e_append ?_))
        walk_at "go"
        refine ⟨⟨_, n5.at_⟩, ?_⟩
        walk_at "go"
        refine ⟨_, n5.at_, Nat.lt_of_le_of_lt (show _ ≤ 100 by rw [List.length_map]; omega) (by decide), ?_⟩
        refine b_nil ⟨ls ++ [z], _, _, rfl, by rw [List.map_append]; exact n5.up, by simp; omega, by rw [List.all_append, ha]; simp [hz], ?_⟩
        rw [List.nodup_append]
        refine ⟨hd, by simp, fun x hx y hy e => ?_⟩
        rw [List.mem_singleton.mp hy] at e
        subst e
        simp [hx] at h
      · walk_at "go"
        exact ⟨ls, _, _, rfl, n5, by omega, ha, hd⟩
    · rintro σ H4 ⟨ls, o4, o5, rfl, n4, hl, ha, hd⟩
      walk_at "go"
      refine e_sortedS C (by with_reducible assumption) ?_
      walk_at "go"
      refine ⟨p, ls.map mkS, rfl, SqL.of (by rw [strs_S]; exact n4.at_), by simp; omega, fun ys q H5 pm srt n5 => ?_⟩
      have hnd : ys.Nodup := pm.nodup_iff.mpr (List.Pairwise.map mkS (fun x y hxy e => hxy (mkS_inj e)) hd)
      have nq := Nw.pre n4.b n4.s (Nw.of n4.s n5)
      refine hQ q (ys.map tl) H5 ⟨by rw [List.length_map, pm.length_eq, List.length_map]; omega, ?_, asc_of_sorted ys srt hnd⟩ nq.b nq.s nq.f (by rw [← strs_of]; exact nq.at_)
      rw [List.all_eq_true]
      intro z hz
      obtain ⟨y, hy, rfl⟩ := List.mem_map.mp hz
      obtain ⟨x, hx, rfl⟩ := List.mem_map.mp (pm.mem_iff.mp hy)
      exact List.all_eq_true.mp ha x hx
  conv => arg 2; whnf
  walk_at "go"
  refine Bth.d (fun h => ?_) (fun h => ?_)
  · walk_at "go"
    refine spNext.mk hs (by decide) (by decide) fun k1 H1 k10 k11 b1 s1 => ?_
    walk_at "go"
    refine Bth.d (fun h1 => ?_) (fun h1 => ?_)
    · walk_at "go"
      refine spNext.mk s1 (by decide) (by decide) fun k2 H2 k20 k21 b2 s2 => ?_
      walk_at "go"
      refine e_lcS C [(("_law_char" : Str), 6)] (by decide +kernel) ?_
      walk_at "go"
      refine spNext.mk s2 (by decide) (by decide) fun k3 H3 k30 k31 b3 s3 => ?_
      obtain ⟨n2, rfl⟩ := Int.eq_ofNat_of_zero_le k20
      obtain ⟨n3, rfl⟩ := Int.eq_ofNat_of_zero_le k30
      obtain ⟨nm, rfl⟩ := Int.eq_ofNat_of_zero_le m0
      rw [show tl (Str.ofString "abcdefghijklmnop") = pq by decide +kernel]
      walk_at "go"
      refine SlV.sMid n2 (n2 + nm - n3) rfl (by omega) (line16 (by decide)) ?_
      rw [show n2 + nm - n3 - n2 = nm - n3 by omega]
      obtain ⟨zs, hzs⟩ : ∃ zs, (pq.drop n2).take (nm - n3) = zs := ⟨_, rfl⟩
      have hok : NmL (zs.map fun c => [112, c]) := by
        rw [← hzs]
        rcases pq_ok n2 (nm - n3) (by omega) (by omega) with h | h
        · exact h
        · rw [List.length_take] at h; omega
      rw [hzs]
      refine ⟨zs, rfl, fun D H4 n4 => ?_⟩
      have nD : Nw a H D (.lst ([].map S)) H4 := Nw.pre ((b1.trans b2).trans b3) s3 (Nw.of s3 n4)
      refine ⟨fun i H' => Nw a H D (.lst (((zs.map fun c => [112, c]).take i).map S)) H', nD, fun _ _ _ _ => trivial, ?_, ?_⟩
      · rintro i v H' _ hi n ⟨rfl, hv⟩ Xb hX CB
        have hv2 : zs[i]? = some zs[i] := List.getElem?_eq_getElem hi
        rw [List.getElem?_map, hv2] at hv
        cases hv
        refine g_name (blk_W C hX (x := "_law_char") (i := 6) (by decide +kernel)) ⟨rfl, fun Xb hX CB => ?_⟩
        have vp : Slot Xb 6 ("_law_char" : Str) := blk_V C hX (by decide +kernel)
        walk_at "go"
        rw [show tl (Str.ofString "p") = [112] by decide +kernel]
        refine AddV.S (b := [zs[i]]) (line16 (by simp)) ?_
        have hl := hok.len
        rw [List.length_map] at hl
        refine ⟨_, n.at_, Nat.lt_of_le_of_lt (show _ ≤ 100 by rw [List.length_map, List.length_take, List.length_map]; omega) (by decide), ?_⟩
        show Nw a H D (.lst (((zs.map fun c => [112, c]).take (i + 1)).map S)) _
        have e1 : (zs.map fun c => [112, c]).take (i + 1) = (zs.map fun c => [112, c]).take i ++ [[112, zs[i]]] := by
          rw [List.take_add_one, List.getElem?_map, hv2]; rfl
        rw [e1, List.map_append]
        exact n.up
      · intro H' n
        rw [show zs.length = (zs.map fun c => [112, c]).length by simp, List.take_length] at n
        exact hQ D _ H' hok n.b n.s n.f n.at_
    · refine b_nil ?_
      exact main H1 b1 s1
  · refine Bth.f ?_
    refine b_nil ?_
    exact main H (But.refl a H) hs
section
variable {P : Program} {w : World} {K : PySem.W.Frag} {mg : Str → Option Value} {base : Heap}
theorem c_lnames (T : Tx w K mg base) : Callee P w K mg base CX0 4 "_law_names" spLNames := by
  have c1 := (c_next (P := P) T).mono (by decide : 2 ≤ 3)
  have c2 := c_lname (P := P) T
  refine callee_of T 37 35 rfl rfl rfl rfl rfl fs_law_names bd_law_names (fun vs H Q E h => ?_) (fun X h1 h2 h3 h4 h5 C vs H Q E h => ?_)
  · obtain ⟨_, _, rfl, _⟩ := h; rfl
  · subst h1 h2 h3 h4 h5
    obtain ⟨a, m, rfl, hs, m0, m1, q⟩ := h
    exact b_lnames C c1 c2 a m H hs m0 m1 Q q
end
/-! ## LoL10 -/
theorem asc_pw : ∀ {ls : List T}, asc ls = true → ls.Pairwise (· < ·)
  | [], _ => List.Pairwise.nil
  | [a], _ => by simp
  | a :: b :: r, h => by
    have h1 : (decide (a < b) && asc (b :: r)) = true := h
    simp only [Bool.and_eq_true, decide_eq_true_eq] at h1
    have ih := asc_pw h1.2
    refine List.Pairwise.cons (fun z hz => ?_) ih
    rcases List.mem_cons.mp hz with rfl | hz
    · exact h1.1
    · exact List.lt_trans h1.1 ((List.pairwise_cons.mp ih).1 z hz)
theorem pw_asc : ∀ {ls : List T}, ls.Pairwise (· < ·) → asc ls = true
  | [], _ => rfl
  | [a], _ => rfl
  | a :: b :: r, h => by
    obtain ⟨h1, h2⟩ := List.pairwise_cons.mp h
    show (decide (a < b) && asc (b :: r)) = true
    rw [decide_eq_true (h1 b (by simp)), pw_asc h2]; rfl
theorem asc_filter {ls : List T} {p : T → Bool} (h : asc ls = true) : asc (ls.filter p) = true := pw_asc ((asc_pw h).filter p)
theorem But.after {a p : Addr} {H H1 H' : Hp} {o : HO} (b : But a H H1) (n : New H1 p o H') : But a H H' := b.trans (But.of n.same)
def spLBody : Sp := fun vs H Q _ => ∃ (a : Addr) (au : T), vs = [.ref a, S au] ∧ isName au = true ∧ Strm H a ∧ ∀ b v' H', isBody b = true → wfB b = true → (∀ t ms, b = .found t ms → au ∉ ms) → But a H H' → Strm H' a → Tp H' v' (bodyD b) → Q v' H'
theorem e_strR {X : Cx} {σ : L2.St} {H : Hp} {Q : VK} {pos : Pos} {z : Str} {j : Nat} (t : T) (e : tl z = t) (q : Q (S t) H) : E1 X (.Constant (.str z) j pos) σ H Q := e_strS (by rw [e]; exact q)
theorem b_lbody {X : Cx} (C : Ctx X N_law_body (defScope s_law_body) 4) (c1 : CalleeX X CX0 4 "_law_next" spNext) (c2 : CalleeX X CX0 4 "_law_title" spLTitle) (c3 : CalleeX X CX0 4 "_law_names" spLNames) (c4 : CalleeX X CX0 4 "_law_text" spLText) (c5 : CalleeX X CX0 4 "_law_name" spLName) (c6 : CalleeX X CX0 4 "_law_number" spLNumber)
    (a : Addr) (au : T) (hau : isName au = true) (H : Hp) (hs : Strm H a) (Q : VK)
    (hQ : ∀ b v' H', isBody b = true → wfB b = true → (∀ t ms, b = .found t ms → au ∉ ms) → But a H H' → Strm H' a → Tp H' v' (bodyD b) → Q v' H') :
    B1 X (defBody s_law_body) (start N_law_body [.ref a, S au]) H (fun _ H' => Q .non H') Q nobk nobk := by
  have hnm := nm_law_body C
  obtain ⟨v0, v1, v2, v3, v4, v5, w0, w1, w2, w3, w4, w5, g1, g2, g3, g4, g5, g6, g7⟩ := hnm
  conv => arg 2; whnf
  walk_at "go"
  refine spNext.mk hs (by decide) (by decide) fun k H1 k0 k1 b1 s1 => ?_
  walk_at "go"
  refine Bth.d (fun h => ?_) (fun h => ?_)
  · walk_at "go"
    rename_i t H2
    intro ht b2 s2
    walk_at "go"
    refine e_lcLT C [(("_law_name_here" : Str), 4)] (by decide +kernel) ?_
    walk_at "go"
    refine ⟨a, 15, rfl, s2, by decide, by decide, fun p ls H3 hls b3 s3 hp0 hp => ?_⟩
    refine ⟨p, ls.map S, rfl, SqL.of hp, fun D H4 n4 => ?_⟩
    refine ⟨fun i H' => New1 H3 D (.lst (((ls.take i).filter (fun z => decide (z ≠ au))).map S)) H', New1.of n4, fun i H' _ n => SqL.of (n.same _ _ hp), ?_, ?_⟩
    · rintro i v H' _ hi n ⟨rfl, hv⟩ Xb hX CB
      rw [List.length_map] at hi
      have hv2 : ls[i]? = some ls[i] := List.getElem?_eq_getElem hi
      rw [List.getElem?_map, hv2] at hv
      cases hv
      have et : ls.take (i + 1) = ls.take i ++ [ls[i]] := by rw [List.take_add_one, hv2]; rfl
      refine g_name (blk_W C hX (x := "_law_name_here") (i := 4) (by decide +kernel)) ⟨rfl, fun Xb hX CB => ?_⟩
      have vp : Slot Xb 4 ("_law_name_here" : Str) := blk_V C hX (by decide +kernel)
      have vq : Slot Xb 1 ("_law_author" : Str) := blk_V C hX (by decide +kernel)
      walk_at "go"
      refine Bth.dn (fun h => ?_) (fun h => ?_)
      · intro Xb hX CB
        have vp : Slot Xb 4 ("_law_name_here" : Str) := blk_V C hX (by decide +kernel)
        walk_at "go"
        have hl := hls.len
        have hfl : ((ls.take i).filter (fun z => decide (z ≠ au))).length ≤ 15 := Nat.le_trans (List.length_filter_le _ _) (by rw [List.length_take]; omega)
        refine ⟨_, n.at_, Nat.lt_of_le_of_lt (show _ ≤ 100 by rw [List.length_map]; omega) (by decide), ?_⟩
        show New1 H3 D (.lst (((ls.take (i + 1)).filter (fun z => decide (z ≠ au))).map S)) _
        have e1 : (ls.take (i + 1)).filter (fun z => decide (z ≠ au)) = (ls.take i).filter (fun z => decide (z ≠ au)) ++ [ls[i]] := by
          rw [et, List.filter_append]; simp [h]
        rw [e1, List.map_append]
        exact n.up
      · have e1 : (ls.take (i + 1)).filter (fun z => decide (z ≠ au)) = (ls.take i).filter (fun z => decide (z ≠ au)) := by
          rw [et, List.filter_append]; simp [h]
        show New1 H3 D (.lst (((ls.take (i + 1)).filter (fun z => decide (z ≠ au))).map S)) _
        rw [e1]; exact n
    · intro H' n
      rw [List.length_map, List.take_length] at n
      refine ⟨D, _, rfl, SqL.of n.at_, fun q H5 n5 => ?_⟩
      walk_at "go"
      rename_i r H6 n6
      have hl := hls.len
      have hfl : (ls.filter (fun z => decide (z ≠ au))).length ≤ 15 := Nat.le_trans (List.length_filter_le _ _) hl
      refine hQ (.found t (ls.filter fun z => decide (z ≠ au))) _ H6 ?_ rfl ?_ ((((b1.trans b2).trans b3).trans (But.of n.same)).trans ((But.of n5.same).trans (But.of n6.same))) ((s3.same n.same).same (n5.same.trans n6.same)) ?_
      · have hm : isMembers (ls.filter fun z => decide (z ≠ au)) = true := by
          unfold isMembers
          rw [decide_eq_true hfl, asc_filter hls.as, Bool.true_and, Bool.and_true, List.all_eq_true]
          exact fun z hz => List.all_eq_true.mp hls.nm z (List.mem_filter.mp hz).1
        show (isTitle t && isMembers _) = true
        rw [ht, hm]; rfl
      · rintro t' ms e
        injection e with e1 e2
        subst e2
        intro m
        have := (List.mem_filter.mp m).2
        simp at this
      · exact .tup n6.at_ (.cons (.str _) (.cons (.str _) (.cons (.tup (n6.same _ _ n5.at_) (TpAll.of_strs _)) .nil)))
  walk_at "go"
  refine Bth.d (fun h => ?_) (fun h => ?_)
  · walk_at "go"
    rename_i t H2
    intro ht b2 s2
    walk_at "go"
    rename_i r H3 n3
    exact hQ (.say (some t)) _ H3 ht rfl (by rintro _ _ e; cases e) ((b1.trans b2).after n3) (s2.same n3.same) (.tup n3.at_ (.cons (.str _) (.cons (.str _) .nil)))
  walk_at "go"
  refine Bth.d (fun h => ?_) (fun h => ?_)
  · walk_at "go"
    rename_i t H2
    intro ht b2 s2
    walk_at "go"
    rename_i r H3 n3
    exact hQ (.title t) _ H3 ht rfl (by rintro _ _ e; cases e) ((b1.trans b2).after n3) (s2.same n3.same) (.tup n3.at_ (.cons (.str _) (.cons (.str _) .nil)))
  walk_at "go"
  refine Bth.d (fun h => ?_) (fun h => ?_)
  · walk_at "go"
    rename_i r H3 n3
    exact hQ .seen _ H3 rfl rfl (by rintro _ _ e; cases e) (b1.after n3) (s1.same n3.same) (.tup n3.at_ (.cons (.str _) .nil))
  walk_at "go"
  rename_i z H2
  intro hz b2 s2
  walk_at "go"
  refine Bth.d (fun h => ?_) (fun h => ?_)
  · walk_at "go"
    rename_i r H3 n3
    obtain ⟨kk, hk, hk2⟩ : ∃ kk : Nat, kk ≤ 2 ∧ atI [S (tl (Str.ofString "add")), S (tl (Str.ofString "cut")), S (tl (Str.ofString "hand"))] (k - 7) = some (S (actK kk)) := by
      have hk : k = 7 ∨ k = 8 ∨ k = 9 := by omega
      rcases hk with rfl | rfl | rfl
      · exact ⟨0, by decide, by decide +kernel⟩
      · exact ⟨1, by decide, by decide +kernel⟩
      · exact ⟨2, by decide, by decide +kernel⟩
    refine IxV.t (SqT.of n3.at_) hk2 ?_
    walk_at "go"
    rename_i r2 H4 n4
    exact hQ (.act kk z) _ H4 hz (decide_eq_true hk) (by rintro _ _ e; cases e) (((b1.trans b2).after n3).after n4) ((s2.same n3.same).same n4.same) (.tup n4.at_ (.cons (.str _) (.cons (.str _) .nil)))
  walk_at "go"
  rename_i z2 H3
  intro hz2 b3 s3
  walk_at "go"
  rename_i num H4
  intro hn0 hn1 b4 s4
  walk_at "go"
  rename_i rr H5 n5
  have hr : isRef (z2, num) = true := by unfold isRef isNum; rw [hz2, decide_eq_true hn0, decide_eq_true hn1]; rfl
  have s5 := s4.same n5.same
  have b5 : But a H H5 := (((b1.trans b2).trans b3).trans b4).after n5
  have tR : Tp H5 (.ref rr) (refD (z2, num)) := .tup n5.at_ (.cons (.str _) (.cons (.int _) .nil))
  refine Bth.d (fun h => ?_) (fun h => ?_)
  · walk_at "go"
    rename_i r H6 n6
    exact hQ (.recall (z2, num)) _ H6 hr rfl (by rintro _ _ e; cases e) (b5.after n6) (s5.same n6.same) (.tup n6.at_ (.cons (.str _) (.cons (tR.mono n6.keep) .nil)))
  walk_at "go"
  refine Bth.d (fun h => ?_) (fun h => ?_)
  · walk_at "go"
    rename_i r H6 n6
    refine hQ (.mark (z2, num) z) _ H6 ?_ rfl (by rintro _ _ e; cases e) (b5.after n6) (s5.same n6.same) (.tup n6.at_ (.cons (.str _) (.cons (tR.mono n6.keep) (.cons (.str _) .nil))))
    show (isRef (z2, num) && isName z) = true
    rw [hr, hz]; rfl
  walk_at "go"
  rename_i r H6 n6
  obtain ⟨e, he⟩ : ∃ e : Bool, atI [S (tl (Str.ofString "reply")), S (tl (Str.ofString "edit"))] (k - 2) = some (S (LO.kindOf (.reply e (z2, num) none))) := by
    have hk : k = 2 ∨ k = 3 := by omega
    rcases hk with rfl | rfl
    · exact ⟨false, by show _ = some (S kReply); decide +kernel⟩
    · exact ⟨true, by show _ = some (S kEdit); decide +kernel⟩
  refine IxV.t (SqT.of n6.at_) he ?_
  walk_at "go"
  refine ⟨s5.same n6.same, fun t H7 ht b7 s7 => ?_⟩
  walk_at "go"
  rename_i r2 H8 n8
  refine hQ (.reply e (z2, num) (some t)) _ H8 ?_ rfl (by rintro _ _ e; cases e) (((b5.after n6).trans b7).after n8) (s7.same n8.same) (.tup n8.at_ (.cons ?_ (.cons (((tR.mono n6.keep).mono (b7.keep (s5.same n6.same))).mono n8.keep) (.cons (.str _) .nil))))
  · show (isRef (z2, num) && isText (some t)) = true
    rw [hr, ht]; rfl
  · cases e <;> exact .str _
section
variable {P : Program} {w : World} {K : PySem.W.Frag} {mg : Str → Option Value} {base : Heap}
theorem c_lbody (T : Tx w K mg base) : Callee P w K mg base CX0 5 "_law_body" spLBody := by
  have c1 := (c_next (P := P) T).mono (by decide : 2 ≤ 4)
  have c2 := c_ltitle (P := P) T
  have c3 := c_lnames (P := P) T
  have c4 := c_ltext (P := P) T
  have c5 := (c_lname (P := P) T).mono (by decide : 3 ≤ 4)
  have c6 := (c_lnumber (P := P) T).mono (by decide : 3 ≤ 4)
  refine callee_of T 41 39 rfl rfl rfl rfl rfl fs_law_body bd_law_body (fun vs H Q E h => ?_) (fun X h1 h2 h3 h4 h5 C vs H Q E h => ?_)
  · obtain ⟨_, _, rfl, _⟩ := h; rfl
  · subst h1 h2 h3 h4 h5
    obtain ⟨a, au, rfl, hau, hs, q⟩ := h
    exact b_lbody C c1 c2 c3 c4 c5 c6 a au hau H hs Q q
end
/-! ## LoL11 -/
theorem e_dict1 {X : Cx} {σ : L2.St} {H : Hp} {Q : VK} {pos : Pos} {ke ve : Expr} (h : ∀ p H1, New H p (.dK []) H1 → E1 X ke σ H1 fun x H2 => E1 X ve σ H2 fun y H3 => ∃ z, x = S z ∧ H3 p = some (.dK []) ∧ Q (.ref p) (upd H3 p (.dK [(.inr (mkS z), y)]))) : E1 X (.Dict [some ke] [ve] pos) σ H Q := by
  refine E1.of (pe_disp (pps_cons pE pE pps_nil) rfl rfl (by simp) (by simp)) fun p hp => E1.imp (h p _ (New.of hp)) fun x H2 h2 => E1.imp h2 fun y H3 ⟨z, e, hd, q⟩ => ⟨hd, [(.inr (mkS z), y)], by rw [e]; rfl, by simp, q⟩
def kvP (ps : List Rf) : List (Key × V) := ps.map fun p => (.inr (mkS p.1), .int p.2)
structure CP (au : T) (num : Int) (ps : List Rf) : Prop where
  nd : (ps.map (·.1)).Nodup
  rf : ∀ p ∈ ps, isRef p = true
  me : (au, num) ∈ ps
theorem kvP_any (ps : List Rf) (z : T) : ((kvP ps).any fun kv => decide (kv.1 = .inr (mkS z))) = decide (z ∈ ps.map (·.1)) := by
  induction ps with
  | nil => rfl
  | cons p r ih =>
    unfold kvP at ih ⊢
    rw [List.map_cons, List.any_cons, ih]
    by_cases e : p.1 = z
    · subst e; simp
    · have e1 : ¬ (Sum.inr (mkS p.1) : Key) = .inr (mkS z) := fun h => e (mkS_inj (Sum.inr.inj h))
      have e2 : ¬ z = p.1 := fun h => e h.symm
      simp [e1, e2]
theorem CP.put {au z : T} {num n : Int} {ps : List Rf} (h : CP au num ps) (hz : isName z = true) (hn : isNum n = true) (hne : z ≠ au) : ∃ ps', putK (kvP ps) (.inr (mkS z)) (.int n) = kvP ps' ∧ CP au num ps' ∧ ps'.length ≤ ps.length + 1 := by
  have hr : isRef (z, n) = true := by unfold isRef; rw [hz, hn]; rfl
  unfold putK
  rw [kvP_any]
  by_cases hm : z ∈ ps.map (·.1)
  · rw [decide_eq_true hm, if_pos rfl]
    refine ⟨ps.map fun p => if p.1 = z then (p.1, n) else p, ?_, ⟨?_, ?_, ?_⟩, by simp⟩
    · unfold kvP
      rw [List.map_map, List.map_map]
      refine List.map_congr_left fun p _ => ?_
      show (if (Sum.inr (mkS p.1) : Key) = .inr (mkS z) then _ else _) = (_ : Key × V)
      by_cases e : p.1 = z
      · rw [if_pos (by rw [e])]; simp [e]
      · rw [if_neg (fun h => e (mkS_inj (Sum.inr.inj h)))]; simp [e]
    · rw [List.map_map]
      have : (ps.map ((fun p : Rf => p.1) ∘ fun p => if p.1 = z then (p.1, n) else p)) = ps.map (·.1) := List.map_congr_left fun p _ => by
        show (if p.1 = z then (p.1, n) else p).1 = p.1
        by_cases e : p.1 = z <;> simp [e]
      rw [this]; exact h.nd
    · intro p hp
      obtain ⟨q, hq, rfl⟩ := List.mem_map.mp hp
      by_cases e : q.1 = z
      · simp only [e, if_true]; exact hr
      · rw [if_neg e]; exact h.rf q hq
    · refine List.mem_map.mpr ⟨(au, num), h.me, ?_⟩
      rw [if_neg (fun e => hne e.symm)]
  · rw [decide_eq_false hm, if_neg (by simp)]
    refine ⟨ps ++ [(z, n)], by unfold kvP; rw [List.map_append]; rfl, ⟨?_, ?_, List.mem_append_left _ h.me⟩, by simp⟩
    · rw [List.map_append, List.nodup_append]
      refine ⟨h.nd, by simp, fun x hx y hy e => ?_⟩
      rw [List.map_cons, List.map_nil, List.mem_singleton] at hy
      rw [e, hy] at hx; exact hm hx
    · intro p hp
      rcases List.mem_append.mp hp with hp | hp
      · exact h.rf p hp
      · rw [List.mem_singleton.mp hp]; exact hr
theorem kvP_keys (ps : List Rf) : (kvP ps).map (·.1) = ((ps.map (·.1)).map mkS).map Sum.inr := by unfold kvP; rw [List.map_map, List.map_map, List.map_map]; rfl
theorem kvP_val {au : T} {num : Int} {ps : List Rf} (h : CP au num ps) {r : Rf} (hr : r ∈ ps) : valV (kvP ps) (.inr (mkS r.1)) = some (.int r.2) := by
  have hn : ((kvP ps).map (·.1)).Nodup := by
    rw [kvP_keys, List.map_map]
    exact List.Pairwise.map _ (fun x y hxy e => hxy (mkS_inj (Sum.inr.inj e))) h.nd
  exact val_nodup hn (.inr (mkS r.1), .int r.2) (List.mem_map.mpr ⟨r, hr, rfl⟩)
theorem look_all {ps : List Rf} : ∀ ys : List T, (∀ y ∈ ys, y ∈ ps.map (·.1)) → ∃ rs : List Rf, rs.map (·.1) = ys ∧ ∀ r ∈ rs, r ∈ ps
  | [], _ => ⟨[], rfl, by simp⟩
  | y :: ys, h => by
    obtain ⟨rs, h1, h2⟩ := look_all ys fun z hz => h z (List.mem_cons_of_mem _ hz)
    obtain ⟨r, hr, e⟩ := List.mem_map.mp (h y (by simp))
    refine ⟨r :: rs, by rw [List.map_cons, h1, e], fun q hq => ?_⟩
    rcases List.mem_cons.mp hq with rfl | hq
    · exact hr
    · exact h2 q hq
theorem nd_key {ps : List Rf} (h : (ps.map (·.1)).Nodup) {r s : Rf} (hr : r ∈ ps) (hs : s ∈ ps) (e : r.1 = s.1) : r = s := by
  induction ps with
  | nil => cases hr
  | cons p q ih =>
    rw [List.map_cons, List.nodup_cons] at h
    rcases List.mem_cons.mp hr with h1 | h1 <;> rcases List.mem_cons.mp hs with h2 | h2
    · rw [h1, h2]
    · exact absurd (List.mem_map.mpr ⟨s, h2, by rw [← e, h1]⟩) h.1
    · exact absurd (List.mem_map.mpr ⟨r, h1, by rw [e, h2]⟩) h.1
    · exact ih h.2 h1 h2
theorem CP.sorted {au : T} {num : Int} {ps : List Rf} (h : CP au num ps) {ys : List Str} (pm : ys.Perm ((ps.map (·.1)).map mkS)) (srt : sortedS ys = true) :
    ∃ rs : List Rf, rs.map (·.1) = ys.map tl ∧ (∀ r ∈ rs, r ∈ ps) ∧ isSeen rs = true ∧ rs.contains (au, num) = true ∧ rs.length = ps.length := by
  have hmem : ∀ y ∈ ys.map tl, y ∈ ps.map (·.1) := by
    intro y hy
    obtain ⟨z, hz, rfl⟩ := List.mem_map.mp hy
    obtain ⟨q, hq, rfl⟩ := List.mem_map.mp (pm.mem_iff.mp hz)
    exact hq
  obtain ⟨rs, h1, h2⟩ := look_all (ys.map tl) hmem
  have hnd : ys.Nodup := pm.nodup_iff.mpr (List.Pairwise.map mkS (fun x y hxy e => hxy (mkS_inj e)) h.nd)
  refine ⟨rs, h1, h2, ?_, ?_, ?_⟩
  · unfold isSeen
    rw [h1, asc_of_sorted ys srt hnd, Bool.and_true, List.all_eq_true]
    exact fun r hr => h.rf r (h2 r hr)
  · rw [List.contains_iff_mem]
    have hau : au ∈ rs.map (·.1) := by
      rw [h1]
      refine List.mem_map.mpr ⟨mkS au, pm.mem_iff.mpr (List.mem_map.mpr ⟨au, List.mem_map.mpr ⟨_, h.me, rfl⟩, rfl⟩), rfl⟩
    obtain ⟨r, hr, e⟩ := List.mem_map.mp hau
    rw [← nd_key h.nd (h2 r hr) h.me e]; exact hr
  · have a1 := congrArg List.length h1
    have a2 := pm.length_eq
    simp only [List.length_map] at a1 a2
    omega
def spLSeen : Sp := fun vs H Q _ => ∃ (a : Addr) (au : T) (num : Int), vs = [.ref a, S au, .int num] ∧ isRef (au, num) = true ∧ Strm H a ∧ ∀ rs v' H', isSeen rs = true → rs.contains (au, num) = true → rs.length ≤ 48 → But a H H' → Strm H' a → Tp H' v' (.tuple (rs.map refD)) → Q v' H'
theorem qn_ok {i : Nat} (h : i < 31) : isName ([113] ++ numI (10 + (i : Int))) = true := by
  have key : ∀ i : Fin 31, isName ([113] ++ numI (10 + (i.val : Int))) = true := by decide +kernel
  exact key ⟨i, h⟩
theorem b_lseen {X : Cx} (C : Ctx X N_law_seen (defScope s_law_seen) 4) (c1 : CalleeX X CX0 4 "_law_next" spNext) (c3 : CalleeX X CX0 4 "_law_names" spLNames) (c6 : CalleeX X CX0 4 "_law_number" spLNumber)
    (a : Addr) (au : T) (num : Int) (hr : isRef (au, num) = true) (H : Hp) (hs : Strm H a) (Q : VK)
    (hQ : ∀ rs v' H', isSeen rs = true → rs.contains (au, num) = true → rs.length ≤ 48 → But a H H' → Strm H' a → Tp H' v' (.tuple (rs.map refD)) → Q v' H') :
    B1 X (defBody s_law_seen) (start N_law_seen [.ref a, S au, .int num]) H (fun _ H' => Q .non H') Q nobk nobk := by
  have hnm := nm_law_seen C
  obtain ⟨v0, v1, v2, v3, v4, v5, w0, w1, w2, w3, w4, w5, g1, g2, g3, g4, g5, g6, g7⟩ := hnm
  have fin : ∀ (σ : L2.St) (H' : Hp) (d : Addr) (ps : List Rf), σ[0]? = some (some (.ref a)) → σ[3]? = some (some (.ref d)) → σ.length = 6 → Nw a H d (.dK (kvP ps)) H' → CP au num ps → ps.length ≤ 47 → B1 X ((defBody s_law_seen).drop 3) σ H' (fun _ H' => Q .non H') Q nobk nobk := by
    intro σ H1 d ps e0 e3 el n1 hc hl
    conv => arg 2; whnf
    walk_at "go"
    refine e_lcL C [(("_law_name_here" : Str), 4)] (by decide +kernel) ?_
    refine e_sortedD C (by with_reducible assumption) ?_
    refine e_var v3 e3 ?_
    refine ⟨d, kvP ps, (ps.map (·.1)).map mkS, rfl, n1.at_, kvP_keys ps, by simp; omega, fun ys p H2 pm srt n2 => ?_⟩
    obtain ⟨rs, r1, r2, r3, r4, r5⟩ := hc.sorted pm srt
    refine ⟨p, ys.map V.str, rfl, SqL.of n2.at_, fun D H3 n3 => ?_⟩
    have hyl : ys.length = rs.length := by have := congrArg List.length r1; simpa using this.symm
    have hd3 : H3 d = some (.dK (kvP ps)) := n3.same _ _ (n2.same _ _ n1.at_)
    refine ⟨fun i H' => ∃ acc, New1 H2 D (.lst acc) H' ∧ TpAll H' acc ((rs.take i).map refD) ∧ acc.length ≤ i, ⟨[], New1.of n3, .nil, by simp⟩, fun i H' _ ⟨_, n, _⟩ => SqL.of (n.same _ _ n2.at_), ?_, ?_⟩
    · rintro i v H' _ hi ⟨acc, na, ta, hacc⟩ ⟨rfl, hv⟩ Xb hX CB
      rw [List.length_map] at hi
      have hri : rs[i]? = some rs[i] := List.getElem?_eq_getElem (by omega)
      have hvi : v = S rs[i].1 := by
        have e1 : (rs.map (·.1))[i]? = some rs[i].1 := by rw [List.getElem?_map, hri]; rfl
        rw [r1, List.getElem?_map] at e1
        rw [List.getElem?_map] at hv
        cases e2 : ys[i]? with
        | none => rw [e2] at hv; cases hv
        | some y =>
          rw [e2] at hv e1
          rw [← Option.some.inj hv, ← Option.some.inj e1]
      subst hvi
      have hlen4 : (wipe σ [4]).length = 6 := by rw [← el]; simp [wipe]
      refine g_name (blk_W C hX (x := "_law_name_here") (i := 4) (by decide +kernel)) ⟨by simp [wipe], fun Xb hX CB => ?_⟩
      have vp : Slot Xb 4 ("_law_name_here" : Str) := blk_V C hX (by decide +kernel)
      have vc : Slot Xb 3 ("_law_counts" : Str) := blk_V C hX (by decide +kernel)
      have s4 : ((wipe σ [(4 : Nat)]).set 4 (some (S rs[i].1)))[4]? = some (some (S rs[i].1)) := by rw [List.getElem?_set_self (by omega)]
      have s3 : ((wipe σ [(4 : Nat)]).set 4 (some (S rs[i].1)))[3]? = some (some (.ref d)) := by simp [wipe, e3]
      refine e_tup (a_cons (e_var vp s4 (a_cons (e_dix CB (e_var vc s3 (e_var vp s4 ?_))))))
      refine ⟨d, kvP ps, rs[i].1, .int rs[i].2, rfl, rfl, na.same _ _ (n2.same _ _ n1.at_), kvP_val hc (r2 _ (List.getElem_mem _)), ?_⟩
      refine a_nil ⟨line16 (by simp), fun q H5 n5 => ?_⟩
      have na5 := na.post n5.same
      refine ⟨acc, na5.at_, Nat.lt_of_le_of_lt (show acc.length ≤ 15000000 by omega) (by decide), acc ++ [.ref q], na5.up, ?_, by simp; omega⟩
      have e1 : (rs.take (i + 1)).map refD = (rs.take i).map refD ++ [refD rs[i]] := by
        rw [List.take_add_one, hri, List.map_append]; rfl
      rw [e1]
      have kp : Keep H5 (upd H5 D (.lst (acc ++ [.ref q]))) := Keep.lst na5.at_
      exact TpAll.snoc ((ta.mono (Keep.of n5.same)).mono kp) ((Tp.ref_of n5.at_).mono kp)
    · rintro H5 ⟨acc, na, ta, hacc⟩
      rw [List.length_map, hyl, List.take_length] at ta
      refine ⟨D, acc, rfl, SqL.of na.at_, fun q H6 n6 => ?_⟩
      have sm : Same H1 H6 := n2.same.trans (na.same.trans n6.same)
      exact hQ rs _ H6 r3 r4 (by omega) (n1.b.trans (But.of sm)) (n1.s.same sm) (.tup n6.at_ (ta.mono (Keep.of n6.same)))
  conv => arg 2; whnf
  refine b_cons ?_
  refine s_set (by with_reducible assumption) ?_
  refine e_dict1 fun d H1 n1 => ?_
  walk_at "go"
  refine ⟨n1.at_, ?_⟩
  have n1' : Nw a H d (.dK (kvP [(au, num)])) (upd H1 d (.dK [(.inr (mkS au), .int num)])) := (Nw.of hs n1).up
  obtain ⟨H2, hH2⟩ : ∃ H2, upd H1 d (.dK [(.inr (mkS au), .int num)]) = H2 := ⟨_, rfl⟩
  rw [hH2] at n1' ⊢
  have hc0 : CP au num [(au, num)] := ⟨by simp, fun p hp => by rw [List.mem_singleton.mp hp]; exact hr, by simp⟩
  walk_at "go"
  refine s_for_list C.toCok ?_
  walk_at "go"
  rename_i q H3 n3
  have n13 := n1'.same n3.same
  refine spNext.mk n13.s (by decide) (by decide) fun k H4 k0 k1 b4 s4 => ?_
  have n14 := n13.draw b4 s4
  have hq4 := b4.k _ _ (n1'.s.ne n3) n3.at_
  obtain ⟨m, hm0, hm1, hm2⟩ : ∃ m : Int, 0 ≤ m ∧ m ≤ 15 ∧ atI [V.int 0, V.int 2, V.int 5, V.int 15] k = some (.int m) := by
    have hk : k = 0 ∨ k = 1 ∨ k = 2 ∨ k = 3 := by omega
    rcases hk with rfl | rfl | rfl | rfl
    · exact ⟨0, by decide, by decide, rfl⟩
    · exact ⟨2, by decide, by decide, rfl⟩
    · exact ⟨5, by decide, by decide, rfl⟩
    · exact ⟨15, by decide, by decide, rfl⟩
  refine IxV.t (SqT.of hq4) hm2 ?_
  walk_at "go"
  refine ⟨a, m, rfl, s4, hm0, hm1, fun p ls H5 hls b5 s5 hp0 hp => ?_⟩
  have n15 := n14.draw b5 s5
  have hpd : p ≠ d := by intro e; rw [e, n14.at_] at hp0; cases hp0
  have hpa : p ≠ a := by
    intro e; rw [e] at hp0; obtain ⟨_, _, e2, _⟩ := s4; rw [e2] at hp0; cases hp0
  have hll := hls.len
  refine ⟨p, ls.map S, rfl, SqL.of hp, fun i σ H' => ∃ (ps : List Rf) (o4 : Option V), σ = [some (.ref a), some (S au), some (.int num), some (.ref d), o4, none] ∧ Nw a H d (.dK (kvP ps)) H' ∧ H' p = some (.lst (ls.map S)) ∧ CP au num ps ∧ ps.length ≤ i + 1,
    ⟨_, none, rfl, n15, hp, hc0, by simp⟩, fun i σ H' _ ⟨_, _, _, _, h, _⟩ => SqL.of h, ?_, ?_⟩
  · rintro i v σ H6 hi ⟨ps, o4, rfl, n6, hp6, hc6, hl6⟩
    obtain ⟨z, hz, rfl⟩ : ∃ z, ls[i]? = some z ∧ S z = v := by
      rw [List.getElem?_map] at hi
      cases e : ls[i]? with
      | none => rw [e] at hi; cases hi
      | some z => rw [e] at hi; exact ⟨z, rfl, Option.some.inj hi⟩
    have hzm := List.mem_of_getElem? hz
    have hi15 : i < ls.length := (List.getElem?_eq_some_iff.mp hz).1
    walk_at "go"
    refine Bth.dn (fun h => ?_) (fun h => ?_)
    · refine b_one (s_dput C ?_)
      walk_at "go"
      refine ⟨n6.s, fun n H7 hn0 hn1 b7 s7 => ?_⟩
      have n7 := n6.draw b7 s7
      walk_at "go"
      obtain ⟨ps', e1, hc', hl'⟩ := hc6.put (List.all_eq_true.mp hls.nm z hzm) (n := n) (by unfold isNum; rw [decide_eq_true hn0, decide_eq_true hn1]; rfl) (fun e => h (by rw [e]))
      refine ⟨d, kvP ps, z, rfl, rfl, n7.at_, Nat.lt_of_le_of_lt (show _ ≤ 100 by unfold kvP; rw [List.length_map]; omega) (by decide), ?_⟩
      rw [e1]
      exact b_nil ⟨ps', _, rfl, n7.up, by rw [upd_ne hpd]; exact b7.k _ _ hpa hp6, hc', by omega⟩
    · walk_at "go"
      exact ⟨ps, _, rfl, n6, hp6, hc6, by omega⟩
  · rintro σ H6 ⟨ps, o4, rfl, n6, hp6, hc6, hl6⟩
    rw [List.length_map] at hl6
    walk_at "go"
    refine spNext.mk n6.s (by decide) (by decide) fun k2 H7 k20 k21 b7 s7 => ?_
    have n7 := n6.draw b7 s7
    walk_at "go"
    refine Bth.d (fun h => ?_) (fun h => ?_)
    · walk_at "go"
      refine s_for_range2 C.toCok (by with_reducible assumption) (C.tx.free 71 rfl) ?_
      walk_at "go"
      refine spNext.mk s7 (by decide) (by decide) fun k3 H8 k30 k31 b8 s8 => ?_
      have n8 := n7.draw b8 s8
      walk_at "go"
      refine ⟨⟨by decide, by decide, by omega, by omega⟩, fun i σ H' => ∃ (ps : List Rf) (o4 o5 : Option V), σ = [some (.ref a), some (S au), some (.int num), some (.ref d), o4, o5] ∧ Nw a H d (.dK (kvP ps)) H' ∧ CP au num ps ∧ ps.length ≤ i + 16, ⟨ps, _, _, rfl, n8, hc6, by omega⟩, ?_, ?_⟩
      · rintro i σ H9 hi ⟨ps, o4, o5, rfl, n9, hc9, hl9⟩
        have hi31 : i < 31 := by omega
        walk_at "go"
        refine ⟨log2_lt (by omega) (by omega), ?_⟩
        rw [numI_S (by omega), show tl (Str.ofString "q") = [113] by decide +kernel]
        have hqn := qn_ok hi31
        refine AddV.S (line16 (by have := name_len hqn; rw [List.length_append] at this; omega)) ?_
        walk_at "go"
        refine Bth.dn (fun h => ?_) (fun h => ?_)
        · refine b_one (s_dput C ?_)
          walk_at "go"
          refine ⟨n9.s, fun n H10 hn0 hn1 b10 s10 => ?_⟩
          have n10 := n9.draw b10 s10
          walk_at "go"
          refine ⟨log2_lt (by omega) (by omega), ?_⟩
          rw [numI_S (by omega), show tl (Str.ofString "q") = [113] by decide +kernel]
          refine AddV.S (line16 (by have := name_len hqn; rw [List.length_append] at this; omega)) ?_
          obtain ⟨ps', e1, hc', hl'⟩ := hc9.put hqn (n := n) (by unfold isNum; rw [decide_eq_true hn0, decide_eq_true hn1]; rfl) (fun e => h (by rw [e]))
          refine ⟨d, kvP ps, _, rfl, rfl, n10.at_, Nat.lt_of_le_of_lt (show _ ≤ 100 by unfold kvP; rw [List.length_map]; omega) (by decide), ?_⟩
          rw [e1]
          exact b_nil ⟨ps', _, _, rfl, n10.up, hc', by omega⟩
        · walk_at "go"
          exact ⟨ps, _, _, rfl, n9, hc9, by omega⟩
      · rintro σ H9 ⟨ps, o4, o5, rfl, n9, hc9, hl9⟩
        exact b_nil (fin _ H9 d ps rfl rfl rfl n9 hc9 (by omega))
    · exact b_nil (fin _ H7 d ps rfl rfl rfl n7 hc6 (by omega))
section
variable {P : Program} {w : World} {K : PySem.W.Frag} {mg : Str → Option Value} {base : Heap}
theorem c_lseen (T : Tx w K mg base) : Callee P w K mg base CX0 5 "_law_seen" spLSeen := by
  have c1 := (c_next (P := P) T).mono (by decide : 2 ≤ 4)
  have c3 := c_lnames (P := P) T
  have c6 := (c_lnumber (P := P) T).mono (by decide : 3 ≤ 4)
  refine callee_of T 42 40 rfl rfl rfl rfl rfl fs_law_seen bd_law_seen (fun vs H Q E h => ?_) (fun X h1 h2 h3 h4 h5 C vs H Q E h => ?_)
  · obtain ⟨_, _, _, rfl, _⟩ := h; rfl
  · subst h1 h2 h3 h4 h5
    obtain ⟨a, au, num, rfl, hr, hs, q⟩ := h
    exact b_lseen C c1 c3 c6 a au num hr H hs Q q
end
/-! ## LoL12 -/
def spLValue : Sp := fun vs H Q _ => ∃ (a : Addr), vs = [.ref a] ∧ Strm H a ∧ ∀ x v' H', isLetter x = true → wfB x.body = true → x.seen.length ≤ 48 → But a H H' → Strm H' a → Tp H' v' (lvD x) → Q v' H'
theorem lv_found {au : T} {t : T} {ms : List T} (h1 : isName au = true) (h2 : isBody (.found t ms) = true) (h3 : au ∉ ms) : isLetter ⟨au, 1, 1, [(au, 1)], .found t ms⟩ = true := by
  unfold isLetter
  have e1 : isNum 1 = true := by decide
  have e2 : isSeen [(au, 1)] = true := by unfold isSeen isRef; simp [h1, e1, asc]
  have e3 : ms.contains au = false := by
    cases e : ms.contains au with
    | false => rfl
    | true => exact absurd (List.contains_iff_mem.mp e) h3
  dsimp only
  rw [h1, e1, e2, h2, e3]
  simp
theorem lv_other {au : T} {num st : Int} {rs : List Rf} {b : Body} (h1 : isName au = true) (h2 : isNum num = true) (h3 : isNum st = true) (h4 : isSeen rs = true) (h5 : isBody b = true) (h6 : rs.contains (au, num) = true) (h7 : num ≤ st) (h8 : 1 < st) (h9 : ∀ t ms, b ≠ .found t ms) : isLetter ⟨au, num, st, rs, b⟩ = true := by
  unfold isLetter
  dsimp only
  rw [h1, h2, h3, h4, h5, h6, decide_eq_true h7]
  cases b with
  | found t ms => exact absurd rfl (h9 t ms)
  | _ => simp [h8]
theorem kind_found {b : Body} (hb : isBody b = true) (h : LO.kindOf b = kFound) : ∃ t ms, b = .found t ms := by
  cases b with
  | found t ms => exact ⟨t, ms, rfl⟩
  | say o => exact absurd h (by show ¬ kSay = kFound; decide)
  | reply e r o => cases e with
    | false => exact absurd h (by show ¬ kReply = kFound; decide)
    | true => exact absurd h (by show ¬ kEdit = kFound; decide)
  | recall r => exact absurd h (by show ¬ kRecall = kFound; decide)
  | mark r w => exact absurd h (by show ¬ kMark = kFound; decide)
  | title t => exact absurd h (by show ¬ kTitle = kFound; decide)
  | act k n => match k with
    | 0 => exact absurd h (by show ¬ kAdd = kFound; decide)
    | 1 => exact absurd h (by show ¬ kCut = kFound; decide)
    | _ + 2 => exact absurd h (by show ¬ kHand = kFound; decide)
  | seen => exact absurd h (by show ¬ kSeen = kFound; decide)
  | other k => exact absurd hb (by simp [isBody])
theorem b_lvalue {X : Cx} (C : Ctx X N_law_value (defScope s_law_value) 5) (c1 : CalleeX X CX0 5 "_law_next" spNext) (c2 : CalleeX X CX0 5 "_law_name" spLName) (c3 : CalleeX X CX0 5 "_law_body" spLBody) (c4 : CalleeX X CX0 5 "_law_number" spLNumber) (c5 : CalleeX X CX0 5 "_law_seen" spLSeen)
    (a : Addr) (H : Hp) (hs : Strm H a) (Q : VK)
    (hQ : ∀ x v' H', isLetter x = true → wfB x.body = true → x.seen.length ≤ 48 → But a H H' → Strm H' a → Tp H' v' (lvD x) → Q v' H') :
    B1 X (defBody s_law_value) (start N_law_value [.ref a]) H (fun _ H' => Q .non H') Q nobk nobk := by
  have hnm := nm_law_value C
  obtain ⟨v0, v1, v2, v3, v4, v5, w0, w1, w2, w3, w4, w5, g1, g2, g3, g4, g5, g6, g7⟩ := hnm
  conv => arg 2; whnf
  walk_at "go"
  rename_i au H1
  intro hau b1 s1
  walk_at "go"
  refine ⟨a, au, rfl, hau, s1, fun b vb H2 hb hw hf b2 s2 tb => ?_⟩
  obtain ⟨ba, bxs, rfl, hba, hbx⟩ := body_inv tb hb
  walk_at "go"
  refine IxV.t (SqT.of hba) (atI_nat (j := 0) rfl) ?_
  walk_at "go"
  rw [show tl (Str.ofString "found") = kFound by decide +kernel]
  refine Bth.d (fun h => ?_) (fun h => ?_)
  · obtain ⟨t, ms, rfl⟩ := kind_found hb h
    walk_at "go"
    rename_i q1 H3 n3 q2 H4 n4 q3 H5 n5
    have sm := n3.same.trans (n4.same.trans n5.same)
    refine hQ ⟨au, 1, 1, [(au, 1)], .found t ms⟩ _ H5 (lv_found hau hb (hf t ms rfl)) hw (by simp) ((b1.trans b2).trans (But.of sm)) (s2.same sm) ?_
    exact .tup n5.at_ (.cons (.str _) (.cons (.int _) (.cons (.int _) (.cons (.tup (n5.same _ _ n4.at_) (.cons (Tp.ref_of ((n4.same.trans n5.same) _ _ n3.at_)) .nil)) (.cons (tb.mono (Keep.of sm)) .nil)))))
  · have hnf : ∀ t ms, b ≠ .found t ms := by rintro t ms rfl; exact h rfl
    walk_at "go"
    rename_i num H3
    intro hn0 hn1 b3 s3
    have hnum : isNum num = true := by unfold isNum; rw [decide_eq_true hn0, decide_eq_true hn1]; rfl
    walk_at "go"
    obtain ⟨le, hle⟩ : ∃ le : Int, (if num > 2 then num else 2) = le := ⟨_, rfl⟩
    have hl2 : 2 ≤ le ∧ num ≤ le ∧ le ≤ 1000000000000000000 := by rw [← hle]; split <;> omega
    rw [hle]
    walk_at "go"
    rename_i n2 H4
    intro hm0 hm1 b4 s4
    walk_at "go"
    obtain ⟨mi, hmi⟩ : ∃ mi : Int, (if le + n2 < 1000000000000000000 then le + n2 else 1000000000000000000) = mi := ⟨_, rfl⟩
    have hmi2 : le ≤ mi ∧ mi ≤ 1000000000000000000 := by rw [← hmi]; split <;> omega
    rename_i q5 H5 n5
    rw [hmi] at n5
    refine spNext.mk (s4.same n5.same) (by decide) (by decide) fun k H6 k0 k1 b6 s6 => ?_
    have hq6 := b6.k _ _ (s4.ne n5) n5.at_
    obtain ⟨st, hst0, hst1, hst2⟩ : ∃ st : Int, le ≤ st ∧ st ≤ 1000000000000000000 ∧ atI [V.int le, V.int 1000000000000000000, V.int mi] k = some (.int st) := by
      have hk : k = 0 ∨ k = 1 ∨ k = 2 := by omega
      rcases hk with rfl | rfl | rfl
      · exact ⟨le, by omega, by omega, rfl⟩
      · exact ⟨1000000000000000000, by omega, by omega, rfl⟩
      · exact ⟨mi, by omega, by omega, rfl⟩
    refine IxV.t (SqT.of hq6) hst2 ?_
    walk_at "go"
    have hr : isRef (au, num) = true := by unfold isRef; rw [hau, hnum]; rfl
    refine ⟨a, au, num, rfl, hr, s6, fun rs vs H7 hrs hrc hrl b7 s7 ts => ?_⟩
    walk_at "go"
    rename_i q8 H8 n8
    have b28 : But a H2 H8 := ((b3.trans b4).trans (But.of n5.same)).trans ((b6.trans b7).trans (But.of n8.same))
    refine hQ ⟨au, num, st, rs, b⟩ _ H8 (lv_other hau hnum (by unfold isNum; rw [decide_eq_true (show 1 ≤ st by omega), decide_eq_true hst1]; rfl) hrs hb hrc (by omega) (by omega) hnf) hw hrl ((b1.trans b2).trans b28) (s7.same n8.same) ?_
    exact .tup n8.at_ (.cons (.str _) (.cons (.int _) (.cons (.int _) (.cons (ts.mono n8.keep) (.cons (tb.mono (b28.keep s2)) .nil)))))
section
variable {P : Program} {w : World} {K : PySem.W.Frag} {mg : Str → Option Value} {base : Heap}
theorem c_lvalue (T : Tx w K mg base) : Callee P w K mg base CX0 6 "_law_value" spLValue := by
  have c1 := (c_next (P := P) T).mono (by decide : 2 ≤ 5)
  have c2 := (c_lname (P := P) T).mono (by decide : 3 ≤ 5)
  have c3 := c_lbody (P := P) T
  have c4 := (c_lnumber (P := P) T).mono (by decide : 3 ≤ 5)
  have c5 := c_lseen (P := P) T
  refine callee_of T 43 41 rfl rfl rfl rfl rfl fs_law_value bd_law_value (fun vs H Q E h => ?_) (fun X h1 h2 h3 h4 h5 C vs H Q E h => ?_)
  · obtain ⟨_, rfl, _⟩ := h; rfl
  · subst h1 h2 h3 h4 h5
    obtain ⟨a, rfl, hs, q⟩ := h
    exact b_lvalue C c1 c2 c3 c4 c5 a H hs Q q
end
/-! ## LoL13 -/
theorem b_ltext_of {X : Cx} (C : Ctx X N_law_text_of (defScope s_law_text_of) 1) (v : V) (b : Body) (H : Hp) (ht : Tp H v (bodyD b)) (hb : isBody b = true) (Q : VK) (hQ : ∀ H', Same H H' → Q (optV (textOf b)) H') :
    B1 X (defBody s_law_text_of) (start N_law_text_of [v]) H (fun _ H' => Q .non H') Q nobk nobk := by
  have hn := nm_law_text_of C
  obtain ⟨v0, w0, g1⟩ := hn
  obtain ⟨a, xs, rfl, ha, hx⟩ := body_inv ht hb
  conv => arg 2; whnf
  cases b with
  | found t ms => obtain ⟨m, rfl, hm⟩ := hx; simp only [LO.kindOf] at ha; walk_at "go"; exact hQ _ (by walk_at "same")
  | say o => obtain rfl := hx; simp only [LO.kindOf] at ha; walk_at "go"; exact hQ _ (by walk_at "same")
  | reply e r o =>
    obtain ⟨c, rfl, hc⟩ := hx
    cases e with
    | false => simp only [LO.kindOf] at ha; walk_at "go"; exact hQ _ (by walk_at "same")
    | true => simp only [LO.kindOf] at ha; walk_at "go"; exact hQ _ (by walk_at "same")
  | recall r => obtain ⟨c, rfl, hc⟩ := hx; simp only [LO.kindOf] at ha; walk_at "go"; exact hQ _ (by walk_at "same")
  | mark r w => obtain ⟨c, rfl, hc⟩ := hx; simp only [LO.kindOf] at ha; walk_at "go"; exact hQ _ (by walk_at "same")
  | title t => obtain rfl := hx; simp only [LO.kindOf] at ha; walk_at "go"; exact hQ _ (by walk_at "same")
  | act k n =>
    obtain rfl := hx
    have hk : actK k = kAdd ∨ actK k = kCut ∨ actK k = kHand := by match k with
      | 0 => exact .inl rfl
      | 1 => exact .inr (.inl rfl)
      | n + 2 => exact .inr (.inr rfl)
    simp only [LO.kindOf] at ha
    rcases hk with e | e | e <;> (rw [e] at ha; walk_at "go"; exact hQ _ (by walk_at "same"))
  | seen => obtain rfl := hx; simp only [LO.kindOf] at ha; walk_at "go"; exact hQ _ (by walk_at "same")
  | other k => exact absurd hb (by simp [isBody])
def spLLetter (K : PySem.W.Frag) : Sp := fun vs H Q _ => ∃ (v : V) (x : LV), vs = [v] ∧ Tp H v (lvD x) ∧ ∀ p H', Same H H' → LetAt K H' p x → Q (.ref p) H'
theorem b_lletter {X : Cx} (C : Ctx X N_law_letter (defScope s_law_letter) 3) (c1 : CalleeM X.prog X.w X.K X.mg X.base 2 (He.ma X.K (LC X.K) "__init__") (spInit (LC X.K))) (v : V) (x : LV) (H : Hp) (ht : Tp H v (lvD x)) (Q : VK) (hQ : ∀ p H', Same H H' → LetAt X.K H' p x → Q (.ref p) H') :
    B1 X (defBody s_law_letter) (start N_law_letter [v]) H (fun _ H' => Q .non H') Q nobk nobk := by
  have hn := nm_law_letter C
  obtain ⟨v0, w0, g1⟩ := hn
  obtain ⟨a, y4, y5, rfl, ha, t4, t5⟩ := lv_inv ht
  conv => arg 2; whnf
  walk_at "go"
  refine e_letter C c1 C.room (by with_reducible assumption) ?_
  walk_at "go"
  exact ⟨y4, y5, x, rfl, t4, t5, hQ⟩
section
variable {P : Program} {w : World} {K : PySem.W.Frag} {mg : Str → Option Value} {base : Heap}
theorem c_ltext_of (T : Tx w K mg base) : Callee P w K mg base CX0 2 "_law_text_of" spTextOf := by
  refine callee_of T 44 42 rfl rfl rfl rfl rfl fs_law_text_of bd_law_text_of (fun vs H Q E h => ?_) (fun X h1 h2 h3 h4 h5 C vs H Q E h => ?_)
  · obtain ⟨n, _, rfl, _⟩ := h; rfl
  · obtain ⟨v, b, rfl, ht, hb, q⟩ := h
    exact b_ltext_of C v b H ht hb Q q
theorem c_lletter (T : Tx w K mg base) : Callee P w K mg base CX0 4 "_law_letter" (spLLetter K) := by
  have c1 := c_init (P := P) T
  refine callee_of T 46 44 rfl rfl rfl rfl rfl fs_law_letter bd_law_letter (fun vs H Q E h => ?_) (fun X h1 h2 h3 h4 h5 C vs H Q E h => ?_)
  · obtain ⟨n, _, rfl, _⟩ := h; rfl
  · subst h1 h2 h3 h4 h5
    obtain ⟨v, x, rfl, ht, q⟩ := h
    exact b_lletter C c1 v x H ht Q q
end
/-! ## LoL14 -/
local macro_rules | `(tactic| walk_at "xs") => `(tactic| (refine txt_some (by with_reducible assumption) (by walk_at "same") (by with_reducible assumption) (by rfl) fun _ _ => ?_; walk_at "go"))
theorem spl1_count (z : T) : (spl1 10 z).length = nlCount z + 1 := by
  induction z with
  | nil => rfl
  | cons c r ih =>
    rw [spl1_c]
    by_cases e : c = 10
    · subst e
      rw [if_pos rfl]
      simp [nlCount] at ih ⊢
      omega
    · rw [if_neg e]
      cases h : spl1 10 r with
      | nil => exact absurd h (spl1_ne0 10 r)
      | cons p ps =>
        rw [h] at ih
        simp [nlCount, e] at ih ⊢
        exact ih
theorem lines_ok2 {n : Nat} {z : T} {H : Hp} {Q : VK} (hn : n = nlCount z + 1) (hz : z.length ≤ 400) (q : Q (S (hLines ++ numN (nlCount z + 1))) H) : ((n : Nat) : Int).natAbs.log2 < 1920 ∧
    AddV (S (tl (Str.ofString "Lines: "))) (V.str (Str.ofString (toString ((n : Nat) : Int)))) H Q := by
  have hc := count_len z
  subst hn
  refine ⟨log2_lt (by omega) (by omega), ?_⟩
  have es : (Str.ofString (toString (((nlCount z + 1 : Nat) : Int)))) = mkS (numN (nlCount z + 1)) := num_S (nlCount z + 1)
  have hl : (numN (nlCount z + 1)).length ≤ 19 := LoW.numN_len (by decide) (by omega)
  rw [es, show tl (Str.ofString "Lines: ") = hLines by decide +kernel]
  exact AddV.S (line16 (by simp [hLines]; omega)) q
def spLHeader : Sp := fun vs H Q _ => ∃ (v : V) (x : LV), vs = [v] ∧ Tp H v (lvD x) ∧ isLetter x = true ∧ x.seen.length ≤ 60 ∧ ∀ r H', New1 H r (.lst ((hdr x).map S)) H' → Q (.ref r) H'
theorem ref_add2 {r : Rf} {H : Hp} {Q : VK} (h : isRef r = true) (q : Q (S (hRef ++ refW r)) H) : r.2.natAbs.log2 < 1920 ∧ AddV (S (hRef ++ r.1 ++ [32])) (V.str (Str.ofString (toString r.2))) H Q := by
  obtain ⟨q1, q2, q3⟩ := isRef_num h
  have q4 := nameL q1
  have q5 := numI_len (by omega) q3
  have es : (Str.ofString (toString r.2)) = mkS (numI r.2) := numI_S (by omega)
  refine ⟨log2_lt (by omega) q3, ?_⟩
  rw [es]
  refine AddV.S (line16 (by simp [hRef]; omega)) ?_
  rw [show hRef ++ r.1 ++ [32] ++ numI r.2 = hRef ++ refW r by unfold refW; simp]
  exact q
local macro_rules | `(tactic| walk_at "rf") => `(tactic| (rw [show tl (Str.ofString "Ref: ") = hRef by decide +kernel]; refine AddV.S (line16 (by simp [hRef]; omega)) ?_; walk_at "go"; rw [show tl (Str.ofString " ") = [32] by decide +kernel]; refine AddV.S (line16 (by simp [hRef]; omega)) ?_; walk_at "go"; refine ref_add2 (by with_reducible assumption) ?_; walk_at "go"))
local macro_rules | `(tactic| walk_at "ln") => `(tactic| (walk_at "xs"; refine ⟨by rw [mkS_len]; exact line16 (by omega), fun _ _ n9 => ?_⟩; rw [show (mkS (tl (Str.ofString "\n"))) = mkS [10] by decide +kernel, split1 10 (by decide), strs_S] at n9; walk_at "go"; refine LenW.l (SqL.of n9.at_) ?_; walk_at "go"; refine lines_ok2 (by rw [List.length_map]; exact spl1_count _) (by with_reducible assumption) ?_; walk_at "go"))
theorem b_lheader2 {X : Cx} (C : Ctx X N_law_header (defScope s_law_header) 2) (c2 : CalleeX X CX0 2 "_law_text_of" spTextOf) (va sa ba r0 : Addr) (x1 x2 x3 x6 : V) (l1 l2 l3 l4 : T) (b : Body) (H0 H : Hp) (t5 : Tp H0 (.ref ba) (bodyD b)) (hb : isBody b = true)
    (n0 : New1 H0 r0 (.lst (([l1, l2, l3, l4] : List T).map S)) H) (Q : VK) (hQ : ∀ r H', New1 H0 r (.lst (([l1, l2, l3, l4] ++ bodyL b).map S)) H' → Q (.ref r) H') :
    B1 X ((defBody s_law_header).drop 4) [some (.ref va), some x1, some x2, some x3, some (.ref sa), some (.ref ba), some x6, some (S (LO.kindOf b)), some (.ref r0), none, none] H (fun _ H' => Q .non H') Q nobk nobk := by
  have hn := nm_law_header C
  obtain ⟨v0, v1, v2, v3, v4, v5, v6, v7, v8, w0, w1, w2, w3, w4, w5, w6, w7, w8, g1, g2, g3⟩ := hn
  obtain ⟨ba', xs, e, ha, hx⟩ := body_inv t5 hb
  cases e
  obtain ⟨kd, hk⟩ : ∃ kd, LO.kindOf b = kd := ⟨_, rfl⟩
  have hQ2 : ∀ r H' (ls : List T), New1 H0 r (.lst (ls.map S)) H' → ls = [l1, l2, l3, l4] ++ bodyL b → Q (.ref r) H' := fun r H' ls n e => hQ r H' (e ▸ n)
  rw [hk] at ha ⊢
  have eT : tl (Str.ofString "Title: ") = hTitle := by decide +kernel
  have eM : tl (Str.ofString "Members: ") = hMembers := by decide +kernel
  have eR : tl (Str.ofString "Ref: ") = hRef := by decide +kernel
  have eW : tl (Str.ofString "Word: ") = hWord := by decide +kernel
  have eN : tl (Str.ofString "Name: ") = hName := by decide +kernel
  have eB : tl (Str.ofString " ") = [32] := by decide +kernel
  have eC : tl (Str.ofString ", ") = cs := by decide +kernel
  conv => arg 2; whnf
  cases b with
  | found t ms =>
    obtain ⟨m, rfl, hm⟩ := hx
    obtain rfl : kd = kFound := hk.symm
    have hb2 : isTitle t = true ∧ isMembers ms = true := by unfold isBody at hb; simpa using hb
    have l1 := titleL hb2.1
    have l2 := membersL hb2.2
    walk_at "go"
    rw [eT]
    refine AddV.S (line16 (by simp [hTitle]; omega)) ?_
    walk_at "go"
    refine ⟨_, ms.map mkS, rfl, .inr (SqT.of (by rw [strs_S]; walk_at "at")), ?_, ?_⟩
    · rw [List.map_map]
      exact Nat.le_trans (show (ms.map (Str.length ∘ mkS)).sum + (ms.map mkS).length * (mkS (tl (Str.ofString ", "))).length ≤ 1000 by rw [List.length_map]; exact membersJ hb2.2) (by decide)
    rw [eC, join_S, eM]
    refine AddV.S (line16 (by simp [hMembers]; omega)) ?_
    walk_at "go"
    exact hQ2 _ _ _ (by walk_at "n1") (by rfl)
  | say o =>
    obtain rfl := hx
    obtain rfl : kd = kSay := hk.symm
    obtain ⟨z, rfl⟩ : ∃ z, o = some z := by cases o with
      | none => exact absurd hb (by simp [isBody, isText])
      | some z => exact ⟨z, rfl⟩
    have l1 := textL (show isText (some z) = true from hb)
    walk_at "go"
    walk_at "ln"
    exact hQ2 _ _ _ (by walk_at "n1") (by rfl)
  | reply e r o =>
    obtain ⟨c, rfl, hc⟩ := hx
    have hb2 : isRef r = true ∧ isText o = true := by unfold isBody at hb; simpa using hb
    obtain ⟨z, rfl⟩ : ∃ z, o = some z := by cases o with
      | none => exact absurd hb2.2 (by simp [isText])
      | some z => exact ⟨z, rfl⟩
    have l1 := textL hb2.2
    have hr : isRef r = true := hb2.1
    have q4 := nameL (isRef_num hr).1
    have ek : kd = kReply ∨ kd = kEdit := by rw [← hk]; cases e <;> simp [LO.kindOf]
    rcases ek with rfl | rfl <;> (
      walk_at "go"
      walk_at "rf"
      walk_at "ln"
      exact hQ2 _ _ _ (by walk_at "n1") (by rfl))
  | recall r =>
    obtain ⟨c, rfl, hc⟩ := hx
    obtain rfl : kd = kRecall := hk.symm
    have hr : isRef r = true := hb
    have q4 := nameL (isRef_num hr).1
    walk_at "go"
    walk_at "rf"
    exact hQ2 _ _ _ (by walk_at "n1") (by rfl)
  | mark r w =>
    obtain ⟨c, rfl, hc⟩ := hx
    obtain rfl : kd = kMark := hk.symm
    have hb2 : isRef r = true ∧ isName w = true := by unfold isBody at hb; simpa using hb
    have hr : isRef r = true := hb2.1
    have l1 := nameL hb2.2
    have q4 := nameL (isRef_num hr).1
    walk_at "go"
    walk_at "rf"
    rw [eW]
    refine AddV.S (line16 (by simp [hWord]; omega)) ?_
    walk_at "go"
    exact hQ2 _ _ _ (by walk_at "n1") (by rfl)
  | title t =>
    obtain rfl := hx
    obtain rfl : kd = kTitle := hk.symm
    have l1 := titleL (show isTitle t = true from hb)
    walk_at "go"
    rw [eT]
    refine AddV.S (line16 (by simp [hTitle]; omega)) ?_
    walk_at "go"
    exact hQ2 _ _ _ (by walk_at "n1") (by rfl)
  | act k nm =>
    obtain rfl := hx
    have l1 := nameL (show isName nm = true from hb)
    have ek : kd = kAdd ∨ kd = kCut ∨ kd = kHand := by
      rw [← hk]
      match k with
      | 0 => exact .inl rfl
      | 1 => exact .inr (.inl rfl)
      | n + 2 => exact .inr (.inr rfl)
    rcases ek with rfl | rfl | rfl <;> (
      walk_at "go"
      rw [eN]
      refine AddV.S (line16 (by simp [hName]; omega)) ?_
      walk_at "go"
      exact hQ2 _ _ _ (by walk_at "n1") (by rfl))
  | seen =>
    obtain rfl := hx
    obtain rfl : kd = kSeen := hk.symm
    walk_at "go"
    exact hQ2 _ _ _ (by walk_at "n1") (by rfl)
  | other k => exact absurd hb (by simp [isBody])
theorem b_lheader {X : Cx} (C : Ctx X N_law_header (defScope s_law_header) 2) (c2 : CalleeX X CX0 2 "_law_text_of" spTextOf) (v : V) (x : LV) (H : Hp) (ht : Tp H v (lvD x)) (hok : isLetter x = true) (hl : x.seen.length ≤ 60) (Q : VK) (hQ : ∀ r H', New1 H r (.lst ((hdr x).map S)) H' → Q (.ref r) H') :
    B1 X (defBody s_law_header) (start N_law_header [v]) H (fun _ H' => Q .non H') Q nobk nobk := by
  have hn := nm_law_header C
  obtain ⟨v0, v1, v2, v3, v4, v5, v6, v7, v8, w0, w1, w2, w3, w4, w5, w6, w7, w8, g1, g2, g3⟩ := hn
  obtain ⟨p1, p2, p3, p4, p5, p6⟩ := letter_parts hok
  have hr1 : isRef (x.author, x.number) = true := by unfold isRef; simp [p1, p2]
  have hrs := seen_refs p4
  obtain ⟨va, y4, y5, rfl, hva, t4, t5⟩ := lv_inv ht
  obtain ⟨ba, bxs, rfl, hba, hbx⟩ := body_inv t5 p5
  obtain ⟨sa, sxs, rfl, hsa, hsx⟩ := t4.tup_inv
  have p2' : 1 ≤ x.number ∧ x.number ≤ 1000000000000000000 := by unfold isNum at p2; simpa using p2
  have p3' : 1 ≤ x.stamp ∧ x.stamp ≤ 1000000000000000000 := by unfold isNum at p3; simpa using p3
  have hnl : (numI x.number).length ≤ 19 := numI_len (by omega) p2'.2
  have hsl : (numI x.stamp).length ≤ 19 := numI_len (by omega) p3'.2
  have hal := nameL p1
  have hkl := kindL p5
  conv => arg 2; whnf
  walk_at "go"
  refine s_asg ?_
  walk_at "go"
  refine g_tup C.calm (SqT.of hva) rfl ?_
  refine gs_cons ?_
  walk_at "go"
  refine gs_cons ?_
  walk_at "go"
  refine gs_cons ?_
  walk_at "go"
  refine gs_cons ?_
  walk_at "go"
  refine gs_cons ?_
  walk_at "go"
  refine gs_nil ?_
  walk_at "go"
  refine e_lcTup C [(("_law_name_here" : Str), 9), (("_law_count" : Str), 10)] (by decide +kernel) ?_
  walk_at "go"
  refine ⟨sa, sxs, rfl, SqT.of hsa, fun D H2 n2 => ?_⟩
  have hlen : sxs.length = x.seen.length := by rw [hsx.len, List.length_map]
  refine ⟨fun i H' => New1 H D (.lst (((x.seen.map refW).take i).map S)) H', New1.of n2, fun i H' _ n => SqT.of (n.same _ _ hsa), ?_, ?_⟩
  · rintro i v H' _ hi n ⟨rfl, hv⟩ Xb hX CB
    obtain ⟨r, b, hr, rfl, hb⟩ := hsx.refs hv
    have hrr := hrs r (List.mem_of_getElem? hr)
    obtain ⟨q1, q2, q3⟩ := isRef_num hrr
    have q4 := nameL q1
    have q5 := numI_len (by omega) q3
    have wp : SlotW Xb 9 ("_law_name_here" : Str) := blk_W C hX (by decide +kernel)
    have wq : SlotW Xb 10 ("_law_count" : Str) := blk_W C hX (by decide +kernel)
    refine g_tup CB.calm (SqT.of (n.same _ _ hb)) rfl (gs_cons (g_name wp (gs_cons (g_name wq (gs_nil ⟨rfl, fun Xb hX CB => ?_⟩)))))
    have vp : Slot Xb 9 ("_law_name_here" : Str) := blk_V C hX (by decide +kernel)
    have vq : Slot Xb 10 ("_law_count" : Str) := blk_V C hX (by decide +kernel)
    have gp : GlN Xb ("str" : Str) := blk_G C hX (by decide +kernel)
    walk_at "go"
    rw [show tl (Str.ofString " ") = [32] by decide +kernel]
    refine AddV.S (line16 (by simp; omega)) ?_
    walk_at "go"
    refine ⟨log2_lt (by omega) q3, ?_⟩
    rw [numI_S (by omega)]
    refine AddV.S (line16 (by simp; omega)) ?_
    refine ⟨_, n.at_, ?_, ?_⟩
    · rw [List.length_map]
      have : ((x.seen.map refW).take i).length ≤ 380000 := by rw [List.length_take, List.length_map]; omega
      exact Nat.lt_of_le_of_lt this (by decide)
    · have e1 : (x.seen.map refW).take (i + 1) = (x.seen.map refW).take i ++ [refW r] := by
        rw [List.take_add_one, List.getElem?_map, hr]; rfl
      show New1 H D (.lst (((x.seen.map refW).take (i + 1)).map S)) _
      rw [e1, List.map_append, show r.1 ++ [32] ++ numI r.2 = refW r by unfold refW; simp]
      exact n.up
  intro H3 n
  rw [hlen, show x.seen.length = (x.seen.map refW).length by simp, List.take_length] at n
  refine ⟨_, (x.seen.map refW).map mkS, rfl, .inl (SqL.of (by rw [strs_S]; exact n.at_)), ?_, ?_⟩
  · have e3 : (x.seen.map refW).map (Str.length ∘ mkS) = (x.seen.map refW).map List.length := List.map_congr_left fun l _ => mkS_len l
    have e4 : (mkS (tl (Str.ofString ", "))).length = 2 := by decide +kernel
    have := seenJ hrs (Nat.le_trans hl (by decide))
    rw [List.map_map]
    show ((x.seen.map refW).map (Str.length ∘ mkS)).sum + _ ≤ _
    rw [e3, e4, List.length_map, List.length_map]
    omega
  have jl := seenL hrs (Nat.le_trans hl (by decide))
  rw [show tl (Str.ofString ", ") = cs by decide +kernel, join_S]
  have sH := n.same
  walk_at "go"
  refine IxV.t (SqT.of (sH _ _ hba)) (atI_nat (j := 0) rfl) ?_
  walk_at "go"
  rw [show tl (Str.ofString "From: ") = hFrom by decide +kernel]
  refine AddV.S (line16 (by simp [hFrom]; omega)) ?_
  walk_at "go"
  rw [show tl (Str.ofString " ") = [32] by decide +kernel]
  refine AddV.S (line16 (by simp [hFrom]; omega)) ?_
  walk_at "go"
  refine ⟨log2_lt (by omega) p2'.2, ?_⟩
  rw [numI_S (by omega)]
  refine AddV.S (line16 (by simp [hFrom]; omega)) ?_
  walk_at "go"
  refine ⟨log2_lt (by omega) p3'.2, ?_⟩
  rw [numI_S (by omega), show tl (Str.ofString "Stamp: ") = hStamp by decide +kernel]
  refine AddV.S (line16 (by simp [hStamp]; omega)) ?_
  walk_at "go"
  rw [show tl (Str.ofString "Seen: ") = hSeen by decide +kernel]
  refine AddV.S (line16 (by simp [hSeen]; omega)) ?_
  walk_at "go"
  rw [show tl (Str.ofString "Kind: ") = hKind by decide +kernel]
  refine AddV.S (line16 (by simp [hKind]; omega)) ?_
  refine a_nil ⟨line16 (by simp), fun r H4 n4 => ?_⟩
  rw [show hFrom ++ x.author ++ [32] ++ numI x.number = hFrom ++ refW (x.author, x.number) by unfold refW; simp] at n4
  exact b_lheader2 C c2 va sa ba r _ _ _ _ _ _ _ _ x.body H3 H4 (t5.mono (Keep.of sH)) p5 (New1.of n4) Q fun r H' n => hQ r H' (New1.pre sH n)
section
variable {P : Program} {w : World} {K : PySem.W.Frag} {mg : Str → Option Value} {base : Heap}
theorem c_lheader (T : Tx w K mg base) : Callee P w K mg base CX0 3 "_law_header" spLHeader := by
  have c1 := c_ltext_of (P := P) T
  refine callee_of T 45 43 rfl rfl rfl rfl rfl fs_law_header bd_law_header (fun vs H Q E h => ?_) (fun X h1 h2 h3 h4 h5 C vs H Q E h => ?_)
  · obtain ⟨n, _, rfl, _⟩ := h; rfl
  · subst h1 h2 h3 h4 h5
    obtain ⟨v, x, rfl, ht, hok, hl, q⟩ := h
    exact b_lheader C c1 v x H ht hok hl Q q
end
/-! ## LoL15 -/
def spLCut : Sp := fun vs H Q _ => ∃ (a : Addr) (l : T), vs = [.ref a, S l] ∧ l ≠ [] ∧ l.length ≤ 3000 ∧ Strm H a ∧ ∀ p ps H', Folds l ps → ps.length ≤ l.length → Nw a H p (.lst (ps.map S)) H' → Q (.ref p) H'
theorem head_take1 {l : T} {i j : Nat} (h : i < j) : ((l.drop i).take (j - i)).head? = l[i]? := by
  obtain ⟨k, hk⟩ : ∃ k, j - i = k + 1 := ⟨j - i - 1, by omega⟩
  rw [hk, List.head?_take, if_neg (by omega), List.head?_drop]
theorem take_mid {l : T} {i j : Nat} (h : i ≤ j) : l.take i ++ (l.drop i).take (j - i) = l.take j := by
  obtain ⟨k, rfl⟩ : ∃ k, j = i + k := ⟨j - i, by omega⟩
  rw [Nat.add_sub_cancel_left, List.take_add]
theorem b_lcut {X : Cx} (C : Ctx X N_law_cut (defScope s_law_cut) 2) (c1 : CalleeX X CX0 2 "_law_next" spNext) (a : Addr) (l : T) (hne : l ≠ []) (hl : l.length ≤ 3000) (H : Hp) (hs : Strm H a) (Q : VK)
    (hQ : ∀ p ps H', Folds l ps → ps.length ≤ l.length → Nw a H p (.lst (ps.map S)) H' → Q (.ref p) H') :
    B1 X (defBody s_law_cut) (start N_law_cut [.ref a, S l]) H (fun _ H' => Q .non H') Q nobk nobk := by
  have hnm := nm_law_cut C
  obtain ⟨v0, v1, v2, v3, v4, v5, w0, w1, w2, w3, w4, w5, g1, g2, g3, g4⟩ := hnm
  have hl1 : 1 ≤ l.length := by cases l with
    | nil => exact absurd rfl hne
    | cons _ _ => simp
  conv => arg 2; whnf
  walk_at "go"
  rename_i p H1 n1 q H2 n2
  have n2' : Nw a H p (.lst (([] : List T).map S)) H2 := (Nw.of hs n1).same n2.same
  refine spNext.mk n2'.s (by decide) (by decide) fun k H3 k0 k1 b3 s3 => ?_
  have hq := b3.k _ _ ((hs.same n1.same).ne n2) n2.at_
  have n3 := n2'.draw b3 s3
  obtain ⟨ch, hc0, hc1, hc2⟩ : ∃ ch : Int, 0 ≤ ch ∧ ch ≤ 5 ∧ atI [V.int 0, V.int 0, V.int 1, V.int 2, V.int 5] k = some (.int ch) := by
    have hk : k = 0 ∨ k = 1 ∨ k = 2 ∨ k = 3 ∨ k = 4 := by omega
    rcases hk with rfl | rfl | rfl | rfl | rfl
    · exact ⟨0, by decide, by decide, rfl⟩
    · exact ⟨0, by decide, by decide, rfl⟩
    · exact ⟨1, by decide, by decide, rfl⟩
    · exact ⟨2, by decide, by decide, rfl⟩
    · exact ⟨5, by decide, by decide, rfl⟩
  refine IxV.t (SqT.of hq) hc2 ?_
  walk_at "go"
  refine s_for_range2 C.toCok (by with_reducible assumption) (C.tx.free 71 rfl) ?_
  walk_at "go"
  refine LenW.S (line16 (by omega)) ?_
  walk_at "go"
  refine ⟨⟨by decide, by decide, by omega, by omega⟩, fun i σ H' => ∃ (ps : List T) (bg : Nat) (o5 : Option V), σ = [some (.ref a), some (S l), some (.ref p), some (.int (bg : Nat)), some (.int ch), o5] ∧ Nw a H p (.lst (ps.map S)) H' ∧ Folds (l.take bg) ps ∧ bg ≤ i ∧ ps.length ≤ i ∧ (ps = [] ∨ l[bg]? = some 32),
    ⟨[], 0, none, rfl, n3, by simpa using Folds.zero, Nat.le_refl _, Nat.le_refl _, .inl rfl⟩, ?_, ?_⟩
  · rintro i σ H4 hi ⟨ps, bg, o5, rfl, n4, hf, hb, hpl, hsp⟩
    have hil : i + 1 < l.length := by omega
    have stay : ∀ H5, Nw a H p (.lst (ps.map S)) H5 → ∃ (ps : List T) (bg' : Nat) (o5 : Option V), [some (.ref a), some (S l), some (.ref p), some (.int (bg : Nat)), some (.int ch), some (.int (1 + (i : Int)))] = [some (.ref a), some (S l), some (.ref p), some (.int (bg' : Nat)), some (.int ch), o5] ∧ Nw a H p (.lst (ps.map S)) H5 ∧ Folds (l.take bg') ps ∧ bg' ≤ i + 1 ∧ ps.length ≤ i + 1 ∧ (ps = [] ∨ l[bg']? = some 32) :=
      fun H5 n5 => ⟨ps, bg, _, rfl, n5, hf, by omega, by omega, hsp⟩
    walk_at "go"
    refine IxV.s (z := mkS l) (c := l[i + 1]) (by rw [mkS_len]; exact line16 (by omega)) (by rw [show (1 + (i : Int)) = ((i + 1 : Nat) : Int) by omega]; exact atI_nat (List.getElem?_eq_getElem hil)) ?_
    walk_at "go"
    refine Bth.d (fun h => ?_) (fun h => ?_)
    · have hsp2 : l[i + 1]? = some 32 := by
        rw [List.getElem?_eq_getElem hil]
        have e : [l[i + 1]] = [32] := h.trans (by decide +kernel)
        rw [List.singleton_inj.mp e]
      walk_at "go"
      refine Bth.d (fun h2 => ?_) (fun h2 => ?_)
      · walk_at "go"
        refine spNext.mk n4.s (by split <;> omega) (by split <;> omega) fun k5 H5 k50 k51 b5 s5 => ?_
        have n5 := n4.draw b5 s5
        walk_at "go"
        refine Bth.d (fun h3 => ?_) (fun h3 => ?_)
        · refine b_cons ?_
          refine s_expr (e_append ?_)
          walk_at "go"
          refine ⟨⟨_, n5.at_⟩, ?_⟩
          walk_at "go"
          refine SlV.sMid bg (i + 1) rfl (by omega) (line16 (by omega)) ?_
          refine ⟨_, n5.at_, Nat.lt_of_le_of_lt (show _ ≤ 3000 by rw [List.length_map]; omega) (by decide), ?_⟩
          walk_at "go"
          refine ⟨ps ++ [(l.drop bg).take (i + 1 - bg)], i + 1, some (.int ((i + 1 : Nat) : Int)), ?_, by rw [List.map_append]; exact n5.up, ?_, Nat.le_refl _, by simp; omega, .inr hsp2⟩
          · rw [show (1 + (i : Int)) = ((i + 1 : Nat) : Int) by omega]; rfl
          · refine hf.snoc ?_ ?_ (take_mid (by omega))
            · intro e
              have := congrArg List.length e
              rw [List.length_take, List.length_drop, List.length_nil] at this
              omega
            · rw [head_take1 (by omega)]; exact hsp
        · walk_at "go"
          exact stay _ n5
      · walk_at "go"
        exact stay _ n4
    · walk_at "go"
      exact stay _ n4
  · rintro σ H4 ⟨ps, bg, o5, rfl, n4, hf, hb, hpl, hsp⟩
    walk_at "go"
    refine SlV.sFrom bg rfl (line16 (by omega)) ?_
    walk_at "go"
    rename_i q2 H5 n5
    refine AddV.l (n5.same _ _ n4.at_) n5.at_ (line16 (by simp; omega)) fun r hr => ?_
    have n6 := New.of (o := .lst (ps.map S ++ [S (l.drop bg)])) hr
    have n6' : New H5 r (.lst ((ps ++ [l.drop bg]).map S)) (upd H5 r (.lst (ps.map S ++ [S (l.drop bg)]))) := by rw [List.map_append]; exact n6
    refine hQ r _ _ (hf.snoc ?_ ?_ (List.take_append_drop _ _)) (by simp; omega) (Nw.pre (n4.b.trans (But.of n5.same)) (n4.s.same n5.same) (Nw.of (n4.s.same n5.same) n6'))
    · intro e
      have := congrArg List.length e
      rw [List.length_drop, List.length_nil] at this
      omega
    · rw [List.head?_drop]; exact hsp
section
variable {P : Program} {w : World} {K : PySem.W.Frag} {mg : Str → Option Value} {base : Heap}
theorem c_lcut (T : Tx w K mg base) : Callee P w K mg base CX0 3 "_law_cut" spLCut := by
  have c1 := c_next (P := P) T
  refine callee_of T 47 45 rfl rfl rfl rfl rfl fs_law_cut bd_law_cut (fun vs H Q E h => ?_) (fun X h1 h2 h3 h4 h5 C vs H Q E h => ?_)
  · obtain ⟨_, _, rfl, _⟩ := h; rfl
  · subst h1 h2 h3 h4 h5
    obtain ⟨a, l, rfl, hne, hl, hs, q⟩ := h
    exact b_lcut C c1 a l hne hl H hs Q q
end
/-! ## LoL16 -/
/-- what the law's own search for a cut knows before it looks at the place p -/
def CutI (R : T) (p c : Nat) : Prop :=
  (c = 0 ∧ ∀ k, 1 ≤ k → k < p → R[k]? ≠ some 32) ∨
  (1 ≤ c ∧ c < p ∧ R[c]? = some 32 ∧ ((c ≤ 60 ∧ p ≤ 61 ∧ ∀ k, c < k → k < p → R[k]? ≠ some 32) ∨ (60 < c ∧ p = c + 1 ∧ ∀ k, 1 ≤ k → k < c → R[k]? ≠ some 32)))
/-- .. and when it is done -/
def CutE (R : T) (c : Nat) : Prop := (c = 0 ∧ ¬ cutAt R 60 < R.length) ∨ (1 ≤ c ∧ c < R.length ∧ cutAt R 60 = c)
theorem cutAt_last {R : T} {c : Nat} (hn : 60 < R.length) (h1 : 1 ≤ c) (h2 : c ≤ 60) (h3 : R[c]? = some 32) (h4 : ∀ k, c < k → k ≤ 60 → R[k]? ≠ some 32) : cutAt R 60 = c := by
  unfold cutAt
  rw [if_neg (by omega), lastSp_of h1 h2 h3 h4]
theorem cutAt_next {R : T} {c : Nat} (h2 : 60 < c) (h3 : R[c]? = some 32) (h4 : ∀ k, 1 ≤ k → k < c → R[k]? ≠ some 32) : cutAt R 60 = c := by
  have hc : c < R.length := (List.getElem?_eq_some_iff.mp h3).1
  unfold cutAt
  rw [if_neg (by omega), lastSp_no (fun k a b => h4 k a (by omega))]
  dsimp only
  rw [nextSp_of (a := 60 + 1) (by omega) (by omega) h3 (fun k a b => h4 k (by omega) b)]
theorem cutAt_not {R : T} (h4 : ∀ k, 1 ≤ k → k < R.length → R[k]? ≠ some 32) : ¬ cutAt R 60 < R.length := by
  unfold cutAt
  by_cases hn : R.length ≤ 60
  · rw [if_pos hn]; omega
  · rw [if_neg hn, lastSp_no (fun k a b => h4 k a (by omega))]
    dsimp only
    rw [nextSp_no (fun k a b => by
      by_cases h : k < R.length
      · exact h4 k (by omega) h
      · rw [List.getElem?_eq_none (by omega)]; simp)]
    dsimp only; omega
theorem CutI.brk {R : T} {p c : Nat} (h : CutI R p c) (hn : 60 < R.length) (hp : 60 < p) (hpl : p ≤ R.length) (hc : 0 < c) : CutE R c := by
  rcases h with ⟨h1, _⟩ | ⟨h1, h2, h3, h4⟩
  · omega
  · rcases h4 with ⟨h5, h6, h7⟩ | ⟨h5, h6, h7⟩
    · exact .inr ⟨h1, by omega, cutAt_last hn h1 h5 h3 fun k a b => h7 k a (by omega)⟩
    · exact .inr ⟨h1, by omega, cutAt_next h5 h3 h7⟩
theorem CutI.fin {R : T} {p c : Nat} (h : CutI R p c) (hn : 60 < R.length) (hpl : p = R.length) : CutE R c := by
  by_cases hc : c = 0
  · rcases h with ⟨h1, h2⟩ | ⟨h1, _⟩
    · exact .inl ⟨h1, cutAt_not (fun k a b => h2 k a (by omega))⟩
    · omega
  · exact h.brk hn (by omega) (by omega) (by omega)
theorem CutE.short {R : T} (hn : R.length ≤ 60) : CutE R 0 := .inl ⟨rfl, by unfold cutAt; rw [if_pos hn]; omega⟩
theorem CutI.sp {R : T} {p c : Nat} (h : CutI R p c) (hp : 1 ≤ p) (hk : p ≤ 60 ∨ c = 0) (hs : R[p]? = some 32) : CutI R (p + 1) p := by
  by_cases h60 : p ≤ 60
  · exact .inr ⟨hp, by omega, hs, .inl ⟨h60, by omega, fun k a b => by omega⟩⟩
  · rcases h with ⟨h1, h2⟩ | ⟨h1, h2, h3, h4⟩
    · exact .inr ⟨hp, by omega, hs, .inr ⟨by omega, rfl, h2⟩⟩
    · omega
theorem CutI.no {R : T} {p c : Nat} (h : CutI R p c) (hk : p ≤ 60 ∨ c = 0) (hs : R[p]? ≠ some 32) : CutI R (p + 1) c := by
  rcases h with ⟨h1, h2⟩ | ⟨h1, h2, h3, h4⟩
  · refine .inl ⟨h1, fun k a b => ?_⟩
    by_cases e : k = p
    · rw [e]; exact hs
    · exact h2 k a (by omega)
  · rcases h4 with ⟨h5, h6, h7⟩ | ⟨h5, h6, h7⟩
    · refine .inr ⟨h1, by omega, h3, .inl ⟨h5, by omega, fun k a b => ?_⟩⟩
      by_cases e : k = p
      · rw [e]; exact hs
      · exact h7 k a (by omega)
    · omega
def spLFold : Sp := fun vs H Q _ => ∃ (l : T), vs = [S l] ∧ l.length ≤ 3000 ∧ ∀ p H', New1 H p (.lst ((fold60 l).map S)) H' → Q (.ref p) H'
theorem b_lfold {X : Cx} (C : Ctx X N_law_fold (defScope s_law_fold) 1) (l : T) (hl : l.length ≤ 3000) (H : Hp) (Q : VK) (hQ : ∀ p H', New1 H p (.lst ((fold60 l).map S)) H' → Q (.ref p) H') :
    B1 X (defBody s_law_fold) (start N_law_fold [S l]) H (fun _ H' => Q .non H') Q nobk nobk := by
  have hnm := nm_law_fold C
  obtain ⟨v0, v1, v2, v3, v4, v5, w0, w1, w2, w3, w4, w5, g1, g2⟩ := hnm
  conv => arg 2; whnf
  walk_at "go"
  rename_i p H1 n1
  have n1' : New1 H p (.lst (([] : List T).map S)) H1 := New1.of n1
  -- behind the loop
  have tail : ∀ σ H', (∃ (done : List T) (R : T) (o3 o4 o5 : Option V), σ = [some (S l), some (.ref p), some (S R), o3, o4, o5] ∧ New1 H p (.lst (done.map S)) H' ∧ fold60 l = done ++ fold60 R ∧ ¬ cutAt R 60 < R.length ∧ done.length ≤ 3000) →
      B1 X ((defBody s_law_fold).drop 3) σ H' (fun _ H' => Q .non H') Q nobk nobk := by
    rintro σ H2 ⟨done, R, o3, o4, o5, rfl, n2, hf, hc, hd⟩
    conv => arg 2; whnf
    walk_at "go"
    rename_i q H3 n3
    refine AddV.l (n3.same _ _ n2.at_) n3.at_ (line16 (by simp; omega)) fun r hr => ?_
    have n4 := New.of (o := .lst (done.map S ++ [S R])) hr
    refine hQ r _ (New1.pre (n2.same.trans n3.same) ?_)
    rw [hf, fold60_end hc, List.map_append]
    exact New1.of n4
  refine s_for_range1 C.toCok (by with_reducible assumption) (C.tx.free 71 rfl) ?_
  walk_at "go"
  refine LenW.S (line16 (by omega)) ?_
  refine ⟨l.length, rfl, by omega, fun i σ H' => ∃ (done : List T) (R : T) (o3 o4 o5 : Option V), σ = [some (S l), some (.ref p), some (S R), o3, o4, o5] ∧ New1 H p (.lst (done.map S)) H' ∧ fold60 l = done ++ fold60 R ∧ R.length + i ≤ l.length ∧ done.length ≤ i,
    ⟨[], l, none, none, none, rfl, n1', rfl, by omega, by simp⟩, ?_, ?_⟩
  · rintro i σ H2 hi ⟨done, R, o3, o4, o5, rfl, n2, hf, hR, hd⟩
    walk_at "go"
    refine S1.imp (nx := fun σ H' => ∃ (c : Nat) (o5 : Option V), σ = [some (S l), some (.ref p), some (S R), some (.int (i : Nat)), some (.int (c : Nat)), o5] ∧ H' = H2 ∧ CutE R c)
      (s_for_range2 C.toCok (by with_reducible assumption) (C.tx.free 71 rfl) ?_) ?_ (fun _ _ h => h) (fun _ _ h => h) (fun _ _ h => h)
    · walk_at "go"
      refine LenW.S (line16 (by omega)) ?_
      walk_at "go"
      refine ⟨⟨by decide, by decide, by omega, by omega⟩, fun j σ H' => ∃ (c : Nat) (o5 : Option V), σ = [some (S l), some (.ref p), some (S R), some (.int (i : Nat)), some (.int (c : Nat)), o5] ∧ H' = H2 ∧ ((R.length ≤ 60 ∧ c = 0) ∨ (60 < R.length ∧ CutI R (j + 1) c)),
        ⟨0, _, rfl, rfl, ?_⟩, ?_, ?_⟩
      · by_cases h : R.length ≤ 60
        · exact .inl ⟨h, rfl⟩
        · exact .inr ⟨by omega, .inl ⟨rfl, fun k a b => by omega⟩⟩
      · rintro j σ H3 hj ⟨c, o5, rfl, rfl, hc⟩
        have hjl : j + 1 < R.length := by omega
        have go : (60 < R.length ∧ CutI R (j + 1) c) → (¬ (60 < (1 + (j : Int)) ∧ 0 < (c : Int))) → B1 X ((match (defBody s_law_fold).getD 2 (.Pass ⟨0, 0, 0, 0⟩) with | .For _ _ b _ _ => (match b.getD 1 (.Pass ⟨0, 0, 0, 0⟩) with | .For _ _ b2 _ _ => b2.drop 1 | _ => []) | _ => []))
            [some (S l), some (.ref p), some (S R), some (.int (i : Nat)), some (.int (c : Nat)), some (.int (1 + (j : Int)))] H3 (fun σ H' => ∃ (c : Nat) (o5 : Option V), σ = [some (S l), some (.ref p), some (S R), some (.int (i : Nat)), some (.int (c : Nat)), o5] ∧ H' = H3 ∧ ((R.length ≤ 60 ∧ c = 0) ∨ (60 < R.length ∧ CutI R (j + 1 + 1) c))) Q
            (fun σ H' => ∃ (c : Nat) (o5 : Option V), σ = [some (S l), some (.ref p), some (S R), some (.int (i : Nat)), some (.int (c : Nat)), o5] ∧ H' = H3 ∧ CutE R c) (fun σ H' => ∃ (c : Nat) (o5 : Option V), σ = [some (S l), some (.ref p), some (S R), some (.int (i : Nat)), some (.int (c : Nat)), o5] ∧ H' = H3 ∧ ((R.length ≤ 60 ∧ c = 0) ∨ (60 < R.length ∧ CutI R (j + 1 + 1) c))) := by
          rintro ⟨hn, hI⟩ hnb
          conv => arg 2; whnf
          walk_at "go"
          refine IxV.s (z := mkS R) (c := R[j + 1]) (by rw [mkS_len]; exact line16 (by omega)) (by rw [show (1 + (j : Int)) = ((j + 1 : Nat) : Int) by omega]; exact atI_nat (List.getElem?_eq_getElem hjl)) ?_
          walk_at "go"
          refine Bth.d (fun h => ?_) (fun h => ?_)
          · have hsp2 : R[j + 1]? = some 32 := by
              rw [List.getElem?_eq_getElem hjl]
              have e : [R[j + 1]] = [32] := h.trans (by decide +kernel)
              rw [List.singleton_inj.mp e]
            walk_at "go"
            rw [show 1 + j = j + 1 by omega]
            exact .inr ⟨hn, hI.sp (by omega) (by omega) hsp2⟩
          · have hsp2 : R[j + 1]? ≠ some 32 := by
              rw [List.getElem?_eq_getElem hjl]
              intro e
              exact h (by rw [Option.some.inj e]; decide +kernel)
            walk_at "go"
            exact .inr ⟨hn, hI.no (by omega) hsp2⟩
        have shrt : R.length ≤ 60 → CutE R c := fun h => by
          rcases hc with ⟨h1, h2⟩ | ⟨h1, h2⟩
          · subst h2; exact CutE.short h1
          · omega
        have lng : ¬ R.length ≤ 60 → 60 < R.length ∧ CutI R (j + 1) c := fun h => by
          rcases hc with ⟨h1, h2⟩ | h2
          · omega
          · exact h2
        walk_at "go"
        refine Bth.d (fun h1 => ?_) (fun h1 => ?_)
        · walk_at "go"
          refine Bth.d (fun h2 => ?_) (fun h2 => ?_)
          · walk_at "go"
            rcases hc with ⟨h3, h4⟩ | ⟨h3, h4⟩
            · omega
            · exact h4.brk h3 (by omega) (by omega) (by omega)
          · walk_at "go"
            refine LenW.S (line16 (by omega)) ?_
            walk_at "go"
            refine Bth.d (fun h3 => ?_) (fun h3 => ?_)
            · walk_at "go"
              exact shrt (by omega)
            · refine b_nil ?_
              exact go (lng (by omega)) (by omega)
        · walk_at "go"
          refine LenW.S (line16 (by omega)) ?_
          walk_at "go"
          refine Bth.d (fun h3 => ?_) (fun h3 => ?_)
          · walk_at "go"
            exact shrt (by omega)
          · refine b_nil ?_
            exact go (lng (by omega)) (by omega)
      · rintro σ H3 ⟨c, o5, rfl, rfl, hc⟩
        refine ⟨c, o5, rfl, rfl, ?_⟩
        rcases hc with ⟨h1, h2⟩ | ⟨h1, h2⟩
        · subst h2; exact CutE.short h1
        · exact h2.fin h1 (by omega)
    · rintro σ H3 ⟨c, o5, rfl, rfl, hc⟩
      walk_at "go"
      refine Bth.d (fun h => ?_) (fun h => ?_)
      · refine b_cons (s_break ?_)
        rcases hc with ⟨h1, h2⟩ | ⟨h1, h2⟩
        · exact tail _ _ ⟨done, R, _, _, _, rfl, n2, hf, h2, by omega⟩
        · omega
      · rcases hc with ⟨h1, h2⟩ | ⟨h1, h2, h3⟩
        · omega
        walk_at "go"
        refine SlV.sTo c rfl (line16 (by omega)) ?_
        walk_at "go"
        rename_i H4 n4
        refine SlV.sFrom c rfl (line16 (by omega)) ?_
        walk_at "go"
        refine ⟨done ++ [R.take c], R.drop c, _, _, _, rfl, n4, ?_, by rw [List.length_drop]; omega, by simp; omega⟩
        rw [hf, fold60_step (by omega), h3]; simp
  · rintro σ H2 ⟨done, R, o3, o4, o5, rfl, n2, hf, hR, hd⟩
    have e : R = [] := List.length_eq_zero_iff.mp (by omega)
    subst e
    exact tail _ _ ⟨done, [], _, _, _, rfl, n2, hf, cutAt_not (fun k a b => by simp), by omega⟩
section
variable {P : Program} {w : World} {K : PySem.W.Frag} {mg : Str → Option Value} {base : Heap}
theorem c_lfold (T : Tx w K mg base) : Callee P w K mg base CX0 2 "_law_fold" spLFold := by
  refine callee_of T 49 47 rfl rfl rfl rfl rfl fs_law_fold bd_law_fold (fun vs H Q E h => ?_) (fun X h1 h2 h3 h4 h5 C vs H Q E h => ?_)
  · obtain ⟨_, rfl, _⟩ := h; rfl
  · obtain ⟨l, rfl, hl, q⟩ := h
    exact b_lfold C l hl H Q q
end
/-! ## LoL17 -/
/-- a word that the walk does not open -/
def Pst (P : Prop) : Prop := P
theorem b_tail_law_written {X : Cx} (C : Ctx X N_law_written (defScope s_law_written) 3) (c2 : CalleeX X CX0 3 "_law_text_of" spTextOf) (v : V) (x : LV) (p : Addr) (L : List T) (o2 : Option V) (Hb H : Hp) (ht : Tp Hb v (lvD x)) (hok : isLetter x = true) (n0 : New1 Hb p (.lst (L.map S)) H) (hL : L.length ≤ 30000) (Q : VK)
    (hQ : ∀ r H', New1 Hb r (.lst ((L ++ ([] :: (textRows (textOf x.body) ++ [[46]]))).map S)) H' → Q (.ref r) H') :
    B1 X ((defBody s_law_written).drop 2) [some v, some (.ref p), o2, none] H (fun _ H' => Q .non H') Q nobk nobk := by
  have hn := nm_law_written C
  obtain ⟨v0, v1, v2, w0, w1, w2, g1, g2, g3⟩ := hn
  obtain ⟨p1, p2, p3, p4, p5, p6⟩ := letter_parts hok
  obtain ⟨va, y4, y5, rfl, hva, t4, t5⟩ := lv_inv ht
  have e0 : tl (Str.ofString "") = [] := by decide +kernel
  have e46 : tl (Str.ofString ".") = [46] := by decide +kernel
  have last : ∀ (r : Addr) (M : List T) (o3 : Option V) (H' : Hp), New1 Hb r (.lst (M.map S)) H' → M = L ++ [[]] ++ textRows (textOf x.body) → M.length ≤ 40000 → B1 X ((defBody s_law_written).drop 4) [some (.ref va), some (.ref r), o3, none] H' (fun _ H' => Q .non H') Q nobk nobk := by
    intro r M o3 H1 n1 hM hM2
    conv => arg 2; whnf
    walk_at "go"
    rename_i q H3 n3
    refine AddV.l (n3.same _ _ n1.at_) n3.at_ (line16 (by simp; omega)) fun r2 hr2 => ?_
    have n4 := New.of (o := .lst (M.map S ++ [S (tl (Str.ofString "."))])) hr2
    refine hQ r2 _ (New1.pre (n1.same.trans n3.same) ?_)
    have eM : (L ++ ([] :: (textRows (textOf x.body) ++ [[46]]))).map S = M.map S ++ [S (tl (Str.ofString "."))] := by rw [hM, e46]; simp
    rw [eM]
    exact New1.of n4
  conv => arg 2; whnf
  refine b_cons ?_
  refine s_app _ (by with_reducible assumption) (by rfl) n0 (by omega) ?_
  refine e_strS ⟨_, rfl, Same.refl _, fun H1 n1 => ?_⟩
  rw [e0] at n1
  refine b_cons (S1.imp (nx := fun σ H' => Pst (∃ (r : Addr) (M : List T) (o3 : Option V), σ = [some (.ref va), some (.ref r), o3, none] ∧ New1 Hb r (.lst (M.map S)) H' ∧ M = L ++ [[]] ++ textRows (textOf x.body) ∧ M.length ≤ 40000)) ?_ (by rintro σ H' ⟨r, M, o3, rfl, n, e, hl⟩; exact last r M o3 H' n e hl) (fun _ _ h => h) (fun _ _ h => h) (fun _ _ h => h))
  walk_at "go"
  cases htx : textOf x.body with
  | none =>
    refine txt_none t5 n1.same p5 htx fun H2 s2 => ?_
    have n2 := n1.post s2
    walk_at "go"
    exact ⟨p, L ++ [[]], _, rfl, n2, by simp [textRows], by simp; omega⟩
  | some z =>
    have hz : z.length ≤ 400 := by
      have hb := p5
      revert htx hb
      cases x.body with
      | say o => intro hz hb; rw [show o = some z from hz] at hb; exact textL hb
      | reply e r o => intro hz hb; unfold isBody at hb; simp only [Bool.and_eq_true] at hb; rw [show o = some z from hz] at hb; exact textL hb.2
      | _ => intro hz; cases hz
    refine txt_some t5 n1.same p5 htx fun H2 s2 => ?_
    have n2 := n1.post s2
    walk_at "go"
    refine Bth.ndF (by intro e; cases e) ?_
    walk_at "go"
    refine e_lcL C [(("_law_row" : Str), 3)] (by decide +kernel) ?_
    walk_at "go"
    refine txt_some t5 n2.same p5 htx fun H3 s3 => ?_
    have n3 := n2.post s3
    walk_at "go"
    refine ⟨by rw [mkS_len]; exact line16 (by omega), fun q H4 n4 => ?_⟩
    rw [show (mkS (tl (Str.ofString "\n"))) = mkS [10] by decide +kernel, split1 10 (by decide), strs_S] at n4
    have hcnt := spl1_count z
    have hcl := count_len z
    obtain ⟨rs, hrs⟩ : ∃ rs, spl1 10 z = rs := ⟨_, rfl⟩
    have hsm := (spl1_sm 10 z).2
    rw [hrs] at n4 hcnt hsm
    refine ⟨q, rs.map S, rfl, SqL.of n4.at_, fun D H5 n5 => ?_⟩
    refine ⟨fun i H' => New1 H4 D (.lst (((rs.map fun r => 124 :: r).take i).map S)) H', New1.of n5, fun i H' _ n => SqL.of (n.same _ _ n4.at_), ?_, ?_⟩
    · rintro i v H' _ hi n ⟨rfl, hv⟩ Xb hX CB
      rw [List.length_map] at hi
      have hv2 : rs[i]? = some rs[i] := List.getElem?_eq_getElem hi
      rw [List.getElem?_map, hv2] at hv
      cases hv
      refine g_name (blk_W C hX (x := "_law_row") (i := 3) (by decide +kernel)) ⟨rfl, fun Xb hX CB => ?_⟩
      have vp : Slot Xb 3 ("_law_row" : Str) := blk_V C hX (by decide +kernel)
      have hlr := hsm _ (List.getElem_mem hi)
      walk_at "go"
      rw [show tl (Str.ofString "|") = [124] by decide +kernel]
      refine AddV.S (line16 (by simp; omega)) ?_
      refine ⟨_, n.at_, Nat.lt_of_le_of_lt (show _ ≤ 500 by rw [List.length_map, List.length_take, List.length_map]; omega) (by decide), ?_⟩
      show New1 H4 D (.lst (((rs.map fun r => 124 :: r).take (i + 1)).map S)) _
      have e1 : (rs.map fun r => 124 :: r).take (i + 1) = (rs.map fun r => 124 :: r).take i ++ [124 :: rs[i]] := by
        rw [List.take_add_one, List.getElem?_map, hv2]; rfl
      rw [e1, List.map_append]
      exact n.up
    · intro H' n
      rw [List.length_map, show rs.length = (rs.map fun r => 124 :: r).length by simp, List.take_length] at n
      have hp' : H' p = some (.lst ((L ++ [[]]).map S)) := (n4.same.trans n.same) _ _ n3.at_
      refine AddV.l hp' n.at_ (line16 (by simp; omega)) fun r2 hr2 => ?_
      have n6 := New.of (o := .lst ((L ++ [[]]).map S ++ (rs.map fun r => 124 :: r).map S)) hr2
      rw [← List.map_append] at n6 ⊢
      refine b_nil ⟨r2, _, _, rfl, New1.pre (n3.same.trans (n4.same.trans n.same)) (New1.of n6), by rw [← hrs]; rfl, by simp; omega⟩
theorem b_tail_law_mail {X : Cx} (C : Ctx X N_law_mail (defScope s_law_mail) 3) (c2 : CalleeX X CX0 3 "_law_text_of" spTextOf) (v : V) (x : LV) (p : Addr) (L : List T) (a : V) (o2 : Option V) (Hb H : Hp) (ht : Tp Hb v (lvD x)) (hok : isLetter x = true) (n0 : New1 Hb p (.lst (L.map S)) H) (hL : L.length ≤ 30000) (Q : VK)
    (hQ : ∀ r H', New1 Hb r (.lst ((L ++ ([] :: (textRows (textOf x.body) ++ [[46]]))).map S)) H' → Q (.ref r) H') :
    B1 X ((defBody s_law_mail).drop 2) [some a, some v, some (.ref p), o2, none] H (fun _ H' => Q .non H') Q nobk nobk := by
  have hn := nm_law_mail C
  obtain ⟨v0, v1, v2, v3, w0, w1, w2, w3, g1, g2, g3⟩ := hn
  obtain ⟨p1, p2, p3, p4, p5, p6⟩ := letter_parts hok
  obtain ⟨va, y4, y5, rfl, hva, t4, t5⟩ := lv_inv ht
  have e0 : tl (Str.ofString "") = [] := by decide +kernel
  have e46 : tl (Str.ofString ".") = [46] := by decide +kernel
  have last : ∀ (r : Addr) (M : List T) (o3 : Option V) (H' : Hp), New1 Hb r (.lst (M.map S)) H' → M = L ++ [[]] ++ textRows (textOf x.body) → M.length ≤ 40000 → B1 X ((defBody s_law_mail).drop 4) [some a, some (.ref va), some (.ref r), o3, none] H' (fun _ H' => Q .non H') Q nobk nobk := by
    intro r M o3 H1 n1 hM hM2
    conv => arg 2; whnf
    walk_at "go"
    rename_i q H3 n3
    refine AddV.l (n3.same _ _ n1.at_) n3.at_ (line16 (by simp; omega)) fun r2 hr2 => ?_
    have n4 := New.of (o := .lst (M.map S ++ [S (tl (Str.ofString "."))])) hr2
    refine hQ r2 _ (New1.pre (n1.same.trans n3.same) ?_)
    have eM : (L ++ ([] :: (textRows (textOf x.body) ++ [[46]]))).map S = M.map S ++ [S (tl (Str.ofString "."))] := by rw [hM, e46]; simp
    rw [eM]
    exact New1.of n4
  conv => arg 2; whnf
  refine b_cons ?_
  refine s_app _ (by with_reducible assumption) (by rfl) n0 (by omega) ?_
  refine e_strS ⟨_, rfl, Same.refl _, fun H1 n1 => ?_⟩
  rw [e0] at n1
  refine b_cons (S1.imp (nx := fun σ H' => Pst (∃ (r : Addr) (M : List T) (o3 : Option V), σ = [some a, some (.ref va), some (.ref r), o3, none] ∧ New1 Hb r (.lst (M.map S)) H' ∧ M = L ++ [[]] ++ textRows (textOf x.body) ∧ M.length ≤ 40000)) ?_ (by rintro σ H' ⟨r, M, o3, rfl, n, e, hl⟩; exact last r M o3 H' n e hl) (fun _ _ h => h) (fun _ _ h => h) (fun _ _ h => h))
  walk_at "go"
  cases htx : textOf x.body with
  | none =>
    refine txt_none t5 n1.same p5 htx fun H2 s2 => ?_
    have n2 := n1.post s2
    walk_at "go"
    exact ⟨p, L ++ [[]], _, rfl, n2, by simp [textRows], by simp; omega⟩
  | some z =>
    have hz : z.length ≤ 400 := by
      have hb := p5
      revert htx hb
      cases x.body with
      | say o => intro hz hb; rw [show o = some z from hz] at hb; exact textL hb
      | reply e r o => intro hz hb; unfold isBody at hb; simp only [Bool.and_eq_true] at hb; rw [show o = some z from hz] at hb; exact textL hb.2
      | _ => intro hz; cases hz
    refine txt_some t5 n1.same p5 htx fun H2 s2 => ?_
    have n2 := n1.post s2
    walk_at "go"
    refine Bth.ndF (by intro e; cases e) ?_
    walk_at "go"
    refine e_lcL C [(("_law_row" : Str), 4)] (by decide +kernel) ?_
    walk_at "go"
    refine txt_some t5 n2.same p5 htx fun H3 s3 => ?_
    have n3 := n2.post s3
    walk_at "go"
    refine ⟨by rw [mkS_len]; exact line16 (by omega), fun q H4 n4 => ?_⟩
    rw [show (mkS (tl (Str.ofString "\n"))) = mkS [10] by decide +kernel, split1 10 (by decide), strs_S] at n4
    have hcnt := spl1_count z
    have hcl := count_len z
    obtain ⟨rs, hrs⟩ : ∃ rs, spl1 10 z = rs := ⟨_, rfl⟩
    have hsm := (spl1_sm 10 z).2
    rw [hrs] at n4 hcnt hsm
    refine ⟨q, rs.map S, rfl, SqL.of n4.at_, fun D H5 n5 => ?_⟩
    refine ⟨fun i H' => New1 H4 D (.lst (((rs.map fun r => 124 :: r).take i).map S)) H', New1.of n5, fun i H' _ n => SqL.of (n.same _ _ n4.at_), ?_, ?_⟩
    · rintro i v H' _ hi n ⟨rfl, hv⟩ Xb hX CB
      rw [List.length_map] at hi
      have hv2 : rs[i]? = some rs[i] := List.getElem?_eq_getElem hi
      rw [List.getElem?_map, hv2] at hv
      cases hv
      refine g_name (blk_W C hX (x := "_law_row") (i := 4) (by decide +kernel)) ⟨rfl, fun Xb hX CB => ?_⟩
      have vp : Slot Xb 4 ("_law_row" : Str) := blk_V C hX (by decide +kernel)
      have hlr := hsm _ (List.getElem_mem hi)
      walk_at "go"
      rw [show tl (Str.ofString "|") = [124] by decide +kernel]
      refine AddV.S (line16 (by simp; omega)) ?_
      refine ⟨_, n.at_, Nat.lt_of_le_of_lt (show _ ≤ 500 by rw [List.length_map, List.length_take, List.length_map]; omega) (by decide), ?_⟩
      show New1 H4 D (.lst (((rs.map fun r => 124 :: r).take (i + 1)).map S)) _
      have e1 : (rs.map fun r => 124 :: r).take (i + 1) = (rs.map fun r => 124 :: r).take i ++ [124 :: rs[i]] := by
        rw [List.take_add_one, List.getElem?_map, hv2]; rfl
      rw [e1, List.map_append]
      exact n.up
    · intro H' n
      rw [List.length_map, show rs.length = (rs.map fun r => 124 :: r).length by simp, List.take_length] at n
      have hp' : H' p = some (.lst ((L ++ [[]]).map S)) := (n4.same.trans n.same) _ _ n3.at_
      refine AddV.l hp' n.at_ (line16 (by simp; omega)) fun r2 hr2 => ?_
      have n6 := New.of (o := .lst ((L ++ [[]]).map S ++ (rs.map fun r => 124 :: r).map S)) hr2
      rw [← List.map_append] at n6 ⊢
      refine b_nil ⟨r2, _, _, rfl, New1.pre (n3.same.trans (n4.same.trans n.same)) (New1.of n6), by rw [← hrs]; rfl, by simp; omega⟩
/-! ## LoL18 -/
def delH (H : Hp) (p : Addr) : Hp := fun b => if b = p then none else H b
theorem delH_ne {H : Hp} {p b : Addr} (h : b ≠ p) : delH H p b = H b := if_neg h
theorem delH_eq {H : Hp} {p : Addr} : delH H p p = none := if_pos rfl
theorem New1.own {H : Hp} {p : Addr} {o : HO} (h : H p = some o) : New1 (delH H p) p o H := by
  refine ⟨delH_eq, fun b u e => ?_, h⟩
  by_cases z : b = p
  · subst z; rw [delH_eq] at e; cases e
  · rw [delH_ne z] at e; exact e
theorem Keep.del {H : Hp} {p : Addr} {xs : List V} (h : H p = some (.lst xs)) : Keep H (delH H p) :=
  ⟨fun b ys e => by rw [delH_ne (by rintro rfl; rw [h] at e; cases e)]; exact e, fun b C dx fs e => by rw [delH_ne (by rintro rfl; rw [h] at e; cases e)]; exact e⟩
theorem Nw.own {a p r : Addr} {H H1 H' : Hp} {o o' : HO} (n : Nw a H p o H1) (m : New1 (delH H1 p) r o' H') : Nw a H r o' H' := by
  have st : Strm (delH H1 p) a := by
    obtain ⟨d, q, e, k⟩ := n.s
    exact ⟨d, q, by rw [delH_ne (fun z => n.n z.symm)]; exact e, k⟩
  refine ⟨⟨fun b u z e => ?_⟩, st.same m.same, ?_, ?_, m.at_⟩
  · refine m.same b u ?_
    rw [delH_ne (ne_of_none e n.f)]; exact n.b.k b u z e
  · by_cases z : r = p
    · rw [z]; exact n.f
    · have := m.fr
      rw [delH_ne z] at this
      exact n.s.free n.b this
  · rintro rfl
    obtain ⟨d, q, e, k⟩ := st
    rw [m.fr] at e; cases e
theorem flat_len : ∀ {ls : List T}, (∀ l ∈ ls, l.length ≤ 3000) → ((ls.map fold60).flatten).length ≤ ls.length * 3001
  | [], _ => by simp
  | l :: ls, h => by
    have h1 := flat_len fun m hm => h m (List.mem_cons_of_mem _ hm)
    have h2 : (fold60 l).length ≤ l.length + 1 := fold60_len _ l
    have h3 := h l (by simp)
    rw [List.map_cons, List.flatten_cons, List.length_append, List.length_cons]
    omega
theorem hdr_cnt (x : LV) : (hdr x).length ≤ 7 := by
  have := bodyL_len x.body
  show ([hFrom ++ refW (x.author, x.number), hStamp ++ numI x.stamp, hSeen ++ joinL cs (x.seen.map refW), hKind ++ LO.kindOf x.body] ++ bodyL x.body).length ≤ 7
  rw [List.length_append]; simp; omega
theorem folds_snoc {l : T} {ps : List T} (h : Folds l ps) : ∀ {ls : List T} {pss : List (List T)}, FoldsAll ls pss → FoldsAll (ls ++ [l]) (pss ++ [ps])
  | _, _, .nil => .cons h .nil
  | _, _, .cons a r => .cons a (folds_snoc h r)
def spLWritten : Sp := fun vs H Q _ => ∃ (v : V) (x : LV), vs = [v] ∧ Tp H v (lvD x) ∧ isLetter x = true ∧ x.seen.length ≤ 60 ∧ ∀ p H', New1 H p (.lst ((mailL x).map S)) H' → Q (.ref p) H'
theorem b_lwritten {X : Cx} (C : Ctx X N_law_written (defScope s_law_written) 3) (c1 : CalleeX X CX0 3 "_law_header" spLHeader) (c2 : CalleeX X CX0 3 "_law_text_of" spTextOf) (c3 : CalleeX X CX0 3 "_law_fold" spLFold) (v : V) (x : LV) (H : Hp) (ht : Tp H v (lvD x)) (hok : isLetter x = true) (hl : x.seen.length ≤ 60) (Q : VK)
    (hQ : ∀ p H', New1 H p (.lst ((mailL x).map S)) H' → Q (.ref p) H') :
    B1 X (defBody s_law_written) (start N_law_written [v]) H (fun _ H' => Q .non H') Q nobk nobk := by
  have hn := nm_law_written C
  obtain ⟨v0, v1, v2, w0, w1, w2, g1, g2, g3⟩ := hn
  have hlen := hdr_len hok hl
  have hcnt := hdr_cnt x
  conv => arg 2; whnf
  walk_at "go"
  rename_i p0 H1 n1
  refine s_for_list C.toCok ?_
  walk_at "go"
  refine ⟨v, x, rfl, ht.mono n1.keep, hok, hl, fun r H2 n2 => ?_⟩
  have n12 : New1 H p0 (.lst (((([] : List T).map fold60).flatten).map S)) H2 := (New1.of n1).post n2.same
  refine ⟨r, (hdr x).map S, rfl, SqL.of n2.at_, fun i σ H' => ∃ p o2, σ = [some v, some (.ref p), o2, none] ∧ New1 H p (.lst ((((hdr x).take i).map fold60).flatten.map S)) H' ∧ H' r = some (.lst ((hdr x).map S)),
    ⟨p0, none, rfl, n12, n2.at_⟩, fun i σ H' _ ⟨_, _, _, _, h⟩ => SqL.of h, ?_, ?_⟩
  · rintro i u σ H3 hi ⟨p, o2, rfl, n3, hr3⟩
    obtain ⟨z, hz, rfl⟩ : ∃ z, (hdr x)[i]? = some z ∧ S z = u := by
      rw [List.getElem?_map] at hi
      cases e : (hdr x)[i]? with
      | none => rw [e] at hi; cases hi
      | some z => rw [e] at hi; exact ⟨z, rfl, Option.some.inj hi⟩
    have hzm := List.mem_of_getElem? hz
    walk_at "go"
    refine ⟨hlen z hzm, fun q H4 n4 => ?_⟩
    have hl1 : (((hdr x).take i).map fold60).flatten.length ≤ 7 * 3001 := Nat.le_trans (flat_len fun l hm => hlen l (List.mem_of_mem_take hm)) (Nat.mul_le_mul_right _ (by rw [List.length_take]; omega))
    have hl2 : (fold60 z).length ≤ 3001 := by
      have h2 : (fold60 z).length ≤ z.length + 1 := fold60_len _ z
      have := hlen z hzm
      omega
    refine AddV.l (n4.same _ _ n3.at_) n4.at_ (line16 (by simp only [List.length_map]; omega)) fun r2 hr2 => ?_
    have n5 := New.of (o := .lst ((((hdr x).take i).map fold60).flatten.map S ++ (fold60 z).map S)) hr2
    refine b_nil ⟨r2, _, rfl, ?_, n5.same _ _ (n4.same _ _ hr3)⟩
    have e1 : (((hdr x).take (i + 1)).map fold60).flatten.map S = (((hdr x).take i).map fold60).flatten.map S ++ (fold60 z).map S := by
      rw [List.take_add_one, hz, List.map_append, List.flatten_append, List.map_append]; simp
    rw [e1]
    exact New1.pre (n3.same.trans n4.same) (New1.of n5)
  · rintro σ H3 ⟨p, o2, rfl, n3, hr3⟩
    rw [List.length_map, List.take_length] at n3
    have hl1 : ((hdr x).map fold60).flatten.length ≤ 30000 := Nat.le_trans (flat_len hlen) (Nat.le_trans (Nat.mul_le_mul_right _ hcnt) (by decide))
    exact b_tail_law_written C c2 v x p _ o2 H H3 ht hok n3 hl1 Q hQ
def spLMail : Sp := fun vs H Q _ => ∃ (a : Addr) (v : V) (x : LV), vs = [.ref a, v] ∧ Strm H a ∧ Tp H v (lvD x) ∧ isLetter x = true ∧ wfB x.body = true ∧ x.seen.length ≤ 60 ∧ ∀ p M H', IsMail x M → Nw a H p (.lst (M.map S)) H' → Q (.ref p) H'
theorem b_lmail {X : Cx} (C : Ctx X N_law_mail (defScope s_law_mail) 3) (c1 : CalleeX X CX0 3 "_law_header" spLHeader) (c2 : CalleeX X CX0 3 "_law_text_of" spTextOf) (c3 : CalleeX X CX0 3 "_law_cut" spLCut) (a : Addr) (v : V) (x : LV) (H : Hp) (hs : Strm H a) (ht : Tp H v (lvD x)) (hok : isLetter x = true) (hw : wfB x.body = true) (hl : x.seen.length ≤ 60) (Q : VK)
    (hQ : ∀ p M H', IsMail x M → Nw a H p (.lst (M.map S)) H' → Q (.ref p) H') :
    B1 X (defBody s_law_mail) (start N_law_mail [.ref a, v]) H (fun _ H' => Q .non H') Q nobk nobk := by
  have hn := nm_law_mail C
  obtain ⟨v0, v1, v2, v3, w0, w1, w2, w3, g1, g2, g3⟩ := hn
  have hlen := hdr_len hok hl
  have hcnt := hdr_cnt x
  conv => arg 2; whnf
  walk_at "go"
  rename_i p0 H1 n1
  refine s_for_list C.toCok ?_
  walk_at "go"
  refine ⟨v, x, rfl, ht.mono n1.keep, hok, hl, fun r H2 n2 => ?_⟩
  have n12 : Nw a H p0 (.lst (([] : List (List T)).flatten.map S)) H2 := (Nw.of hs n1).same n2.same
  have hra : r ≠ a := by
    intro e
    obtain ⟨_, _, e2, _⟩ := hs.same n1.same
    rw [e] at n2; rw [n2.fr] at e2; cases e2
  refine ⟨r, (hdr x).map S, rfl, SqL.of n2.at_, fun i σ H' => ∃ p pss o3, σ = [some (.ref a), some v, some (.ref p), o3, none] ∧ Nw a H p (.lst ((pss : List (List T)).flatten.map S)) H' ∧ FoldsAll ((hdr x).take i) pss ∧ pss.flatten.length ≤ i * 3001 ∧ H' r = some (.lst ((hdr x).map S)),
    ⟨p0, [], none, rfl, n12, .nil, by simp, n2.at_⟩, fun i σ H' _ ⟨_, _, _, _, _, _, _, h⟩ => SqL.of h, ?_, ?_⟩
  · rintro i u σ H3 hi ⟨p, pss, o3, rfl, n3, hfa, hfl, hr3⟩
    obtain ⟨z, hz, rfl⟩ : ∃ z, (hdr x)[i]? = some z ∧ S z = u := by
      rw [List.getElem?_map] at hi
      cases e : (hdr x)[i]? with
      | none => rw [e] at hi; cases hi
      | some z => rw [e] at hi; exact ⟨z, rfl, Option.some.inj hi⟩
    have hzm := List.mem_of_getElem? hz
    have hi7 : i < (hdr x).length := (List.getElem?_eq_some_iff.mp hz).1
    have hi30 : i * 3001 ≤ 7 * 3001 := Nat.mul_le_mul_right _ (by omega)
    have hz3 := hlen z hzm
    walk_at "go"
    refine ⟨a, z, rfl, (hdr_starts x z hzm).1, hz3, n3.s, fun q ps H4 hf hpl n4 => ?_⟩
    have n34 := n3.draw n4.b n4.s
    refine AddV.l n34.at_ n4.at_ (line16 (by simp only [List.length_map]; omega)) fun r2 hr2 => ?_
    have n5 := New.of (o := .lst (pss.flatten.map S ++ ps.map S)) hr2
    refine b_nil ⟨r2, pss ++ [ps], _, rfl, ?_, ?_, ?_, n5.same _ _ (n4.b.k _ _ hra hr3)⟩
    · have e1 : (pss ++ [ps]).flatten.map S = pss.flatten.map S ++ ps.map S := by
        rw [List.flatten_append, List.map_append]; simp
      rw [e1]
      exact Nw.pre n34.b n4.s (Nw.of n4.s n5)
    · rw [List.take_add_one, hz]
      exact folds_snoc hf hfa
    · have e2 : (pss ++ [ps]).flatten = pss.flatten ++ ps := by rw [List.flatten_append]; simp
      rw [e2, List.length_append]; omega
  · rintro σ H3 ⟨p, pss, o3, rfl, n3, hfa, hfl, hr3⟩
    rw [List.length_map] at hfl
    rw [List.length_map, List.take_length] at hfa
    have hl1 : pss.flatten.length ≤ 30000 := Nat.le_trans hfl (Nat.le_trans (Nat.mul_le_mul_right _ hcnt) (by decide))
    refine b_tail_law_mail C c2 v x p _ (.ref a) o3 (delH H3 p) H3 ((ht.mono (n3.b.keep hs)).mono (Keep.del n3.at_)) hok (New1.own n3.at_) hl1 Q fun r4 H4 n4 => ?_
    exact hQ r4 _ H4 (mail_folded hok hw hfa) (n3.own n4)
section
variable {P : Program} {w : World} {K : PySem.W.Frag} {mg : Str → Option Value} {base : Heap}
theorem c_lwritten (T : Tx w K mg base) : Callee P w K mg base CX0 4 "_law_written" spLWritten := by
  have c1 := c_lheader (P := P) T
  have c2 := (c_ltext_of (P := P) T).mono (by decide : 2 ≤ 3)
  have c3 := (c_lfold (P := P) T).mono (by decide : 2 ≤ 3)
  refine callee_of T 50 48 rfl rfl rfl rfl rfl fs_law_written bd_law_written (fun vs H Q E h => ?_) (fun X h1 h2 h3 h4 h5 C vs H Q E h => ?_)
  · obtain ⟨_, _, rfl, _⟩ := h; rfl
  · subst h1 h2 h3 h4 h5
    obtain ⟨v, x, rfl, ht, hok, hl, q⟩ := h
    exact b_lwritten C c1 c2 c3 v x H ht hok hl Q q
theorem c_lmail (T : Tx w K mg base) : Callee P w K mg base CX0 4 "_law_mail" spLMail := by
  have c1 := c_lheader (P := P) T
  have c2 := (c_ltext_of (P := P) T).mono (by decide : 2 ≤ 3)
  have c3 := c_lcut (P := P) T
  refine callee_of T 48 46 rfl rfl rfl rfl rfl fs_law_mail bd_law_mail (fun vs H Q E h => ?_) (fun X h1 h2 h3 h4 h5 C vs H Q E h => ?_)
  · obtain ⟨_, _, _, rfl, _⟩ := h; rfl
  · subst h1 h2 h3 h4 h5
    obtain ⟨a, v, x, rfl, hs, ht, hok, hw, hl, q⟩ := h
    exact b_lmail C c1 c2 c3 a v x H hs ht hok hw hl Q q
end
/-! ## LoL19 -/
/-- lists of lines, one by one -/
inductive LsAt (H : Hp) : List Addr → List (List T) → Prop
  | nil : LsAt H [] []
  | cons {p : Addr} {M : List T} {ps : List Addr} {Ms : List (List T)} : H p = some (.lst (M.map S)) → LsAt H ps Ms → LsAt H (p :: ps) (M :: Ms)
theorem LsAt.imp {H H' : Hp} : ∀ {ps : List Addr} {Ms : List (List T)}, (∀ p ∈ ps, ∀ o, H p = some o → H' p = some o) → LsAt H ps Ms → LsAt H' ps Ms
  | _, _, _, .nil => .nil
  | _, _, k, .cons h r => .cons (k _ (by simp) _ h) (r.imp fun p hp => k p (List.mem_cons_of_mem _ hp))
theorem LsAt.mono {H H' : Hp} {ps : List Addr} {Ms : List (List T)} (k : Same H H') (h : LsAt H ps Ms) : LsAt H' ps Ms := h.imp fun p _ o e => k p o e
theorem LsAt.len {H : Hp} : ∀ {ps : List Addr} {Ms : List (List T)}, LsAt H ps Ms → ps.length = Ms.length
  | _, _, .nil => rfl
  | _, _, .cons _ r => congrArg (· + 1) r.len
theorem LsAt.get {H : Hp} : ∀ {ps : List Addr} {Ms : List (List T)} {i : Nat} {p : Addr}, LsAt H ps Ms → ps[i]? = some p → ∃ M, Ms[i]? = some M ∧ H p = some (.lst (M.map S))
  | _, _, i, p, .nil, h => by simp at h
  | _, _, 0, p, .cons h r, e => by simp at e; subst e; exact ⟨_, by simp, h⟩
  | _, _, i + 1, p, .cons h r, e => by
    obtain ⟨x, h1, h2⟩ := r.get (i := i) (by simpa using e)
    exact ⟨x, by simpa using h1, h2⟩
theorem LsAt.at {H : Hp} : ∀ {ps : List Addr} {Ms : List (List T)} {p : Addr}, LsAt H ps Ms → p ∈ ps → ∃ M : List T, H p = some (.lst (M.map S))
  | _, _, p, .nil, h => by cases h
  | _, _, p, .cons h r, e => by
    rcases List.mem_cons.mp e with rfl | e
    · exact ⟨_, h⟩
    · exact r.at e
theorem LsAt.snoc {H : Hp} {p : Addr} {M : List T} (h : H p = some (.lst (M.map S))) : ∀ {ps : List Addr} {Ms : List (List T)}, LsAt H ps Ms → LsAt H (ps ++ [p]) (Ms ++ [M])
  | _, _, .nil => .cons h .nil
  | _, _, .cons a r => .cons a (r.snoc h)
def endsV (Ms : List (List T)) (n : Nat) : List V := (List.range n).map fun k => V.int (endAt Ms k : Nat)
theorem endsV_succ (Ms : List (List T)) (n : Nat) : endsV Ms (n + 1) = endsV Ms n ++ [V.int (endAt Ms n : Nat)] := by unfold endsV; rw [List.range_succ, List.map_append]; rfl
def spLJoined : Sp := fun vs H Q _ => ∃ (m : Addr) (ps : List Addr) (Ms : List (List T)), vs = [.ref m] ∧ H m = some (.lst (ps.map V.ref)) ∧ LsAt H ps Ms ∧ Ms.length ≤ 10 ∧ (txt Ms).length ≤ 360000 ∧
  ∀ q e H', Same H H' → H e = none → H' q = some (.tup [S (txt Ms), .ref e]) → H' e = some (.lst (endsV Ms (Ms.length + 1))) → Q (.ref q) H'
theorem txt_take_le (Ms : List (List T)) (i : Nat) : (txt (Ms.take i)).length ≤ (txt Ms).length := endAt_le Ms i
theorem b_ljoined {X : Cx} (C : Ctx X N_law_joined (defScope s_law_joined) 1) (m : Addr) (ps : List Addr) (Ms : List (List T)) (H : Hp) (hm : H m = some (.lst (ps.map V.ref))) (hps : LsAt H ps Ms) (hn : Ms.length ≤ 10) (ht : (txt Ms).length ≤ 360000) (Q : VK)
    (hQ : ∀ q e H', Same H H' → H e = none → H' q = some (.tup [S (txt Ms), .ref e]) → H' e = some (.lst (endsV Ms (Ms.length + 1))) → Q (.ref q) H') :
    B1 X (defBody s_law_joined) (start N_law_joined [.ref m]) H (fun _ H' => Q .non H') Q nobk nobk := by
  have hnm := nm_law_joined C
  obtain ⟨v0, v1, v2, v3, w0, w1, w2, w3, g1⟩ := hnm
  have hlen := hps.len
  have e0 : tl (Str.ofString "") = [] := by decide +kernel
  conv => arg 2; whnf
  walk_at "go"
  rename_i e H1 n1
  have n1' : New1 H e (.lst (endsV Ms 1)) H1 := New1.of n1
  refine s_for_list C.toCok ?_
  walk_at "go"
  refine ⟨m, ps.map V.ref, rfl, SqL.of (n1.same _ _ hm), fun i σ H' => ∃ o3, σ = [some (.ref m), some (.ref e), some (S (txt (Ms.take i))), o3, none] ∧ New1 H e (.lst (endsV Ms (i + 1))) H', ⟨none, by rw [e0]; rfl, n1'⟩,
    fun i σ H' _ ⟨_, _, n⟩ => SqL.of (n.same _ _ hm), ?_, ?_⟩
  · rintro i u σ H2 hi ⟨o3, rfl, n2⟩
    obtain ⟨p, hp, rfl⟩ : ∃ p, ps[i]? = some p ∧ V.ref p = u := by
      rw [List.getElem?_map] at hi
      cases e : ps[i]? with
      | none => rw [e] at hi; cases hi
      | some z => rw [e] at hi; exact ⟨z, rfl, Option.some.inj hi⟩
    obtain ⟨M, hM, hpM⟩ := hps.get hp
    have hi10 : i < Ms.length := (List.getElem?_eq_some_iff.mp hM).1
    have hpM2 : H2 p = some (.lst (M.map S)) := n2.same _ _ hpM
    have htk : txt (Ms.take (i + 1)) = txt (Ms.take i) ++ joinN M := by
      rw [List.take_add_one, hM]
      show txt (Ms.take i ++ [M]) = _
      rw [txt_app, txt_cons]; simp [txt, joinN]
    have hle := txt_take_le Ms (i + 1)
    rw [htk, List.length_append] at hle
    have hjl := joinN_len M
    walk_at "go"
    refine e_lcL C [(("_law_line_here" : Str), 4)] (by decide +kernel) ?_
    walk_at "go"
    refine ⟨p, M.map S, rfl, SqL.of hpM2, fun D H3 n3 => ?_⟩
    refine ⟨fun j H' => New1 H2 D (.lst (((M.map (· ++ [10])).take j).map S)) H', New1.of n3, fun j H' _ n => SqL.of (n.same _ _ hpM2), ?_, ?_⟩
    · rintro j v H' _ hj n ⟨rfl, hv⟩ Xb hX CB
      rw [List.length_map] at hj
      have hv2 : M[j]? = some M[j] := List.getElem?_eq_getElem hj
      rw [List.getElem?_map, hv2] at hv
      cases hv
      refine g_name (blk_W C hX (x := "_law_line_here") (i := 4) (by decide +kernel)) ⟨rfl, fun Xb hX CB => ?_⟩
      have vp : Slot Xb 4 ("_law_line_here" : Str) := blk_V C hX (by decide +kernel)
      have := tot_mem (List.getElem_mem hj)
      walk_at "go"
      rw [show tl (Str.ofString "\n") = [10] by decide +kernel]
      refine AddV.S (line16 (by simp; omega)) ?_
      refine ⟨_, n.at_, Nat.lt_of_le_of_lt (show _ ≤ 1000000 by rw [List.length_map, List.length_take, List.length_map]; omega) (by decide), ?_⟩
      show New1 H2 D (.lst (((M.map (· ++ [10])).take (j + 1)).map S)) _
      have e1 : (M.map (· ++ [10])).take (j + 1) = (M.map (· ++ [10])).take j ++ [M[j] ++ [10]] := by
        rw [List.take_add_one, List.getElem?_map, hv2]; rfl
      rw [e1, List.map_append]
      exact n.up
    · intro H' n
      rw [List.length_map, show M.length = (M.map (· ++ [10])).length by simp, List.take_length] at n
      refine ⟨_, (M.map (· ++ [10])).map mkS, rfl, .inl (SqL.of (by rw [strs_S]; exact n.at_)), ?_, ?_⟩
      · have e3 : (M.map (· ++ [10])).map (Str.length ∘ mkS) = (M.map (· ++ [10])).map List.length := List.map_congr_left fun l _ => mkS_len l
        have e4 : (mkS (tl (Str.ofString ""))).length = 0 := by decide +kernel
        rw [List.map_map]
        show ((M.map (· ++ [10])).map (Str.length ∘ mkS)).sum + _ ≤ _
        rw [e3, e4, sum_nl]
        omega
      rw [e0, join_S, joinL_nil, show (M.map (· ++ [10])).flatten = joinN M from rfl]
      refine AddV.S (line16 (by omega)) ?_
      rw [← htk]
      have n5 := n2.post n.same
      refine b_one (s_expr (e_append ?_))
      walk_at "go"
      refine ⟨⟨_, n5.at_⟩, ?_⟩
      walk_at "go"
      refine LenW.S (line16 (by rw [htk, List.length_append]; omega)) ?_
      refine ⟨_, n5.at_, Nat.lt_of_le_of_lt (show _ ≤ 20 by unfold endsV; rw [List.length_map, List.length_range]; omega) (by decide), ⟨_, rfl, ?_⟩⟩
      rw [endsV_succ Ms (i + 1)]
      exact n5.up
  · rintro σ H2 ⟨o3, rfl, n2⟩
    rw [List.length_map, hlen, List.take_length] at *
    walk_at "go"
    rename_i q H3 n3
    exact hQ q e H3 (n2.same.trans n3.same) n2.fr n3.at_ (n3.same _ _ n2.at_)
section
variable {P : Program} {w : World} {K : PySem.W.Frag} {mg : Str → Option Value} {base : Heap}
theorem c_ljoined (T : Tx w K mg base) : Callee P w K mg base CX0 2 "_law_joined" spLJoined := by
  refine callee_of T 51 49 rfl rfl rfl rfl rfl fs_law_joined bd_law_joined (fun vs H Q E h => ?_) (fun X h1 h2 h3 h4 h5 C vs H Q E h => ?_)
  · obtain ⟨_, _, _, rfl, _⟩ := h; rfl
  · obtain ⟨m, ps, Ms, rfl, hm, hps, hn, ht, q⟩ := h
    exact b_ljoined C m ps Ms H hm hps hn ht Q q
end
/-! ## LoL20 -/
theorem IsiV.letr {w : World} {K : PySem.W.Frag} {mg : Str → Option Value} {base : Heap} (T : Tx w K mg base) {H : Hp} {Q : VK} {a : Addr} {x : LV} (hx : LetAt K H a x) (q : Q (.bl true) H) : IsiV K [.ref a, .ref (LC K)] H Q := by
  obtain ⟨dx, fs, vs, vb, h1, _⟩ := hx.at_
  have f := T.exf
  exact ⟨.ref a, .ref (LC K), .ref (LC K), .ref (LC K), true, rfl, .own _, .base (.ins h1 T.cls f.p6 f.p7 f.p8 f.p9), f.p10, q⟩
theorem e_Letter {X : Cx} {N : List Str} {sc : Scope} {k : Nat} {σ : L2.St} {H : Hp} {Q : VK} {p : Pos} (C : Ctx X N sc k) (g : GlN X "Letter") (q : Q (.ref (LC X.K)) H) : E1 X (.Name "Letter" p) σ H Q :=
  e_glob (v := .ref (LC X.K)) g (C.tx.glo 61 rfl) rfl q
theorem TpAll.at {H : Hp} : ∀ {xs : List LV} {vs : List V} {i : Nat} {x : LV}, TpAll H vs (xs.map lvD) → xs[i]? = some x → ∃ v, vs[i]? = some v ∧ Tp H v (lvD x)
  | [], vs, i, x, h, e => by simp at e
  | y :: ys, vs, i, x, h, e => by
    obtain ⟨u, us, rfl, hu, hr⟩ := TpAll.cons_inv (h : TpAll H vs (lvD y :: ys.map lvD))
    cases i with
    | zero => simp at e; subst e; exact ⟨u, by simp, hu⟩
    | succ i =>
      obtain ⟨v, h1, h2⟩ := TpAll.at hr (i := i) (by simpa using e)
      exact ⟨v, by simpa using h1, h2⟩
theorem Lets.at {K : PySem.W.Frag} {H : Hp} : ∀ {ps : List Addr} {xs : List LV} {i : Nat} {x : LV}, Lets K H ps xs → xs[i]? = some x → ∃ p, ps[i]? = some p ∧ LetAt K H p x
  | _, _, i, x, .nil, h => by simp at h
  | _, _, 0, x, .cons h r, e => by simp at e; subst e; exact ⟨_, by simp, h⟩
  | _, _, i + 1, x, .cons h r, e => by
    obtain ⟨p, h1, h2⟩ := r.at (i := i) (by simpa using e)
    exact ⟨p, by simpa using h1, h2⟩
def spLAre (K : PySem.W.Frag) : Sp := fun vs H Q _ => ∃ (la lv : Addr) (ps : List Addr) (us : List V) (xs : List LV), vs = [.ref la, .ref lv] ∧ H la = some (.lst (ps.map V.ref)) ∧ Lets K H ps xs ∧ H lv = some (.lst us) ∧ TpAll H us (xs.map lvD) ∧ (∀ x ∈ xs, isLetter x = true) ∧ xs.length ≤ 2000 ∧ ∀ H', Same H H' → Q (.bl true) H'
theorem b_lare {X : Cx} (C : Ctx X N_law_are (defScope s_law_are) 2) (c1 : CalleeM X.prog X.w X.K X.mg X.base 2 (He.ma X.K (LC X.K) "value") (spValue X.K)) (la lv : Addr) (ps : List Addr) (us : List V) (xs : List LV) (H : Hp) (ha : H la = some (.lst (ps.map V.ref))) (hl : Lets X.K H ps xs) (hv : H lv = some (.lst us)) (hu : TpAll H us (xs.map lvD)) (hok : ∀ x ∈ xs, isLetter x = true) (hn : xs.length ≤ 2000) (Q : VK)
    (hQ : ∀ H', Same H H' → Q (.bl true) H') : B1 X (defBody s_law_are) (start N_law_are [.ref la, .ref lv]) H (fun _ H' => Q .non H') Q nobk nobk := by
  have hnm := nm_law_are C
  obtain ⟨v0, v1, v2, w0, w1, w2, g1, g2, g3, g4, g5⟩ := hnm
  have l1 := hl.len
  have l2 : us.length = xs.length := by rw [hu.len, List.length_map]
  conv => arg 2; whnf
  walk_at "go"
  refine LenW.l (SqL.of ha) ?_
  walk_at "go"
  refine LenW.l (SqL.of hv) ?_
  walk_at "go"
  refine Bth.ndT (by rw [List.length_map]; omega) ?_
  walk_at "go"
  refine s_for_range1 C.toCok (by with_reducible assumption) (C.tx.free 71 rfl) ?_
  walk_at "go"
  refine LenW.l (SqL.of hv) ?_
  refine ⟨us.length, rfl, by omega, fun i σ H' => ∃ o2, σ = [some (.ref la), some (.ref lv), o2] ∧ Same H H', ⟨none, rfl, Same.refl _⟩, ?_, ?_⟩
  · rintro i σ H1 hi ⟨o2, rfl, s1⟩
    have hx : xs[i]? = some xs[i] := List.getElem?_eq_getElem (by omega)
    obtain ⟨p, hp, hpl⟩ := hl.at hx
    obtain ⟨u, hu1, hu2⟩ := hu.at hx
    have hpr : (ps.map V.ref)[i]? = some (.ref p) := by rw [List.getElem?_map, hp]; rfl
    walk_at "go"
    refine IxV.l (SqL.of (s1 _ _ ha)) (atI_nat hpr) ?_
    walk_at "go"
    refine e_Letter C (by with_reducible assumption) ?_
    walk_at "go"
    refine IsiV.letr C.tx (hpl.mono (Keep.of s1)) ?_
    walk_at "go"
    refine e_value C c1 (C.room.mono (by decide)) ?_
    walk_at "go"
    refine IxV.l (SqL.of (s1 _ _ ha)) (atI_nat hpr) ?_
    refine ⟨p, xs[i], rfl, hpl.mono (Keep.of s1), fun v' H2 s2 t2 => ?_⟩
    walk_at "go"
    refine IxV.l (SqL.of (s2 _ _ (s1 _ _ hv))) (atI_nat hu1) ?_
    refine NeV.lv (hok _ (List.getElem_mem _)) t2 (hu2.mono (Keep.of (s1.trans s2))) ?_
    walk_at "go"
    exact s1.trans s2
  · rintro σ H1 ⟨o2, rfl, s1⟩
    walk_at "go"
    exact hQ H1 s1
section
variable {P : Program} {w : World} {K : PySem.W.Frag} {mg : Str → Option Value} {base : Heap}
theorem c_lare (T : Tx w K mg base) : Callee P w K mg base CX0 3 "_law_are" (spLAre K) := by
  have c1 := c_value (P := P) T
  refine callee_of T 52 50 rfl rfl rfl rfl rfl fs_law_are bd_law_are (fun vs H Q E h => ?_) (fun X h1 h2 h3 h4 h5 C vs H Q E h => ?_)
  · obtain ⟨_, _, _, _, _, rfl, _⟩ := h; rfl
  · subst h1 h2 h3 h4 h5
    obtain ⟨la, lv, ps, us, xs, rfl, ha, hl, hv, hu, hok, hn, q⟩ := h
    exact b_lare C c1 la lv ps us xs H ha hl hv hu hok hn Q q
end
/-! ## LoL21 -/
/-- a promise that takes no exception -/
theorem Callee.calm {P : Program} {w : World} {K : PySem.W.Frag} {mg : Str → Option Value} {base : Heap} {k : Nat} {x : Str} {sp sp' : Sp} (c : Callee P w K mg base (L2.CX P w) k x sp) (h : ∀ vs H Q E, sp' vs H Q E → sp vs H Q fun _ _ _ => False) : Callee P w K mg base CX0 k x sp' := by
  obtain ⟨f, fd, ps, F, a, b, d⟩ := c
  refine ⟨f, fd, ps, ⟨fun vs H Q E q => F.len vs H Q _ (h _ _ _ _ q), fun A outer s H args us vs Q E hr he hb hv hs => ?_⟩, a, b, d⟩
  refine codeAny_mono (F.run A outer s H args us vs Q (fun _ _ _ => False) hr he hb hv (h _ _ _ _ hs)) fun r s' z => ?_
  cases r with
  | ok r => cases r <;> exact z
  | error e =>
    obtain ⟨_, _, _, _, _, _, _, _, _, _, _, _, q⟩ := z
    exact q.elim
/-- what read_archive gives where nothing is wrong -/
def spReadOk (K : PySem.W.Frag) : Sp := fun vs H Q _ => ∃ (t : T), vs = [S t] ∧ t.length ≤ 360000 ∧ aT t ∧ (readBeg t).2 = t.length ∧
  ∀ la ps H', Same H H' → H la = none → H' la = some (.lst (ps.map V.ref)) → Lets K H' ps (readBeg t).1 → Q (.ref la) H'
theorem c_read_ok {P : Program} {w : World} {K : PySem.W.Frag} {mg : Str → Option Value} {base : Heap} (T : Tx w K mg base) : Callee P w K mg base CX0 9 "read_archive" (spReadOk K) :=
  (c_read_archive (P := P) T).calm fun vs H Q E ⟨t, e, h1, h2, h3, q⟩ => ⟨t, e, h1, h2, fun _ => q, fun n => absurd h3 n⟩
/-! ### _law_raises -/
theorem excC {w : World} {K : PySem.W.Frag} {mg : Str → Option Value} {base : Heap} (T : Tx w K mg base) : ExcC K (He.ga K "BadMail") :=
  ⟨T.exf.p11, T.exf.p12, T.exf.p13, T.exf.p14, T.exf.p15, T.exf.p7, T.exf.p8, T.exf.p16⟩
abbrev suiteR : List Stmt := match (defBody s_law_raises).getD 0 (.Pass ⟨0, 0, 0, 0⟩) with
  | .Try _ (.ExceptHandler _ _ b _ :: _) _ _ _ => b
  | _ => []
abbrev bodyR : List Stmt := match (defBody s_law_raises).getD 0 (.Pass ⟨0, 0, 0, 0⟩) with
  | .Try b _ _ _ _ => b
  | _ => []
theorem b_suite {X : Cx} {k : Nat} (C : Ctx X N_law_raises (defScope s_law_raises) k) (a : Addr) (oe : Obj) (pn : List (Addr × Obj)) (hz : Zc (BM X.K) none oe) (hf : ∃ vs, oe.data = .fields vs) (σ : L2.St) (H : Hp) (hσ : σ[1]? = some (some (.ref a))) (Q : VK) (q : Q (.bl true) H) :
    B1 (X.suite a ((a, oe) :: pn)) suiteR σ H nobk Q nobk nobk := by
  have hnm := nm_law_raises C
  obtain ⟨v0, v1, w0, w1, g1, g2, g3, g4, g5, g6⟩ := hnm
  have sl : Slot (X.suite a ((a, oe) :: pn)) 1 ("e" : Str) := ⟨v1.n, v1.v, v1.d, v1.c⟩
  have gi : GlN (X.suite a ((a, oe) :: pn)) ("isinstance" : Str) := ⟨g3.g, g3.d, g3.m⟩
  have gb : GlN (X.suite a ((a, oe) :: pn)) ("BadMail" : Str) := ⟨g4.g, g4.d, g4.m⟩
  have gv : GlN (X.suite a ((a, oe) :: pn)) ("ValueError" : Str) := ⟨g5.g, g5.d, g5.m⟩
  have gl : GlN (X.suite a ((a, oe) :: pn)) ("BadLetter" : Str) := ⟨g6.g, g6.d, g6.m⟩
  have f := C.tx.exf
  conv => arg 2; whnf
  refine b_cons (s_ret ?_)
  refine e_and ?_
  refine e_callB (call_isE (excC C.tx) hz hf) gi (C.tx.free 63 rfl) (by decide +kernel) (a_cons (e_var sl hσ (a_cons (e_glob (v := .ref (He.ga X.K "BadMail")) gb (C.tx.glo 60 rfl) rfl (a_nil ⟨_, .ref (He.ga X.K "BadMail"), true, rfl, fun u r => r, f.p17, ?_⟩))))) rfl rfl
  refine ⟨true, rfl, Bth.t ?_⟩
  refine e_and ?_
  refine e_callB (call_isE (excC C.tx) hz hf) gi (C.tx.free 63 rfl) (by decide +kernel) (a_cons (e_var sl hσ (a_cons (e_bltn gv (C.tx.free 77 rfl) (by decide +kernel : bootBuiltins "ValueError" = some (.type "ValueError")) (show RelV (.ty "ValueError") _ from rfl) (a_nil ⟨_, .type "ValueError", true, rfl, fun u r => r, f.p18, ?_⟩))))) rfl rfl
  refine ⟨true, rfl, Bth.t ?_⟩
  refine e_one ?_
  refine e_not ?_
  refine e_callB (call_isE (excC C.tx) hz hf) gi (C.tx.free 63 rfl) (by decide +kernel) (a_cons (e_var sl hσ (a_cons (e_glob (v := .ref (He.ga X.K "BadLetter")) gl (C.tx.glo 59 rfl) rfl (a_nil ⟨_, .ref (He.ga X.K "BadLetter"), false, rfl, fun u r => r, f.p19, ?_⟩))))) rfl rfl
  exact ⟨false, rfl, q⟩
theorem s_try_as {X : Cx} {k : Nat} {σ : L2.St} {H : Hp} {nx bk ct : L2.St → Hp → Prop} {rt : VK} {np pos pos' : Pos} (C : Ctx X N_law_raises (defScope s_law_raises) k) (hs : X.stack = X.env :: X.outer) (hf : X.env.frame = some X.env.locals) (g : GlN X "RoomError")
    (h : ∀ (W : WX) (pn : List (Addr × Obj)) (xe : Value → Shared → Prop), Takes (X.tr pn xe) W → Ctx (X.tr pn xe) N_law_raises (defScope s_law_raises) k → (∀ σ H, 1 < σ.length → rt (.bl true) H → W (BM X.K) none σ H) → B1 (X.tr pn xe) bodyR σ H nx rt bk ct) :
    S1 X (.Try bodyR [.ExceptHandler (some (.Name "RoomError" np)) (some "e") suiteR pos'] [] [] pos) σ H nx rt bk ct := by
  have hx : PySem.W.exmOne X.K (BM X.K) (.ref (He.ga X.K "RoomError")) = some true := He.exm_ok (x := "BadMail") (y := "RoomError") (b := true) (C.tx.t.d.fact 100 rfl)
  have hloc : X.env.kindOf ("e" : Str) = some .local := by
    show X.env.scope.names.lookup ("e" : Str) = some .local
    rw [C.hsc (by intro h; cases h)]
    decide +kernel
  refine S1.of (ps_try_as (Wout := fun _ _ _ _ => False) (c := .ref (He.ga X.K "RoomError")) (i := 1) (ts := fun a cls d D σ H => cls = BM X.K ∧ d = none ∧ σ[1]? = some (some (.ref a)) ∧ D.rt (.bl true) H)
    (tb := fun W D σ H => ∀ (pn : List (Addr × Obj)) (xe : Value → Shared → Prop), Takes (X.tr pn xe) W → PassesOwn (model X.prog X.w) X.A X.env xe → B1 (X.tr pn xe) bodyR σ H D.nx D.rt D.bk D.ct)
    hs hf (C.nd (by intro h; cases h)) (by rw [C.hN (by intro h; cases h)]; rfl) hloc ⟨g.g, g.d, .inl (C.tx.glo 58 rfl)⟩ ?_ ?_ ?_) ?_
  · rintro u s' ⟨a, B, sI, pins, σ, H, cls, d, _, _, _, _, _, _, _, _, w⟩
    exact False.elim w
  · intro W pn xe tk po
    exact ⟨fun pins s σ H D I h => (h pn xe tk po).run pins s I⟩
  · intro a oe cls d pn hz hv
    refine ⟨fun pins s σ H D I h => ?_⟩
    obtain ⟨e1, e2, e3, q⟩ := h
    subst e1 e2
    exact ((b_suite C a oe pn hz hv σ H e3 D.rt q).imp (fun _ _ z => z.elim) (fun _ _ z => z) (fun _ _ z => z.elim) (fun _ _ z => z.elim)).run pins s I
  · intro pn xe tk po
    refine h _ pn xe tk (tr_ctx C po) fun σ H hl q => ⟨true, hx, fun _ a ha => ⟨rfl, rfl, ?_, q⟩, fun e => by cases e⟩
    rw [List.getElem?_set_self hl]
def spLRaises : Sp := fun vs H Q _ => ∃ (t : T), vs = [S t] ∧ t.length ≤ 360000 ∧ aT t ∧ (readBeg t).2 ≠ t.length ∧ ∀ H', Same H H' → Q (.bl true) H'
theorem b_lraises {X : Cx} (C : Ctx X N_law_raises (defScope s_law_raises) 9) (hst : X.stack = X.env :: X.outer) (hfr : X.env.frame = some X.env.locals) (c1 : CalleeX X (L2.CX X.prog X.w) 9 "read_archive" (spReadArch X.K)) (t : T) (ht : t.length ≤ 360000) (hA : aT t) (hb : (readBeg t).2 ≠ t.length) (H : Hp) (Q : VK)
    (hQ : ∀ H', Same H H' → Q (.bl true) H') : B1 X (defBody s_law_raises) (start N_law_raises [S t]) H (fun _ H' => Q .non H') Q nobk nobk := by
  have hnm := nm_law_raises C
  obtain ⟨v0, v1, w0, w1, g1, g2, g3, g4, g5, g6⟩ := hnm
  conv => arg 2; whnf
  refine b_cons ?_
  refine S1.imp (nx := fun _ _ => False) (s_try_as C hst hfr g2 ?_) (fun _ _ h => h.elim) (fun _ _ h => h) (fun _ _ h => h) (fun _ _ h => h)
  intro W pn xe tk Ct hW
  have hnm := nm_law_raises Ct
  obtain ⟨v0, v1, w0, w1, g1, g2, g3, g4, g5, g6⟩ := hnm
  have c1t : CalleeX (X.tr pn xe) (L2.CX X.prog X.w) 9 "read_archive" (spReadArch X.K) := c1
  conv => arg 2; whnf
  refine b_one (s_expr ?_)
  refine e_callW c1t Ct.room g1 tk ?_
  walk_at "go"
  exact ⟨ht, hA, fun h => absurd h hb, fun _ H' s => hW _ _ (show 1 < 2 by decide) (hQ H' s)⟩
section
variable {P : Program} {w : World} {K : PySem.W.Frag} {mg : Str → Option Value} {base : Heap}
theorem c_lraises (T : Tx w K mg base) : Callee P w K mg base CX0 10 "_law_raises" spLRaises := by
  have c1 := c_read_archive (P := P) T
  refine calleeS_of T 53 51 rfl rfl rfl rfl rfl fs_law_raises bd_law_raises (fun vs H Q E h => ?_) (fun X h1 h2 h3 h4 h5 C hst hfr vs H Q E h => ?_)
  · obtain ⟨_, rfl, _⟩ := h; rfl
  · subst h1 h2 h3 h4 h5
    obtain ⟨t, rfl, ht, hA, hb, q⟩ := h
    exact b_lraises C hst hfr c1 t ht hA hb H Q q
end
/-! ## LoL22 -/
theorem updF {H H' : Hp} {p : Addr} {o : HO} (s : Same H H') (f : H p = none) : Same H (upd H' p o) := fun b u e => by
  rw [upd_ne (ne_of_none e f)]; exact s b u e
theorem mails_ok : ∀ {xs : List LV} {Ms : List (List T)}, Mails xs Ms → ∀ x ∈ xs, isLetter x = true
  | _, _, .nil, x, h => by cases h
  | _, _, .cons a r, x, h => by
    rcases List.mem_cons.mp h with rfl | h
    · exact a.ok
    · exact mails_ok r x h
theorem aT_joinN : ∀ {ls : List T}, (∀ l ∈ ls, PlainL l) → aT (joinN ls)
  | [], _ => fun c hc => by cases hc
  | l :: ls, h => by
    rw [joinN_cons]
    intro c hc
    rcases List.mem_append.mp hc with hc | hc
    · have := h l (by simp) c hc; omega
    · rcases List.mem_cons.mp hc with rfl | hc
      · omega
      · exact aT_joinN (fun m hm => h m (List.mem_cons_of_mem _ hm)) c hc
theorem aT_txt {xs : List LV} {Ms : List (List T)} (h : Mails xs Ms) : aT (txt Ms) := aT_joinN h.plain
theorem aT_take {z : T} {n : Nat} (h : aT z) : aT (z.take n) := fun c hc => h c (List.mem_of_mem_take hc)
theorem aT_drop {z : T} {n : Nat} (h : aT z) : aT (z.drop n) := fun c hc => h c (List.mem_of_mem_drop hc)
theorem endsV_all (Ms : List (List T)) : endsV Ms (Ms.length + 1) = (ends Ms).map fun k => V.int (k : Nat) := by unfold endsV ends; rw [List.map_map]; rfl
theorem tp_take {H : Hp} : ∀ {ds : List PyData} {vs : List V} (k : Nat), TpAll H vs ds → TpAll H (vs.take k) (ds.take k)
  | _, _, 0, _ => .nil
  | _, _, _ + 1, .nil => .nil
  | _, _, k + 1, .cons a r => .cons a (tp_take k r)
/-- the values as data -/
structure Vals1 (H : Hp) (lv : Addr) (xs : List LV) : Prop where
  at_ : ∃ us, H lv = some (.lst us) ∧ TpAll H us (xs.map lvD)
theorem Vals1.mono {H H' : Hp} {lv : Addr} {xs : List LV} (s : Same H H') (h : Vals1 H lv xs) : Vals1 H' lv xs := by
  obtain ⟨us, a, b⟩ := h.at_
  exact ⟨us, s _ _ a, b.mono (Keep.of s)⟩
def spLReads : Sp := fun vs H Q _ => ∃ (t : T) (lv : Addr) (xs : List LV), vs = [S t, .ref lv] ∧ t.length ≤ 360000 ∧ aT t ∧ readBeg t = (xs, t.length) ∧ Vals1 H lv xs ∧ (∀ x ∈ xs, isLetter x = true) ∧ xs.length ≤ 2000 ∧ ∀ H', Same H H' → Q (.bl true) H'
theorem b_lreads {X : Cx} (C : Ctx X N_law_reads (defScope s_law_reads) 9) (c1 : CalleeX X CX0 9 "read_archive" (spReadOk X.K)) (c2 : CalleeX X CX0 9 "_law_are" (spLAre X.K)) (t : T) (lv : Addr) (xs : List LV) (H : Hp) (ht : t.length ≤ 360000) (hA : aT t) (hb : readBeg t = (xs, t.length)) (hv : Vals1 H lv xs) (hok : ∀ x ∈ xs, isLetter x = true) (hn : xs.length ≤ 2000) (Q : VK)
    (hQ : ∀ H', Same H H' → Q (.bl true) H') : B1 X (defBody s_law_reads) (start N_law_reads [S t, .ref lv]) H (fun _ H' => Q .non H') Q nobk nobk := by
  have hnm := nm_law_reads C
  obtain ⟨v0, v1, v2, v3, w0, w1, w2, w3, g1, g2, g3⟩ := hnm
  conv => arg 2; whnf
  walk_at "go"
  refine s_for_range1 C.toCok (by with_reducible assumption) (C.tx.free 71 rfl) ?_
  walk_at "go"
  refine ⟨by decide, fun i σ H' => ∃ o2 o3, σ = [some (S t), some (.ref lv), o2, o3] ∧ Same H H', ⟨none, none, rfl, Same.refl _⟩, ?_, ?_⟩
  · rintro i σ H1 hi ⟨o2, o3, rfl, s1⟩
    walk_at "go"
    refine ⟨ht, hA, by rw [hb], fun la ps H2 s2 hla hl hL => ?_⟩
    rw [hb] at hL
    obtain ⟨us, hu1, hu2⟩ := (hv.mono (s1.trans s2)).at_
    walk_at "go"
    refine ⟨la, lv, ps, us, xs, rfl, hl, hL, hu1, hu2, hok, hn, fun H3 s3 => ?_⟩
    walk_at "go"
    refine ⟨⟨_, s3 _ _ hl⟩, ?_⟩
    walk_at "go"
    refine ⟨_, s3 _ _ hl, Nat.lt_of_le_of_lt (show _ ≤ 2000 by rw [List.length_map, hL.len]; exact hn) (by decide), ?_⟩
    exact b_nil ⟨_, _, rfl, updF (s1.trans (s2.trans s3)) (s1.free hla)⟩
  · rintro σ H1 ⟨o2, o3, rfl, s1⟩
    walk_at "go"
    exact hQ H1 s1
def spLBegins : Sp := fun vs H Q _ => ∃ (t : T) (lv : Addr) (xs : List LV) (n : Nat), vs = [S t, .ref lv, .int (n : Nat)] ∧ t.length ≤ 360000 ∧ aT t ∧ readBeg t = (xs, n) ∧ Vals1 H lv xs ∧ (∀ x ∈ xs, isLetter x = true) ∧ xs.length ≤ 2000 ∧ ∀ H', Same H H' → Q (.bl true) H'
theorem b_lbegins {X : Cx} (C : Ctx X N_law_begins (defScope s_law_begins) 8) (c1 : CalleeX X CX0 8 "read_beginning" (spReadBeg X.K)) (c2 : CalleeX X CX0 8 "_law_are" (spLAre X.K)) (c3 : CalleeX X CX0 8 "_law_is" spLIs) (t : T) (lv : Addr) (xs : List LV) (n : Nat) (H : Hp) (ht : t.length ≤ 360000) (hA : aT t) (hb : readBeg t = (xs, n)) (hv : Vals1 H lv xs) (hok : ∀ x ∈ xs, isLetter x = true) (hn : xs.length ≤ 2000) (Q : VK)
    (hQ : ∀ H', Same H H' → Q (.bl true) H') : B1 X (defBody s_law_begins) (start N_law_begins [S t, .ref lv, .int (n : Nat)]) H (fun _ H' => Q .non H') Q nobk nobk := by
  have hnm := nm_law_begins C
  obtain ⟨v0, v1, v2, v3, v4, w0, w1, w2, w3, w4, g1, g2, g3, g4, g5, g6, g7⟩ := hnm
  conv => arg 2; whnf
  walk_at "go"
  refine s_for_range1 C.toCok (by with_reducible assumption) (C.tx.free 71 rfl) ?_
  walk_at "go"
  refine ⟨by decide, fun i σ H' => ∃ o3 o4, σ = [some (S t), some (.ref lv), some (.int (n : Nat)), o3, o4] ∧ Same H H', ⟨none, none, rfl, Same.refl _⟩, ?_, ?_⟩
  · rintro i σ H1 hi ⟨o3, o4, rfl, s1⟩
    walk_at "go"
    refine ⟨ht, hA, fun q la ps H2 s2 hla hl hL hq => ?_⟩
    rw [hb] at hL hq
    obtain ⟨us, hu1, hu2⟩ := (hv.mono (s1.trans s2)).at_
    walk_at "go"
    refine ⟨la, lv, ps, us, xs, rfl, hl, hL, hu1, hu2, hok, hn, fun H3 s3 => ?_⟩
    walk_at "go"
    refine ⟨_, _, rfl, ?_⟩
    refine ⟨_, rfl, Bth.ndT rfl ?_⟩
    walk_at "go"
    refine ⟨⟨_, s3 _ _ hl⟩, ?_⟩
    walk_at "go"
    refine ⟨_, s3 _ _ hl, Nat.lt_of_le_of_lt (show _ ≤ 2000 by rw [List.length_map, hL.len]; exact hn) (by decide), ?_⟩
    exact b_nil ⟨_, _, rfl, updF (s1.trans (s2.trans s3)) (s1.free hla)⟩
  · rintro σ H1 ⟨o3, o4, rfl, s1⟩
    walk_at "go"
    exact hQ H1 s1
def spLCutAt : Sp := fun vs H Q _ => ∃ (Ms : List (List T)) (xs : List LV) (e lv : Addr) (p : Nat), vs = [S (txt Ms), .ref e, .ref lv, .int (p : Nat)] ∧ Mails xs Ms ∧ Ms.length ≤ 10 ∧ (txt Ms).length ≤ 360000 ∧ H e = some (.lst (endsV Ms (Ms.length + 1))) ∧ Vals1 H lv xs ∧ p ≤ (txt Ms).length ∧ ∀ H', Same H H' → Q (.bl true) H'
theorem whole_go {X : Cx} {N : List Str} {sc scope : Scope} {k : Nat} {σ : L2.St} {H : Hp} {Q : VK} {pos p1 p2 p3 p1' p2' p3' : Pos} (C : Ctx X N sc k) {ie ip ix : Nat} (hb : blkC N sc scope [(("_law_end" : Str), ix)] = true) {Ms : List (List T)} {xs : List LV} (hM : Mails xs Ms) {e : Addr} (he : H e = some (.lst (endsV Ms (Ms.length + 1)))) {p : Nat}
    (ve : Slot X ie "_law_ends") (se : σ[ie]? = some (some (.ref e))) (kx : okB N scope ix "_law_end" = true) (kv : okV N (relS scope sc) ix "_law_end" = true) (kp : okV N (relS scope sc) ip "_law_place" = true) (sp : σ[ip]? = some (some (.int (p : Nat)))) (hix : ix < σ.length) (hne : ip ≠ ix) (hlen : Ms.length ≤ 10)
    (q : ∀ D H', Same H H' → H' D = some (.lst ((((ends Ms).filter fun e => decide (e ≤ p)).map fun k => V.int (k : Nat)))) → Q (.ref D) H')
    (hNe : N ≠ [] := by intro h; cases h) :
    E1 X (.ListComp (.Name "_law_end" p1) [⟨.Name "_law_end" p2, .Name "_law_ends" p3, [.Compare (.Name "_law_end" p1') [.LtE] [.Name "_law_place" p2'] p3'], 0⟩] scope pos) σ H Q := by
  rw [endsV_all] at he
  refine e_lcLT C [(("_law_end" : Str), ix)] hb (e_var ve se ?_) (hne := hNe)
  refine ⟨e, _, rfl, SqL.of he, fun D H2 n2 => ?_⟩
  refine ⟨fun i H' => New1 H D (.lst (((((ends Ms).take i).filter fun e => decide (e ≤ p)).map fun k => V.int (k : Nat)))) H', New1.of n2, fun i H' _ n => SqL.of (n.same _ _ he), ?_, ?_⟩
  · rintro i v H' _ hi n ⟨rfl, hv⟩ Xb hX CB
    rw [List.length_map] at hi
    have hv2 : (ends Ms)[i]? = some (ends Ms)[i] := List.getElem?_eq_getElem hi
    rw [List.getElem?_map, hv2] at hv
    cases hv
    have et : (ends Ms).take (i + 1) = (ends Ms).take i ++ [(ends Ms)[i]] := by rw [List.take_add_one, hv2]; rfl
    have hel : (ends Ms).length ≤ 11 := by unfold ends; rw [List.length_map, List.length_range]; omega
    have hlw : ix < (wipe σ [ix]).length := by simpa [wipe] using hix
    refine g_name (blk_W C hX (x := "_law_end") (i := ix) kx) ⟨by simp [wipe], fun Xb hX CB => ?_⟩
    have s1 : ((wipe σ [ix]).set ix (some (V.int ((ends Ms)[i] : Nat))))[ix]? = some (some (V.int ((ends Ms)[i] : Nat))) := List.getElem?_set_self hlw
    have s2 : ((wipe σ [ix]).set ix (some (V.int ((ends Ms)[i] : Nat))))[ip]? = some (some (.int (p : Nat))) := by
      rw [List.getElem?_set_ne (Ne.symm hne)]
      simp [wipe, List.getElem?_set_ne (Ne.symm hne), sp]
    have vp : Slot Xb ix ("_law_end" : Str) := blk_V C hX kv
    have vq : Slot Xb ip ("_law_place" : Str) := blk_V C hX kp
    refine t_cmp op_leV (e_var vp s1 (e_var vq s2 (LeV.i ⟨_, rfl, Bth.d (fun h => ?_) (fun h => ?_)⟩)))
    · intro Xb hX CB
      have vp : Slot Xb ix ("_law_end" : Str) := blk_V C hX kv
      refine e_var vp s1 ?_
      refine ⟨_, n.at_, Nat.lt_of_le_of_lt (show _ ≤ 100 from ?_) (by decide), ?_⟩
      · rw [List.length_map]
        exact Nat.le_trans (List.length_filter_le _ _) (by rw [List.length_take]; omega)
      show New1 H D (.lst (((((ends Ms).take (i + 1)).filter fun e => decide (e ≤ p)).map fun k => V.int (k : Nat)))) _
      have e1 : ((ends Ms).take (i + 1)).filter (fun e => decide (e ≤ p)) = ((ends Ms).take i).filter (fun e => decide (e ≤ p)) ++ [(ends Ms)[i]] := by
        rw [et, List.filter_append]
        have : (ends Ms)[i] ≤ p := by omega
        simp [this]
      rw [e1, List.map_append]
      exact n.up
    · show New1 H D (.lst (((((ends Ms).take (i + 1)).filter fun e => decide (e ≤ p)).map fun k => V.int (k : Nat)))) _
      have e1 : ((ends Ms).take (i + 1)).filter (fun e => decide (e ≤ p)) = ((ends Ms).take i).filter (fun e => decide (e ≤ p)) := by
        rw [et, List.filter_append]
        have : ¬ (ends Ms)[i] ≤ p := by omega
        simp [this]
      rw [e1]; exact n
  · intro H' n
    rw [List.length_map, List.take_length] at n
    exact q D H' n.same n.at_
section
variable {P : Program} {w : World} {K : PySem.W.Frag} {mg : Str → Option Value} {base : Heap}
theorem c_lreads (T : Tx w K mg base) : Callee P w K mg base CX0 10 "_law_reads" spLReads := by
  have c1 := c_read_ok (P := P) T
  have c2 := (c_lare (P := P) T).mono (by decide : 3 ≤ 9)
  refine callee_of T 54 52 rfl rfl rfl rfl rfl fs_law_reads bd_law_reads (fun vs H Q E h => ?_) (fun X h1 h2 h3 h4 h5 C vs H Q E h => ?_)
  · obtain ⟨_, _, _, rfl, _⟩ := h; rfl
  · subst h1 h2 h3 h4 h5
    obtain ⟨t, lv, xs, rfl, ht, hA, hb, hv, hok, hn, q⟩ := h
    exact b_lreads C c1 c2 t lv xs H ht hA hb hv hok hn Q q
theorem c_lbegins (T : Tx w K mg base) : Callee P w K mg base CX0 9 "_law_begins" spLBegins := by
  have c1 := c_read_beginning (P := P) T
  have c2 := (c_lare (P := P) T).mono (by decide : 3 ≤ 8)
  have c3 := (c_lis (P := P) T).mono (by decide : 2 ≤ 8)
  refine callee_of T 55 53 rfl rfl rfl rfl rfl fs_law_begins bd_law_begins (fun vs H Q E h => ?_) (fun X h1 h2 h3 h4 h5 C vs H Q E h => ?_)
  · obtain ⟨_, _, _, _, rfl, _⟩ := h; rfl
  · subst h1 h2 h3 h4 h5
    obtain ⟨t, lv, xs, n, rfl, ht, hA, hb, hv, hok, hn, q⟩ := h
    exact b_lbegins C c1 c2 c3 t lv xs n H ht hA hb hv hok hn Q q
end
/-! ## LoL23 -/
theorem map_take_lv (xs : List LV) (k : Nat) : (xs.map lvD).take k = (xs.take k).map lvD := (List.map_take).symm
theorem b_lcut_at {X : Cx} (C : Ctx X N_law_cut_at (defScope s_law_cut_at) 10) (c1 : CalleeX X CX0 10 "read_archive" (spReadOk X.K)) (c2 : CalleeX X CX0 10 "_law_are" (spLAre X.K)) (c3 : CalleeX X CX0 10 "_law_begins" spLBegins) (c4 : CalleeX X CX0 10 "_law_raises" spLRaises)
    (Ms : List (List T)) (xs : List LV) (e lv : Addr) (p : Nat) (H : Hp) (hM : Mails xs Ms) (hn : Ms.length ≤ 10) (ht : (txt Ms).length ≤ 360000) (he : H e = some (.lst (endsV Ms (Ms.length + 1)))) (hv : Vals1 H lv xs) (hp : p ≤ (txt Ms).length) (Q : VK)
    (hQ : ∀ H', Same H H' → Q (.bl true) H') : B1 X (defBody s_law_cut_at) (start N_law_cut_at [S (txt Ms), .ref e, .ref lv, .int (p : Nat)]) H (fun _ H' => Q .non H') Q nobk nobk := by
  have hnm := nm_law_cut_at C
  obtain ⟨v0, v1, v2, v3, v4, w0, w1, w2, w3, w4, g1, g2, g3, g4, g5⟩ := hnm
  obtain ⟨q1, q2, q3, q4⟩ := whole_spec hM p
  have hcut := beg_cut hM hp
  have hxl := hM.len
  have hA := aT_txt hM
  obtain ⟨wh, hwh⟩ : ∃ wh, whole Ms p = wh := ⟨_, rfl⟩
  rw [hwh] at q1 q2 q3 q4 hcut
  have hok : ∀ x ∈ xs.take wh, isLetter x = true := fun x hx => mails_ok hM x (List.mem_of_mem_take hx)
  have hxn : (xs.take wh).length ≤ 2000 := by rw [List.length_take]; omega
  have htl : ((txt Ms).take p).length = p := by rw [List.length_take]; omega
  have hend : (endsV Ms (Ms.length + 1))[wh]? = some (.int (endAt Ms wh : Nat)) := by
    unfold endsV
    rw [List.getElem?_map, List.getElem?_range (by omega)]; rfl
  obtain ⟨us, hu1, hu2⟩ := hv.at_
  have hu3 : ∀ {H' : Hp}, Same H H' → TpAll H' (us.take wh) ((xs.take wh).map lvD) := fun s => by rw [← map_take_lv]; exact (tp_take wh hu2).mono (Keep.of s)
  conv => arg 2; whnf
  walk_at "go"
  refine whole_go C (ie := 1) (ip := 3) (ix := 5) (by decide +kernel) hM he v1 rfl (by decide +kernel) (by decide +kernel) (by decide +kernel) rfl (show 5 < 6 by decide) (by decide) hn fun D H1 s1 hD => ?_
  refine LenW.l (SqL.of hD) ?_
  rw [List.length_map, q1]
  walk_at "go"
  refine SlV.sTo p rfl (line16 (by omega)) ?_
  walk_at "go"
  refine SlV.lTo wh (by omega) (SqL.of (s1 _ _ hu1)) fun r H2 n2 => ?_
  walk_at "go"
  have s2 : Same H H2 := s1.trans n2.same
  refine IxV.l (SqL.of (s2 _ _ he)) (by rw [show ((wh + 1 : Nat) : Int) - 1 = (wh : Nat) by omega]; exact atI_nat hend) ?_
  walk_at "go"
  refine ⟨(txt Ms).take p, r, xs.take wh, endAt Ms wh, rfl, by omega, aT_take hA, hcut, ⟨⟨_, n2.at_, hu3 s2⟩⟩, hok, hxn, fun H3 s3 => ?_⟩
  walk_at "go"
  have s30 : Same H H3 := s2.trans s3
  refine IxV.l (SqL.of (s30 _ _ he)) (by rw [show ((wh + 1 : Nat) : Int) - 1 = (wh : Nat) by omega]; exact atI_nat hend) ?_
  walk_at "go"
  refine Bth.d (fun h => ?_) (fun h => ?_)
  · have hpe : p = endAt Ms wh := by omega
    walk_at "go"
    refine SlV.sTo p rfl (line16 (by omega)) ?_
    walk_at "go"
    refine ⟨by omega, aT_take hA, by rw [hcut, htl]; exact hpe.symm, fun la ps H4 s4 hla hl hL => ?_⟩
    rw [hcut] at hL
    walk_at "go"
    refine SlV.lTo wh (by omega) (SqL.of ((s30.trans s4) _ _ hu1)) fun r2 H5 n5 => ?_
    walk_at "go"
    have s5 : Same H H5 := s30.trans (s4.trans n5.same)
    refine ⟨la, r2, ps, us.take wh, xs.take wh, rfl, n5.same _ _ hl, hL.mono n5.keep, n5.at_, hu3 s5, hok, hxn, fun H6 s6 => ?_⟩
    exact hQ H6 (s5.trans s6)
  · walk_at "go"
    refine SlV.sTo p rfl (line16 (by omega)) ?_
    walk_at "go"
    refine ⟨by omega, aT_take hA, ?_, fun H4 s4 => hQ H4 (s30.trans s4)⟩
    rw [hcut, htl]
    show endAt Ms wh ≠ p
    omega
section
variable {P : Program} {w : World} {K : PySem.W.Frag} {mg : Str → Option Value} {base : Heap}
theorem c_lcut_at (T : Tx w K mg base) : Callee P w K mg base CX0 11 "_law_cut_at" spLCutAt := by
  have c1 := (c_read_ok (P := P) T).mono (by decide : 9 ≤ 10)
  have c2 := (c_lare (P := P) T).mono (by decide : 3 ≤ 10)
  have c3 := (c_lbegins (P := P) T).mono (by decide : 9 ≤ 10)
  have c4 := c_lraises (P := P) T
  refine callee_of T 56 54 rfl rfl rfl rfl rfl fs_law_cut_at bd_law_cut_at (fun vs H Q E h => ?_) (fun X h1 h2 h3 h4 h5 C vs H Q E h => ?_)
  · obtain ⟨_, _, _, _, _, rfl, _⟩ := h; rfl
  · subst h1 h2 h3 h4 h5
    obtain ⟨Ms, xs, e, lv, p, rfl, hM, hn, ht, he, hv, hp, q⟩ := h
    exact b_lcut_at C c1 c2 c3 c4 Ms xs e lv p H hM hn ht he hv hp Q q
end
/-! ## LoSet -/
/-! name = [..], the name a local: the comprehension's list goes straight to the name. -/
section
variable {X : Cx} {N : List Str} {sc scope : Scope} {k i : Nat} {y : Str} {σ : L2.St} {H : Hp} {nx bk ct : L2.St → Hp → Prop} {rt : VK} {elt tg iter c : Expr} {own : List (Str × Nat)} {pos spos py p p2 apos : Pos}
/-- the name is a local of its own slot, no name of the comprehension -/
structure SetL (X : Cx) (N : List Str) (sc scope : Scope) (i : Nat) (y : Str) : Prop where
  n : N[i]? = some y
  k : sc.kind = .function
  l : sc.names.lookup y = some .local
  a : (scope.names.any fun (n, k) => n == y && (k == .local || k == .cell)) = false
theorem SetL.sw {elt : Expr} {gs : List Comprehension} (h : SetL X N sc scope i y) (C : Ctx X N sc k) (hl : (py.line == pos.line) = true) (l : Nat) (hne : N ≠ [] := by intro h; cases h) : swapsWith (.ListComp elt gs scope pos) (some (.Name y py)) l X.env = pure true :=
  sw_true (by rw [C.hsc hne]; exact h.k) (by rw [C.hsc hne]; exact h.l) hl h.a
theorem s_setL (C : Ctx X N sc k) (own : List (Str × Nat)) (sl : SetL X N sc scope i y) (hb : blkC N sc scope own = true) (h : E1 X iter σ H fun u H1 => ∃ a xs, u = .ref a ∧ SqL X.K H1 a xs ∧ ∀ D H2, New H1 D (.lst []) H2 →
      LcRun D xs.length (fun H => SqL X.K H a xs) (YAt xs) (LcTurn X scope k sc tg elt (own.map (·.2)) σ) H2 (fun H' => nx (σ.set i (some (.ref D))) H'))
    (hl : (py.line == pos.line) = true := by rfl) (hs : ∀ x, foldedSetIterable iter X.env x = pure x := by intro _; rfl) (hne : N ≠ [] := by intro h; cases h) : S1 X (.Assign [.Name y py] (.ListComp elt [⟨tg, iter, [], 0⟩] scope pos) spos) σ H nx rt bk ct := by
  refine S1.of (ps_setLc C.calm (C.nd hne) (by rw [C.hN hne]; exact sl.n) (by rw [C.hsc hne]; exact sl.l) (sl.sw C hl _ hne) (pi_list pE) (by rw [C.hN hne, C.hsc hne]; exact blkOk_by hb) lc_hg (fun _ _ _ _ _ => pts_nil) lc_he hs) (E1.imp h fun x H1 ⟨a, xs, e, hx, q⟩ => ⟨a, e, ⟨xs, hx⟩, fun D hD => ?_⟩)
  exact lc_of C walk_list (q D _ (New.of hD))
theorem s_setR2 {a b : Expr} (C : Ctx X N sc k) (own : List (Str × Nat)) (sl : SetL X N sc scope i y) (g : GlN X "range") (hb : blkC N sc scope own = true) (h : E1 X a σ H fun x H1 => E1 X b σ H1 fun y H2 => ∃ lo hi : Int, x = .int lo ∧ y = .int hi ∧ (-(2 ^ 62) ≤ lo ∧ lo < 2 ^ 62 ∧ -(2 ^ 62) ≤ hi ∧ hi < 2 ^ 62) ∧ ∀ D H3, New H2 D (.lst []) H3 →
      LcRun D (hi - lo).toNat (fun _ => True) (YFn fun i => .int (lo + i)) (LcTurn X scope k sc tg elt (own.map (·.2)) σ) H3 (fun H' => nx (σ.set i (some (.ref D))) H'))
    (hl : (py.line == pos.line) = true := by rfl) (hs : starEach [a, b] X.env = [(false, eval a X.env), (false, eval b X.env)] := by rfl) (hs2 : starEach [b] X.env = [(false, eval b X.env)] := by rfl)
    (hf : ∀ x, foldedSetIterable (.Call (.Name "range" p) [a, b] [] apos) X.env x = pure x := by intro _; rfl) (hne : N ≠ [] := by intro h; cases h) : S1 X (.Assign [.Name y py] (.ListComp elt [⟨tg, .Call (.Name "range" p) [a, b] [] apos, [], 0⟩] scope pos) spos) σ H nx rt bk ct := by
  refine S1.of (ps_setLc C.calm (C.nd hne) (by rw [C.hN hne]; exact sl.n) (by rw [C.hsc hne]; exact sl.l) (sl.sw C hl _ hne) (pi_range2 g.g (C.tx.free 71 rfl) (pa_cons pE (pa_cons pE pa_nil hs2) (hs.trans (congrArg _ hs2.symm))) hs hs2) (by rw [C.hN hne, C.hsc hne]; exact blkOk_by hb) lc_hg (fun _ _ _ _ _ => pts_nil) lc_he hf)
    (E1.imp h fun x H1 h1 => E1.imp h1 fun y H2 ⟨lo, hi, e1, e2, hbd, q⟩ => ⟨lo, hi, by rw [e1, e2], hbd, fun D hD => ?_⟩)
  exact lc_of C walk_range (q D _ (New.of hD))
theorem s_setR1T {a : Expr} (C : Ctx X N sc k) (own : List (Str × Nat)) (sl : SetL X N sc scope i y) (g : GlN X "range") (hb : blkC N sc scope own = true) (h : E1 X a σ H fun x H1 => ∃ n : Nat, x = .int n ∧ n < 2 ^ 62 ∧ ∀ D H3, New H1 D (.lst []) H3 →
      LcRunT D n (fun _ => True) (YFn fun i => .int (i : Nat)) (LcTurnT X scope k sc tg c elt (own.map (·.2)) σ) H3 (fun H' => nx (σ.set i (some (.ref D))) H'))
    (hl : (py.line == pos.line) = true := by rfl) (hs : starEach [a] X.env = [(false, eval a X.env)] := by rfl)
    (hf : ∀ x, foldedSetIterable (.Call (.Name "range" p) [a] [] apos) X.env x = pure x := by intro _; rfl) (hne : N ≠ [] := by intro h; cases h) : S1 X (.Assign [.Name y py] (.ListComp elt [⟨tg, .Call (.Name "range" p) [a] [] apos, [c], 0⟩] scope pos) spos) σ H nx rt bk ct := by
  refine S1.of (ps_setLc C.calm (C.nd hne) (by rw [C.hN hne]; exact sl.n) (by rw [C.hsc hne]; exact sl.l) (sl.sw C hl _ hne) (pi_range1 g.g (C.tx.free 71 rfl) (pa_cons pE pa_nil hs) hs) (by rw [C.hN hne, C.hsc hne]; exact blkOk_by hb) lc_hg (fun s H C' cl fp => pts_one (lc_ht s H C' cl fp)) lc_he hf)
    (E1.imp h fun x H1 ⟨n, e1, hn, q⟩ => ⟨n, by rw [e1], by omega, by omega, fun D hD => ?_⟩)
  have w := (walk_range (lo := 0) (n := n)).mono (G' := fun _ => True) (Y' := YFn fun i => .int (i : Nat)) (fun _ h => h) fun i H x H' _ _ ⟨e1, e2⟩ => ⟨e1, by rw [e2]; show V.int (0 + _) = _; rw [Int.zero_add]⟩
  rw [show ((n : Int).toNat) = n by omega]
  exact lc_ofT C w (q D _ (New.of hD))
end
/-! ## LoL24 -/
theorem Vals1.but {a lv : Addr} {H H' : Hp} {xs : List LV} (h : Vals1 H lv xs) (b : But a H H') (s : Strm H a) (n : lv ≠ a) : Vals1 H' lv xs := by
  obtain ⟨us, h1, h2⟩ := h.at_
  exact ⟨us, b.k _ _ n h1, h2.mono (b.keep s)⟩
def spLAsked : Sp := fun vs H Q _ => ∃ (a m lv : Addr) (ps : List Addr) (Ms : List (List T)) (xs : List LV), vs = [.ref a, .ref m, .ref lv] ∧ Strm H a ∧ H m = some (.lst (ps.map V.ref)) ∧ LsAt H ps Ms ∧ Mails xs Ms ∧ Ms.length ≤ 5 ∧ (txt Ms).length ≤ 350000 ∧ Vals1 H lv xs ∧ lv ≠ a ∧ ∀ H', But a H H' → Strm H' a → Q (.bl true) H'
/-- what is known between the parts -/
structure Ask (a lv e : Addr) (Ms : List (List T)) (xs : List LV) (H0 H : Hp) : Prop where
  b : But a H0 H
  s : Strm H a
  v : Vals1 H lv xs
  e : H e = some (.lst (endsV Ms (Ms.length + 1)))
theorem Ask.same {a lv e : Addr} {Ms : List (List T)} {xs : List LV} {H0 H H' : Hp} (k : Ask a lv e Ms xs H0 H) (s : Same H H') : Ask a lv e Ms xs H0 H' := ⟨k.b.trans (But.of s), k.s.same s, k.v.mono s, s _ _ k.e⟩
theorem Ask.draw {a lv e : Addr} {Ms : List (List T)} {xs : List LV} {H0 H H' : Hp} (hl : lv ≠ a) (he : e ≠ a) (k : Ask a lv e Ms xs H0 H) (b : But a H H') (s : Strm H' a) : Ask a lv e Ms xs H0 H' := ⟨k.b.trans b, s, k.v.but b k.s hl, b.k _ _ he k.e⟩
theorem vals_take {H : Hp} {lv : Addr} {xs : List LV} (k : Nat) (h : Vals1 H lv xs) : ∃ us, H lv = some (.lst us) ∧ ∀ r H', Same H H' → H' r = some (.lst (us.take k)) → Vals1 H' r (xs.take k) := by
  obtain ⟨us, h1, h2⟩ := h.at_
  exact ⟨us, h1, fun r H' s e => ⟨⟨_, e, by rw [← map_take_lv]; exact (tp_take k h2).mono (Keep.of s)⟩⟩⟩
theorem ends_at {Ms : List (List T)} {k : Nat} (h : k ≤ Ms.length) : (endsV Ms (Ms.length + 1))[k]? = some (.int (endAt Ms k : Nat)) := by
  unfold endsV
  rw [List.getElem?_map, List.getElem?_range (by omega)]; rfl
theorem ends_len (Ms : List (List T)) : (endsV Ms (Ms.length + 1)).length = Ms.length + 1 := by unfold endsV; rw [List.length_map, List.length_range]
theorem others_at {k : Int} (h0 : 0 ≤ k) (h1 : k < 10) : ∃ o : T, o ∈ ([[120], [10], [46], [46, 10], [124, 10], [32, 10], [70, 114, 111, 109, 58, 32, 97, 32, 49, 10], [70, 114, 111, 109, 58, 32, 97, 32, 49, 10, 83, 116, 97, 109, 112, 58, 32, 49, 10, 10, 46, 10], [32, 120, 10], [10, 46, 10]] : List T) ∧
    atI [S (tl (Str.ofString "x")), S (tl (Str.ofString "\n")), S (tl (Str.ofString ".")), S (tl (Str.ofString ".\n")), S (tl (Str.ofString "|\n")), S (tl (Str.ofString " \n")), S (tl (Str.ofString "From: a 1\n")), S (tl (Str.ofString "From: a 1\nStamp: 1\n\n.\n")), S (tl (Str.ofString " x\n")), S (tl (Str.ofString "\n.\n"))] k = some (S o) := by
  have hk : k = 0 ∨ k = 1 ∨ k = 2 ∨ k = 3 ∨ k = 4 ∨ k = 5 ∨ k = 6 ∨ k = 7 ∨ k = 8 ∨ k = 9 := by omega
  rcases hk with rfl | rfl | rfl | rfl | rfl | rfl | rfl | rfl | rfl | rfl
  · exact ⟨[120], by decide, by decide +kernel⟩
  · exact ⟨[10], by decide, by decide +kernel⟩
  · exact ⟨[46], by decide, by decide +kernel⟩
  · exact ⟨[46, 10], by decide, by decide +kernel⟩
  · exact ⟨[124, 10], by decide, by decide +kernel⟩
  · exact ⟨[32, 10], by decide, by decide +kernel⟩
  · exact ⟨[70, 114, 111, 109, 58, 32, 97, 32, 49, 10], by decide, by decide +kernel⟩
  · exact ⟨[70, 114, 111, 109, 58, 32, 97, 32, 49, 10, 83, 116, 97, 109, 112, 58, 32, 49, 10, 10, 46, 10], by decide, by decide +kernel⟩
  · exact ⟨[32, 120, 10], by decide, by decide +kernel⟩
  · exact ⟨[10, 46, 10], by decide, by decide +kernel⟩
theorem other_small {o : T} (h : o ∈ ([[120], [10], [46], [46, 10], [124, 10], [32, 10], [70, 114, 111, 109, 58, 32, 97, 32, 49, 10], [70, 114, 111, 109, 58, 32, 97, 32, 49, 10, 83, 116, 97, 109, 112, 58, 32, 49, 10, 10, 46, 10], [32, 120, 10], [10, 46, 10]] : List T)) : 1 ≤ o.length ∧ o.length ≤ 30 ∧ aT o := by
  have key : (([[120], [10], [46], [46, 10], [124, 10], [32, 10], [70, 114, 111, 109, 58, 32, 97, 32, 49, 10], [70, 114, 111, 109, 58, 32, 97, 32, 49, 10, 83, 116, 97, 109, 112, 58, 32, 49, 10, 10, 46, 10], [32, 120, 10], [10, 46, 10]] : List T).all fun o => decide (1 ≤ o.length) && (decide (o.length ≤ 30) && o.all fun c => decide (c < 200))) = true := by decide
  have := List.all_eq_true.mp key o h
  simp only [Bool.and_eq_true, decide_eq_true_eq] at this
  exact ⟨this.1, this.2.1, aT_low this.2.2⟩
theorem spoil_at {k : Int} (h0 : 0 ≤ k) (h1 : k < 5) : ∃ s : T, s.length ≤ 2 ∧ aT s ∧ 10 ∉ s ∧ s.head? ≠ some 70 ∧
    atI [S (tl (Str.ofString "x\n")), S (tl (Str.ofString "\n")), S (tl (Str.ofString ".\n")), S (tl (Str.ofString "|\n")), S (tl (Str.ofString " x\n"))] k = some (S (s ++ [10])) := by
  have hk : k = 0 ∨ k = 1 ∨ k = 2 ∨ k = 3 ∨ k = 4 := by omega
  rcases hk with rfl | rfl | rfl | rfl | rfl
  · exact ⟨[120], by decide, aT_low (by decide), by decide, by decide, by decide +kernel⟩
  · exact ⟨[], by decide, aT_low (by decide), by decide, by decide, by decide +kernel⟩
  · exact ⟨[46], by decide, aT_low (by decide), by decide, by decide, by decide +kernel⟩
  · exact ⟨[124], by decide, aT_low (by decide), by decide, by decide, by decide +kernel⟩
  · exact ⟨[32, 120], by decide, aT_low (by decide), by decide, by decide, by decide +kernel⟩
theorem tp_ints {H : Hp} : ∀ ns : List Nat, TpAll H (ns.map fun k => V.int (k : Nat)) (ns.map fun k => PyData.int (k : Nat))
  | [] => .nil
  | _ :: r => .cons (.int _) (tp_ints r)
theorem ints_lay : ∀ ns : List Nat, PyData.canLayAll0 (ns.map fun k => PyData.int (k : Nat)) = true
  | [] => by simp [PyData.canLayAll0]
  | k :: r => by simp [PyData.canLayAll0, PyData.canLay0, ints_lay r]
theorem ints_depth : ∀ ns : List Nat, PyData.depthAll (ns.map fun k => PyData.int (k : Nat)) = 0
  | [] => by simp [PyData.depthAll]
  | k :: r => by simp [PyData.depthAll, PyData.depth, ints_depth r]
theorem ints_shaped (ns : List Nat) : SeqAt.shaped (.list (ns.map fun k => PyData.int (k : Nat))) = true := by
  have a := ints_depth ns
  show (PyData.canLay0 (.list (ns.map fun k => PyData.int (k : Nat))) && decide (PyData.depth (.list (ns.map fun k => PyData.int (k : Nat))) ≤ 64)) = true
  rw [Bool.and_eq_true]
  exact ⟨by simp only [PyData.canLay0]; exact ints_lay ns, decide_eq_true (by simp only [PyData.depth]; omega)⟩
theorem ints_none (ns : List Nat) : PyData.eqv (.list (ns.map fun k => PyData.int (k : Nat))) (.list (([] : List Nat).map fun k => PyData.int (k : Nat))) = decide (ns = []) := by
  rw [PyData.eqv]
  cases ns with
  | nil => simp [PyData.eqvAll]
  | cons k r => simp [PyData.eqvAll]
theorem NeV.ints {K : PySem.W.Frag} {H : Hp} {Q : VK} {a b : Addr} {ns : List Nat} (h1 : H a = some (.lst (ns.map fun k => V.int (k : Nat)))) (h2 : H b = some (.lst [])) (q : Q (.bl (!decide (ns = []))) H) : NeV K (.ref a) (.ref b) H Q :=
  NeV.d (.lst (SqL.of h1) (TpAll.dp (tp_ints ns))) (.lst (SqL.of h2) (TpAll.dp (tp_ints []))) (ints_shaped ns) (ints_shaped []) (by rw [ints_none]; exact q)
section
variable {X : Cx} (C : Ctx X N_law_asked (defScope s_law_asked) 11) (c1 : CalleeX X CX0 11 "_law_next" spNext) (c2 : CalleeX X CX0 11 "_law_joined" spLJoined) (c3 : CalleeX X CX0 11 "_law_reads" spLReads) (c4 : CalleeX X CX0 11 "_law_begins" spLBegins) (c5 : CalleeX X CX0 11 "_law_raises" spLRaises) (c6 : CalleeX X CX0 11 "_law_cut_at" spLCutAt)
  {a m lv e : Addr} {Ms : List (List T)} {xs : List LV} {H0 : Hp} (hM : Mails xs Ms) (hn : Ms.length ≤ 5) (ht : (txt Ms).length ≤ 350000) (hla : lv ≠ a) (hea : e ≠ a) {Q : VK} (hQ : ∀ H', But a H0 H' → Strm H' a → Q (.bl true) H')
include C c1 c4 c5 hM hn ht hla hea hQ
theorem ask_other (o5 o6 o7 o8 o9 o10 o11 o12 o13 o14 : Option V) (H : Hp) (k : Ask a lv e Ms xs H0 H) :
    B1 X ((defBody s_law_asked).drop 8) [some (.ref a), some (.ref m), some (.ref lv), some (S (txt Ms)), some (.ref e), o5, o6, o7, o8, o9, o10, o11, o12, o13, o14] H (fun _ H' => Q .non H') Q nobk nobk := by
  have hnm := nm_law_asked C
  obtain ⟨v0, v1, v2, v3, v4, v5, v6, v7, v8, v9, v10, v11, v12, v13, w0, w1, w2, w3, w4, w5, w6, w7, w8, w9, w10, w11, w12, w13, g1, g2, g3, g4, g5, g6, g7, g8, g9, g10⟩ := hnm
  have hA := aT_txt hM
  have hxl := hM.len
  conv => arg 2; whnf
  walk_at "go"
  rename_i r H1 n1
  have k1 := k.same n1.same
  refine spNext.mk k1.s (by decide) (by decide) fun j H2 j0 j1 b2 s2 => ?_
  have k2 := k1.draw hla hea b2 s2
  obtain ⟨o, ho, hat⟩ := others_at j0 j1
  obtain ⟨ol1, ol2, oA⟩ := other_small ho
  obtain ⟨R, z, hoe, hR, hz, hr⟩ := other_no ho
  have hbeg := beg_other hM hoe hR hz hr
  have hr2 : H2 r = _ := b2.k _ _ (k.s.ne n1) n1.at_
  refine IxV.l (SqL.of hr2) hat ?_
  refine AddV.S (line16 (by omega)) ?_
  walk_at "go"
  have hAo : aT (txt Ms ++ o) := aT_app hA oA
  have hlo : (txt Ms ++ o).length ≤ 360000 := by rw [List.length_append]; omega
  refine LenW.S (line16 (by omega)) ?_
  refine a_nil ?_
  refine ⟨txt Ms ++ o, lv, xs, (txt Ms).length, rfl, hlo, hAo, hbeg, k2.v, mails_ok hM, by omega, fun H3 s3 => ?_⟩
  have k3 := k2.same s3
  walk_at "go"
  refine ⟨hlo, hAo, ?_, fun H4 s4 => ?_⟩
  · rw [hbeg, List.length_append]
    show (txt Ms).length ≠ _
    omega
  have k4 := k3.same s4
  exact hQ H4 k4.b k4.s
theorem ask_marks (o5 o6 o7 o8 o9 o10 o11 o12 o13 o14 : Option V) (H : Hp) (k : Ask a lv e Ms xs H0 H) :
    B1 X ((defBody s_law_asked).drop 6) [some (.ref a), some (.ref m), some (.ref lv), some (S (txt Ms)), some (.ref e), o5, o6, o7, o8, o9, o10, o11, o12, o13, o14] H (fun _ H' => Q .non H') Q nobk nobk := by
  have hnm := nm_law_asked C
  obtain ⟨v0, v1, v2, v3, v4, v5, v6, v7, v8, v9, v10, v11, v12, v13, w0, w1, w2, w3, w4, w5, w6, w7, w8, w9, w10, w11, w12, w13, g1, g2, g3, g4, g5, g6, g7, g8, g9, g10⟩ := hnm
  have hA := aT_txt hM
  have hxl := hM.len
  obtain ⟨t, hte⟩ : ∃ t, txt Ms = t := ⟨_, rfl⟩
  conv => arg 2; whnf
  walk_at "go"
  refine s_setR1T C [(("_law_place" : Str), 6)] (i := 9) ⟨rfl, by decide +kernel, by decide +kernel, by decide +kernel⟩ (by with_reducible assumption) (by decide +kernel) ?_
  walk_at "go"
  refine LenW.S (line16 (by omega)) ?_
  refine ⟨(txt Ms).length, rfl, by omega, fun D H1 n1 => ?_⟩
  rw [hte]
  refine ⟨fun i H' => New1 H D (.lst (((List.range i).filter (fun k => decide (t[k]? = some 10))).map fun k => V.int (k : Nat))) H', New1.of n1, fun _ _ _ _ => trivial, ?_, ?_⟩
  · rintro i v H' _ hi n ⟨rfl, rfl⟩ Xb hX CB
    refine g_name (blk_W C hX (x := "_law_place") (i := 6) (by decide +kernel)) ⟨rfl, fun Xb hX CB => ?_⟩
    have vp : Slot Xb 6 ("_law_place" : Str) := blk_V C hX (by decide +kernel)
    have vt : Slot Xb 3 ("_law_text_here" : Str) := blk_V C hX (by decide +kernel)
    have hti : t[i]? = some t[i] := List.getElem?_eq_getElem hi
    walk_at "go"
    refine IxV.s (z := mkS t) (c := t[i]) (by rw [mkS_len]; exact line16 (by rw [← hte]; omega)) (atI_nat hti) ?_
    walk_at "go"
    refine Bth.d (fun h => ?_) (fun h => ?_)
    · intro Xb hX CB
      have vp : Slot Xb 6 ("_law_place" : Str) := blk_V C hX (by decide +kernel)
      walk_at "go"
      have ec : t[i]? = some 10 := by
        rw [hti]
        have e : [t[i]] = [10] := h.trans (by decide +kernel)
        rw [List.singleton_inj.mp e]
      refine ⟨_, n.at_, Nat.lt_of_le_of_lt (show _ ≤ 360000 from ?_) (by decide), ?_⟩
      · rw [List.length_map]
        exact Nat.le_trans (List.length_filter_le _ _) (by rw [List.length_range]; rw [← hte] at hi; omega)
      show New1 H D (.lst (((List.range (i + 1)).filter (fun k => decide (t[k]? = some 10))).map fun k => V.int (k : Nat))) _
      have e1 : (List.range (i + 1)).filter (fun k => decide (t[k]? = some 10)) = (List.range i).filter (fun k => decide (t[k]? = some 10)) ++ [i] := by
        rw [List.range_succ, List.filter_append]; simp [ec]
      rw [e1, List.map_append]
      exact n.up
    · have ec : ¬ t[i]? = some 10 := by
        rw [hti]
        intro e
        exact h (by rw [Option.some.inj e]; decide +kernel)
      show New1 H D (.lst (((List.range (i + 1)).filter (fun k => decide (t[k]? = some 10))).map fun k => V.int (k : Nat))) _
      have e1 : (List.range (i + 1)).filter (fun k => decide (t[k]? = some 10)) = (List.range i).filter (fun k => decide (t[k]? = some 10)) := by
        rw [List.range_succ, List.filter_append]; simp [ec]
      rw [e1]; exact n
  · intro H2 n2
    obtain ⟨ms, hms⟩ : ∃ ms, (List.range t.length).filter (fun k => decide (t[k]? = some 10)) = ms := ⟨_, rfl⟩
    have hmm : ∀ p ∈ ms, t[p]? = some 10 := fun p hp => by
      rw [← hms] at hp
      simpa using (List.mem_filter.mp hp).2
    have hml : ms.length ≤ 350000 := by
      rw [← hms]
      exact Nat.le_trans (List.length_filter_le _ _) (by rw [List.length_range, ← hte]; exact ht)
    rw [hms] at n2
    have k2 := k.same n2.same
    walk_at "go"
    rename_i r H3 n3
    refine NeV.ints (n3.same _ _ n2.at_) n3.at_ ?_
    have k3 := k2.same n3.same
    refine ⟨_, rfl, Bth.dn (fun h => ?_) (fun h => ?_)⟩
    · have hm1 : 1 ≤ ms.length := by
        cases ms with
        | nil => exact absurd rfl h
        | cons _ _ => simp
      have hDa : D ≠ a := by
        intro z
        obtain ⟨_, _, ea, _⟩ := k.s
        rw [z] at n2; rw [n2.fr] at ea; cases ea
      walk_at "go"
      refine LenW.l (SqL.of (n3.same _ _ n2.at_)) ?_
      rw [List.length_map]
      walk_at "go"
      refine spNext.mk k3.s (by omega) (by omega) fun j H4 j0 j1 b4 s4 => ?_
      have k4 := k3.draw hla hea b4 s4
      obtain ⟨jn, rfl⟩ := Int.eq_ofNat_of_zero_le j0
      have hj : jn < ms.length := by omega
      obtain ⟨p, hp⟩ : ∃ p, ms[jn] = p := ⟨_, rfl⟩
      have htp : t[p]? = some 10 := hmm p (hp ▸ List.getElem_mem hj)
      have hpl : p < t.length := (List.getElem?_eq_some_iff.mp htp).1
      refine IxV.l (SqL.of (b4.k _ _ hDa (n3.same _ _ n2.at_))) (v := .int (p : Nat)) (atI_nat (by rw [List.getElem?_map, List.getElem?_eq_getElem hj, hp]; rfl)) ?_
      walk_at "go"
      refine whole_go C (ie := 4) (ip := 6) (ix := 14) (by decide +kernel) hM k4.e v4 rfl (by decide +kernel) (by decide +kernel) (by decide +kernel) rfl (show 14 < 15 by decide) (by decide) (by omega) fun D2 H5 s5 hD2 => ?_
      have k5 := k4.same s5
      obtain ⟨q1, q2, q3, q4⟩ := whole_spec hM p
      have htab := beg_tab hM (p := p) (by rw [hte]; exact htp)
      obtain ⟨wh, hwh⟩ : ∃ wh, whole Ms p = wh := ⟨_, rfl⟩
      rw [hwh] at q1 q2 q3 q4 htab
      rw [hte] at htab
      refine LenW.l (SqL.of hD2) ?_
      rw [List.length_map, q1]
      walk_at "go"
      have htl : t.length ≤ 350000 := by rw [← hte]; exact ht
      refine SlV.sTo p rfl (line16 (by omega)) ?_
      walk_at "go"
      rw [show tl (Str.ofString "\t") = [9] by decide +kernel]
      have hlt : (t.take p).length = p := by rw [List.length_take]; omega
      have hld : (t.drop (p + 1)).length = t.length - (p + 1) := List.length_drop
      refine AddV.S (line16 (by rw [hlt]; simp; omega)) ?_
      walk_at "go"
      refine SlV.sFrom (p + 1) (by omega) (line16 (by omega)) ?_
      refine AddV.S (line16 (by rw [List.length_append, hlt, hld]; simp; omega)) ?_
      walk_at "go"
      have hlb : (t.take p ++ [9] ++ t.drop (p + 1)).length = t.length := by rw [List.length_append, List.length_append, hlt, hld]; simp; omega
      have hAb : aT (t.take p ++ [9] ++ t.drop (p + 1)) := aT_app (aT_app (aT_take (hte ▸ hA)) (aT_low (by decide))) (aT_drop (hte ▸ hA))
      obtain ⟨us, hu1, hu2⟩ := vals_take wh k5.v
      refine SlV.lTo wh (by omega) (SqL.of hu1) fun r2 H6 n6 => ?_
      have k6 := k5.same n6.same
      walk_at "go"
      refine IxV.l (SqL.of k6.e) (by rw [show ((wh + 1 : Nat) : Int) - 1 = (wh : Nat) by omega]; exact atI_nat (ends_at q2)) ?_
      walk_at "go"
      refine ⟨_, r2, xs.take wh, endAt Ms wh, rfl, by omega, hAb, htab, hu2 r2 H6 n6.same n6.at_, fun x hx => mails_ok hM x (List.mem_of_mem_take hx), by rw [List.length_take]; omega, fun H7 s7 => ?_⟩
      have k7 := k6.same s7
      walk_at "go"
      refine ⟨by omega, hAb, ?_, fun H8 s8 => ?_⟩
      · rw [htab, hlb]
        show endAt Ms wh ≠ _
        omega
      have k8 := k7.same s8
      refine ⟨_, rfl, Bth.nt ?_⟩
      refine b_nil (b_nil ?_)
      rw [← hte]
      exact ask_other C c1 c4 c5 hM hn ht hla hea hQ _ _ _ _ _ _ _ _ _ _ H8 k8
    · refine b_nil ?_
      rw [← hte]
      exact ask_other C c1 c4 c5 hM hn ht hla hea hQ _ _ _ _ _ _ _ _ _ _ H3 k3
theorem ask_spoilt (o5 o6 o7 o8 o9 o10 o11 o12 o13 o14 : Option V) (H : Hp) (k : Ask a lv e Ms xs H0 H) :
    B1 X ((defBody s_law_asked).drop 3) [some (.ref a), some (.ref m), some (.ref lv), some (S (txt Ms)), some (.ref e), o5, o6, o7, o8, o9, o10, o11, o12, o13, o14] H (fun _ H' => Q .non H') Q nobk nobk := by
  have hnm := nm_law_asked C
  obtain ⟨v0, v1, v2, v3, v4, v5, v6, v7, v8, v9, v10, v11, v12, v13, w0, w1, w2, w3, w4, w5, w6, w7, w8, w9, w10, w11, w12, w13, g1, g2, g3, g4, g5, g6, g7, g8, g9, g10⟩ := hnm
  have hA := aT_txt hM
  have hxl := hM.len
  obtain ⟨t, hte⟩ : ∃ t, txt Ms = t := ⟨_, rfl⟩
  conv => arg 2; whnf
  walk_at "go"
  refine LenW.l (SqL.of k.e) ?_
  rw [ends_len]
  walk_at "go"
  refine spNext.mk k.s (by omega) (by omega) fun j H1 j0 j1 b1 s1 => ?_
  have k1 := k.draw hla hea b1 s1
  obtain ⟨at_, rfl⟩ := Int.eq_ofNat_of_zero_le j0
  have hat : at_ ≤ Ms.length := by omega
  have hE := endAt_le Ms at_
  have htl : t.length ≤ 350000 := by rw [← hte]; exact ht
  rw [hte] at hE ⊢
  walk_at "go"
  refine IxV.l (SqL.of k1.e) (atI_nat (ends_at hat)) ?_
  walk_at "go"
  refine SlV.sTo (endAt Ms at_) rfl (line16 (by omega)) ?_
  walk_at "go"
  rename_i r H2 n2
  have k2 := k1.same n2.same
  refine spNext.mk k2.s (by decide) (by decide) fun j2 H3 j20 j21 b3 s3 => ?_
  have k3 := k2.draw hla hea b3 s3
  obtain ⟨sp, sl, sA, s10, sh, sat⟩ := spoil_at j20 j21
  have hr3 : H3 r = _ := b3.k _ _ (k1.s.ne n2) n2.at_
  refine IxV.t (SqT.of hr3) sat ?_
  have hl1 : (t.take (endAt Ms at_)).length = endAt Ms at_ := by rw [List.length_take]; omega
  have hl2 : (t.drop (endAt Ms at_)).length = t.length - endAt Ms at_ := List.length_drop
  have hl3 : (sp ++ [10]).length = sp.length + 1 := by simp
  refine AddV.S (line16 (by omega)) ?_
  walk_at "go"
  refine IxV.l (SqL.of k3.e) (atI_nat (ends_at hat)) ?_
  walk_at "go"
  refine SlV.sFrom (endAt Ms at_) rfl (line16 (by omega)) ?_
  refine AddV.S (line16 (by rw [List.length_append]; omega)) ?_
  have hbeg := beg_spoilt hM at_ s10 sh
  rw [hte] at hbeg
  have hAs : aT (t.take (endAt Ms at_) ++ (sp ++ [10]) ++ t.drop (endAt Ms at_)) := aT_app (aT_app (aT_take (hte ▸ hA)) (aT_app sA (aT_low (by decide)))) (aT_drop (hte ▸ hA))
  have hls : (t.take (endAt Ms at_) ++ (sp ++ [10]) ++ t.drop (endAt Ms at_)).length = t.length + sp.length + 1 := by rw [List.length_append, List.length_append, hl1, hl2, hl3]; omega
  walk_at "go"
  obtain ⟨us, hu1, hu2⟩ := vals_take at_ k3.v
  refine SlV.lTo at_ rfl (SqL.of hu1) fun r2 H4 n4 => ?_
  have k4 := k3.same n4.same
  walk_at "go"
  refine IxV.l (SqL.of k4.e) (atI_nat (ends_at hat)) ?_
  walk_at "go"
  refine ⟨_, r2, xs.take at_, endAt Ms at_, rfl, by omega, hAs, hbeg, hu2 r2 H4 n4.same n4.at_, fun x hx => mails_ok hM x (List.mem_of_mem_take hx), by rw [List.length_take]; omega, fun H5 s5 => ?_⟩
  have k5 := k4.same s5
  walk_at "go"
  refine ⟨by omega, hAs, ?_, fun H6 s6 => ?_⟩
  · rw [hbeg, hls]
    show endAt Ms at_ ≠ _
    omega
  have k6 := k5.same s6
  refine ⟨_, rfl, Bth.nt ?_⟩
  refine b_nil ?_
  rw [← hte]
  exact ask_marks C c1 c4 c5 hM hn ht hla hea hQ _ _ _ _ _ _ _ _ _ _ H6 k6
include c6
theorem ask_loop (o5 o6 o7 o8 o9 o10 o11 o12 o13 o14 : Option V) (H : Hp) (k : Ask a lv e Ms xs H0 H) :
    B1 X ((defBody s_law_asked).drop 2) [some (.ref a), some (.ref m), some (.ref lv), some (S (txt Ms)), some (.ref e), o5, o6, o7, o8, o9, o10, o11, o12, o13, o14] H (fun _ H' => Q .non H') Q nobk nobk := by
  have hnm := nm_law_asked C
  obtain ⟨v0, v1, v2, v3, v4, v5, v6, v7, v8, v9, v10, v11, v12, v13, w0, w1, w2, w3, w4, w5, w6, w7, w8, w9, w10, w11, w12, w13, g1, g2, g3, g4, g5, g6, g7, g8, g9, g10⟩ := hnm
  conv => arg 2; whnf
  refine b_cons ?_
  refine s_for_range1 C.toCok (by with_reducible assumption) (C.tx.free 71 rfl) ?_
  walk_at "go"
  refine ⟨by decide, fun i σ H' => ∃ o5 o6, σ = [some (.ref a), some (.ref m), some (.ref lv), some (S (txt Ms)), some (.ref e), o5, o6, o7, o8, o9, o10, o11, o12, o13, o14] ∧ Ask a lv e Ms xs H0 H', ⟨o5, o6, rfl, k⟩, ?_, ?_⟩
  · rintro i σ H1 hi ⟨o5, o6, rfl, k1⟩
    have rest : ∀ (j : Int) (H2 : Hp), Ask a lv e Ms xs H0 H2 → B1 X (match (defBody s_law_asked).getD 2 (.Pass ⟨0, 0, 0, 0⟩) with | .For _ _ b _ _ => b.drop 2 | _ => []) [some (.ref a), some (.ref m), some (.ref lv), some (S (txt Ms)), some (.ref e), some (.int (i : Nat)), some (.int j), o7, o8, o9, o10, o11, o12, o13, o14] H2
        (fun σ H' => ∃ o5 o6, σ = [some (.ref a), some (.ref m), some (.ref lv), some (S (txt Ms)), some (.ref e), o5, o6, o7, o8, o9, o10, o11, o12, o13, o14] ∧ Ask a lv e Ms xs H0 H') Q
        (fun σ' H' => B1 X ((defBody s_law_asked).drop 3) σ' H' (fun _ H' => Q .non H') Q nobk nobk) (fun σ H' => ∃ o5 o6, σ = [some (.ref a), some (.ref m), some (.ref lv), some (S (txt Ms)), some (.ref e), o5, o6, o7, o8, o9, o10, o11, o12, o13, o14] ∧ Ask a lv e Ms xs H0 H') := by
      intro j H2 k2
      conv => arg 2; whnf
      walk_at "go"
      refine LenW.S (line16 (by omega)) ?_
      obtain ⟨p, hp, hp2⟩ : ∃ p : Nat, p ≤ (txt Ms).length ∧ (if ((txt Ms).length : Int) < (if j > 0 then j else 0) then ((txt Ms).length : Int) else (if j > 0 then j else 0)) = (p : Int) := by
        by_cases h1 : j > 0
        · rw [if_pos h1]
          by_cases h2 : ((txt Ms).length : Int) < j
          · rw [if_pos h2]; exact ⟨(txt Ms).length, Nat.le_refl _, rfl⟩
          · rw [if_neg h2]; exact ⟨j.toNat, by omega, by omega⟩
        · rw [if_neg h1, if_neg (by omega)]; exact ⟨0, by omega, rfl⟩
      walk_at "go"
      rw [hp2]
      refine ⟨Ms, xs, e, lv, p, rfl, hM, by omega, by omega, k2.e, k2.v, hp, fun H3 s3 => ?_⟩
      refine ⟨_, rfl, Bth.nt ?_⟩
      exact b_nil (b_nil ⟨_, _, rfl, k2.same s3⟩)
    walk_at "go"
    refine LenW.S (line16 (by omega)) ?_
    walk_at "go"
    refine spNext.mk k1.s (by omega) (by omega) fun j H2 j0 j1 b2 s2 => ?_
    have k2 := k1.draw hla hea b2 s2
    walk_at "go"
    refine Bth.d (fun h => ?_) (fun h => ?_)
    · walk_at "go"
      refine LenW.l (SqL.of k2.e) ?_
      rw [ends_len]
      walk_at "go"
      refine spNext.mk k2.s (by omega) (by omega) fun j3 H3 j30 j31 b3 s3 => ?_
      have k3 := k2.draw hla hea b3 s3
      obtain ⟨jn, rfl⟩ := Int.eq_ofNat_of_zero_le j30
      refine IxV.l (SqL.of k3.e) (atI_nat (ends_at (by omega))) ?_
      refine e_var v5 rfl ?_
      refine AddV.i ?_
      refine e_int ?_
      refine ⟨_, _, rfl, rfl, ?_⟩
      exact b_nil (rest _ H3 k3)
    · exact b_nil (rest _ H2 k2)
  · rintro σ H1 ⟨o5, o6, rfl, k1⟩
    exact ask_spoilt C c1 c4 c5 hM hn ht hla hea hQ _ _ _ _ _ _ _ _ _ _ H1 k1
end
/-! ## LoL25 -/
theorem b_lasked {X : Cx} (C : Ctx X N_law_asked (defScope s_law_asked) 11) (c1 : CalleeX X CX0 11 "_law_next" spNext) (c2 : CalleeX X CX0 11 "_law_joined" spLJoined) (c3 : CalleeX X CX0 11 "_law_reads" spLReads) (c4 : CalleeX X CX0 11 "_law_begins" spLBegins) (c5 : CalleeX X CX0 11 "_law_raises" spLRaises) (c6 : CalleeX X CX0 11 "_law_cut_at" spLCutAt)
    (a m lv : Addr) (ps : List Addr) (Ms : List (List T)) (xs : List LV) (H : Hp) (hs : Strm H a) (hm : H m = some (.lst (ps.map V.ref))) (hps : LsAt H ps Ms) (hM : Mails xs Ms) (hn : Ms.length ≤ 5) (ht : (txt Ms).length ≤ 350000) (hv : Vals1 H lv xs) (hla : lv ≠ a) (Q : VK) (hQ : ∀ H', But a H H' → Strm H' a → Q (.bl true) H') :
    B1 X (defBody s_law_asked) (start N_law_asked [.ref a, .ref m, .ref lv]) H (fun _ H' => Q .non H') Q nobk nobk := by
  have hnm := nm_law_asked C
  obtain ⟨v0, v1, v2, v3, v4, v5, v6, v7, v8, v9, v10, v11, v12, v13, w0, w1, w2, w3, w4, w5, w6, w7, w8, w9, w10, w11, w12, w13, g1, g2, g3, g4, g5, g6, g7, g8, g9, g10⟩ := hnm
  have hA := aT_txt hM
  have hxl := hM.len
  conv => arg 2; whnf
  walk_at "go"
  refine s_asg ?_
  walk_at "go"
  refine ⟨m, ps, Ms, rfl, hm, hps, by omega, by omega, fun q e H1 s1 hef hq he => ?_⟩
  have hea : e ≠ a := by
    intro z
    obtain ⟨_, _, ea, _⟩ := hs
    rw [z, ea] at hef; cases hef
  have k1 : Ask a lv e Ms xs H H1 := ⟨But.of s1, hs.same s1, hv.mono s1, he⟩
  refine g_tup C.calm (SqT.of hq) rfl (gs_cons (g_name w3 (gs_cons (g_name w4 (gs_nil ?_)))))
  walk_at "go"
  refine ⟨txt Ms, lv, xs, rfl, by omega, hA, beg_all hM, k1.v, mails_ok hM, by omega, fun H2 s2 => ?_⟩
  have k2 := k1.same s2
  walk_at "go"
  refine LenW.S (line16 (by omega)) ?_
  walk_at "go"
  refine ⟨txt Ms, lv, xs, _, rfl, by omega, hA, beg_all hM, k2.v, mails_ok hM, by omega, fun H3 s3 => ?_⟩
  refine ⟨_, rfl, Bth.nt ?_⟩
  refine b_nil ?_
  exact ask_loop C c1 c4 c5 c6 hM hn ht hla hea hQ _ _ _ _ _ _ _ _ _ _ H3 (k2.same s3)
section
variable {P : Program} {w : World} {K : PySem.W.Frag} {mg : Str → Option Value} {base : Heap}
theorem c_lasked (T : Tx w K mg base) : Callee P w K mg base CX0 12 "_law_asked" spLAsked := by
  have c1 := (c_next (P := P) T).mono (by decide : 2 ≤ 11)
  have c2 := (c_ljoined (P := P) T).mono (by decide : 2 ≤ 11)
  have c3 := (c_lreads (P := P) T).mono (by decide : 10 ≤ 11)
  have c4 := (c_lbegins (P := P) T).mono (by decide : 9 ≤ 11)
  have c5 := (c_lraises (P := P) T).mono (by decide : 10 ≤ 11)
  have c6 := c_lcut_at (P := P) T
  refine callee_of T 57 55 rfl rfl rfl rfl rfl fs_law_asked bd_law_asked (fun vs H Q E h => ?_) (fun X h1 h2 h3 h4 h5 C vs H Q E h => ?_)
  · obtain ⟨_, _, _, _, _, _, rfl, _⟩ := h; rfl
  · subst h1 h2 h3 h4 h5
    obtain ⟨a, m, lv, ps, Ms, xs, rfl, hs, hm, hps, hM, hn, ht, hv, hla, q⟩ := h
    exact b_lasked C c1 c2 c3 c4 c5 c6 a m lv ps Ms xs H hs hm hps hM hn ht hv hla Q q
end
/-! ## LoSize -/
/-! Sizes: how long an archive can be; the law's long archive. -/
theorem tot_le {ls : List T} {k : Nat} (h : ∀ l ∈ ls, l.length ≤ k) : tot ls ≤ ls.length * k := sum_le h
theorem len_tot : ∀ {ls : List T}, (∀ l ∈ ls, l ≠ []) → ls.length ≤ tot ls
  | [], _ => by simp [tot]
  | l :: ls, h => by
    have h1 := len_tot fun m hm => h m (List.mem_cons_of_mem _ hm)
    have h2 : 1 ≤ l.length := by
      have := h l (by simp)
      cases l with
      | nil => exact absurd rfl this
      | cons _ _ => simp
    rw [tot_cons, List.length_cons]; omega
theorem tot_rows (rs : List T) : tot (rs.map fun r => 124 :: r) = tot rs + rs.length := by
  induction rs with
  | nil => rfl
  | cons r rs ih => rw [List.map_cons, tot_cons, tot_cons, ih, List.length_cons, List.length_cons]; omega
theorem text_len {x : LV} (h : isLetter x = true) {z : T} (hz : textOf x.body = some z) : z.length ≤ 400 := by
  have hb := (letter_parts h).2.2.2.2.1
  revert hz hb
  cases x.body with
  | say o => intro hz hb; rw [show o = some z from hz] at hb; exact textL hb
  | reply e r o => intro hz hb; unfold isBody at hb; simp only [Bool.and_eq_true] at hb; rw [show o = some z from hz] at hb; exact textL hb.2
  | _ => intro hz; cases hz
theorem mail_size {x : LV} {M : List T} (h : IsMail x M) (hl : x.seen.length ≤ 60) : (joinN M).length ≤ 60000 := by
  obtain ⟨ls, h1, h2, rfl⟩ := h.at_
  have a1 := hdr_len h.ok hl
  have a2 := tot_le a1
  have a3 := hdr_cnt x
  have a4 : (hdr x).length * 3000 ≤ 7 * 3000 := Nat.mul_le_mul_right _ a3
  have a5 := (unf_prop ls [] (hdr x) h2).1
  have a6 := len_tot h1
  have a7 : tot ([] : List T) = 0 := rfl
  have a8 : tot (textRows (textOf x.body)) + (textRows (textOf x.body)).length ≤ 1300 := by
    cases hz : textOf x.body with
    | none => simp [textRows, tot]
    | some z =>
      have b1 := text_len h.ok hz
      have b2 := (spl1_tot 10 z).1
      have b3 := spl1_count z
      have b4 := count_len z
      have b5 : textRows (some z) = (spl1 10 z).map fun r => 124 :: r := rfl
      rw [b5, tot_rows, List.length_map]; omega
  rw [joinN_len, tot_app, tot_cons, tot_app, List.length_append, List.length_cons, List.length_append]
  have a9 : tot ([[46]] : List T) = 1 := rfl
  rw [a9]
  simp only [List.length_nil, List.length_cons]
  omega
theorem txt_size : ∀ {xs : List LV} {Ms : List (List T)}, Mails xs Ms → (∀ x ∈ xs, x.seen.length ≤ 60) → (txt Ms).length ≤ Ms.length * 60000
  | _, _, .nil, _ => by simp [txt, joinN]
  | _, _, .cons a r, h => by
    have h1 := txt_size r fun x hx => h x (List.mem_cons_of_mem _ hx)
    have h2 := mail_size a (h _ (by simp))
    rw [txt_cons, List.length_append, List.length_cons]; omega
theorem mails_60 : ∀ {xs : List LV}, (∀ x ∈ xs, isLetter x = true ∧ wfB x.body = true) → Mails xs (xs.map mailL)
  | [], _ => .nil
  | x :: xs, h => .cons (mailL_isMail (h x (by simp)).1 (h x (by simp)).2) (mails_60 fun y hy => h y (List.mem_cons_of_mem _ hy))
/-! ### the long archive -/
def an : T := [97, 110]
def lvn (n : Nat) : LV := ⟨an, n, n, [(an, n)], .seen⟩
theorem lvn_ok {n : Nat} (h1 : 2 ≤ n) (h2 : n ≤ 2000) : isLetter (lvn n) = true := by
  have e1 : isNum (n : Int) = true := by unfold isNum; rw [decide_eq_true (show (1 : Int) ≤ n by omega), decide_eq_true (show (n : Int) ≤ 1000000000000000000 by omega)]; rfl
  have e0 : isName an = true := by decide
  refine lv_other e0 e1 e1 ?_ rfl (by simp) (by omega) (by omega) (by rintro _ _ e; cases e)
  unfold isSeen isRef; simp [e0, e1, asc]
theorem fold60_short {l : T} (h : l.length ≤ 60) : fold60 l = [l] := fold60_end (by unfold cutAt; rw [if_pos h]; omega)
theorem lvn_mail {n : Nat} (h2 : n ≤ 2000) : (joinN (mailL (lvn n))).length ≤ 100 := by
  have e1 : (numI (n : Int)).length ≤ 4 := LoW.numN_len (by decide) (by omega)
  have hh : hdr (lvn n) = [hFrom ++ refW (an, n), hStamp ++ numI n, hSeen ++ refW (an, n), hKind ++ kSeen] := rfl
  have er : (refW (an, (n : Int))).length ≤ 7 := by unfold refW; simp [an]; omega
  have hm : mailL (lvn n) = [hFrom ++ refW (an, n), hStamp ++ numI n, hSeen ++ refW (an, n), hKind ++ kSeen, [], [46]] := by
    unfold mailL
    rw [hh]
    simp only [List.map_cons, List.map_nil]
    rw [fold60_short (l := hFrom ++ refW (an, n)) (by simp [hFrom]; omega), fold60_short (l := hStamp ++ numI n) (by simp [hStamp]; omega), fold60_short (l := hSeen ++ refW (an, n)) (by simp [hSeen]; omega), fold60_short (l := hKind ++ kSeen) (by decide)]
    rfl
  rw [hm, joinN_len]
  simp [tot, hFrom, hStamp, hSeen, hKind, kSeen]
  omega
@[irreducible] def longX : List LV := (List.range 1100).map fun i => lvn (2 + i)
theorem longX_len : longX.length = 1100 := by unfold longX; rw [List.length_map, List.length_range]
theorem longX_at {i : Nat} (h : i < 1100) : longX[i]? = some (lvn (2 + i)) := by unfold longX; rw [List.getElem?_map, List.getElem?_range h]; rfl
theorem longX_ok : ∀ x ∈ longX, isLetter x = true ∧ wfB x.body = true := by
  intro x hx
  unfold longX at hx
  obtain ⟨i, hi, rfl⟩ := List.mem_map.mp hx
  have := List.mem_range.mp hi
  exact ⟨lvn_ok (by omega) (by omega), rfl⟩
theorem longX_seen : ∀ x ∈ longX, x.seen.length ≤ 60 := by
  intro x hx
  unfold longX at hx
  obtain ⟨i, hi, rfl⟩ := List.mem_map.mp hx
  show 1 ≤ 60
  decide
theorem txt_len (Ms : List (List T)) : (txt Ms).length = tot Ms.flatten + Ms.flatten.length := joinN_len _
theorem long_size' : ∀ {xs : List LV}, (∀ x ∈ xs, ∃ n ≤ 2000, x = lvn n) → (txt (xs.map mailL)).length ≤ xs.length * 100
  | [], _ => by simp [txt, joinN]
  | x :: xs, h => by
    have h1 := long_size' fun y hy => h y (List.mem_cons_of_mem _ hy)
    obtain ⟨n, hn, rfl⟩ := h x (by simp)
    have h2 := lvn_mail hn
    rw [List.map_cons, txt_cons, List.length_append, List.length_cons]; omega
theorem long_size : (txt (longX.map mailL)).length ≤ 110000 := by
  have := long_size' (xs := longX) fun x hx => by
    unfold longX at hx
    obtain ⟨i, hi, rfl⟩ := List.mem_map.mp hx
    have := List.mem_range.mp hi
    exact ⟨2 + i, by omega, rfl⟩
  rw [longX_len] at this
  exact this
/-! ## LoL26 -/
theorem CalleeM.blk {X Xb : Cx} {scope : Scope} {k : Nat} {f : Addr} {sp : Sp} (c : CalleeM X.prog X.w X.K X.mg X.base k f sp) (h : IsBlk X scope Xb) : CalleeM Xb.prog Xb.w Xb.K Xb.mg Xb.base k f sp := by
  obtain ⟨s, H0, C', cl, fp, rfl⟩ := h.eq
  exact c
theorem blk_K {X Xb : Cx} {scope : Scope} (h : IsBlk X scope Xb) : Xb.K = X.K := by
  obtain ⟨s, H0, C', cl, fp, rfl⟩ := h.eq
  rfl
def rfx (x : LV) : Rf := (x.author, x.number)
/-- [l.ref for l in ..]: one turn -/
theorem ref_turn {X Xb : Cx} {N : List Str} {sc scope : Scope} {k : Nat} {σ : L2.St} {H : Hp} {Q : VK} {pos p : Pos} {i : Nat} {n : Str} (C : Ctx X N sc k) (hX : IsBlk X scope Xb) (CB : Ctx Xb [] sc k) (c : CalleeM X.prog X.w X.K X.mg X.base 2 (LoH.refG X.K) (spRef X.K)) (h3 : 3 ≤ k) (sl : Slot Xb i n)
    {a : Addr} {x : LV} (hx : LetAt X.K H a x) (hσ : σ[i]? = some (some (.ref a))) (q : ∀ v' H2, Same H H2 → Tp H2 v' (refD (rfx x)) → Q v' H2) (hab : attributeBase (.Name n p) "ref" Xb.env (eval (.Name n p) Xb.env) = eval (.Name n p) Xb.env := by rfl) :
    E1 Xb (.Attribute (.Name n p) "ref" pos) σ H Q := by
  have c' : CalleeM Xb.prog Xb.w Xb.K Xb.mg Xb.base 2 (LoH.refG Xb.K) (spRef Xb.K) := by
    obtain ⟨s, H0, C', cl, fp, rfl⟩ := hX.eq
    exact c
  refine e_ref CB c' (CB.room.mono h3) (e_var sl hσ ⟨a, x, rfl, by rw [blk_K hX]; exact hx, q⟩) hab
theorem EqV.refsL {K : PySem.W.Frag} {H : Hp} {Q : VK} {a b : Addr} {us vs : List V} {rs : List Rf} (hr : ∀ r ∈ rs, aT r.1) (h1 : H a = some (.lst us)) (h2 : H b = some (.lst vs)) (t1 : TpAll H us (rs.map refD)) (t2 : TpAll H vs (rs.map refD)) (q : Q (.bl true) H) : EqV K (.ref a) (.ref b) H Q :=
  EqV.d (.lst (SqL.of h1) (TpAll.dp t1)) (.lst (SqL.of h2) (TpAll.dp t2)) (refsL_shaped hr) (refsL_shaped hr) (by rw [eqvL_refs, decide_eq_true rfl]; exact q)
theorem Lets.atK {K : PySem.W.Frag} {H : Hp} {ps : List Addr} {xs : List LV} {i : Nat} {v : V} (h : Lets K H ps xs) (e : (ps.map V.ref)[i]? = some v) : ∃ p x, ps[i]? = some p ∧ v = .ref p ∧ xs[i]? = some x ∧ LetAt K H p x := by
  rw [List.getElem?_map] at e
  cases hp : ps[i]? with
  | none => rw [hp] at e; cases e
  | some p =>
    rw [hp] at e
    obtain ⟨x, h1, h2⟩ := h.get hp
    exact ⟨p, x, rfl, (Option.some.inj e).symm, h1, h2⟩
def spLLong : Sp := fun vs H Q _ => vs = [] ∧ ∀ H', Same H H' → Q (.bl true) H'
theorem b_llong {X : Cx} (C : Ctx X N_law_long (defScope s_law_long) 9) (c1 : CalleeM X.prog X.w X.K X.mg X.base 2 (He.ma X.K (LC X.K) "__init__") (spInit (LC X.K))) (c2 : CalleeM X.prog X.w X.K X.mg X.base 2 (LoH.refG X.K) (spRef X.K)) (c3 : CalleeX X CX0 9 "archive" (spArchive X.K)) (c4 : CalleeX X CX0 9 "read_archive" (spReadOk X.K)) (c5 : CalleeX X CX0 9 "read_beginning" (spReadBeg X.K))
    (H : Hp) (Q : VK) (hQ : ∀ H', Same H H' → Q (.bl true) H') : B1 X (defBody s_law_long) (start N_law_long []) H (fun _ H' => Q .non H') Q nobk nobk := by
  have hnm := nm_law_long C
  obtain ⟨v0, v1, v2, v3, w0, w1, w2, w3, g1, g2, g3, g4, g5⟩ := hnm
  have eA : tl (Str.ofString "an") = an := by decide +kernel
  have eS : tl (Str.ofString "seen") = kSeen := by decide +kernel
  have hM : Mails longX (longX.map mailL) := mails_60 longX_ok
  have hsz := long_size
  have hAt := aT_txt hM
  have hbeg := beg_all hM
  conv => arg 2; whnf
  refine b_cons ?_
  refine s_setR2 C [(("_law_number_here" : Str), 4)] (i := 0) ⟨rfl, by decide +kernel, by decide +kernel, by decide +kernel⟩ g1 (by decide +kernel) ?_
  refine e_int (e_int ⟨2, 1102, rfl, rfl, ⟨by decide, by decide, by decide, by decide⟩, fun D H1 n1 => ?_⟩)
  refine ⟨fun i H' => ∃ ps, New1 H D (.lst (ps.map V.ref)) H' ∧ Lets X.K H' ps (longX.take i) ∧ ps.length = i, ⟨[], New1.of n1, by rw [List.take_zero]; exact .nil, rfl⟩, fun _ _ _ _ => trivial, ?_, ?_⟩
  · rintro i v H2 _ hi ⟨ps, n2, hL, hpl⟩ ⟨rfl, hv⟩ Xb hX CB
    have hi2 : i < 1100 := hi
    have hv2 : v = .int ((2 + i : Nat) : Int) := by
      rw [hv]
      show V.int (2 + (i : Int)) = _
      rw [show (2 : Int) + (i : Int) = ((2 + i : Nat) : Int) by omega]
    clear hv
    subst hv2
    refine g_name (blk_W C hX (x := "_law_number_here") (i := 4) (by decide +kernel)) ⟨rfl, fun Xb hX CB => ?_⟩
    have vp : Slot Xb 4 ("_law_number_here" : Str) := blk_V C hX (by decide +kernel)
    have gp : GlN Xb ("Letter" : Str) := blk_G C hX (by decide +kernel)
    have c1b : CalleeM Xb.prog Xb.w Xb.K Xb.mg Xb.base 2 (He.ma Xb.K (LC Xb.K) "__init__") (spInit (LC Xb.K)) := by
      obtain ⟨s, H0, C', cl, fp, rfl⟩ := hX.eq
      exact c1
    refine e_letter CB c1b (CB.room.mono (by decide)) gp ?_
    walk_at "go"
    rename_i q1 H3 n3 q2 H4 n4 q3 H5 n5
    rw [eA] at n3
    rw [eS] at n5
    rw [eA]
    refine ⟨.ref q2, .ref q3, lvn (2 + i), rfl, .tup (n5.same _ _ n4.at_) (.cons (Tp.ref_of (r := (an, ((2 + i : Nat) : Int))) (n5.same _ _ (n4.same _ _ n3.at_))) .nil), .tup n5.at_ (.cons (.str _) .nil), fun p H6 s6 hp => ?_⟩
    rw [blk_K hX] at hp
    have s26 := n3.same.trans (n4.same.trans (n5.same.trans s6))
    have n6 := n2.post s26
    have kp : Keep H6 (upd H6 D (.lst (ps.map V.ref ++ [.ref p]))) := Keep.lst n6.at_
    refine ⟨_, n6.at_, Nat.lt_of_le_of_lt (show _ ≤ 2000 by rw [List.length_map]; omega) (by decide), ps ++ [p], by rw [List.map_append]; exact n6.up, ?_, by simp; omega⟩
    rw [List.take_add_one, longX_at hi2]
    exact Lets.snoc (hp.mono kp) ((hL.mono (Keep.of s26)).mono kp)
  · rintro H2 ⟨ps, n2, hL, hpl⟩
    rw [show (((1102 : Int) - 2).toNat) = longX.length by rw [longX_len]; rfl, List.take_length] at hL
    walk_at "go"
    refine ⟨D, ps, longX, rfl, n2.at_, hL, fun x hx => ⟨(longX_ok x hx).1, longX_seen x hx⟩, ?_, ?_, fun H3 s3 => ?_⟩
    · have := txt_len (longX.map mailL); omega
    · have := txt_len (longX.map mailL); omega
    rw [show joinN (longX.map mailL).flatten = txt (longX.map mailL) from rfl]
    refine b_cons ?_
    refine s_setL C [(("_law_letter_here" : Str), 5)] (i := 2) ⟨rfl, by decide +kernel, by decide +kernel, by decide +kernel⟩ (by decide +kernel) ?_
    walk_at "go"
    refine ⟨by omega, hAt, by rw [hbeg], fun la ps2 H4 s4 hla hl4 hL4 => ?_⟩
    rw [hbeg] at hL4
    have hp2l : ps2.length = 1100 := by rw [hL4.len]; exact longX_len
    refine ⟨la, ps2.map V.ref, rfl, SqL.of hl4, fun D2 H5 n5 => ?_⟩
    refine ⟨fun i H' => ∃ acc, New1 H4 D2 (.lst acc) H' ∧ TpAll H' acc (((longX.take i).map rfx).map refD) ∧ acc.length = i, ⟨[], New1.of n5, by rw [List.take_zero]; exact .nil, rfl⟩, fun i H' _ ⟨_, n, _⟩ => SqL.of (n.same _ _ hl4), ?_, ?_⟩
    · rintro i v H' _ hi ⟨acc, na, ta, hacc⟩ ⟨rfl, hv⟩ Xb hX CB
      obtain ⟨p, x, hp, rfl, hx, hlx⟩ := hL4.atK hv
      rw [List.length_map] at hi
      refine g_name (blk_W C hX (x := "_law_letter_here") (i := 5) (by decide +kernel)) ⟨rfl, fun Xb hX CB => ?_⟩
      have vp : Slot Xb 5 ("_law_letter_here" : Str) := blk_V C hX (by decide +kernel)
      refine ref_turn C hX CB c2 (by decide) vp (hlx.mono (Keep.of na.same)) rfl fun v' H7 s7 t7 => ?_
      have na7 := na.post s7
      have kp : Keep H7 (upd H7 D2 (.lst (acc ++ [v']))) := Keep.lst na7.at_
      refine ⟨acc, na7.at_, Nat.lt_of_le_of_lt (show acc.length ≤ 2000 by omega) (by decide), acc ++ [v'], na7.up, ?_, by simp; omega⟩
      have e1 : ((longX.take (i + 1)).map rfx).map refD = ((longX.take i).map rfx).map refD ++ [refD (rfx x)] := by
        rw [List.take_add_one, hx, List.map_append, List.map_append]; rfl
      rw [e1]
      exact TpAll.snoc ((ta.mono (Keep.of s7)).mono kp) (t7.mono kp)
    · rintro H5' ⟨acc, na, ta, hacc⟩
      rw [List.length_map, hp2l, show (1100 : Nat) = longX.length from longX_len.symm, List.take_length] at ta
      walk_at "go"
      refine ⟨by omega, hAt, fun q lb ps3 H6 s6 hlb hl6 hL6 hq6 => ?_⟩
      rw [hbeg] at hL6 hq6
      have hp3l : ps3.length = 1100 := by rw [hL6.len]; exact longX_len
      walk_at "go"
      refine e_lcL C [(("_law_letter_here" : Str), 5)] (by decide +kernel) ?_
      walk_at "go"
      have s36 : Same H2 H6 := s3.trans (s4.trans (na.same.trans s6))
      have hD6 : H6 D = some (.lst (ps.map V.ref)) := s36 _ _ n2.at_
      refine ⟨D, ps.map V.ref, rfl, SqL.of hD6, fun D3 H7 n7 => ?_⟩
      refine ⟨fun i H' => ∃ acc3, New1 H6 D3 (.lst acc3) H' ∧ TpAll H' acc3 (((longX.take i).map rfx).map refD) ∧ acc3.length = i, ⟨[], New1.of n7, by rw [List.take_zero]; exact .nil, rfl⟩, fun i H' _ ⟨_, n, _⟩ => SqL.of (n.same _ _ hD6), ?_, ?_⟩
      · rintro i v H' _ hi ⟨acc3, na3, ta3, hacc3⟩ ⟨rfl, hv⟩ Xb hX CB
        obtain ⟨p, x, hp, rfl, hx, hlx⟩ := hL.atK hv
        rw [List.length_map] at hi
        have hpl2 : ps.length = 1100 := by rw [hL.len]; exact longX_len
        refine g_name (blk_W C hX (x := "_law_letter_here") (i := 5) (by decide +kernel)) ⟨rfl, fun Xb hX CB => ?_⟩
        have vp : Slot Xb 5 ("_law_letter_here" : Str) := blk_V C hX (by decide +kernel)
        refine ref_turn C hX CB c2 (by decide) vp (hlx.mono (Keep.of (s36.trans na3.same))) rfl fun v' H8 s8 t8 => ?_
        have na8 := na3.post s8
        have kp : Keep H8 (upd H8 D3 (.lst (acc3 ++ [v']))) := Keep.lst na8.at_
        refine ⟨acc3, na8.at_, Nat.lt_of_le_of_lt (show acc3.length ≤ 2000 by omega) (by decide), acc3 ++ [v'], na8.up, ?_, by simp; omega⟩
        have e1 : ((longX.take (i + 1)).map rfx).map refD = ((longX.take i).map rfx).map refD ++ [refD (rfx x)] := by
          rw [List.take_add_one, hx, List.map_append, List.map_append]; rfl
        rw [e1]
        exact TpAll.snoc ((ta3.mono (Keep.of s8)).mono kp) (t8.mono kp)
      · rintro H7' ⟨acc3, na3, ta3, hacc3⟩
        rw [List.length_map, show ps.length = longX.length from hL.len, List.take_length] at ta3
        have s67 : Same H5' H7' := s6.trans na3.same
        refine EqV.refsL (rs := longX.map rfx) ?_ (s67 _ _ na.at_) na3.at_ (ta.mono (Keep.of s67)) ta3 ?_
        · intro r hr
          obtain ⟨x, hx, rfl⟩ := List.mem_map.mp hr
          exact aT_name (letter_parts (longX_ok x hx).1).1
        walk_at "go"
        refine LenW.l (SqL.of (na3.same _ _ hl6)) ?_
        rw [List.length_map, hp3l]
        walk_at "go"
        refine LenW.S (line16 (by omega)) ?_
        refine EqV.I ?_
        rw [decide_eq_true rfl]
        exact hQ H7' (n2.same.trans (s36.trans na3.same))
section
variable {P : Program} {w : World} {K : PySem.W.Frag} {mg : Str → Option Value} {base : Heap}
theorem c_llong (T : Tx w K mg base) : Callee P w K mg base CX0 10 "_law_long" spLLong := by
  have c1 := c_init (P := P) T
  have c2 := c_ref (P := P) T
  have c3 := (c_archive (P := P) T).mono (by decide : 6 ≤ 9)
  have c4 := c_read_ok (P := P) T
  have c5 := (c_read_beginning (P := P) T).mono (by decide : 8 ≤ 9)
  refine callee_of T 58 56 rfl rfl rfl rfl rfl fs_law_long bd_law_long (fun vs H Q E h => ?_) (fun X h1 h2 h3 h4 h5 C vs H Q E h => ?_)
  · obtain ⟨rfl, _⟩ := h; rfl
  · subst h1 h2 h3 h4 h5
    obtain ⟨rfl, q⟩ := h
    exact b_llong C c1 c2 c3 c4 c5 H Q q
end
/-! ## LoL27 -/
theorem sqL_same {K : PySem.W.Frag} {H H' : Hp} {a : Addr} {xs : List V} (h : SqL K H a xs) (e : Same H H') : SqL K H' a xs :=
  h.elim (fun h => .inl (h.elim (fun h => .inl (e _ _ h)) fun ⟨o, h⟩ => .inr ⟨o, e _ _ h⟩)) fun h => .inr h
/-- a stream that is new itself -/
theorem But.fresh {a : Addr} {H H1 H2 : Hp} (s : Same H H1) (f : H a = none) (b : But a H1 H2) : Same H H2 := fun c u e => b.k c u (ne_of_none e f) (s c u e)
/-- a good value of the law -/
structure Good (x : LV) : Prop where
  ok : isLetter x = true
  wf : wfB x.body = true
  sn : x.seen.length ≤ 48
theorem CalleeX.blk {X Xb : Cx} {scope : Scope} {CX : CXT} {k : Nat} {x : Str} {sp : Sp} (c : CalleeX X CX k x sp) (h : IsBlk X scope Xb) : CalleeX Xb CX k x sp := by
  obtain ⟨s, H0, C', cl, fp, rfl⟩ := h.eq
  exact c
theorem tpAt {H : Hp} {us : List V} {xs : List LV} {i : Nat} {v : V} (h : TpAll H us (xs.map lvD)) (e : us[i]? = some v) : ∃ x, xs[i]? = some x ∧ Tp H v (lvD x) := by
  obtain ⟨d, h1, h2⟩ := h.get e
  rw [List.getElem?_map] at h1
  cases hx : xs[i]? with
  | none => rw [hx] at h1; cases h1
  | some x => rw [hx] at h1; exact ⟨x, rfl, by rw [Option.some.inj h1]; exact h2⟩
def spLaw (K : PySem.W.Frag) : Sp := fun vs H Q _ => ∃ (a : Addr) (ns : List Int), vs = [.ref a] ∧ ns.length ≤ 63 ∧ SqL K H a (ns.map V.int) ∧ ∀ H', Q (.bl true) H'
section
variable {X : Cx} (C : Ctx X N_law (defScope s_law) 12)
include C
/-- the last question: the mails folded in any way -/
theorem law_last (c8 : CalleeX X CX0 12 "_law_asked" spLAsked) (c9 : CalleeX X CX0 12 "_law_mail" spLMail) {a lv p : Addr} {xs : List LV} {H : Hp} (hg : ∀ x ∈ xs, Good x) (hn : xs.length ≤ 5) (hs : Strm H a) (hv : Vals1 H lv xs) (hla : lv ≠ a) (o2 o4 o5 o6 o7 o8 : Option V) (Q : VK) (hQ : ∀ H', Q (.bl true) H') :
    B1 X ((defBody s_law).drop 10) [some (.ref p), some (.ref lv), o2, some (.ref a), o4, o5, o6, o7, o8] H (fun _ H' => Q .non H') Q nobk nobk := by
  have hnm := nm_law C
  obtain ⟨v0, v1, v2, v3, v4, v5, v6, v7, w0, w1, w2, w3, w4, w5, w6, w7, g1, g2, g3, g4, g5, g6, g7, g8, g9, g10, g11, g12, g13⟩ := hnm
  obtain ⟨us, hu1, hu2⟩ := hv.at_
  have hul : us.length = xs.length := by rw [hu2.len, List.length_map]
  conv => arg 2; whnf
  walk_at "go"
  refine e_lcL C [(("_law_value_here" : Str), 8)] (by decide +kernel) ?_
  walk_at "go"
  refine ⟨lv, us, rfl, SqL.of hu1, fun D H1 n1 => ?_⟩
  have nD : Nw a H D (.lst (([] : List Addr).map V.ref)) H1 := Nw.of hs n1
  have hDl : lv ≠ D := by intro z; have := n1.fr; rw [← z, hu1] at this; cases this
  refine ⟨fun i H' => ∃ ps Ms, Nw a H D (.lst (ps.map V.ref)) H' ∧ LsAt H' ps Ms ∧ Mails (xs.take i) Ms ∧ (∀ p ∈ ps, p ≠ D ∧ p ≠ a), ⟨[], [], nD, .nil, .nil, by simp⟩, fun i H' _ ⟨_, _, n, _⟩ => SqL.of (n.b.k _ _ hla hu1), ?_, ?_⟩
  · rintro i v H' _ hi ⟨ps, Ms, n, hL, hM, hne⟩ ⟨rfl, hv⟩ Xb hX CB
    obtain ⟨x, hx, tx⟩ := tpAt hu2 hv
    have hxm := List.mem_of_getElem? hx
    have gx := hg x hxm
    refine g_name (blk_W C hX (x := "_law_value_here") (i := 8) (by decide +kernel)) ⟨rfl, fun Xb hX CB => ?_⟩
    have vp : Slot Xb 8 ("_law_value_here" : Str) := blk_V C hX (by decide +kernel)
    have vq : Slot Xb 3 ("_law_stream_here" : Str) := blk_V C hX (by decide +kernel)
    have gp : GlN Xb ("_law_mail" : Str) := blk_G C hX (by decide +kernel)
    have c9b := c9.blk hX
    walk_at "go"
    refine ⟨a, v, x, rfl, n.s, tx.mono (n.b.keep hs), gx.ok, gx.wf, Nat.le_trans gx.sn (by decide), fun r M H2 hm n2 => ?_⟩
    have n3 := n.draw n2.b n2.s
    have hrD : r ≠ D := by intro z; have := n2.f; rw [z, n.at_] at this; cases this
    have hpl : ps.length ≤ 5 := by
      have h1 := hL.len
      have h2 := hM.len
      rw [List.length_take] at h2; omega
    refine ⟨_, n3.at_, Nat.lt_of_le_of_lt (show _ ≤ 10 by rw [List.length_map]; omega) (by decide), ps ++ [r], Ms ++ [M], by rw [List.map_append]; exact n3.up, ?_, ?_, ?_⟩
    · refine LsAt.snoc (by rw [upd_ne hrD]; exact n2.at_) (hL.imp fun p hp o e => ?_)
      rw [upd_ne (hne p hp).1]
      exact n2.b.k p o (hne p hp).2 e
    · have hsn : ∀ {ys : List LV} {Ns : List (List T)}, Mails ys Ns → Mails (ys ++ [x]) (Ns ++ [M]) := by
        intro ys Ns h
        induction h with
        | nil => exact .cons hm .nil
        | cons a _ ih => exact .cons a ih
      rw [List.take_add_one, hx]
      exact hsn hM
    · intro p hp
      rcases List.mem_append.mp hp with hp | hp
      · exact hne p hp
      · rw [List.mem_singleton.mp hp]; exact ⟨hrD, n2.n⟩
  · rintro H2 ⟨ps, Ms, n, hL, hM, hne⟩
    rw [hul, List.take_length] at hM
    walk_at "go"
    have hsz := txt_size hM fun x hx => Nat.le_trans (hg x hx).sn (by decide)
    have hMl := hM.len
    have hMl2 : Ms.length ≤ 5 := by omega
    have hb : Ms.length * 60000 ≤ 5 * 60000 := Nat.mul_le_mul_right _ hMl2
    exact ⟨a, D, lv, ps, Ms, xs, rfl, n.s, n.at_, hL, hM, hMl2, by omega, hv.but n.b hs hla, hla, fun H' _ _ => hQ H'⟩
theorem law_mid (c1 : CalleeX X CX0 12 "_law_stream" spLStream) (c2 : CalleeX X CX0 12 "_law_cell" (spLCell X.K)) (c3 : CalleeX X CX0 12 "_law_letter" (spLLetter X.K)) (c4 : CalleeX X CX0 12 "_law_written" spLWritten) (c5 : CalleeX X CX0 12 "_law_joined" spLJoined) (c6 : CalleeX X CX0 12 "archive" (spArchive X.K)) (c7 : CalleeX X CX0 12 "_law_next" spNext)
    (c8 : CalleeX X CX0 12 "_law_asked" spLAsked) (c9 : CalleeX X CX0 12 "_law_mail" spLMail) (c10 : CalleeX X CX0 12 "_law_long" spLLong) {lv p : Addr} {ns : List Int} {xs : List LV} {H : Hp} (hp : SqL X.K H p (ns.map V.int)) (hg : ∀ x ∈ xs, Good x) (hn : xs.length ≤ 5) (hv : Vals1 H lv xs) (o2 o3 o4 o5 o6 o7 o8 : Option V) (Q : VK) (hQ : ∀ H', Q (.bl true) H') :
    B1 X ((defBody s_law).drop 2) [some (.ref p), some (.ref lv), o2, o3, o4, o5, o6, o7, o8] H (fun _ H' => Q .non H') Q nobk nobk := by
  have hnm := nm_law C
  obtain ⟨v0, v1, v2, v3, v4, v5, v6, v7, w0, w1, w2, w3, w4, w5, w6, w7, g1, g2, g3, g4, g5, g6, g7, g8, g9, g10, g11, g12, g13⟩ := hnm
  have hM : Mails xs (xs.map mailL) := mails_60 fun x hx => ⟨(hg x hx).ok, (hg x hx).wf⟩
  have hsz := txt_size hM fun x hx => Nat.le_trans (hg x hx).sn (by decide)
  have hml : (xs.map mailL).length = xs.length := List.length_map _
  have hb : (xs.map mailL).length * 60000 ≤ 5 * 60000 := Nat.mul_le_mul_right _ (by omega)
  have htl := txt_len (xs.map mailL)
  conv => arg 2; whnf
  walk_at "go"
  refine ⟨p, ns, 5, rfl, hp, fun n => ?_⟩
  walk_at "go"
  refine ⟨n, 5, rfl, by decide, fun a H1 s1 ha st1 => ?_⟩
  have hv1 := hv.mono s1
  have hla : lv ≠ a := by
    intro z
    obtain ⟨us, hu1, _⟩ := hv.at_
    rw [z, ha] at hu1; cases hu1
  obtain ⟨us, hu1, hu2⟩ := hv1.at_
  have hul : us.length = xs.length := by rw [hu2.len, List.length_map]
  refine b_cons ?_
  refine s_setL C [(("_law_value_here" : Str), 8)] (i := 4) ⟨rfl, by decide +kernel, by decide +kernel, by decide +kernel⟩ (by decide +kernel) ?_
  walk_at "go"
  refine ⟨lv, us, rfl, SqL.of hu1, fun D H2 n2 => ?_⟩
  refine ⟨fun i H' => ∃ ps, New1 H1 D (.lst (ps.map V.ref)) H' ∧ Lets X.K H' ps (xs.take i) ∧ ps.length = i, ⟨[], New1.of n2, .nil, rfl⟩, fun i H' _ ⟨_, n, _⟩ => SqL.of (n.same _ _ hu1), ?_, ?_⟩
  · rintro i v H' _ hi ⟨ps, n, hL, hpl⟩ ⟨rfl, hv⟩ Xb hX CB
    obtain ⟨x, hx, tx⟩ := tpAt hu2 hv
    refine g_name (blk_W C hX (x := "_law_value_here") (i := 8) (by decide +kernel)) ⟨rfl, fun Xb hX CB => ?_⟩
    have vp : Slot Xb 8 ("_law_value_here" : Str) := blk_V C hX (by decide +kernel)
    have gp : GlN Xb ("_law_letter" : Str) := blk_G C hX (by decide +kernel)
    have c3b : CalleeX Xb CX0 12 "_law_letter" (spLLetter X.K) := by
      obtain ⟨s, H0, C', cl, fp, rfl⟩ := hX.eq
      exact c3
    walk_at "go"
    refine ⟨v, x, rfl, tx.mono (Keep.of n.same), fun q H3 s3 hq => ?_⟩
    have n3 := n.post s3
    have kp : Keep H3 (upd H3 D (.lst (ps.map V.ref ++ [.ref q]))) := Keep.lst n3.at_
    refine ⟨_, n3.at_, Nat.lt_of_le_of_lt (show _ ≤ 10 by rw [List.length_map]; omega) (by decide), ps ++ [q], by rw [List.map_append]; exact n3.up, ?_, by simp; omega⟩
    rw [List.take_add_one, hx]
    exact Lets.snoc (hq.mono kp) ((hL.mono (Keep.of s3)).mono kp)
  rintro H3 ⟨ps, n3, hL, hpl⟩
  rw [hul, List.take_length] at hL
  have hu13 := n3.same _ _ hu1
  have hu23 := hu2.mono (Keep.of n3.same)
  refine b_cons ?_
  refine s_setL C [(("_law_value_here" : Str), 8)] (i := 5) ⟨rfl, by decide +kernel, by decide +kernel, by decide +kernel⟩ (by decide +kernel) ?_
  walk_at "go"
  refine ⟨lv, us, rfl, SqL.of hu13, fun D2 H4 n4 => ?_⟩
  refine ⟨fun i H' => ∃ qs, New1 H3 D2 (.lst (qs.map V.ref)) H' ∧ LsAt H' qs ((xs.take i).map mailL) ∧ qs.length = i ∧ (∀ p ∈ qs, p ≠ D2), ⟨[], New1.of n4, .nil, rfl, by simp⟩, fun i H' _ ⟨_, n, _⟩ => SqL.of (n.same _ _ hu13), ?_, ?_⟩
  · rintro i v H' _ hi ⟨qs, n, hLs, hql, hne⟩ ⟨rfl, hv⟩ Xb hX CB
    obtain ⟨x, hx, tx⟩ := tpAt hu23 hv
    have gx := hg x (List.mem_of_getElem? hx)
    refine g_name (blk_W C hX (x := "_law_value_here") (i := 8) (by decide +kernel)) ⟨rfl, fun Xb hX CB => ?_⟩
    have vp : Slot Xb 8 ("_law_value_here" : Str) := blk_V C hX (by decide +kernel)
    have gp : GlN Xb ("_law_written" : Str) := blk_G C hX (by decide +kernel)
    have c4b := c4.blk hX
    walk_at "go"
    refine ⟨v, x, rfl, tx.mono (Keep.of n.same), gx.ok, Nat.le_trans gx.sn (by decide), fun q H5 n5 => ?_⟩
    have n6 := n.post n5.same
    have hqD : q ≠ D2 := by intro z; have := n5.fr; rw [z, n.at_] at this; cases this
    refine ⟨_, n6.at_, Nat.lt_of_le_of_lt (show _ ≤ 10 by rw [List.length_map]; omega) (by decide), qs ++ [q], by rw [List.map_append]; exact n6.up, ?_, by simp; omega, ?_⟩
    · rw [List.take_add_one, hx, List.map_append]
      refine LsAt.snoc (by rw [upd_ne hqD]; exact n5.at_) (hLs.imp fun p hp o e => ?_)
      rw [upd_ne (hne p hp)]
      exact n5.same p o e
    · intro p hp
      rcases List.mem_append.mp hp with hp | hp
      · exact hne p hp
      · rw [List.mem_singleton.mp hp]; exact hqD
  rintro H5 ⟨qs, n5, hLs, hql, hne⟩
  rw [hul, List.take_length] at hLs
  walk_at "go"
  refine ⟨D2, qs, xs.map mailL, rfl, n5.at_, hLs, by omega, by omega, fun q e H6 s6 hef hq he => ?_⟩
  walk_at "go"
  have s36 : Same H3 H6 := n5.same.trans s6
  have hD6 : H6 D = some (.lst (ps.map V.ref)) := s36 _ _ n3.at_
  refine ⟨D, ps, xs, rfl, hD6, hL.mono (Keep.of s36), fun x hx => ⟨(hg x hx).ok, Nat.le_trans (hg x hx).sn (by decide)⟩, by omega, by omega, fun H7 s7 => ?_⟩
  rw [show joinN (xs.map mailL).flatten = txt (xs.map mailL) from rfl]
  have s17 : Same H1 H7 := n3.same.trans (s36.trans s7)
  have s67 : Same H5 H7 := s6.trans s7
  walk_at "go"
  refine LenW.l (SqL.of (s7 _ _ hD6)) ?_
  walk_at "go"
  refine LenW.l (SqL.of (s17 _ _ hu1)) ?_
  walk_at "go"
  refine Bth.ndT (by rw [List.length_map, hL.len, hul]) ?_
  walk_at "go"
  refine ⟨a, D2, lv, qs, xs.map mailL, xs, rfl, st1.same s17, s67 _ _ n5.at_, hLs.mono s67, hM, by omega, by omega, hv1.mono s17, hla, fun H8 b8 st8 => ?_⟩
  have hv8 := (hv1.mono s17).but b8 (st1.same s17) hla
  walk_at "go"
  refine spNext.mk st8 (by decide) (by decide) fun k H9 k0 k1 b9 st9 => ?_
  have hv9 := hv8.but b9 st8 hla
  walk_at "go"
  refine Bth.d (fun h => ?_) (fun h => ?_)
  · walk_at "go"
    refine e_call0 (CX := CX0) (E := E0) c10 (C.room.mono (by decide)) (by with_reducible assumption) pass0 ⟨rfl, fun H10 s10 => ?_⟩
    refine ⟨_, rfl, Bth.nt ?_⟩
    refine b_nil ?_
    exact law_last C c8 c9 hg hn (st9.same s10) (hv9.mono s10) hla _ _ _ _ _ _ Q hQ
  · refine Bth.f (b_nil ?_)
    exact law_last C c8 c9 hg hn st9 hv9 hla _ _ _ _ _ _ Q hQ
theorem b_law (c0 : CalleeX X CX0 12 "_law_value" spLValue) (c1 : CalleeX X CX0 12 "_law_stream" spLStream) (c2 : CalleeX X CX0 12 "_law_cell" (spLCell X.K)) (c3 : CalleeX X CX0 12 "_law_letter" (spLLetter X.K)) (c4 : CalleeX X CX0 12 "_law_written" spLWritten) (c5 : CalleeX X CX0 12 "_law_joined" spLJoined) (c6 : CalleeX X CX0 12 "archive" (spArchive X.K)) (c7 : CalleeX X CX0 12 "_law_next" spNext)
    (c8 : CalleeX X CX0 12 "_law_asked" spLAsked) (c9 : CalleeX X CX0 12 "_law_mail" spLMail) (c10 : CalleeX X CX0 12 "_law_long" spLLong) (p : Addr) (ns : List Int) (hns : ns.length ≤ 63) (H : Hp) (hp : SqL X.K H p (ns.map V.int)) (Q : VK) (hQ : ∀ H', Q (.bl true) H') :
    B1 X (defBody s_law) (start N_law [.ref p]) H (fun _ H' => Q .non H') Q nobk nobk := by
  have hnm := nm_law C
  obtain ⟨v0, v1, v2, v3, v4, v5, v6, v7, w0, w1, w2, w3, w4, w5, w6, w7, g1, g2, g3, g4, g5, g6, g7, g8, g9, g10, g11, g12, g13⟩ := hnm
  conv => arg 2; whnf
  walk_at "go"
  rename_i lv H1 n1
  refine s_for_range1 C.toCok (by with_reducible assumption) (C.tx.free 71 rfl) ?_
  walk_at "go"
  refine LenW.l (sqL_same hp n1.same) ?_
  rw [List.length_map]
  walk_at "go"
  obtain ⟨m, hm, hm2⟩ : ∃ m : Nat, (m ≤ ns.length ∧ m ≤ 5) ∧ (if (5 : Int) < (ns.length : Int) then (5 : Int) else (ns.length : Int)) = (m : Int) := by
    by_cases h : (5 : Int) < (ns.length : Int)
    · rw [if_pos h]; exact ⟨5, by omega, rfl⟩
    · rw [if_neg h]; exact ⟨ns.length, by omega, rfl⟩
  rw [hm2]
  refine ⟨m, rfl, by omega, fun i σ H' => ∃ us xs o2, σ = [some (.ref p), some (.ref lv), o2, none, none, none, none, none, none] ∧ New1 H lv (.lst us) H' ∧ TpAll H' us (xs.map lvD) ∧ xs.length = i ∧ ∀ x ∈ xs, Good x, ⟨[], [], none, rfl, New1.of n1, .nil, rfl, by simp⟩, ?_, ?_⟩
  · rintro i σ H2 hi ⟨us, xs, o2, rfl, n2, tu, hxl, hg⟩
    have hul : us.length = xs.length := by rw [tu.len, List.length_map]
    have hni : ns[i]? = some ns[i] := List.getElem?_eq_getElem (by omega)
    walk_at "go"
    refine ⟨⟨_, n2.at_⟩, ?_⟩
    walk_at "go"
    refine IxV.l (sqL_same hp n2.same) (v := .int ns[i]) (atI_nat (by rw [List.getElem?_map, hni]; rfl)) ?_
    walk_at "go"
    refine ⟨ns[i], i, rfl, by omega, fun a H3 s3 ha st3 => ?_⟩
    walk_at "go"
    rename_i x v'
    intro H4 hok hw hsn b4 st4 t4
    have s24 : Same H2 H4 := But.fresh s3 ha b4
    have n4 := n2.post s24
    have kp : Keep H4 (upd H4 lv (.lst (us ++ [v']))) := Keep.lst n4.at_
    refine ⟨_, n4.at_, Nat.lt_of_le_of_lt (show _ ≤ 10 by omega) (by decide), ?_⟩
    refine b_nil ⟨us ++ [v'], xs ++ [x], _, rfl, n4.up, ?_, by simp; omega, ?_⟩
    · rw [List.map_append]
      exact TpAll.snoc ((tu.mono (Keep.of s24)).mono kp) (t4.mono kp)
    · intro y hy
      rcases List.mem_append.mp hy with hy | hy
      · exact hg y hy
      · rw [List.mem_singleton.mp hy]; exact ⟨hok, hw, hsn⟩
  · rintro σ H2 ⟨us, xs, o2, rfl, n2, tu, hxl, hg⟩
    exact law_mid C c1 c2 c3 c4 c5 c6 c7 c8 c9 c10 (sqL_same hp n2.same) hg (by omega) ⟨⟨us, n2.at_, tu⟩⟩ _ _ _ _ _ _ _ Q hQ
end
end LoW
/-! ## LoJoin -/
set_option Elab.async false
set_option linter.all false
set_option maxRecDepth 100000
set_option maxHeartbeats 0
namespace LoW
open PySem PySem.Spec PyProof.Rows L2 LoH LO
theorem ok_law {P : Program} {w : World} {K : PySem.W.Frag} {mg : Str → Option Value} {base : Heap} {f : Addr} {fd : FuncData} (T : Tx w K mg base) (F : FunD K d_law.name d_law.qual d_law.params d_law.body d_law.scope [] [] f fd) :
    FnOk P w K mg base CX0 13 f fd ["_law_script"] (spLaw K) := by
  have c0 := (c_lvalue (P := P) T).mono (by decide : 6 ≤ 12)
  have c1 := (c_lstream (P := P) T).mono (by decide : 2 ≤ 12)
  have c2 := (c_lcell (P := P) T).mono (by decide : 2 ≤ 12)
  have c3 := (c_lletter (P := P) T).mono (by decide : 4 ≤ 12)
  have c4 := (c_lwritten (P := P) T).mono (by decide : 4 ≤ 12)
  have c5 := (c_ljoined (P := P) T).mono (by decide : 2 ≤ 12)
  have c6 := (c_archive (P := P) T).mono (by decide : 6 ≤ 12)
  have c7 := (c_next (P := P) T).mono (by decide : 2 ≤ 12)
  have c8 := c_lasked (P := P) T
  have c9 := (c_lmail (P := P) T).mono (by decide : 4 ≤ 12)
  have c10 := (c_llong (P := P) T).mono (by decide : 10 ≤ 12)
  have body : ∀ (X : Cx), X.prog = P → X.w = w → X.K = K → X.mg = mg → X.base = base → Ctx X N_law (defScope s_law) 12 → ∀ (vs : List V) (H : Hp) (Q : VK) (E : XK), spLaw K vs H Q E → B1 X (defBody s_law) (start N_law vs) H (fun _ H' => Q .non H') Q nobk nobk := by
    intro X h1 h2 h3 h4 h5 C vs H Q E h
    subst h1 h2 h3 h4 h5
    obtain ⟨a, ns, rfl, hl, hS, q⟩ := h
    exact b_law C c0 c1 c2 c3 c4 c5 c6 c7 c8 c9 c10 a ns hl H hS Q q
  refine F.ok fs_law (fun vs H Q E h => ?_) fun cdv A outer s H vs Q E hr h => ⟨_, pB, ?_⟩
  · obtain ⟨_, _, rfl, _⟩ := h; rfl
  · exact body _ rfl rfl rfl rfl rfl ⟨rfl, T, hr, fun _ => passes_of rfl, fun _ => fs_law.nd, fun _ => rfl, fun _ => rfl, fun _ => rfl⟩ vs H Q E h
end LoW
open PySem PySem.W PySem.Calls PyProof.Rows
theorem PySem.Challenge.cw_lettersonce_k16_whole_cut_archives_holds : PySem.Challenge.rw_lettersonce_k16_whole_cut_archives.Holds := by
  refine LoH.join ?_
  refine LamX.walk_ofTsE (l := PySem.Challenge.rw_lettersonce_k16_whole_cut_archives) (n := 63) (k := 13) (x := "_law_script") (CX := fun _ => L2.CX0) rfl (by decide) LoH.law_dfl ⟨rfl, by decide, by decide⟩ ?F ?hCX
  case hCX => exact fun _ _ _ _ _ z => z
  case F =>
    intro w mg fa h Y G hmg0
    obtain ⟨K, KX, c, c2⟩ := Y
    have hmg : mg ("law" : PySem.Str) = some (.ref fa) := by
      rw [← LoH.law_name]
      exact hmg0
    obtain ⟨fd, F⟩ := c.t.d.def_ 59 (d := LoH.d_law) rfl
    have e := hmg.symm.trans (He.glo_ok KX G (c.t.d.fact 57 (f := .glo "law") rfl))
    cases e
    have b := L2.FunD.bindsA (ps := ["_law_script"]) F LoW.bd_law
    exact ⟨K, KX, fd, [], LoW.spLaw K, by simp, by simp, by simp, fun s v => b s [v] rfl, fun H a ns hl _ _ hS => ⟨a, ns, rfl, hl, hS, fun _ => rfl⟩, fun base kin glob _ => LoW.ok_law ⟨c.t, c.more, kin, glob, c2⟩ F⟩
