import PyProof.Rows.All
import Wide.All
import OpenK.AllK
import Wide.FinOn
import KE.KStateDown
import KE.KExcInit
import Lean
import HandS.ForExc
import HandS.ForMost
import HandS.More
import HandS.Defaults
import HandS.TryMany
import HandS.IsInst
import HandS.DictComp
import HandS.NoneIn
import HandS.TupAny
import HandS.TupMul
import HandS.FStr
import HandS.CallRecv
import HandS.Conv
import HandS.Style
import HandS.Rev
import HandS.Zip
import HandS.Deep
import HandS.Flow
import HandS.Head0
import HandS.Head1
import HandS.Head2
import HandS.HeadEnd
import HandS.HeadHook1
import HandS.HeadHook2
import HandS.HeadHook3
import PySem.Challenge.RW_wallseal_k52_whole_terms_placed
import KE.GoesMore
import KE.KUnpackStar
import HandS.ExcInit
import HandS.ExcField
import HandS.Exc
import PyProof.DictUpdate
import HandS.MakeKwOnly
import PyProof.ReprBulk
import KE.KItemsList
import KE.KDictZip
import KE.KTurns
set_option Elab.async false
set_option linter.all false
set_option maxRecDepth 100000
set_option maxHeartbeats 4000000
/-! The text by places; what the walks ask of the written part. -/
namespace Wt
open PySem PySem.Spec PyProof.Rows L2
def topS (i : Nat) : Stmt := PySem.Challenge.pw_wallseal_k52_whole_terms_placed.main.body.getD i (.Pass ⟨0, 0, 0, 0⟩)
abbrev s_is_name : Stmt := topS 17
abbrev s_is_form_to : Stmt := topS 18
abbrev s_is_form : Stmt := topS 19
abbrev s_want_form : Stmt := topS 20
abbrev s_head_of_form : Stmt := topS 21
abbrev s_head_of : Stmt := topS 22
abbrev s_height_of_form : Stmt := topS 23
abbrev s_near_forms : Stmt := topS 24
abbrev s_met_forms : Stmt := topS 25
abbrev s_wide_of : Stmt := topS 26
abbrev s_is_whole : Stmt := topS 31
abbrev s_is_written : Stmt := topS 32
abbrev s_fits : Stmt := topS 33
abbrev s_is_term : Stmt := topS 34
abbrev s_want_term : Stmt := topS 35
abbrev s_is_hall_form : Stmt := topS 40
abbrev s_is_hall : Stmt := topS 41
abbrev s_low : Stmt := topS 48
abbrev s_walled : Stmt := topS 49
abbrev s_of_number : Stmt := topS 50
abbrev s_of_text : Stmt := topS 51
abbrev s_of_name : Stmt := topS 52
abbrev s_of_deed : Stmt := topS 53
abbrev s_of_call : Stmt := topS 54
abbrev s_of_let : Stmt := topS 55
abbrev s_of_tell : Stmt := topS 56
abbrev s_of_if : Stmt := topS 57
abbrev s_of_sum : Stmt := topS 58
abbrev s_of_size : Stmt := topS 59
abbrev s_of_box : Stmt := topS 60
abbrev s_of_read : Stmt := topS 61
abbrev s_of_write : Stmt := topS 62
abbrev s_of_same : Stmt := topS 63
abbrev s_of_do : Stmt := topS 64
abbrev s_want_halls : Stmt := topS 69
abbrev s_law_pot : Stmt := topS 72
abbrev s_law_digit : Stmt := topS 73
abbrev s_law_pick : Stmt := topS 74
abbrev s_law_name : Stmt := topS 75
abbrev s_law_form : Stmt := topS 76
abbrev s_law_near : Stmt := topS 77
abbrev s_law_is_near : Stmt := topS 78
abbrev s_law_plain : Stmt := topS 79
abbrev s_law_by_head : Stmt := topS 80
abbrev s_law_term : Stmt := topS 81
abbrev s_law_halls : Stmt := topS 82
abbrev s_law_height : Stmt := topS 83
abbrev s_law_low : Stmt := topS 84
abbrev s_law_joint : Stmt := topS 85
abbrev s_law_form_of : Stmt := topS 86
abbrev s_law_fenced : Stmt := topS 87
abbrev s_law_begun : Stmt := topS 88
abbrev s_law_aimed : Stmt := topS 89
abbrev s_law_headed : Stmt := topS 90
abbrev s_law_place_loose : Stmt := topS 91
abbrev s_law_place_headed : Stmt := topS 92
abbrev s_law_place_choice : Stmt := topS 93
abbrev s_law_place : Stmt := topS 94
abbrev s_law_spots : Stmt := topS 95
abbrev s_law_bent : Stmt := topS 96
abbrev s_law_placed_told : Stmt := topS 97
abbrev s_law_due : Stmt := topS 98
abbrev s_law_terms_right : Stmt := topS 99
abbrev s_law : Stmt := topS 100
abbrev s_NotLet_init : Stmt := inClass (topS 5) 0
abbrev s_NoName_init : Stmt := inClass (topS 7) 0
abbrev s_Placer_init : Stmt := inClass (topS 66) 0
abbrev s_Placer_form_of : Stmt := inClass (topS 66) 1
abbrev s_Placer_placed : Stmt := inClass (topS 66) 2
abbrev s_Placer_begun : Stmt := inClass (topS 66) 3
abbrev s_Placer_wanted : Stmt := inClass (topS 66) 4
abbrev s_Placer_wanted_head : Stmt := inClass (topS 66) 5
abbrev s_Program_init : Stmt := inClass (topS 70) 0
abbrev s_Program_place : Stmt := inClass (topS 70) 7
abbrev FnP (K : PySem.W.Frag) (x qual : Str) (st : Stmt) (f : Addr) (fd : FuncData) : Prop := FunD K x qual (defArgs st) (defBody st) (defScope st) [] [] f fd
/-- an own error class: the class at C, its __init__ at f, its one field x; the built-in base's line bmB -/
structure ErrC (K : PySem.W.Frag) (C f : Addr) (x : Str) (bmB : List Value) (newId : String) : Prop where
  cls : ∃ (nm q : Str) (N : Addr) (bs bm : List Value) (sn : List Str) (sub : List Value) (ab : Bool) (col : Option Bool) (dd : Option Addr) (k0 k1 k2 k3 k5 : Option Value),
    K.lookup C = some (excClassObj nm q C N bs bm true sn sub ab col dd k0 k1 k2 k3 k5 newId) ∧ PySem.W.excTail bmB bm = true
  sa : PySem.W.findIn K (.ref C) "__setattr__" = some (some (.builtin "object.__setattr__"))
  ga : PySem.W.findIn K (.ref C) "__getattribute__" = some (some (.builtin "BaseException.__getattribute__"))
  gg : PySem.W.findIn K (.ref C) "__getattr__" = some none
  noN : PySem.W.findIn K (.ref C) x = some none
  iC : PySem.W.findIn K (.ref C) "__init__" = some (some (.ref f))
  tC : PySem.W.typeIn K (.ref f) = some (.type "function")
  kC : PySem.W.keepIn K (.ref C) = true
  exC : PySem.W.subIn K (.ref C) (.type "BaseException") = some true
  tyC : PySem.W.typeIn K (.ref C) = some (.type "type")
  hdC : PySem.W.hasDictIn K C = true
structure Facts (w : World) (K : PySem.W.Frag) (mg : Str → Option Value) : Prop where
  g_is_name : mg "is_name" = some (.ref (He.ga K "is_name"))
  g_is_form_to : mg "is_form_to" = some (.ref (He.ga K "is_form_to"))
  g_is_form : mg "is_form" = some (.ref (He.ga K "is_form"))
  g_want_form : mg "want_form" = some (.ref (He.ga K "want_form"))
  g_head_of_form : mg "head_of_form" = some (.ref (He.ga K "head_of_form"))
  g_head_of : mg "head_of" = some (.ref (He.ga K "head_of"))
  g_height_of_form : mg "height_of_form" = some (.ref (He.ga K "height_of_form"))
  g_near_forms : mg "near_forms" = some (.ref (He.ga K "near_forms"))
  g_met_forms : mg "met_forms" = some (.ref (He.ga K "met_forms"))
  g_wide_of : mg "wide_of" = some (.ref (He.ga K "wide_of"))
  g_is_whole : mg "is_whole" = some (.ref (He.ga K "is_whole"))
  g_is_written : mg "is_written" = some (.ref (He.ga K "is_written"))
  g_fits : mg "fits" = some (.ref (He.ga K "fits"))
  g_is_term : mg "is_term" = some (.ref (He.ga K "is_term"))
  g_want_term : mg "want_term" = some (.ref (He.ga K "want_term"))
  g_is_hall_form : mg "is_hall_form" = some (.ref (He.ga K "is_hall_form"))
  g_is_hall : mg "is_hall" = some (.ref (He.ga K "is_hall"))
  g_low : mg "low" = some (.ref (He.ga K "low"))
  g_walled : mg "walled" = some (.ref (He.ga K "walled"))
  g_of_number : mg "of_number" = some (.ref (He.ga K "of_number"))
  g_of_text : mg "of_text" = some (.ref (He.ga K "of_text"))
  g_of_name : mg "of_name" = some (.ref (He.ga K "of_name"))
  g_of_deed : mg "of_deed" = some (.ref (He.ga K "of_deed"))
  g_of_call : mg "of_call" = some (.ref (He.ga K "of_call"))
  g_of_let : mg "of_let" = some (.ref (He.ga K "of_let"))
  g_of_tell : mg "of_tell" = some (.ref (He.ga K "of_tell"))
  g_of_if : mg "of_if" = some (.ref (He.ga K "of_if"))
  g_of_sum : mg "of_sum" = some (.ref (He.ga K "of_sum"))
  g_of_size : mg "of_size" = some (.ref (He.ga K "of_size"))
  g_of_box : mg "of_box" = some (.ref (He.ga K "of_box"))
  g_of_read : mg "of_read" = some (.ref (He.ga K "of_read"))
  g_of_write : mg "of_write" = some (.ref (He.ga K "of_write"))
  g_of_same : mg "of_same" = some (.ref (He.ga K "of_same"))
  g_of_do : mg "of_do" = some (.ref (He.ga K "of_do"))
  g_want_halls : mg "want_halls" = some (.ref (He.ga K "want_halls"))
  g_law_pot : mg "_law_pot" = some (.ref (He.ga K "_law_pot"))
  g_law_digit : mg "_law_digit" = some (.ref (He.ga K "_law_digit"))
  g_law_pick : mg "_law_pick" = some (.ref (He.ga K "_law_pick"))
  g_law_name : mg "_law_name" = some (.ref (He.ga K "_law_name"))
  g_law_form : mg "_law_form" = some (.ref (He.ga K "_law_form"))
  g_law_near : mg "_law_near" = some (.ref (He.ga K "_law_near"))
  g_law_is_near : mg "_law_is_near" = some (.ref (He.ga K "_law_is_near"))
  g_law_plain : mg "_law_plain" = some (.ref (He.ga K "_law_plain"))
  g_law_by_head : mg "_law_by_head" = some (.ref (He.ga K "_law_by_head"))
  g_law_term : mg "_law_term" = some (.ref (He.ga K "_law_term"))
  g_law_halls : mg "_law_halls" = some (.ref (He.ga K "_law_halls"))
  g_law_height : mg "_law_height" = some (.ref (He.ga K "_law_height"))
  g_law_low : mg "_law_low" = some (.ref (He.ga K "_law_low"))
  g_law_joint : mg "_law_joint" = some (.ref (He.ga K "_law_joint"))
  g_law_form_of : mg "_law_form_of" = some (.ref (He.ga K "_law_form_of"))
  g_law_fenced : mg "_law_fenced" = some (.ref (He.ga K "_law_fenced"))
  g_law_begun : mg "_law_begun" = some (.ref (He.ga K "_law_begun"))
  g_law_aimed : mg "_law_aimed" = some (.ref (He.ga K "_law_aimed"))
  g_law_headed : mg "_law_headed" = some (.ref (He.ga K "_law_headed"))
  g_law_place_loose : mg "_law_place_loose" = some (.ref (He.ga K "_law_place_loose"))
  g_law_place_headed : mg "_law_place_headed" = some (.ref (He.ga K "_law_place_headed"))
  g_law_place_choice : mg "_law_place_choice" = some (.ref (He.ga K "_law_place_choice"))
  g_law_place : mg "_law_place" = some (.ref (He.ga K "_law_place"))
  g_law_spots : mg "_law_spots" = some (.ref (He.ga K "_law_spots"))
  g_law_bent : mg "_law_bent" = some (.ref (He.ga K "_law_bent"))
  g_law_placed_told : mg "_law_placed_told" = some (.ref (He.ga K "_law_placed_told"))
  g_law_due : mg "_law_due" = some (.ref (He.ga K "_law_due"))
  g_law_terms_right : mg "_law_terms_right" = some (.ref (He.ga K "_law_terms_right"))
  g_law : mg "law" = some (.ref (He.ga K "law"))
  g_Placer : mg "Placer" = some (.ref (He.ga K "Placer"))
  g_Program : mg "Program" = some (.ref (He.ga K "Program"))
  g_NotLet : mg "NotLet" = some (.ref (He.ga K "NotLet"))
  g_NoName : mg "NoName" = some (.ref (He.ga K "NoName"))
  g_TooHigh : mg "TooHigh" = some (.ref (He.ga K "TooHigh"))
  g_WallError : mg "WallError" = some (.ref (He.ga K "WallError"))
  g_WIDTHS : mg "WIDTHS" = some (.ref (He.ga K "WIDTHS"))
  g_SHAPES : mg "SHAPES" = some (.ref (He.ga K "SHAPES"))
  g_WAYS : mg "WAYS" = some (.ref (He.ga K "WAYS"))
  g_PLAIN : mg "PLAIN" = some (.ref (He.ga K "PLAIN"))
  z_isinstance : mg "isinstance" = none
  z_len : mg "len" = none
  z_all : mg "all" = none
  z_str : mg "str" = none
  z_tuple : mg "tuple" = none
  z_int : mg "int" = none
  z_bool : mg "bool" = none
  z_list : mg "list" = none
  z_zip : mg "zip" = none
  z_max : mg "max" = none
  z_min : mg "min" = none
  z_abs : mg "abs" = none
  z_divmod : mg "divmod" = none
  z_dict : mg "dict" = none
  z_range : mg "range" = none
  z_repr : mg "repr" = none
  z_sorted : mg "sorted" = none
  z_reversed : mg "reversed" = none
  z_enumerate : mg "enumerate" = none
  z_LookupError : mg "LookupError" = none
  z_ValueError : mg "ValueError" = none
  c_ANY_forms : ∃ t, mg "ANY_forms" = some (.str "any" t)
  c_DEED_forms : ∃ t, mg "DEED_forms" = some (.str "deed" t)
  c_BOX : ∃ t, mg "BOX" = some (.str "box" t)
  c_LETTERS_forms : ∃ t, mg "LETTERS_forms" = some (.str "abcdefghijklmnopqrstuvwxyz" t)
  c_LETTERS_terms : ∃ t, mg "LETTERS_terms" = some (.str "abcdefghijklmnopqrstuvwxyz" t)
  c_ANY_halls : ∃ t, mg "ANY_halls" = some (.str "any" t)
  c_DEED_halls : ∃ t, mg "DEED_halls" = some (.str "deed" t)
  c_WALL : ∃ t, mg "WALL" = some (.str "wall" t)
  c_NUM : ∃ t, mg "NUM" = some (.str "num" t)
  c_TEXT : ∃ t, mg "TEXT" = some (.str "text" t)
  c_MOST_HEIGHT : ∃ t, mg "MOST_HEIGHT" = some (.int 5 t)
  c_MOST_LETTERS : ∃ t, mg "MOST_LETTERS" = some (.int 8 t)
  c_MOST_SIGNS : ∃ t, mg "MOST_SIGNS" = some (.int 8 t)
  c_MOST_HALLS : ∃ t, mg "MOST_HALLS" = some (.int 12 t)
  f_is_name : ∃ fd, FnP K "is_name" "is_name" s_is_name (He.ga K "is_name") fd
  f_is_form_to : ∃ fd, FnP K "is_form_to" "is_form_to" s_is_form_to (He.ga K "is_form_to") fd
  f_is_form : ∃ fd, FnP K "is_form" "is_form" s_is_form (He.ga K "is_form") fd
  f_want_form : ∃ fd, FnP K "want_form" "want_form" s_want_form (He.ga K "want_form") fd
  f_head_of_form : ∃ fd, FnP K "head_of_form" "head_of_form" s_head_of_form (He.ga K "head_of_form") fd
  f_head_of : ∃ fd, FnP K "head_of" "head_of" s_head_of (He.ga K "head_of") fd
  f_height_of_form : ∃ fd, FnP K "height_of_form" "height_of_form" s_height_of_form (He.ga K "height_of_form") fd
  f_near_forms : ∃ fd, FnP K "near_forms" "near_forms" s_near_forms (He.ga K "near_forms") fd
  f_met_forms : ∃ fd, FnP K "met_forms" "met_forms" s_met_forms (He.ga K "met_forms") fd
  f_wide_of : ∃ fd, FnP K "wide_of" "wide_of" s_wide_of (He.ga K "wide_of") fd
  f_is_whole : ∃ fd, FnP K "is_whole" "is_whole" s_is_whole (He.ga K "is_whole") fd
  f_is_written : ∃ fd, FnP K "is_written" "is_written" s_is_written (He.ga K "is_written") fd
  f_fits : ∃ fd, FnP K "fits" "fits" s_fits (He.ga K "fits") fd
  f_is_term : ∃ fd, FnP K "is_term" "is_term" s_is_term (He.ga K "is_term") fd
  f_want_term : ∃ fd, FnP K "want_term" "want_term" s_want_term (He.ga K "want_term") fd
  f_is_hall_form : ∃ fd, FnP K "is_hall_form" "is_hall_form" s_is_hall_form (He.ga K "is_hall_form") fd
  f_is_hall : ∃ fd, FnP K "is_hall" "is_hall" s_is_hall (He.ga K "is_hall") fd
  f_low : ∃ fd, FnP K "low" "low" s_low (He.ga K "low") fd
  f_walled : ∃ fd, FnP K "walled" "walled" s_walled (He.ga K "walled") fd
  f_of_number : ∃ fd, FnP K "of_number" "of_number" s_of_number (He.ga K "of_number") fd
  f_of_text : ∃ fd, FnP K "of_text" "of_text" s_of_text (He.ga K "of_text") fd
  f_of_name : ∃ fd, FnP K "of_name" "of_name" s_of_name (He.ga K "of_name") fd
  f_of_deed : ∃ fd, FnP K "of_deed" "of_deed" s_of_deed (He.ga K "of_deed") fd
  f_of_call : ∃ fd, FnP K "of_call" "of_call" s_of_call (He.ga K "of_call") fd
  f_of_let : ∃ fd, FnP K "of_let" "of_let" s_of_let (He.ga K "of_let") fd
  f_of_tell : ∃ fd, FnP K "of_tell" "of_tell" s_of_tell (He.ga K "of_tell") fd
  f_of_if : ∃ fd, FnP K "of_if" "of_if" s_of_if (He.ga K "of_if") fd
  f_of_sum : ∃ fd, FnP K "of_sum" "of_sum" s_of_sum (He.ga K "of_sum") fd
  f_of_size : ∃ fd, FnP K "of_size" "of_size" s_of_size (He.ga K "of_size") fd
  f_of_box : ∃ fd, FnP K "of_box" "of_box" s_of_box (He.ga K "of_box") fd
  f_of_read : ∃ fd, FnP K "of_read" "of_read" s_of_read (He.ga K "of_read") fd
  f_of_write : ∃ fd, FnP K "of_write" "of_write" s_of_write (He.ga K "of_write") fd
  f_of_same : ∃ fd, FnP K "of_same" "of_same" s_of_same (He.ga K "of_same") fd
  f_of_do : ∃ fd, FnP K "of_do" "of_do" s_of_do (He.ga K "of_do") fd
  f_want_halls : ∃ fd, FnP K "want_halls" "want_halls" s_want_halls (He.ga K "want_halls") fd
  f_law_pot : ∃ fd, FnP K "_law_pot" "_law_pot" s_law_pot (He.ga K "_law_pot") fd
  f_law_digit : ∃ fd, FnP K "_law_digit" "_law_digit" s_law_digit (He.ga K "_law_digit") fd
  f_law_pick : ∃ fd, FnP K "_law_pick" "_law_pick" s_law_pick (He.ga K "_law_pick") fd
  f_law_name : ∃ fd, FnP K "_law_name" "_law_name" s_law_name (He.ga K "_law_name") fd
  f_law_form : ∃ fd, FnP K "_law_form" "_law_form" s_law_form (He.ga K "_law_form") fd
  f_law_near : ∃ fd, FnP K "_law_near" "_law_near" s_law_near (He.ga K "_law_near") fd
  f_law_is_near : ∃ fd, FnP K "_law_is_near" "_law_is_near" s_law_is_near (He.ga K "_law_is_near") fd
  f_law_plain : ∃ fd, FnP K "_law_plain" "_law_plain" s_law_plain (He.ga K "_law_plain") fd
  f_law_by_head : ∃ fd, FnP K "_law_by_head" "_law_by_head" s_law_by_head (He.ga K "_law_by_head") fd
  f_law_term : ∃ fd, FnP K "_law_term" "_law_term" s_law_term (He.ga K "_law_term") fd
  f_law_halls : ∃ fd, FnP K "_law_halls" "_law_halls" s_law_halls (He.ga K "_law_halls") fd
  f_law_height : ∃ fd, FnP K "_law_height" "_law_height" s_law_height (He.ga K "_law_height") fd
  f_law_low : ∃ fd, FnP K "_law_low" "_law_low" s_law_low (He.ga K "_law_low") fd
  f_law_joint : ∃ fd, FnP K "_law_joint" "_law_joint" s_law_joint (He.ga K "_law_joint") fd
  f_law_form_of : ∃ fd, FnP K "_law_form_of" "_law_form_of" s_law_form_of (He.ga K "_law_form_of") fd
  f_law_fenced : ∃ fd, FnP K "_law_fenced" "_law_fenced" s_law_fenced (He.ga K "_law_fenced") fd
  f_law_begun : ∃ fd, FnP K "_law_begun" "_law_begun" s_law_begun (He.ga K "_law_begun") fd
  f_law_aimed : ∃ fd, FnP K "_law_aimed" "_law_aimed" s_law_aimed (He.ga K "_law_aimed") fd
  f_law_headed : ∃ fd, FnP K "_law_headed" "_law_headed" s_law_headed (He.ga K "_law_headed") fd
  f_law_place_loose : ∃ fd, FnP K "_law_place_loose" "_law_place_loose" s_law_place_loose (He.ga K "_law_place_loose") fd
  f_law_place_headed : ∃ fd, FnP K "_law_place_headed" "_law_place_headed" s_law_place_headed (He.ga K "_law_place_headed") fd
  f_law_place_choice : ∃ fd, FnP K "_law_place_choice" "_law_place_choice" s_law_place_choice (He.ga K "_law_place_choice") fd
  f_law_place : ∃ fd, FnP K "_law_place" "_law_place" s_law_place (He.ga K "_law_place") fd
  f_law_spots : ∃ fd, FnP K "_law_spots" "_law_spots" s_law_spots (He.ga K "_law_spots") fd
  f_law_bent : ∃ fd, FnP K "_law_bent" "_law_bent" s_law_bent (He.ga K "_law_bent") fd
  f_law_placed_told : ∃ fd, FnP K "_law_placed_told" "_law_placed_told" s_law_placed_told (He.ga K "_law_placed_told") fd
  f_law_due : ∃ fd, FnP K "_law_due" "_law_due" s_law_due (He.ga K "_law_due") fd
  f_law_terms_right : ∃ fd, FnP K "_law_terms_right" "_law_terms_right" s_law_terms_right (He.ga K "_law_terms_right") fd
  f_law : ∃ fd, FnP K "law" "law" s_law (He.ga K "law") fd
  f_NotLet_init : ∃ fd, FnP K "__init__" "NotLet.__init__" s_NotLet_init (He.ma K (He.ga K "NotLet") "__init__") fd
  f_NoName_init : ∃ fd, FnP K "__init__" "NoName.__init__" s_NoName_init (He.ma K (He.ga K "NoName") "__init__") fd
  f_Placer_init : ∃ fd, FnP K "__init__" "Placer.__init__" s_Placer_init (He.ma K (He.ga K "Placer") "__init__") fd
  f_Placer_form_of : ∃ fd, FnP K "form_of" "Placer.form_of" s_Placer_form_of (He.ma K (He.ga K "Placer") "form_of") fd
  f_Placer_placed : ∃ fd, FnP K "placed" "Placer.placed" s_Placer_placed (He.ma K (He.ga K "Placer") "placed") fd
  f_Placer_begun : ∃ fd, FnP K "begun" "Placer.begun" s_Placer_begun (He.ma K (He.ga K "Placer") "begun") fd
  f_Placer_wanted : ∃ fd, FnP K "wanted" "Placer.wanted" s_Placer_wanted (He.ma K (He.ga K "Placer") "wanted") fd
  f_Placer_wanted_head : ∃ fd, FnP K "wanted_head" "Placer.wanted_head" s_Placer_wanted_head (He.ma K (He.ga K "Placer") "wanted_head") fd
  f_Program_init : ∃ fd, FnP K "__init__" "Program.__init__" s_Program_init (He.ma K (He.ga K "Program") "__init__") fd
  f_Program_place : ∃ fd, FunD K "place" "Program.place" (defArgs s_Program_place) (defBody s_Program_place) (defScope s_Program_place) [] [("mark", .str "0"), ("kept", .non)] (He.ma K (He.ga K "Program") "place") fd
  cls_Placer : Cls K (He.ga K "Placer")
  mk_Placer : Mk K (He.ga K "Placer") (He.ma K (He.ga K "Placer") "__init__")
  cls_Program : Cls K (He.ga K "Program")
  mk_Program : Mk K (He.ga K "Program") (He.ma K (He.ga K "Program") "__init__")
  no_Placer_ahead : NoAttr K (He.ga K "Placer") "ahead"
  no_Placer_forms : NoAttr K (He.ga K "Placer") "forms"
  no_Placer_places : NoAttr K (He.ga K "Placer") "places"
  no_Program_own_halls : NoAttr K (He.ga K "Program") "own_halls"
  no_Program_forms : NoAttr K (He.ga K "Program") "forms"
  no_Program_terms : NoAttr K (He.ga K "Program") "terms"
  no_NotLet_mark : NoAttr K (He.ga K "NotLet") "mark"
  no_NoName_name : NoAttr K (He.ga K "NoName") "name"
  m_Placer_form_of : Meth K (He.ga K "Placer") "form_of" (He.ma K (He.ga K "Placer") "form_of")
  m_Placer_placed : Meth K (He.ga K "Placer") "placed" (He.ma K (He.ga K "Placer") "placed")
  m_Placer_begun : Meth K (He.ga K "Placer") "begun" (He.ma K (He.ga K "Placer") "begun")
  m_Placer_wanted : Meth K (He.ga K "Placer") "wanted" (He.ma K (He.ga K "Placer") "wanted")
  m_Placer_wanted_head : Meth K (He.ga K "Placer") "wanted_head" (He.ma K (He.ga K "Placer") "wanted_head")
  m_Program_place : Meth K (He.ga K "Program") "place" (He.ma K (He.ga K "Program") "place")
  x_NoName_NoName : PySem.W.exmOne K (.ref (He.ga K "NoName")) (.ref (He.ga K "NoName")) = some true
  x_NotLet_NoName : PySem.W.exmOne K (.ref (He.ga K "NotLet")) (.ref (He.ga K "NoName")) = some false
  x_NotLet_NotLet : PySem.W.exmOne K (.ref (He.ga K "NotLet")) (.ref (He.ga K "NotLet")) = some true
  x_TooHigh_NoName : PySem.W.exmOne K (.ref (He.ga K "TooHigh")) (.ref (He.ga K "NoName")) = some false
  x_TooHigh_NotLet : PySem.W.exmOne K (.ref (He.ga K "TooHigh")) (.ref (He.ga K "NotLet")) = some false
  x_TooHigh_TooHigh : PySem.W.exmOne K (.ref (He.ga K "TooHigh")) (.ref (He.ga K "TooHigh")) = some true
  e_TooHigh : PySem.W.excIn K (He.ga K "TooHigh") He.veBase "ValueError.__new__" = true ∧ PySem.W.keepIn K (.ref (He.ga K "TooHigh")) = true ∧ PySem.W.subIn K (.ref (He.ga K "TooHigh")) (.type "BaseException") = some true ∧ PySem.W.typeIn K (.ref (He.ga K "TooHigh")) = some (.type "type")
  e_NotLet : ErrC K (He.ga K "NotLet") (He.ma K (He.ga K "NotLet") "__init__") "mark" He.veBase "ValueError.__new__"
  e_NoName : ErrC K (He.ga K "NoName") (He.ma K (He.ga K "NoName") "__init__") "name" [.type "LookupError", .type "Exception", .type "BaseException", .type "object"] "LookupError.__new__"
  v_WallError : (PySem.W.readsIn K (He.ga K "WallError") (.type "type") = true ∧ PySem.W.specialIn K (.ref (He.ga K "WallError")) "__getattribute__" = some (some (.builtin "type.__getattribute__"))) ∧ PySem.W.findCls K (.ref (He.ga K "WallError")) (.type "type") "__init__" = some (.val (.builtin "ValueError.__init__"))
  v_LookupError : PySem.W.findCls K (.type "LookupError") (.type "type") "__init__" = some (.val (.builtin "LookupError.__init__"))
  d_WIDTHS : ∃ es n, KDict K w (He.ga K "WIDTHS") es n
  d_SHAPES : ∃ es n, KDict K w (He.ga K "SHAPES") es n
  d_WAYS : ∃ es n, KDict K w (He.ga K "WAYS") es n
  w_deed : ∃ u, PySem.W.nsIn K (He.ga K "WIDTHS") "deed" = some (some u) ∧ RelV (.int 3) u
  w_box : ∃ u, PySem.W.nsIn K (He.ga K "WIDTHS") "box" = some (some u) ∧ RelV (.int 2) u
  s_number : ∃ u, PySem.W.nsIn K (He.ga K "SHAPES") "number" = some (some u) ∧ RelV (.str "w") u
  s_text : ∃ u, PySem.W.nsIn K (He.ga K "SHAPES") "text" = some (some u) ∧ RelV (.str "l") u
  s_name : ∃ u, PySem.W.nsIn K (He.ga K "SHAPES") "name" = some (some u) ∧ RelV (.str "x") u
  s_deed : ∃ u, PySem.W.nsIn K (He.ga K "SHAPES") "deed" = some (some u) ∧ RelV (.str "xAe") u
  s_call : ∃ u, PySem.W.nsIn K (He.ga K "SHAPES") "call" = some (some u) ∧ RelV (.str "ee") u
  s_let : ∃ u, PySem.W.nsIn K (He.ga K "SHAPES") "let" = some (some u) ∧ RelV (.str "xee") u
  s_tell : ∃ u, PySem.W.nsIn K (He.ga K "SHAPES") "tell" = some (some u) ∧ RelV (.str "Ae") u
  s_if : ∃ u, PySem.W.nsIn K (He.ga K "SHAPES") "if" = some (some u) ∧ RelV (.str "eee") u
  s_add : ∃ u, PySem.W.nsIn K (He.ga K "SHAPES") "add" = some (some u) ∧ RelV (.str "ee") u
  s_sub : ∃ u, PySem.W.nsIn K (He.ga K "SHAPES") "sub" = some (some u) ∧ RelV (.str "ee") u
  s_size : ∃ u, PySem.W.nsIn K (He.ga K "SHAPES") "size" = some (some u) ∧ RelV (.str "e") u
  s_box : ∃ u, PySem.W.nsIn K (He.ga K "SHAPES") "box" = some (some u) ∧ RelV (.str "Ae") u
  s_read : ∃ u, PySem.W.nsIn K (He.ga K "SHAPES") "read" = some (some u) ∧ RelV (.str "e") u
  s_write : ∃ u, PySem.W.nsIn K (He.ga K "SHAPES") "write" = some (some u) ∧ RelV (.str "ee") u
  s_same : ∃ u, PySem.W.nsIn K (He.ga K "SHAPES") "same" = some (some u) ∧ RelV (.str "ee") u
  s_do : ∃ u, PySem.W.nsIn K (He.ga K "SHAPES") "do" = some (some u) ∧ RelV (.str "ee") u
  y_number : ∃ u, PySem.W.nsIn K (He.ga K "WAYS") "number" = some (some u) ∧ RelV (.ref (He.ga K "of_number")) u
  y_text : ∃ u, PySem.W.nsIn K (He.ga K "WAYS") "text" = some (some u) ∧ RelV (.ref (He.ga K "of_text")) u
  y_name : ∃ u, PySem.W.nsIn K (He.ga K "WAYS") "name" = some (some u) ∧ RelV (.ref (He.ga K "of_name")) u
  y_deed : ∃ u, PySem.W.nsIn K (He.ga K "WAYS") "deed" = some (some u) ∧ RelV (.ref (He.ga K "of_deed")) u
  y_call : ∃ u, PySem.W.nsIn K (He.ga K "WAYS") "call" = some (some u) ∧ RelV (.ref (He.ga K "of_call")) u
  y_let : ∃ u, PySem.W.nsIn K (He.ga K "WAYS") "let" = some (some u) ∧ RelV (.ref (He.ga K "of_let")) u
  y_tell : ∃ u, PySem.W.nsIn K (He.ga K "WAYS") "tell" = some (some u) ∧ RelV (.ref (He.ga K "of_tell")) u
  y_if : ∃ u, PySem.W.nsIn K (He.ga K "WAYS") "if" = some (some u) ∧ RelV (.ref (He.ga K "of_if")) u
  y_add : ∃ u, PySem.W.nsIn K (He.ga K "WAYS") "add" = some (some u) ∧ RelV (.ref (He.ga K "of_sum")) u
  y_sub : ∃ u, PySem.W.nsIn K (He.ga K "WAYS") "sub" = some (some u) ∧ RelV (.ref (He.ga K "of_sum")) u
  y_size : ∃ u, PySem.W.nsIn K (He.ga K "WAYS") "size" = some (some u) ∧ RelV (.ref (He.ga K "of_size")) u
  y_box : ∃ u, PySem.W.nsIn K (He.ga K "WAYS") "box" = some (some u) ∧ RelV (.ref (He.ga K "of_box")) u
  y_read : ∃ u, PySem.W.nsIn K (He.ga K "WAYS") "read" = some (some u) ∧ RelV (.ref (He.ga K "of_read")) u
  y_write : ∃ u, PySem.W.nsIn K (He.ga K "WAYS") "write" = some (some u) ∧ RelV (.ref (He.ga K "of_write")) u
  y_same : ∃ u, PySem.W.nsIn K (He.ga K "WAYS") "same" = some (some u) ∧ RelV (.ref (He.ga K "of_same")) u
  y_do : ∃ u, PySem.W.nsIn K (He.ga K "WAYS") "do" = some (some u) ∧ RelV (.ref (He.ga K "of_do")) u
  t_PLAIN : ∀ H, SqT K H (He.ga K "PLAIN") [.str "any", .str "num", .str "text"]
end Wt
set_option maxHeartbeats 0
/-! The head: the facts, by one kernel run over the heap as a tree. -/
namespace Wt
open PySem PySem.Spec PyProof.Rows L2
abbrev R0 : PySem.W.OpenRow := PySem.W.OpenLaw.row PySem.Challenge.rw_wallseal_k52_whole_terms_placed
def loose0 : List PySem.Str := ["WallError", "NoForm", "NoTerm", "NoProgram", "NotLet", "TooHigh", "NoName", "ANY_forms", "DEED_forms", "BOX", "PLAIN", "MOST_HEIGHT", "LETTERS_forms", "MOST_LETTERS", "WIDTHS", "is_name", "is_form_to", "is_form", "want_form", "head_of_form", "head_of", "height_of_form", "near_forms", "met_forms", "wide_of", "LETTERS_terms", "MOST_SIGNS", "SHAPES", "is_whole", "is_written"]
def loose1 : List PySem.Str := ["fits", "is_term", "want_term", "terms_in", "ANY_halls", "DEED_halls", "is_hall_form", "is_hall", "WALL", "NUM", "TEXT", "MOST_HALLS", "NO_LIST", "low", "walled", "of_number", "of_text", "of_name", "of_deed", "of_call", "of_let", "of_tell", "of_if", "of_sum", "of_size", "of_box", "of_read", "of_write", "of_same", "of_do"]
def loose2 : List PySem.Str := ["WAYS", "Placer", "terms_within", "walls_in", "want_halls", "Program", "_law_pot", "_law_digit", "_law_pick", "_law_name", "_law_form", "_law_near", "_law_is_near", "_law_plain", "_law_by_head", "_law_term", "_law_halls", "_law_height", "_law_low", "_law_joint", "_law_form_of", "_law_fenced", "_law_begun", "_law_aimed", "_law_headed", "_law_place_loose", "_law_place_headed", "_law_place_choice", "_law_place", "_law_spots"]
def loose3 : List PySem.Str := ["_law_bent", "_law_placed_told", "_law_due", "_law_terms_right"]
def loose : List PySem.Str := loose0 ++ loose1 ++ loose2 ++ loose3
def fnL0 : List He.DefD := [⟨("is_name", none), "is_name", "is_name", defArgs s_is_name, defBody s_is_name, defScope s_is_name, [], []⟩,
  ⟨("is_form_to", none), "is_form_to", "is_form_to", defArgs s_is_form_to, defBody s_is_form_to, defScope s_is_form_to, [], []⟩,
  ⟨("is_form", none), "is_form", "is_form", defArgs s_is_form, defBody s_is_form, defScope s_is_form, [], []⟩,
  ⟨("want_form", none), "want_form", "want_form", defArgs s_want_form, defBody s_want_form, defScope s_want_form, [], []⟩,
  ⟨("head_of_form", none), "head_of_form", "head_of_form", defArgs s_head_of_form, defBody s_head_of_form, defScope s_head_of_form, [], []⟩,
  ⟨("head_of", none), "head_of", "head_of", defArgs s_head_of, defBody s_head_of, defScope s_head_of, [], []⟩,
  ⟨("height_of_form", none), "height_of_form", "height_of_form", defArgs s_height_of_form, defBody s_height_of_form, defScope s_height_of_form, [], []⟩,
  ⟨("near_forms", none), "near_forms", "near_forms", defArgs s_near_forms, defBody s_near_forms, defScope s_near_forms, [], []⟩,
  ⟨("met_forms", none), "met_forms", "met_forms", defArgs s_met_forms, defBody s_met_forms, defScope s_met_forms, [], []⟩,
  ⟨("wide_of", none), "wide_of", "wide_of", defArgs s_wide_of, defBody s_wide_of, defScope s_wide_of, [], []⟩,
  ⟨("is_whole", none), "is_whole", "is_whole", defArgs s_is_whole, defBody s_is_whole, defScope s_is_whole, [], []⟩,
  ⟨("is_written", none), "is_written", "is_written", defArgs s_is_written, defBody s_is_written, defScope s_is_written, [], []⟩,
  ⟨("fits", none), "fits", "fits", defArgs s_fits, defBody s_fits, defScope s_fits, [], []⟩,
  ⟨("is_term", none), "is_term", "is_term", defArgs s_is_term, defBody s_is_term, defScope s_is_term, [], []⟩,
  ⟨("want_term", none), "want_term", "want_term", defArgs s_want_term, defBody s_want_term, defScope s_want_term, [], []⟩,
  ⟨("is_hall_form", none), "is_hall_form", "is_hall_form", defArgs s_is_hall_form, defBody s_is_hall_form, defScope s_is_hall_form, [], []⟩,
  ⟨("is_hall", none), "is_hall", "is_hall", defArgs s_is_hall, defBody s_is_hall, defScope s_is_hall, [], []⟩,
  ⟨("low", none), "low", "low", defArgs s_low, defBody s_low, defScope s_low, [], []⟩,
  ⟨("walled", none), "walled", "walled", defArgs s_walled, defBody s_walled, defScope s_walled, [], []⟩,
  ⟨("of_number", none), "of_number", "of_number", defArgs s_of_number, defBody s_of_number, defScope s_of_number, [], []⟩,
  ⟨("of_text", none), "of_text", "of_text", defArgs s_of_text, defBody s_of_text, defScope s_of_text, [], []⟩,
  ⟨("of_name", none), "of_name", "of_name", defArgs s_of_name, defBody s_of_name, defScope s_of_name, [], []⟩,
  ⟨("of_deed", none), "of_deed", "of_deed", defArgs s_of_deed, defBody s_of_deed, defScope s_of_deed, [], []⟩,
  ⟨("of_call", none), "of_call", "of_call", defArgs s_of_call, defBody s_of_call, defScope s_of_call, [], []⟩,
  ⟨("of_let", none), "of_let", "of_let", defArgs s_of_let, defBody s_of_let, defScope s_of_let, [], []⟩]
def fnL1 : List He.DefD := [⟨("of_tell", none), "of_tell", "of_tell", defArgs s_of_tell, defBody s_of_tell, defScope s_of_tell, [], []⟩,
  ⟨("of_if", none), "of_if", "of_if", defArgs s_of_if, defBody s_of_if, defScope s_of_if, [], []⟩,
  ⟨("of_sum", none), "of_sum", "of_sum", defArgs s_of_sum, defBody s_of_sum, defScope s_of_sum, [], []⟩,
  ⟨("of_size", none), "of_size", "of_size", defArgs s_of_size, defBody s_of_size, defScope s_of_size, [], []⟩,
  ⟨("of_box", none), "of_box", "of_box", defArgs s_of_box, defBody s_of_box, defScope s_of_box, [], []⟩,
  ⟨("of_read", none), "of_read", "of_read", defArgs s_of_read, defBody s_of_read, defScope s_of_read, [], []⟩,
  ⟨("of_write", none), "of_write", "of_write", defArgs s_of_write, defBody s_of_write, defScope s_of_write, [], []⟩,
  ⟨("of_same", none), "of_same", "of_same", defArgs s_of_same, defBody s_of_same, defScope s_of_same, [], []⟩,
  ⟨("of_do", none), "of_do", "of_do", defArgs s_of_do, defBody s_of_do, defScope s_of_do, [], []⟩,
  ⟨("want_halls", none), "want_halls", "want_halls", defArgs s_want_halls, defBody s_want_halls, defScope s_want_halls, [], []⟩,
  ⟨("_law_pot", none), "_law_pot", "_law_pot", defArgs s_law_pot, defBody s_law_pot, defScope s_law_pot, [], []⟩,
  ⟨("_law_digit", none), "_law_digit", "_law_digit", defArgs s_law_digit, defBody s_law_digit, defScope s_law_digit, [], []⟩,
  ⟨("_law_pick", none), "_law_pick", "_law_pick", defArgs s_law_pick, defBody s_law_pick, defScope s_law_pick, [], []⟩,
  ⟨("_law_name", none), "_law_name", "_law_name", defArgs s_law_name, defBody s_law_name, defScope s_law_name, [], []⟩,
  ⟨("_law_form", none), "_law_form", "_law_form", defArgs s_law_form, defBody s_law_form, defScope s_law_form, [], []⟩,
  ⟨("_law_near", none), "_law_near", "_law_near", defArgs s_law_near, defBody s_law_near, defScope s_law_near, [], []⟩,
  ⟨("_law_is_near", none), "_law_is_near", "_law_is_near", defArgs s_law_is_near, defBody s_law_is_near, defScope s_law_is_near, [], []⟩,
  ⟨("_law_plain", none), "_law_plain", "_law_plain", defArgs s_law_plain, defBody s_law_plain, defScope s_law_plain, [], []⟩,
  ⟨("_law_by_head", none), "_law_by_head", "_law_by_head", defArgs s_law_by_head, defBody s_law_by_head, defScope s_law_by_head, [], []⟩,
  ⟨("_law_term", none), "_law_term", "_law_term", defArgs s_law_term, defBody s_law_term, defScope s_law_term, [], []⟩,
  ⟨("_law_halls", none), "_law_halls", "_law_halls", defArgs s_law_halls, defBody s_law_halls, defScope s_law_halls, [], []⟩,
  ⟨("_law_height", none), "_law_height", "_law_height", defArgs s_law_height, defBody s_law_height, defScope s_law_height, [], []⟩,
  ⟨("_law_low", none), "_law_low", "_law_low", defArgs s_law_low, defBody s_law_low, defScope s_law_low, [], []⟩,
  ⟨("_law_joint", none), "_law_joint", "_law_joint", defArgs s_law_joint, defBody s_law_joint, defScope s_law_joint, [], []⟩,
  ⟨("_law_form_of", none), "_law_form_of", "_law_form_of", defArgs s_law_form_of, defBody s_law_form_of, defScope s_law_form_of, [], []⟩]
def fnL2 : List He.DefD := [⟨("_law_fenced", none), "_law_fenced", "_law_fenced", defArgs s_law_fenced, defBody s_law_fenced, defScope s_law_fenced, [], []⟩,
  ⟨("_law_begun", none), "_law_begun", "_law_begun", defArgs s_law_begun, defBody s_law_begun, defScope s_law_begun, [], []⟩,
  ⟨("_law_aimed", none), "_law_aimed", "_law_aimed", defArgs s_law_aimed, defBody s_law_aimed, defScope s_law_aimed, [], []⟩,
  ⟨("_law_headed", none), "_law_headed", "_law_headed", defArgs s_law_headed, defBody s_law_headed, defScope s_law_headed, [], []⟩,
  ⟨("_law_place_loose", none), "_law_place_loose", "_law_place_loose", defArgs s_law_place_loose, defBody s_law_place_loose, defScope s_law_place_loose, [], []⟩,
  ⟨("_law_place_headed", none), "_law_place_headed", "_law_place_headed", defArgs s_law_place_headed, defBody s_law_place_headed, defScope s_law_place_headed, [], []⟩,
  ⟨("_law_place_choice", none), "_law_place_choice", "_law_place_choice", defArgs s_law_place_choice, defBody s_law_place_choice, defScope s_law_place_choice, [], []⟩,
  ⟨("_law_place", none), "_law_place", "_law_place", defArgs s_law_place, defBody s_law_place, defScope s_law_place, [], []⟩,
  ⟨("_law_spots", none), "_law_spots", "_law_spots", defArgs s_law_spots, defBody s_law_spots, defScope s_law_spots, [], []⟩,
  ⟨("_law_bent", none), "_law_bent", "_law_bent", defArgs s_law_bent, defBody s_law_bent, defScope s_law_bent, [], []⟩,
  ⟨("_law_placed_told", none), "_law_placed_told", "_law_placed_told", defArgs s_law_placed_told, defBody s_law_placed_told, defScope s_law_placed_told, [], []⟩,
  ⟨("_law_due", none), "_law_due", "_law_due", defArgs s_law_due, defBody s_law_due, defScope s_law_due, [], []⟩,
  ⟨("_law_terms_right", none), "_law_terms_right", "_law_terms_right", defArgs s_law_terms_right, defBody s_law_terms_right, defScope s_law_terms_right, [], []⟩,
  ⟨("law", none), "law", "law", defArgs s_law, defBody s_law, defScope s_law, [], []⟩,
  ⟨("NotLet", some "__init__"), "__init__", "NotLet.__init__", defArgs s_NotLet_init, defBody s_NotLet_init, defScope s_NotLet_init, [], []⟩,
  ⟨("NoName", some "__init__"), "__init__", "NoName.__init__", defArgs s_NoName_init, defBody s_NoName_init, defScope s_NoName_init, [], []⟩,
  ⟨("Placer", some "__init__"), "__init__", "Placer.__init__", defArgs s_Placer_init, defBody s_Placer_init, defScope s_Placer_init, [], []⟩,
  ⟨("Placer", some "form_of"), "form_of", "Placer.form_of", defArgs s_Placer_form_of, defBody s_Placer_form_of, defScope s_Placer_form_of, [], []⟩,
  ⟨("Placer", some "placed"), "placed", "Placer.placed", defArgs s_Placer_placed, defBody s_Placer_placed, defScope s_Placer_placed, [], []⟩,
  ⟨("Placer", some "begun"), "begun", "Placer.begun", defArgs s_Placer_begun, defBody s_Placer_begun, defScope s_Placer_begun, [], []⟩,
  ⟨("Placer", some "wanted"), "wanted", "Placer.wanted", defArgs s_Placer_wanted, defBody s_Placer_wanted, defScope s_Placer_wanted, [], []⟩,
  ⟨("Placer", some "wanted_head"), "wanted_head", "Placer.wanted_head", defArgs s_Placer_wanted_head, defBody s_Placer_wanted_head, defScope s_Placer_wanted_head, [], []⟩,
  ⟨("Program", some "__init__"), "__init__", "Program.__init__", defArgs s_Program_init, defBody s_Program_init, defScope s_Program_init, [], []⟩,
  ⟨("Program", some "place"), "place", "Program.place", defArgs s_Program_place, defBody s_Program_place, defScope s_Program_place, [], [("mark", .str "0"), ("kept", .non)]⟩]
def fnL : List He.DefD := fnL0 ++ fnL1 ++ fnL2
def faL0 : List He.Fa := [.glo "is_name",
  .glo "is_form_to",
  .glo "is_form",
  .glo "want_form",
  .glo "head_of_form",
  .glo "head_of",
  .glo "height_of_form",
  .glo "near_forms",
  .glo "met_forms",
  .glo "wide_of",
  .glo "is_whole",
  .glo "is_written",
  .glo "fits",
  .glo "is_term",
  .glo "want_term",
  .glo "is_hall_form",
  .glo "is_hall",
  .glo "low",
  .glo "walled",
  .glo "of_number",
  .glo "of_text",
  .glo "of_name",
  .glo "of_deed",
  .glo "of_call",
  .glo "of_let"]
def faL1 : List He.Fa := [.glo "of_tell",
  .glo "of_if",
  .glo "of_sum",
  .glo "of_size",
  .glo "of_box",
  .glo "of_read",
  .glo "of_write",
  .glo "of_same",
  .glo "of_do",
  .glo "want_halls",
  .glo "_law_pot",
  .glo "_law_digit",
  .glo "_law_pick",
  .glo "_law_name",
  .glo "_law_form",
  .glo "_law_near",
  .glo "_law_is_near",
  .glo "_law_plain",
  .glo "_law_by_head",
  .glo "_law_term",
  .glo "_law_halls",
  .glo "_law_height",
  .glo "_law_low",
  .glo "_law_joint",
  .glo "_law_form_of"]
def faL2 : List He.Fa := [.glo "_law_fenced",
  .glo "_law_begun",
  .glo "_law_aimed",
  .glo "_law_headed",
  .glo "_law_place_loose",
  .glo "_law_place_headed",
  .glo "_law_place_choice",
  .glo "_law_place",
  .glo "_law_spots",
  .glo "_law_bent",
  .glo "_law_placed_told",
  .glo "_law_due",
  .glo "_law_terms_right",
  .glo "law",
  .glo "Placer",
  .glo "Program",
  .glo "NotLet",
  .glo "NoName",
  .glo "TooHigh",
  .glo "WallError",
  .glo "WIDTHS",
  .glo "SHAPES",
  .glo "WAYS",
  .glo "PLAIN",
  .free "isinstance"]
def faL3 : List He.Fa := [.free "len",
  .free "all",
  .free "str",
  .free "tuple",
  .free "int",
  .free "bool",
  .free "list",
  .free "zip",
  .free "max",
  .free "min",
  .free "abs",
  .free "divmod",
  .free "dict",
  .free "range",
  .free "repr",
  .free "sorted",
  .free "reversed",
  .free "enumerate",
  .free "LookupError",
  .free "ValueError",
  .str "ANY_forms" "any",
  .str "DEED_forms" "deed",
  .str "BOX" "box",
  .str "LETTERS_forms" "abcdefghijklmnopqrstuvwxyz",
  .str "LETTERS_terms" "abcdefghijklmnopqrstuvwxyz"]
def faL4 : List He.Fa := [.str "ANY_halls" "any",
  .str "DEED_halls" "deed",
  .str "WALL" "wall",
  .str "NUM" "num",
  .str "TEXT" "text",
  .int "MOST_HEIGHT" 5,
  .int "MOST_LETTERS" 8,
  .int "MOST_SIGNS" 8,
  .int "MOST_HALLS" 12,
  .cls "Placer",
  .mkr "Placer",
  .cls "Program",
  .mkr "Program",
  .noat "Placer" "ahead",
  .noat "Placer" "forms",
  .noat "Placer" "places",
  .noat "Program" "own_halls",
  .noat "Program" "forms",
  .noat "Program" "terms",
  .noat "NotLet" "mark",
  .noat "NoName" "name",
  .meth "Placer" "form_of",
  .meth "Placer" "placed",
  .meth "Placer" "begun",
  .meth "Placer" "wanted"]
def faL5 : List He.Fa := [.meth "Placer" "wanted_head",
  .meth "Program" "place",
  .exm "NoName" "NoName" true,
  .exm "NotLet" "NoName" false,
  .exm "NotLet" "NotLet" true,
  .exm "TooHigh" "NoName" false,
  .exm "TooHigh" "NotLet" false,
  .exm "TooHigh" "TooHigh" true,
  .exc "TooHigh"]
def faL : List He.Fa := faL0 ++ faL1 ++ faL2 ++ faL3 ++ faL4 ++ faL5
def tsL : List He.Tab := [((fun K => He.ga K "WIDTHS"), ["deed", "box"]), ((fun K => He.ga K "SHAPES"), ["number", "text", "name", "deed", "call", "let", "tell", "if", "add", "sub", "size", "box", "read", "write", "same", "do"]), ((fun K => He.ga K "WAYS"), ["number", "text", "name", "deed", "call", "let", "tell", "if", "add", "sub", "size", "box", "read", "write", "same", "do"])]
def errB (K : PySem.W.Frag) (C f : Addr) (x : Str) (bmB : List Value) (newId : String) : Bool :=
  (match K.lookup C with
  | some ⟨.type c, _, .cls cd, sl⟩ => decide (c = "type") && (match cd.mro, sl.toList with
    | .ref C' :: bm, [_, _, _, _, some (.builtin n), _] => decide (C' = C) && (decide (n = newId) && (cd.hasDict && (!cd.hasDel && PySem.W.excTail bmB bm)))
    | _, _ => false)
  | _ => false) &&
  (He.eqO (PySem.W.findIn K (.ref C) "__setattr__") (some (some (.builtin "object.__setattr__"))) && (He.eqO (PySem.W.findIn K (.ref C) "__getattribute__") (some (some (.builtin "BaseException.__getattribute__"))) &&
  (He.eqO (PySem.W.findIn K (.ref C) "__getattr__") (some none) && (He.eqO (PySem.W.findIn K (.ref C) x) (some none) && (He.eqO (PySem.W.findIn K (.ref C) "__init__") (some (some (.ref f))) &&
  (decide (PySem.W.typeIn K (.ref f) = some (.type "function")) && (PySem.W.keepIn K (.ref C) && (decide (PySem.W.subIn K (.ref C) (.type "BaseException") = some true) &&
  (decide (PySem.W.typeIn K (.ref C) = some (.type "type")) && PySem.W.hasDictIn K C)))))))))
def clsIB (K : PySem.W.Frag) (c : Value) (m : String) : Bool := match PySem.W.findCls K c (.type "type") "__init__" with
  | some (.val (.builtin n)) => decide (n = m)
  | _ => false
def leB : List Value := [.type "LookupError", .type "Exception", .type "BaseException", .type "object"]
def exB (K : PySem.W.Frag) : Bool :=
  errB K (He.ga K "NotLet") (He.ma K (He.ga K "NotLet") "__init__") "mark" He.veBase "ValueError.__new__" && (errB K (He.ga K "NoName") (He.ma K (He.ga K "NoName") "__init__") "name" leB "LookupError.__new__" &&
  (He.valsB K (He.ga K "WIDTHS") [("deed", .int 3), ("box", .int 2)] &&
  (He.valsB K (He.ga K "SHAPES") [("number", .str "w"), ("text", .str "l"), ("name", .str "x"), ("deed", .str "xAe"), ("call", .str "ee"), ("let", .str "xee"), ("tell", .str "Ae"), ("if", .str "eee"), ("add", .str "ee"), ("sub", .str "ee"), ("size", .str "e"), ("box", .str "Ae"), ("read", .str "e"), ("write", .str "ee"), ("same", .str "ee"), ("do", .str "ee")] &&
  (He.valsB K (He.ga K "WAYS") [("number", .glo "of_number"), ("text", .glo "of_text"), ("name", .glo "of_name"), ("deed", .glo "of_deed"), ("call", .glo "of_call"), ("let", .glo "of_let"), ("tell", .glo "of_tell"), ("if", .glo "of_if"), ("add", .glo "of_sum"), ("sub", .glo "of_sum"), ("size", .glo "of_size"), ("box", .glo "of_box"), ("read", .glo "of_read"), ("write", .glo "of_write"), ("same", .glo "of_same"), ("do", .glo "of_do")] &&
  (He.tupB K "PLAIN" [.str "any", .str "num", .str "text"] && (clsIB K (.ref (He.ga K "WallError")) "ValueError.__init__" && (clsIB K (.type "LookupError") "LookupError.__init__" && (PySem.W.readsIn K (He.ga K "WallError") (.type "type") && He.eqO (PySem.W.specialIn K (.ref (He.ga K "WallError")) "__getattribute__") (some (some (.builtin "type.__getattribute__")))))))))))
abbrev AlW : Type := He.AlT × Bool
def adrW : List Addr := mainGlobals :: (List.range 900).reverse
def obsK (K : PySem.W.Frag) : AlW := (He.obsT faL fnL tsL K, exB K)
def obsW (g : Addr → Option Obj) : AlW := obsK (He.frG g adrW)
def valW (w : World) : AlW := (He.valT fnL tsL w, true)
def SaysW (w : World) (K : PySem.W.Frag) : Prop := He.SaysT faL fnL tsL w K ∧ exB K = true
def hookW : PySem.W.Hook where
  α := AlW
  obs := fun s => obsW s.heap.get?
  val := fun w => valW w
  says := fun w h => ∃ K : PySem.W.Frag, K.In h ∧ SaysW w K
  of := fun _ _ e => ⟨_, He.frG_in, congrArg (fun z : AlW => z.1) e, congrArg (fun z : AlW => z.2) e⟩
  keeps := fun _ _ _ ⟨K, hK, c⟩ k => ⟨K, PySem.W.Frag.In.keeps hK k, c⟩
noncomputable def obW (s : PySem.W.SharedT) : AlW := obsW (HandSHeadRun.getT s)
theorem obW_eq (s : PySem.W.SharedT) : obW s = hookW.obs s.abs := by
  have e : HandSHeadRun.getT s = s.abs.heap.get? := funext (HandSHeadRun.getT_eq s)
  show obsW (HandSHeadRun.getT s) = obsW s.abs.heap.get?
  rw [e]
theorem runWf (w : World) : HandSHeadRun.RunEq R0 (PySem.W.view R0.prog [100]) hookW obW 8000 loose (w.withFollow "special-get-raises" false) := by
  intro os
  kernel_rfl
theorem runWt (w : World) : HandSHeadRun.RunEq R0 (PySem.W.view R0.prog [100]) hookW obW 8000 loose (w.withFollow "special-get-raises" true) := by
  intro os
  kernel_rfl
theorem runW (w : World) : HandSHeadRun.RunEq R0 (PySem.W.view R0.prog [100]) hookW obW 8000 loose w :=
  PySem.W.byRow2 "special-get-raises" (P := fun w => HandSHeadRun.RunEq R0 (PySem.W.view R0.prog [100]) hookW obW 8000 loose w) runWf runWt w
end Wt
/-! From what the head says to the facts. -/
namespace Wt
open PySem PySem.Spec PyProof.Rows L2
theorem errB_ok {K : PySem.W.Frag} {C f : Addr} {x : Str} {bmB : List Value} {newId : String} (h : errB K C f x bmB newId = true) : ErrC K C f x bmB newId := by
  obtain ⟨h0, h⟩ := He.ba h
  obtain ⟨h1, h⟩ := He.ba h
  obtain ⟨h2, h⟩ := He.ba h
  obtain ⟨h3, h⟩ := He.ba h
  obtain ⟨h4, h⟩ := He.ba h
  obtain ⟨h5, h⟩ := He.ba h
  obtain ⟨h6, h⟩ := He.ba h
  obtain ⟨h7, h⟩ := He.ba h
  obtain ⟨h8, h⟩ := He.ba h
  obtain ⟨h9, h10⟩ := He.ba h
  refine ⟨?_, He.eqO_ok h1, He.eqO_ok h2, He.eqO_ok h3, He.eqO_ok h4, He.eqO_ok h5, of_decide_eq_true h6, h7, of_decide_eq_true h8, of_decide_eq_true h9, h10⟩
  split at h0
  · rename_i c dd cd sl hl
    obtain ⟨a1, a2⟩ := He.ba h0
    have e1 : c = "type" := of_decide_eq_true a1
    subst e1
    split at a2
    · rename_i C' bm q0 q1 q2 q3 n q5 hm hs
      obtain ⟨b1, p2⟩ := He.ba a2
      obtain ⟨b2, p3⟩ := He.ba p2
      obtain ⟨b3, p4⟩ := He.ba p3
      obtain ⟨b4, b5⟩ := He.ba p4
      have e2 : C' = C := of_decide_eq_true b1
      have e3 : n = newId := of_decide_eq_true b2
      clear p2 p3 p4
      subst e2 e3
      obtain ⟨nm, bs, mro, ns, qn, hd, sn, sb, ab, col, del⟩ := cd
      have h3 : hd = true := b3
      have e4 : del = false := by
        have b4' : (!del) = true := b4
        simpa using b4'
      have hm' : mro = .ref C' :: bm := hm
      subst hm' h3 e4
      have e5 : sl = #[q0, q1, q2, q3, some (.builtin n), q5] := by
        apply Array.ext'
        rw [hs]
      subst e5
      exact ⟨nm, qn, ns, bs, bm, sn, sb, ab, col, dd, q0, q1, q2, q3, q5, hl, b5⟩
    · cases a2
  · cases h0
theorem clsIB_ok {K : PySem.W.Frag} {c : Value} {m : String} (h : clsIB K c m = true) : PySem.W.findCls K c (.type "type") "__init__" = some (.val (.builtin m)) := by
  unfold clsIB at h
  split at h
  · rename_i n e
    rw [e, of_decide_eq_true h]
  · cases h
theorem facts_of {w : World} {K : PySem.W.Frag} {h : Heap} {mg : Str → Option Value} (X : K.In h) (G : h.Ns mainGlobals mg) (c : SaysW w K) : Facts w K mg := by
  obtain ⟨cT, cX⟩ := c
  have cD := cT.d
  obtain ⟨x1, cX⟩ := He.ba cX
  obtain ⟨x2, cX⟩ := He.ba cX
  obtain ⟨x3, cX⟩ := He.ba cX
  obtain ⟨x4, cX⟩ := He.ba cX
  obtain ⟨x5, cX⟩ := He.ba cX
  obtain ⟨x6, cX⟩ := He.ba cX
  obtain ⟨x7, cX⟩ := He.ba cX
  obtain ⟨x8, cX⟩ := He.ba cX
  obtain ⟨x9, x10⟩ := He.ba cX
  exact {
    g_is_name := He.glo_ok X G (cD.fact 0 rfl)
    g_is_form_to := He.glo_ok X G (cD.fact 1 rfl)
    g_is_form := He.glo_ok X G (cD.fact 2 rfl)
    g_want_form := He.glo_ok X G (cD.fact 3 rfl)
    g_head_of_form := He.glo_ok X G (cD.fact 4 rfl)
    g_head_of := He.glo_ok X G (cD.fact 5 rfl)
    g_height_of_form := He.glo_ok X G (cD.fact 6 rfl)
    g_near_forms := He.glo_ok X G (cD.fact 7 rfl)
    g_met_forms := He.glo_ok X G (cD.fact 8 rfl)
    g_wide_of := He.glo_ok X G (cD.fact 9 rfl)
    g_is_whole := He.glo_ok X G (cD.fact 10 rfl)
    g_is_written := He.glo_ok X G (cD.fact 11 rfl)
    g_fits := He.glo_ok X G (cD.fact 12 rfl)
    g_is_term := He.glo_ok X G (cD.fact 13 rfl)
    g_want_term := He.glo_ok X G (cD.fact 14 rfl)
    g_is_hall_form := He.glo_ok X G (cD.fact 15 rfl)
    g_is_hall := He.glo_ok X G (cD.fact 16 rfl)
    g_low := He.glo_ok X G (cD.fact 17 rfl)
    g_walled := He.glo_ok X G (cD.fact 18 rfl)
    g_of_number := He.glo_ok X G (cD.fact 19 rfl)
    g_of_text := He.glo_ok X G (cD.fact 20 rfl)
    g_of_name := He.glo_ok X G (cD.fact 21 rfl)
    g_of_deed := He.glo_ok X G (cD.fact 22 rfl)
    g_of_call := He.glo_ok X G (cD.fact 23 rfl)
    g_of_let := He.glo_ok X G (cD.fact 24 rfl)
    g_of_tell := He.glo_ok X G (cD.fact 25 rfl)
    g_of_if := He.glo_ok X G (cD.fact 26 rfl)
    g_of_sum := He.glo_ok X G (cD.fact 27 rfl)
    g_of_size := He.glo_ok X G (cD.fact 28 rfl)
    g_of_box := He.glo_ok X G (cD.fact 29 rfl)
    g_of_read := He.glo_ok X G (cD.fact 30 rfl)
    g_of_write := He.glo_ok X G (cD.fact 31 rfl)
    g_of_same := He.glo_ok X G (cD.fact 32 rfl)
    g_of_do := He.glo_ok X G (cD.fact 33 rfl)
    g_want_halls := He.glo_ok X G (cD.fact 34 rfl)
    g_law_pot := He.glo_ok X G (cD.fact 35 rfl)
    g_law_digit := He.glo_ok X G (cD.fact 36 rfl)
    g_law_pick := He.glo_ok X G (cD.fact 37 rfl)
    g_law_name := He.glo_ok X G (cD.fact 38 rfl)
    g_law_form := He.glo_ok X G (cD.fact 39 rfl)
    g_law_near := He.glo_ok X G (cD.fact 40 rfl)
    g_law_is_near := He.glo_ok X G (cD.fact 41 rfl)
    g_law_plain := He.glo_ok X G (cD.fact 42 rfl)
    g_law_by_head := He.glo_ok X G (cD.fact 43 rfl)
    g_law_term := He.glo_ok X G (cD.fact 44 rfl)
    g_law_halls := He.glo_ok X G (cD.fact 45 rfl)
    g_law_height := He.glo_ok X G (cD.fact 46 rfl)
    g_law_low := He.glo_ok X G (cD.fact 47 rfl)
    g_law_joint := He.glo_ok X G (cD.fact 48 rfl)
    g_law_form_of := He.glo_ok X G (cD.fact 49 rfl)
    g_law_fenced := He.glo_ok X G (cD.fact 50 rfl)
    g_law_begun := He.glo_ok X G (cD.fact 51 rfl)
    g_law_aimed := He.glo_ok X G (cD.fact 52 rfl)
    g_law_headed := He.glo_ok X G (cD.fact 53 rfl)
    g_law_place_loose := He.glo_ok X G (cD.fact 54 rfl)
    g_law_place_headed := He.glo_ok X G (cD.fact 55 rfl)
    g_law_place_choice := He.glo_ok X G (cD.fact 56 rfl)
    g_law_place := He.glo_ok X G (cD.fact 57 rfl)
    g_law_spots := He.glo_ok X G (cD.fact 58 rfl)
    g_law_bent := He.glo_ok X G (cD.fact 59 rfl)
    g_law_placed_told := He.glo_ok X G (cD.fact 60 rfl)
    g_law_due := He.glo_ok X G (cD.fact 61 rfl)
    g_law_terms_right := He.glo_ok X G (cD.fact 62 rfl)
    g_law := He.glo_ok X G (cD.fact 63 rfl)
    g_Placer := He.glo_ok X G (cD.fact 64 rfl)
    g_Program := He.glo_ok X G (cD.fact 65 rfl)
    g_NotLet := He.glo_ok X G (cD.fact 66 rfl)
    g_NoName := He.glo_ok X G (cD.fact 67 rfl)
    g_TooHigh := He.glo_ok X G (cD.fact 68 rfl)
    g_WallError := He.glo_ok X G (cD.fact 69 rfl)
    g_WIDTHS := He.glo_ok X G (cD.fact 70 rfl)
    g_SHAPES := He.glo_ok X G (cD.fact 71 rfl)
    g_WAYS := He.glo_ok X G (cD.fact 72 rfl)
    g_PLAIN := He.glo_ok X G (cD.fact 73 rfl)
    z_isinstance := He.free_ok X G (cD.fact 74 rfl)
    z_len := He.free_ok X G (cD.fact 75 rfl)
    z_all := He.free_ok X G (cD.fact 76 rfl)
    z_str := He.free_ok X G (cD.fact 77 rfl)
    z_tuple := He.free_ok X G (cD.fact 78 rfl)
    z_int := He.free_ok X G (cD.fact 79 rfl)
    z_bool := He.free_ok X G (cD.fact 80 rfl)
    z_list := He.free_ok X G (cD.fact 81 rfl)
    z_zip := He.free_ok X G (cD.fact 82 rfl)
    z_max := He.free_ok X G (cD.fact 83 rfl)
    z_min := He.free_ok X G (cD.fact 84 rfl)
    z_abs := He.free_ok X G (cD.fact 85 rfl)
    z_divmod := He.free_ok X G (cD.fact 86 rfl)
    z_dict := He.free_ok X G (cD.fact 87 rfl)
    z_range := He.free_ok X G (cD.fact 88 rfl)
    z_repr := He.free_ok X G (cD.fact 89 rfl)
    z_sorted := He.free_ok X G (cD.fact 90 rfl)
    z_reversed := He.free_ok X G (cD.fact 91 rfl)
    z_enumerate := He.free_ok X G (cD.fact 92 rfl)
    z_LookupError := He.free_ok X G (cD.fact 93 rfl)
    z_ValueError := He.free_ok X G (cD.fact 94 rfl)
    c_ANY_forms := He.str_ok X G (cD.fact 95 rfl)
    c_DEED_forms := He.str_ok X G (cD.fact 96 rfl)
    c_BOX := He.str_ok X G (cD.fact 97 rfl)
    c_LETTERS_forms := He.str_ok X G (cD.fact 98 rfl)
    c_LETTERS_terms := He.str_ok X G (cD.fact 99 rfl)
    c_ANY_halls := He.str_ok X G (cD.fact 100 rfl)
    c_DEED_halls := He.str_ok X G (cD.fact 101 rfl)
    c_WALL := He.str_ok X G (cD.fact 102 rfl)
    c_NUM := He.str_ok X G (cD.fact 103 rfl)
    c_TEXT := He.str_ok X G (cD.fact 104 rfl)
    c_MOST_HEIGHT := He.int_ok X G (cD.fact 105 rfl)
    c_MOST_LETTERS := He.int_ok X G (cD.fact 106 rfl)
    c_MOST_SIGNS := He.int_ok X G (cD.fact 107 rfl)
    c_MOST_HALLS := He.int_ok X G (cD.fact 108 rfl)
    f_is_name := cD.def_ 0 rfl
    f_is_form_to := cD.def_ 1 rfl
    f_is_form := cD.def_ 2 rfl
    f_want_form := cD.def_ 3 rfl
    f_head_of_form := cD.def_ 4 rfl
    f_head_of := cD.def_ 5 rfl
    f_height_of_form := cD.def_ 6 rfl
    f_near_forms := cD.def_ 7 rfl
    f_met_forms := cD.def_ 8 rfl
    f_wide_of := cD.def_ 9 rfl
    f_is_whole := cD.def_ 10 rfl
    f_is_written := cD.def_ 11 rfl
    f_fits := cD.def_ 12 rfl
    f_is_term := cD.def_ 13 rfl
    f_want_term := cD.def_ 14 rfl
    f_is_hall_form := cD.def_ 15 rfl
    f_is_hall := cD.def_ 16 rfl
    f_low := cD.def_ 17 rfl
    f_walled := cD.def_ 18 rfl
    f_of_number := cD.def_ 19 rfl
    f_of_text := cD.def_ 20 rfl
    f_of_name := cD.def_ 21 rfl
    f_of_deed := cD.def_ 22 rfl
    f_of_call := cD.def_ 23 rfl
    f_of_let := cD.def_ 24 rfl
    f_of_tell := cD.def_ 25 rfl
    f_of_if := cD.def_ 26 rfl
    f_of_sum := cD.def_ 27 rfl
    f_of_size := cD.def_ 28 rfl
    f_of_box := cD.def_ 29 rfl
    f_of_read := cD.def_ 30 rfl
    f_of_write := cD.def_ 31 rfl
    f_of_same := cD.def_ 32 rfl
    f_of_do := cD.def_ 33 rfl
    f_want_halls := cD.def_ 34 rfl
    f_law_pot := cD.def_ 35 rfl
    f_law_digit := cD.def_ 36 rfl
    f_law_pick := cD.def_ 37 rfl
    f_law_name := cD.def_ 38 rfl
    f_law_form := cD.def_ 39 rfl
    f_law_near := cD.def_ 40 rfl
    f_law_is_near := cD.def_ 41 rfl
    f_law_plain := cD.def_ 42 rfl
    f_law_by_head := cD.def_ 43 rfl
    f_law_term := cD.def_ 44 rfl
    f_law_halls := cD.def_ 45 rfl
    f_law_height := cD.def_ 46 rfl
    f_law_low := cD.def_ 47 rfl
    f_law_joint := cD.def_ 48 rfl
    f_law_form_of := cD.def_ 49 rfl
    f_law_fenced := cD.def_ 50 rfl
    f_law_begun := cD.def_ 51 rfl
    f_law_aimed := cD.def_ 52 rfl
    f_law_headed := cD.def_ 53 rfl
    f_law_place_loose := cD.def_ 54 rfl
    f_law_place_headed := cD.def_ 55 rfl
    f_law_place_choice := cD.def_ 56 rfl
    f_law_place := cD.def_ 57 rfl
    f_law_spots := cD.def_ 58 rfl
    f_law_bent := cD.def_ 59 rfl
    f_law_placed_told := cD.def_ 60 rfl
    f_law_due := cD.def_ 61 rfl
    f_law_terms_right := cD.def_ 62 rfl
    f_law := cD.def_ 63 rfl
    f_NotLet_init := cD.def_ 64 rfl
    f_NoName_init := cD.def_ 65 rfl
    f_Placer_init := cD.def_ 66 rfl
    f_Placer_form_of := cD.def_ 67 rfl
    f_Placer_placed := cD.def_ 68 rfl
    f_Placer_begun := cD.def_ 69 rfl
    f_Placer_wanted := cD.def_ 70 rfl
    f_Placer_wanted_head := cD.def_ 71 rfl
    f_Program_init := cD.def_ 72 rfl
    f_Program_place := cD.def_ 73 rfl
    cls_Placer := He.cls_ok (cD.fact 109 rfl)
    mk_Placer := He.mkr_ok (cD.fact 110 rfl)
    cls_Program := He.cls_ok (cD.fact 111 rfl)
    mk_Program := He.mkr_ok (cD.fact 112 rfl)
    no_Placer_ahead := He.noat_ok (cD.fact 113 rfl)
    no_Placer_forms := He.noat_ok (cD.fact 114 rfl)
    no_Placer_places := He.noat_ok (cD.fact 115 rfl)
    no_Program_own_halls := He.noat_ok (cD.fact 116 rfl)
    no_Program_forms := He.noat_ok (cD.fact 117 rfl)
    no_Program_terms := He.noat_ok (cD.fact 118 rfl)
    no_NotLet_mark := He.noat_ok (cD.fact 119 rfl)
    no_NoName_name := He.noat_ok (cD.fact 120 rfl)
    m_Placer_form_of := He.meth_ok (cD.fact 121 rfl)
    m_Placer_placed := He.meth_ok (cD.fact 122 rfl)
    m_Placer_begun := He.meth_ok (cD.fact 123 rfl)
    m_Placer_wanted := He.meth_ok (cD.fact 124 rfl)
    m_Placer_wanted_head := He.meth_ok (cD.fact 125 rfl)
    m_Program_place := He.meth_ok (cD.fact 126 rfl)
    x_NoName_NoName := He.exm_ok (cD.fact 127 rfl)
    x_NotLet_NoName := He.exm_ok (cD.fact 128 rfl)
    x_NotLet_NotLet := He.exm_ok (cD.fact 129 rfl)
    x_TooHigh_NoName := He.exm_ok (cD.fact 130 rfl)
    x_TooHigh_NotLet := He.exm_ok (cD.fact 131 rfl)
    x_TooHigh_TooHigh := He.exm_ok (cD.fact 132 rfl)
    e_TooHigh := He.exc_ok (cD.fact 133 rfl)
    e_NotLet := errB_ok x1
    e_NoName := errB_ok x2
    v_WallError := ⟨⟨x9, He.eqO_ok x10⟩, clsIB_ok x7⟩
    v_LookupError := clsIB_ok x8
    d_WIDTHS := cT.tab 0 rfl
    d_SHAPES := cT.tab 1 rfl
    d_WAYS := cT.tab 2 rfl
    w_deed := He.valsB_ok x3 (q := ("deed", .int 3)) (by simp)
    w_box := He.valsB_ok x3 (q := ("box", .int 2)) (by simp)
    s_number := He.valsB_ok x4 (q := ("number", .str "w")) (by simp)
    s_text := He.valsB_ok x4 (q := ("text", .str "l")) (by simp)
    s_name := He.valsB_ok x4 (q := ("name", .str "x")) (by simp)
    s_deed := He.valsB_ok x4 (q := ("deed", .str "xAe")) (by simp)
    s_call := He.valsB_ok x4 (q := ("call", .str "ee")) (by simp)
    s_let := He.valsB_ok x4 (q := ("let", .str "xee")) (by simp)
    s_tell := He.valsB_ok x4 (q := ("tell", .str "Ae")) (by simp)
    s_if := He.valsB_ok x4 (q := ("if", .str "eee")) (by simp)
    s_add := He.valsB_ok x4 (q := ("add", .str "ee")) (by simp)
    s_sub := He.valsB_ok x4 (q := ("sub", .str "ee")) (by simp)
    s_size := He.valsB_ok x4 (q := ("size", .str "e")) (by simp)
    s_box := He.valsB_ok x4 (q := ("box", .str "Ae")) (by simp)
    s_read := He.valsB_ok x4 (q := ("read", .str "e")) (by simp)
    s_write := He.valsB_ok x4 (q := ("write", .str "ee")) (by simp)
    s_same := He.valsB_ok x4 (q := ("same", .str "ee")) (by simp)
    s_do := He.valsB_ok x4 (q := ("do", .str "ee")) (by simp)
    y_number := He.valsB_ok x5 (q := ("number", .glo "of_number")) (by simp)
    y_text := He.valsB_ok x5 (q := ("text", .glo "of_text")) (by simp)
    y_name := He.valsB_ok x5 (q := ("name", .glo "of_name")) (by simp)
    y_deed := He.valsB_ok x5 (q := ("deed", .glo "of_deed")) (by simp)
    y_call := He.valsB_ok x5 (q := ("call", .glo "of_call")) (by simp)
    y_let := He.valsB_ok x5 (q := ("let", .glo "of_let")) (by simp)
    y_tell := He.valsB_ok x5 (q := ("tell", .glo "of_tell")) (by simp)
    y_if := He.valsB_ok x5 (q := ("if", .glo "of_if")) (by simp)
    y_add := He.valsB_ok x5 (q := ("add", .glo "of_sum")) (by simp)
    y_sub := He.valsB_ok x5 (q := ("sub", .glo "of_sum")) (by simp)
    y_size := He.valsB_ok x5 (q := ("size", .glo "of_size")) (by simp)
    y_box := He.valsB_ok x5 (q := ("box", .glo "of_box")) (by simp)
    y_read := He.valsB_ok x5 (q := ("read", .glo "of_read")) (by simp)
    y_write := He.valsB_ok x5 (q := ("write", .glo "of_write")) (by simp)
    y_same := He.valsB_ok x5 (q := ("same", .glo "of_same")) (by simp)
    y_do := He.valsB_ok x5 (q := ("do", .glo "of_do")) (by simp)
    t_PLAIN := fun H => He.tupB_ok x6 H
  }
end Wt
/-! Forms and terms in plain Lean; the mirror of placing; what the generators give. -/
namespace Wt
open PySem
/-! ### forms -/
inductive Fm where
  | any | num | text
  | deed (a b : Fm)
  | box (a : Fm)
  deriving DecidableEq
def Fm.ht : Fm → Nat
  | .deed a b => 1 + max a.ht b.ht
  | .box a => 1 + a.ht
  | _ => 0
def Fm.near : Fm → Fm → Bool
  | .any, _ => true
  | _, .any => true
  | .num, .num => true
  | .text, .text => true
  | .deed a b, .deed c d => Fm.near a c && Fm.near b d
  | .box a, .box b => Fm.near a b
  | _, _ => false
def Fm.met : Fm → Fm → Fm
  | .any, g => g
  | f, .any => f
  | .deed a b, .deed c d => .deed (Fm.met a c) (Fm.met b d)
  | .box a, .box b => .box (Fm.met a b)
  | f, _ => f
/-- as what a called term is wanted, a boxed one -/
def Fm.dw : Fm → Fm
  | .deed a b => .deed a b
  | _ => .deed .any .any
def Fm.bw : Fm → Fm
  | .box a => .box a
  | _ => .box .any
def Fm.arg : Fm → Fm
  | .deed a _ => a
  | .box a => a
  | _ => .any
def Fm.res : Fm → Fm
  | .deed _ b => b
  | _ => .any
theorem Fm.near_refl : ∀ f : Fm, Fm.near f f = true
  | .any => rfl
  | .num => rfl
  | .text => rfl
  | .deed a b => by simp [Fm.near, Fm.near_refl a, Fm.near_refl b]
  | .box a => by simp [Fm.near, Fm.near_refl a]
theorem Fm.near_any (f : Fm) : Fm.near f .any = true := by cases f <;> rfl
theorem Fm.any_near (f : Fm) : Fm.near .any f = true := by cases f <;> rfl
theorem Fm.near_symm : ∀ f g : Fm, Fm.near f g = true → Fm.near g f = true := by
  intro f
  induction f with
  | any => intro g _; exact Fm.near_any g
  | num => intro g h; cases g <;> first | rfl | cases h
  | text => intro g h; cases g <;> first | rfl | cases h
  | deed a b iha ihb =>
    intro g h
    cases g with
    | any => rfl
    | deed c d =>
      simp only [Fm.near, Bool.and_eq_true] at h ⊢
      exact ⟨iha c h.1, ihb d h.2⟩
    | _ => cases h
  | box a iha =>
    intro g h
    cases g with
    | any => rfl
    | box c =>
      simp only [Fm.near] at h ⊢
      exact iha c h
    | _ => cases h
theorem Fm.met_any (f : Fm) : Fm.met f .any = f := by cases f <;> rfl
/-- the two are near what they meet in -/
theorem Fm.near_met : ∀ f g : Fm, Fm.near f g = true → Fm.near f (Fm.met f g) = true ∧ Fm.near g (Fm.met f g) = true := by
  intro f
  induction f with
  | any => intro g _; exact ⟨Fm.any_near _, Fm.near_refl g⟩
  | num => intro g h; cases g <;> first | exact ⟨rfl, rfl⟩ | cases h
  | text => intro g h; cases g <;> first | exact ⟨rfl, rfl⟩ | cases h
  | deed a b iha ihb =>
    intro g h
    cases g with
    | any => exact ⟨Fm.near_refl _, Fm.any_near _⟩
    | deed c d =>
      simp only [Fm.near, Bool.and_eq_true, Fm.met] at h ⊢
      exact ⟨⟨(iha c h.1).1, (ihb d h.2).1⟩, ⟨(iha c h.1).2, (ihb d h.2).2⟩⟩
    | _ => cases h
  | box a iha =>
    intro g h
    cases g with
    | any => exact ⟨Fm.near_refl _, Fm.any_near _⟩
    | box c =>
      simp only [Fm.near, Fm.met] at h ⊢
      exact iha c h
    | _ => cases h
theorem Fm.met_ht : ∀ f g : Fm, (Fm.met f g).ht ≤ max f.ht g.ht := by
  intro f
  induction f with
  | any => intro g; simp [Fm.met, Fm.ht]
  | num => intro g; cases g <;> simp [Fm.met, Fm.ht]
  | text => intro g; cases g <;> simp [Fm.met, Fm.ht]
  | deed a b iha ihb =>
    intro g
    cases g with
    | deed c d =>
      have h1 := iha c
      have h2 := ihb d
      simp only [Fm.met, Fm.ht]
      omega
    | _ => simp only [Fm.met, Fm.ht]; omega
  | box a iha =>
    intro g
    cases g with
    | box c =>
      have h1 := iha c
      simp only [Fm.met, Fm.ht]
      omega
    | _ => simp only [Fm.met, Fm.ht]; omega
/-! ### terms -/
inductive Tm where
  | number (n : Int)
  | text (w : Str)
  | name (x : Str)
  | deed (x : Str) (A : Fm) (e : Tm)
  | call (f e : Tm)
  | letT (x : Str) (e f : Tm)
  | tell (A : Fm) (e : Tm)
  | ifT (c e f : Tm)
  | add (e f : Tm)
  | sub (e f : Tm)
  | size (e : Tm)
  | box (A : Fm) (e : Tm)
  | read (e : Tm)
  | write (e f : Tm)
  | same (e f : Tm)
  | doT (e f : Tm)
  | wall (m : Str) (A B : Fm) (e : Tm)
def Tm.dep : Tm → Nat
  | .deed _ _ e | .tell _ e | .size e | .box _ e | .read e | .wall _ _ _ e => 1 + e.dep
  | .call e f | .letT _ e f | .add e f | .sub e f | .write e f | .same e f | .doT e f => 1 + max e.dep f.dep
  | .ifT c e f => 1 + max c.dep (max e.dep f.dep)
  | _ => 0
def Tm.nodes : Tm → Nat
  | .deed _ _ e | .tell _ e | .size e | .box _ e | .read e | .wall _ _ _ e => 1 + e.nodes
  | .call e f | .letT _ e f | .add e f | .sub e f | .write e f | .same e f | .doT e f => 1 + (e.nodes + f.nodes)
  | .ifT c e f => 1 + (c.nodes + (e.nodes + f.nodes))
  | _ => 1
/-! ### texts of small letters -/
def Lw (x : Str) : Prop := ∀ c ∈ x.cps.toList, 97 ≤ c ∧ c ≤ 122
def NameOk (x : Str) : Prop := Lw x ∧ 1 ≤ x.length ∧ x.length ≤ 8
def TextOk (x : Str) : Prop := Lw x ∧ x.length ≤ 8
def NumOk (i : Int) : Prop := i.natAbs < 10 ^ 30
/-- what a term is asked to be -/
def Tm.wf : Tm → Prop
  | .number n => NumOk n
  | .text w => TextOk w
  | .name x => NameOk x
  | .deed x A e => NameOk x ∧ A.ht ≤ 5 ∧ e.wf
  | .letT x e f => NameOk x ∧ e.wf ∧ f.wf
  | .tell A e | .box A e => A.ht ≤ 5 ∧ e.wf
  | .call e f | .add e f | .sub e f | .write e f | .same e f | .doT e f => e.wf ∧ f.wf
  | .ifT c e f => c.wf ∧ e.wf ∧ f.wf
  | .size e | .read e => e.wf
  | .wall .. => False
/-! ### the mirror of placing -/
inductive Er where
  | name (x : Str)
  | lt (m : Str)
  | high
abbrev Bd : Type := List (Str × Fm)
/-- the innermost one that is bound -/
def lookB (B : Bd) (x : Str) : Option Fm := (B.reverse.find? fun p => decide (p.1 = x)).map (·.2)
def mkM (s : Str) (n : Nat) : Str := (s ++ ("." : Str)) ++ ((toString (n : Int) : String) : Str)
def walledM (m : Str) (t : Tm) (f w : Fm) : Except Er Tm :=
  if f = w then .ok t else if Fm.near f w = true then .ok (.wall m f w t) else .error (.lt m)
def lowM (t : Tm) (f : Fm) (n : Nat) : Except Er (Tm × Fm × Nat) := if 5 < f.ht then .error .high else .ok (t, f, n)
/-- what is wanted of an answer -/
def Fin {α : Type} (r : Except Er α) (good : α → Prop) (bad : Er → Prop) : Prop := match r with
  | .ok a => good a
  | .error e => bad e
section
variable (G : Str → Option Fm) (s : Str)
def plc : Bd → Nat → Tm → Except Er (Tm × Fm × Nat)
  | _, n, .number i => .ok (.number i, .num, n)
  | _, n, .text w => .ok (.text w, .text, n)
  | B, n, .name x => (match lookB B x with
    | some f => .ok (.name x, f, n)
    | none => match G x with
      | some f => .ok (.name x, f, n)
      | none => .error (.name x))
  | B, n, .deed x A e => (plc (B ++ [(x, A)]) n e).bind fun r => lowM (.deed x A r.1) (.deed A r.2.1) r.2.2
  | B, n, .call f e => (plc B (n + 1) f).bind fun r => (walledM (mkM s (n + 1)) r.1 r.2.1 r.2.1.dw).bind fun f' =>
      (plc B (r.2.2 + 1) e).bind fun q => (walledM (mkM s (r.2.2 + 1)) q.1 q.2.1 r.2.1.dw.arg).bind fun e' => .ok (.call f' e', r.2.1.dw.res, q.2.2)
  | B, n, .letT x e f => (plc B n e).bind fun r => (plc (B ++ [(x, r.2.1)]) r.2.2 f).bind fun q => .ok (.letT x r.1 q.1, q.2.1, q.2.2)
  | B, n, .tell A e => (plc B (n + 1) e).bind fun r => (walledM (mkM s (n + 1)) r.1 r.2.1 A).bind fun e' => .ok (.tell A e', A, r.2.2)
  | B, n, .ifT c e f => (plc B (n + 1) c).bind fun r => (walledM (mkM s (n + 1)) r.1 r.2.1 .num).bind fun c' =>
      (plc B (r.2.2 + 1) e).bind fun q => (plc B (q.2.2 + 1) f).bind fun p =>
        if Fm.near q.2.1 p.2.1 = true then
          (walledM (mkM s (r.2.2 + 1)) q.1 q.2.1 (Fm.met q.2.1 p.2.1)).bind fun e' => (walledM (mkM s (q.2.2 + 1)) p.1 p.2.1 (Fm.met q.2.1 p.2.1)).bind fun f' =>
            .ok (.ifT c' e' f', Fm.met q.2.1 p.2.1, p.2.2)
        else .error (.lt (mkM s (q.2.2 + 1)))
  | B, n, .add e f => (plc B (n + 1) e).bind fun r => (walledM (mkM s (n + 1)) r.1 r.2.1 .num).bind fun e' =>
      (plc B (r.2.2 + 1) f).bind fun q => (walledM (mkM s (r.2.2 + 1)) q.1 q.2.1 .num).bind fun f' => .ok (.add e' f', .num, q.2.2)
  | B, n, .sub e f => (plc B (n + 1) e).bind fun r => (walledM (mkM s (n + 1)) r.1 r.2.1 .num).bind fun e' =>
      (plc B (r.2.2 + 1) f).bind fun q => (walledM (mkM s (r.2.2 + 1)) q.1 q.2.1 .num).bind fun f' => .ok (.sub e' f', .num, q.2.2)
  | B, n, .size e => (plc B (n + 1) e).bind fun r => (walledM (mkM s (n + 1)) r.1 r.2.1 .text).bind fun e' => .ok (.size e', .num, r.2.2)
  | B, n, .box A e => (plc B (n + 1) e).bind fun r => (walledM (mkM s (n + 1)) r.1 r.2.1 A).bind fun e' => lowM (.box A e') (.box A) r.2.2
  | B, n, .read e => (plc B (n + 1) e).bind fun r => (walledM (mkM s (n + 1)) r.1 r.2.1 r.2.1.bw).bind fun e' => .ok (.read e', r.2.1.bw.arg, r.2.2)
  | B, n, .write e f => (plc B (n + 1) e).bind fun r => (walledM (mkM s (n + 1)) r.1 r.2.1 r.2.1.bw).bind fun e' =>
      (plc B (r.2.2 + 1) f).bind fun q => (walledM (mkM s (r.2.2 + 1)) q.1 q.2.1 r.2.1.bw.arg).bind fun f' => .ok (.write e' f', .num, q.2.2)
  | B, n, .same e f => (plc B (n + 1) e).bind fun r => (walledM (mkM s (n + 1)) r.1 r.2.1 r.2.1.bw).bind fun e' =>
      (plc B (r.2.2 + 1) f).bind fun q => (walledM (mkM s (r.2.2 + 1)) q.1 q.2.1 q.2.1.bw).bind fun f' => .ok (.same e' f', .num, q.2.2)
  | B, n, .doT e f => (plc B n e).bind fun r => (plc B r.2.2 f).bind fun q => .ok (.doT r.1 q.1, q.2.1, q.2.2)
  | _, _, .wall .. => .error .high
end
theorem fin_ok {α : Type} {a : α} {good : α → Prop} {bad : Er → Prop} : Fin (.ok a) good bad = good a := rfl
theorem fin_error {α : Type} {e : Er} {good : α → Prop} {bad : Er → Prop} : Fin (.error e : Except Er α) good bad = bad e := rfl
theorem fin_bind {α β : Type} {r : Except Er α} {k : α → Except Er β} {good : β → Prop} {bad : Er → Prop} : Fin (r.bind k) good bad = Fin r (fun a => Fin (k a) good bad) bad := by
  cases r <;> rfl
theorem fin_mono {α : Type} {r : Except Er α} {good good' : α → Prop} {bad bad' : Er → Prop} (h : Fin r good bad) (hg : ∀ a, r = .ok a → good a → good' a) (hb : ∀ e, r = .error e → bad e → bad' e) : Fin r good' bad' := by
  cases r with
  | ok a => exact hg a rfl h
  | error e => exact hb e rfl h
theorem fin_true {α : Type} {r : Except Er α} : Fin r (fun _ => True) (fun _ => True) := by cases r <;> trivial
end Wt
/-! What the generators give: grammars; what they give is a term, not deep, not large, and where the forms are low it is placed. -/
namespace Wt
open PySem
def pN : Str := "p"
theorem pN_ok : NameOk pN := by
  refine ⟨?_, by decide, by decide⟩
  have h : ∀ c ∈ pN.cps.toList, 97 ≤ c ∧ c ≤ 122 := by decide
  exact h
inductive PlainG : Fm → Tm → Prop
  | any {i : Int} : NumOk i → PlainG .any (.tell .any (.number i))
  | num {i : Int} : NumOk i → PlainG .num (.number i)
  | text {w : Str} : TextOk w → PlainG .text (.text w)
  | deed {a b : Fm} {t : Tm} : PlainG b t → PlainG (.deed a b) (.deed pN a t)
  | box {a : Fm} {t : Tm} : PlainG a t → PlainG (.box a) (.box a t)
def NearG (f : Fm) (h : Nat) (g : Fm) : Prop := Fm.near g f = true ∧ g.ht ≤ max f.ht h
inductive Gen : Bd → Fm → Nat → Tm → Prop
  | name {N : Bd} {aim F : Fm} {d : Nat} {x : Str} : lookB N x = some F → Fm.near F aim = true → Gen N aim d (.name x)
  | plain {N : Bd} {aim : Fm} {d : Nat} {t : Tm} : PlainG aim t → Gen N aim d t
  | tell {N : Bd} {aim f : Fm} {d : Nat} {t : Tm} : NearG aim 2 f → Gen N f d t → Gen N aim (d + 1) (.tell f t)
  | ifT {N : Bd} {aim : Fm} {d : Nat} {c t u : Tm} : Gen N .num d c → Gen N aim d t → Gen N aim d u → Gen N aim (d + 1) (.ifT c (.tell .any t) (.tell .any u))
  | letT {N : Bd} {aim g : Fm} {d : Nat} {x : Str} {t b : Tm} : NameOk x → g.ht ≤ 1 → Gen N g d t → Gen (N ++ [(x, g)]) aim d b → Gen N aim (d + 1) (.letT x (.tell g t) b)
  | call {N : Bd} {aim g f : Fm} {d : Nat} {t u : Tm} : g.ht ≤ 1 → NearG aim 2 f → Gen N (.deed g aim) d t → Gen N g d u → Gen N aim (d + 1) (.call (.tell (.deed g f) (.tell .any t)) u)
  | add {N : Bd} {aim : Fm} {d : Nat} {t u : Tm} : aim = .any ∨ aim = .num → Gen N .num d t → Gen N .num d u → Gen N aim (d + 1) (.add t u)
  | sub {N : Bd} {aim : Fm} {d : Nat} {t u : Tm} : aim = .any ∨ aim = .num → Gen N .num d t → Gen N .num d u → Gen N aim (d + 1) (.sub t u)
  | size {N : Bd} {aim : Fm} {d : Nat} {t : Tm} : aim = .any ∨ aim = .num → Gen N .text d t → Gen N aim (d + 1) (.size t)
  | same {N : Bd} {aim b : Fm} {d : Nat} {t u : Tm} : aim = .any ∨ aim = .num → b.ht ≤ 1 → Gen N (.box b) d t → Gen N (.box b) d u → Gen N aim (d + 1) (.same t u)
  | write {N : Bd} {aim b : Fm} {d : Nat} {t u : Tm} : aim = .any ∨ aim = .num → b.ht ≤ 1 → Gen N (.box b) d t → Gen N (.box b) d u → Gen N aim (d + 1) (.write t (.tell .any u))
  | read {N : Bd} {d : Nat} {t : Tm} : Gen N (.box .text) d t → Gen N .text (d + 1) (.read t)
  | box {N : Bd} {a f : Fm} {d : Nat} {t : Tm} : NearG a 1 f → Gen N f d t → Gen N (.box a) (d + 1) (.box f (.tell f (.tell .any t)))
  | deed {N : Bd} {a b f : Fm} {d : Nat} {x : Str} {t : Tm} : NearG a 1 f → NameOk x → Gen (N ++ [(x, f)]) b d t → Gen N (.deed a b) (d + 1) (.deed x f t)
theorem PlainG.wf {f : Fm} {t : Tm} (h : PlainG f t) : f.ht ≤ 5 → t.wf := by
  induction h with
  | any h => exact fun _ => ⟨by decide, h⟩
  | num h => exact fun _ => h
  | text h => exact fun _ => h
  | deed _ ih =>
    intro hf
    simp only [Fm.ht] at hf
    exact ⟨pN_ok, by omega, ih (by omega)⟩
  | box _ ih =>
    intro hf
    simp only [Fm.ht] at hf
    exact ⟨by omega, ih (by omega)⟩
theorem PlainG.dep {f : Fm} {t : Tm} (h : PlainG f t) : t.dep ≤ f.ht + 1 ∧ t.nodes ≤ f.ht + 2 := by
  induction h with
  | any h => exact ⟨by simp [Tm.dep, Fm.ht], by simp [Tm.nodes, Fm.ht]⟩
  | num h => exact ⟨by simp [Tm.dep, Fm.ht], by simp [Tm.nodes, Fm.ht]⟩
  | text h => exact ⟨by simp [Tm.dep, Fm.ht], by simp [Tm.nodes, Fm.ht]⟩
  | deed _ ih =>
    simp only [Tm.dep, Tm.nodes, Fm.ht]
    omega
  | box _ ih =>
    simp only [Tm.dep, Tm.nodes, Fm.ht]
    omega
def NamesOk (N : Bd) : Prop := ∀ p ∈ N, NameOk p.1
theorem lookB_mem {N : Bd} {x : Str} {F : Fm} (h : lookB N x = some F) : (x, F) ∈ N := by
  unfold lookB at h
  obtain ⟨p, hp, e⟩ := Option.map_eq_some_iff.mp h
  have h1 := List.find?_some hp
  have h2 := List.mem_of_find?_eq_some hp
  have h3 : p.1 = x := of_decide_eq_true h1
  rw [← h3, ← e]
  exact List.mem_reverse.mp h2
theorem NamesOk.add {N : Bd} {x : Str} {f : Fm} (h : NamesOk N) (hx : NameOk x) : NamesOk (N ++ [(x, f)]) := fun p hp => by
  rcases List.mem_append.mp hp with hp | hp
  · exact h p hp
  · rw [List.mem_singleton.mp hp]
    exact hx
theorem Gen.wf {N : Bd} {aim : Fm} {d : Nat} {t : Tm} (h : Gen N aim d t) : NamesOk N → max aim.ht 2 + d ≤ 5 → t.wf := by
  induction h with
  | name h _ => exact fun hN _ => hN _ (lookB_mem h)
  | plain h => exact fun _ hm => h.wf (by omega)
  | tell hf _ ih =>
    intro hN hm
    have := hf.2
    exact ⟨by omega, ih hN (by omega)⟩
  | ifT _ _ _ i1 i2 i3 =>
    intro hN hm
    have e : (Fm.num).ht = 0 := rfl
    have e2 : (Fm.any).ht ≤ 5 := by decide
    exact ⟨i1 hN (by omega), ⟨e2, i2 hN (by omega)⟩, ⟨e2, i3 hN (by omega)⟩⟩
  | letT hx hg _ _ i1 i2 =>
    intro hN hm
    exact ⟨hx, ⟨by omega, i1 hN (by omega)⟩, i2 (hN.add hx) (by omega)⟩
  | call hg hf _ _ i1 i2 =>
    intro hN hm
    have := hf.2
    have e2 : (Fm.any).ht ≤ 5 := by decide
    refine ⟨⟨?_, e2, i1 hN ?_⟩, i2 hN (by omega)⟩
    · simp only [Fm.ht]; omega
    · simp only [Fm.ht]; omega
  | add _ _ _ i1 i2 =>
    intro hN hm
    have e : (Fm.num).ht = 0 := rfl
    exact ⟨i1 hN (by omega), i2 hN (by omega)⟩
  | sub _ _ _ i1 i2 =>
    intro hN hm
    have e : (Fm.num).ht = 0 := rfl
    exact ⟨i1 hN (by omega), i2 hN (by omega)⟩
  | size _ _ i1 =>
    intro hN hm
    have e : (Fm.text).ht = 0 := rfl
    exact i1 hN (by omega)
  | same _ hb _ _ i1 i2 =>
    intro hN hm
    exact ⟨i1 hN (by simp only [Fm.ht]; omega), i2 hN (by simp only [Fm.ht]; omega)⟩
  | write _ hb _ _ i1 i2 =>
    intro hN hm
    have e2 : (Fm.any).ht ≤ 5 := by decide
    exact ⟨i1 hN (by simp only [Fm.ht]; omega), e2, i2 hN (by simp only [Fm.ht]; omega)⟩
  | read _ i1 =>
    intro hN hm
    exact i1 hN (by simp only [Fm.ht] at hm ⊢; omega)
  | box hf _ ih =>
    intro hN hm
    have := hf.2
    simp only [Fm.ht] at hm
    have e2 : (Fm.any).ht ≤ 5 := by decide
    exact ⟨by omega, by omega, e2, ih hN (by omega)⟩
  | deed hf hx _ ih =>
    intro hN hm
    have := hf.2
    simp only [Fm.ht] at hm
    exact ⟨hx, by omega, ih (hN.add hx) (by omega)⟩
/-- how deep, how large -/
def gDep (d : Nat) : Nat := 3 * d + 7
def gNodes : Nat → Nat
  | 0 => 7
  | d + 1 => 3 * gNodes d + 3
theorem gNodes_le (d : Nat) : 7 ≤ gNodes d := by
  induction d with
  | zero => exact Nat.le_refl _
  | succ d ih => simp only [gNodes]; omega
theorem Gen.dep {N : Bd} {aim : Fm} {d : Nat} {t : Tm} (h : Gen N aim d t) : max aim.ht 2 + d ≤ 5 → t.dep ≤ gDep d ∧ t.nodes ≤ gNodes d := by
  induction h with
  | @name N aim F d x h _ =>
    intro _
    have := gNodes_le d
    simp only [Tm.dep, Tm.nodes, gDep]
    omega
  | @plain N aim d t h =>
    intro hm
    have h1 := h.dep
    have := gNodes_le d
    simp only [gDep]
    omega
  | tell hf _ ih =>
    intro hm
    have := hf.2
    have := ih (by omega)
    simp only [Tm.dep, Tm.nodes, gDep, gNodes] at this ⊢
    omega
  | ifT _ _ _ i1 i2 i3 =>
    intro hm
    have e : (Fm.num).ht = 0 := rfl
    have h1 := i1 (by omega)
    have h2 := i2 (by omega)
    have h3 := i3 (by omega)
    simp only [Tm.dep, Tm.nodes, gDep, gNodes] at h1 h2 h3 ⊢
    omega
  | letT hx hg _ _ i1 i2 =>
    intro hm
    have h1 := i1 (by omega)
    have h2 := i2 (by omega)
    simp only [Tm.dep, Tm.nodes, gDep, gNodes] at h1 h2 ⊢
    omega
  | call hg hf _ _ i1 i2 =>
    intro hm
    have h1 := i1 (by simp only [Fm.ht]; omega)
    have h2 := i2 (by omega)
    simp only [Tm.dep, Tm.nodes, gDep, gNodes] at h1 h2 ⊢
    omega
  | add _ _ _ i1 i2 =>
    intro hm
    have e : (Fm.num).ht = 0 := rfl
    have h1 := i1 (by omega)
    have h2 := i2 (by omega)
    simp only [Tm.dep, Tm.nodes, gDep, gNodes] at h1 h2 ⊢
    omega
  | sub _ _ _ i1 i2 =>
    intro hm
    have e : (Fm.num).ht = 0 := rfl
    have h1 := i1 (by omega)
    have h2 := i2 (by omega)
    simp only [Tm.dep, Tm.nodes, gDep, gNodes] at h1 h2 ⊢
    omega
  | size _ _ i1 =>
    intro hm
    have e : (Fm.text).ht = 0 := rfl
    have h1 := i1 (by omega)
    simp only [Tm.dep, Tm.nodes, gDep, gNodes] at h1 ⊢
    omega
  | same _ hb _ _ i1 i2 =>
    intro hm
    have h1 := i1 (by simp only [Fm.ht]; omega)
    have h2 := i2 (by simp only [Fm.ht]; omega)
    simp only [Tm.dep, Tm.nodes, gDep, gNodes] at h1 h2 ⊢
    omega
  | write _ hb _ _ i1 i2 =>
    intro hm
    have h1 := i1 (by simp only [Fm.ht]; omega)
    have h2 := i2 (by simp only [Fm.ht]; omega)
    simp only [Tm.dep, Tm.nodes, gDep, gNodes] at h1 h2 ⊢
    omega
  | read _ i1 =>
    intro hm
    have h1 := i1 (by simp only [Fm.ht] at hm ⊢; omega)
    simp only [Tm.dep, Tm.nodes, gDep, gNodes] at h1 ⊢
    omega
  | box hf _ ih =>
    intro hm
    have := hf.2
    simp only [Fm.ht] at hm
    have h1 := ih (by omega)
    simp only [Tm.dep, Tm.nodes, gDep, gNodes] at h1 ⊢
    omega
  | deed hf hx _ ih =>
    intro hm
    have := hf.2
    simp only [Fm.ht] at hm
    have h1 := ih (by omega)
    simp only [Tm.dep, Tm.nodes, gDep, gNodes] at h1 ⊢
    omega
/-! ### where the forms are low it is placed -/
def resB (G : Str → Option Fm) (B : Bd) (x : Str) : Option Fm := match lookB B x with
  | some f => some f
  | none => G x
theorem lookB_snoc (B : Bd) (x y : Str) (f : Fm) : lookB (B ++ [(x, f)]) y = if x = y then some f else lookB B y := by
  unfold lookB
  rw [List.reverse_append]
  show (List.find? _ ((x, f) :: B.reverse)).map _ = _
  rw [List.find?_cons]
  by_cases h : x = y
  · rw [if_pos h, decide_eq_true h]
    rfl
  · rw [if_neg h, decide_eq_false h]
def Agree (G : Str → Option Fm) (N B : Bd) : Prop := ∀ x F, lookB N x = some F → resB G B x = some F
theorem Agree.add {G : Str → Option Fm} {N B : Bd} (h : Agree G N B) (x : Str) (f : Fm) : Agree G (N ++ [(x, f)]) (B ++ [(x, f)]) := fun y F e => by
  rw [lookB_snoc] at e
  unfold resB
  rw [lookB_snoc]
  by_cases hx : x = y
  · rw [if_pos hx] at e ⊢
    exact e
  · rw [if_neg hx] at e ⊢
    exact h y F e
def LowB (N : Bd) (m : Nat) : Prop := ∀ p ∈ N, p.2.ht ≤ m
theorem LowB.add {N : Bd} {m : Nat} {x : Str} {f : Fm} (h : LowB N m) (hf : f.ht ≤ m) : LowB (N ++ [(x, f)]) m := fun p hp => by
  rcases List.mem_append.mp hp with hp | hp
  · exact h p hp
  · rw [List.mem_singleton.mp hp]
    exact hf
theorem LowB.mono {N : Bd} {m m' : Nat} (h : LowB N m) (hm : m ≤ m') : LowB N m' := fun p hp => Nat.le_trans (h p hp) hm
section
variable {G : Str → Option Fm} {s : Str}
def Placed (G : Str → Option Fm) (s : Str) (B : Bd) (t : Tm) (P : Fm → Prop) : Prop := ∀ n, ∃ t' F n', plc G s B n t = .ok (t', F, n') ∧ P F
theorem walled_ok {m : Str} {t : Tm} {f w : Fm} (h : Fm.near f w = true) : ∃ t', walledM m t f w = .ok t' := by
  unfold walledM
  by_cases e : f = w
  · exact ⟨t, if_pos e⟩
  · exact ⟨_, by rw [if_neg e, if_pos h]⟩
theorem walled_same {m : Str} {t : Tm} {f : Fm} : walledM m t f f = .ok t := if_pos rfl
theorem lowM_ok {t : Tm} {f : Fm} {n : Nat} (h : f.ht ≤ 5) : lowM t f n = .ok (t, f, n) := if_neg (by omega)
theorem PlainG.placed {B : Bd} {f : Fm} {t : Tm} (h : PlainG f t) : f.ht ≤ 5 → Placed G s B t fun F => F = f := by
  induction h generalizing B with
  | @any i h =>
    intro _ n
    refine ⟨.tell .any (.wall (mkM s (n + 1)) .num .any (.number i)), .any, n + 1, ?_, rfl⟩
    simp [plc, Except.bind, walledM, Fm.near]
  | @num i h => exact fun _ n => ⟨.number i, .num, n, by simp only [plc], rfl⟩
  | @text w h => exact fun _ n => ⟨.text w, .text, n, by simp only [plc], rfl⟩
  | @deed a b t _ ih =>
    intro hf n
    have hb : b.ht ≤ 5 := by simp only [Fm.ht] at hf; omega
    obtain ⟨t', F, n', e, rfl⟩ := ih (B := B ++ [(pN, a)]) hb n
    exact ⟨_, _, _, by simp only [plc, e, Except.bind]; exact lowM_ok hf, rfl⟩
  | @box a t _ ih =>
    intro hf n
    have hb : a.ht ≤ 5 := by simp only [Fm.ht] at hf; omega
    obtain ⟨t', F, n', e, rfl⟩ := ih (B := B) hb (n + 1)
    exact ⟨_, _, _, by simp only [plc, e, Except.bind, walledM, if_true]; exact lowM_ok hf, rfl⟩
theorem near_dw {f g : Fm} (h : Fm.near f (.deed g .any) = true) : Fm.near f f.dw = true := by
  cases f <;> first | rfl | exact Fm.near_refl _ | cases h
theorem near_bw {f g : Fm} (h : Fm.near f (.box g) = true) : Fm.near f f.bw = true := by
  cases f <;> first | rfl | exact Fm.near_refl _ | cases h
theorem num_near {aim : Fm} (h : aim = .any ∨ aim = .num) : Fm.near .num aim = true := by
  rcases h with rfl | rfl <;> rfl
/-- THE TYPING: what Gen gives is placed, near what was aimed at, not too high -/
theorem Gen.placed {N : Bd} {aim : Fm} {d : Nat} {t : Tm} (h : Gen N aim d t) :
    ∀ (B : Bd) (m : Nat), Agree G N B → LowB N m → 2 ≤ m → aim.ht ≤ m → m + d ≤ 5 → Placed G s B t fun F => Fm.near F aim = true ∧ F.ht ≤ m + d := by
  induction h with
  | @name N aim F d x h hn =>
    intro B m hA hL h2 ha hm n
    have e := hA x F h
    have hF : F.ht ≤ m := hL _ (lookB_mem h)
    refine ⟨.name x, F, n, ?_, hn, by omega⟩
    unfold resB at e
    simp only [plc]
    cases q : lookB B x with
    | some f =>
      rw [q] at e
      cases e
      rfl
    | none =>
      rw [q] at e
      have e' : G x = some F := e
      rw [e']
  | @plain N aim d t h =>
    intro B m hA hL h2 ha hm n
    obtain ⟨t', F, n', e, rfl⟩ := h.placed (G := G) (s := s) (B := B) (by omega) n
    exact ⟨t', F, n', e, Fm.near_refl _, by omega⟩
  | @tell N aim f d t hf _ ih =>
    intro B m hA hL h2 ha hm n
    have hf2 := hf.2
    obtain ⟨t', F, n', e, hn, _⟩ := ih B m hA hL h2 (by omega) (by omega) (n + 1)
    obtain ⟨t2, e2⟩ := walled_ok (m := mkM s (n + 1)) (t := t') hn
    exact ⟨.tell f t2, f, n', by simp only [plc, e, Except.bind, e2], hf.1, by omega⟩
  | @ifT N aim d c t u _ _ _ i1 i2 i3 =>
    intro B m hA hL h2 ha hm n
    have e0 : (Fm.num).ht = 0 := rfl
    obtain ⟨c', F, n1, e1, hn1, _⟩ := i1 B m hA hL h2 (by omega) (by omega) (n + 1)
    obtain ⟨c2, w1⟩ := walled_ok (m := mkM s (n + 1)) (t := c') hn1
    obtain ⟨t', F2, n2, e2, _, _⟩ := i2 B m hA hL h2 (by omega) (by omega) (n1 + 1 + 1)
    obtain ⟨t2, w2⟩ := walled_ok (m := mkM s (n1 + 1 + 1)) (t := t') (Fm.near_any F2)
    obtain ⟨u', F3, n3, e3, _, _⟩ := i3 B m hA hL h2 (by omega) (by omega) (n2 + 1 + 1)
    obtain ⟨u2, w3⟩ := walled_ok (m := mkM s (n2 + 1 + 1)) (t := u') (Fm.near_any F3)
    refine ⟨.ifT c2 (.tell .any t2) (.tell .any u2), .any, n3, ?_, Fm.any_near _, Nat.zero_le _⟩
    simp only [plc, e1, Except.bind, w1, e2, w2, e3, w3]
    simp [Fm.near, Fm.met, walledM]
  | @letT N aim g d x t b hx hg _ _ i1 i2 =>
    intro B m hA hL h2 ha hm n
    obtain ⟨t', F, n1, e1, hn1, _⟩ := i1 B m hA hL h2 (by omega) (by omega) (n + 1)
    obtain ⟨t2, w1⟩ := walled_ok (m := mkM s (n + 1)) (t := t') hn1
    obtain ⟨b', F2, n2, e2, hn2, hh⟩ := i2 (B ++ [(x, g)]) m (hA.add x g) (hL.add (by omega)) h2 (by omega) (by omega) n1
    exact ⟨.letT x (.tell g t2) b', F2, n2, by simp only [plc, e1, Except.bind, w1, e2], hn2, by omega⟩
  | @call N aim g f d t u hg hf _ _ i1 i2 =>
    intro B m hA hL h2 ha hm n
    have hf2 := hf.2
    obtain ⟨t', F, n1, e1, _, _⟩ := i1 B (m + 1) hA (hL.mono (by omega)) (by omega) (by simp only [Fm.ht]; omega) (by omega) (n + 1 + 1 + 1)
    obtain ⟨t2, w1⟩ := walled_ok (m := mkM s (n + 1 + 1 + 1)) (t := t') (Fm.near_any F)
    obtain ⟨t3, w2⟩ := walled_ok (m := mkM s (n + 1 + 1)) (t := .tell .any t2) (Fm.any_near (.deed g f))
    obtain ⟨u', F2, n2, e2, hn2, _⟩ := i2 B m hA hL h2 (by omega) (by omega) (n1 + 1)
    obtain ⟨u2, w3⟩ := walled_ok (m := mkM s (n1 + 1)) (t := u') hn2
    refine ⟨.call (.tell (.deed g f) t3) u2, f, n2, ?_, hf.1, by omega⟩
    have d1 : (Fm.deed g f).dw = .deed g f := rfl
    have d2 : (Fm.deed g f).arg = g := rfl
    have d3 : (Fm.deed g f).res = f := rfl
    simp only [plc, e1, Except.bind, w1, w2, d1, walled_same, e2, d2, d3, w3]
  | @add N aim d t u haim _ _ i1 i2 =>
    intro B m hA hL h2 ha hm n
    have e0 : (Fm.num).ht = 0 := rfl
    obtain ⟨t', F, n1, e1, hn1, _⟩ := i1 B m hA hL h2 (by omega) (by omega) (n + 1)
    obtain ⟨t2, w1⟩ := walled_ok (m := mkM s (n + 1)) (t := t') hn1
    obtain ⟨u', F2, n2, e2, hn2, _⟩ := i2 B m hA hL h2 (by omega) (by omega) (n1 + 1)
    obtain ⟨u2, w2⟩ := walled_ok (m := mkM s (n1 + 1)) (t := u') hn2
    exact ⟨.add t2 u2, .num, n2, by simp only [plc, e1, Except.bind, w1, e2, w2], num_near haim, Nat.zero_le _⟩
  | @sub N aim d t u haim _ _ i1 i2 =>
    intro B m hA hL h2 ha hm n
    have e0 : (Fm.num).ht = 0 := rfl
    obtain ⟨t', F, n1, e1, hn1, _⟩ := i1 B m hA hL h2 (by omega) (by omega) (n + 1)
    obtain ⟨t2, w1⟩ := walled_ok (m := mkM s (n + 1)) (t := t') hn1
    obtain ⟨u', F2, n2, e2, hn2, _⟩ := i2 B m hA hL h2 (by omega) (by omega) (n1 + 1)
    obtain ⟨u2, w2⟩ := walled_ok (m := mkM s (n1 + 1)) (t := u') hn2
    exact ⟨.sub t2 u2, .num, n2, by simp only [plc, e1, Except.bind, w1, e2, w2], num_near haim, Nat.zero_le _⟩
  | @size N aim d t haim _ i1 =>
    intro B m hA hL h2 ha hm n
    have e0 : (Fm.text).ht = 0 := rfl
    obtain ⟨t', F, n1, e1, hn1, _⟩ := i1 B m hA hL h2 (by omega) (by omega) (n + 1)
    obtain ⟨t2, w1⟩ := walled_ok (m := mkM s (n + 1)) (t := t') hn1
    exact ⟨.size t2, .num, n1, by simp only [plc, e1, Except.bind, w1], num_near haim, Nat.zero_le _⟩
  | @same N aim b d t u haim hb _ _ i1 i2 =>
    intro B m hA hL h2 ha hm n
    obtain ⟨t', F, n1, e1, hn1, _⟩ := i1 B m hA hL h2 (by simp only [Fm.ht]; omega) (by omega) (n + 1)
    obtain ⟨t2, w1⟩ := walled_ok (m := mkM s (n + 1)) (t := t') (near_bw hn1)
    obtain ⟨u', F2, n2, e2, hn2, _⟩ := i2 B m hA hL h2 (by simp only [Fm.ht]; omega) (by omega) (n1 + 1)
    obtain ⟨u2, w2⟩ := walled_ok (m := mkM s (n1 + 1)) (t := u') (near_bw hn2)
    exact ⟨.same t2 u2, .num, n2, by simp only [plc, e1, Except.bind, w1, e2, w2], num_near haim, Nat.zero_le _⟩
  | @write N aim b d t u haim hb _ _ i1 i2 =>
    intro B m hA hL h2 ha hm n
    obtain ⟨t', F, n1, e1, hn1, _⟩ := i1 B m hA hL h2 (by simp only [Fm.ht]; omega) (by omega) (n + 1)
    obtain ⟨t2, w1⟩ := walled_ok (m := mkM s (n + 1)) (t := t') (near_bw hn1)
    obtain ⟨u', F2, n2, e2, hn2, _⟩ := i2 B m hA hL h2 (by simp only [Fm.ht]; omega) (by omega) (n1 + 1 + 1)
    obtain ⟨u2, w2⟩ := walled_ok (m := mkM s (n1 + 1 + 1)) (t := u') (Fm.near_any F2)
    obtain ⟨u3, w3⟩ := walled_ok (m := mkM s (n1 + 1)) (t := .tell .any u2) (Fm.any_near F.bw.arg)
    exact ⟨.write t2 u3, .num, n2, by simp only [plc, e1, Except.bind, w1, e2, w2, w3], num_near haim, Nat.zero_le _⟩
  | @read N d t _ i1 =>
    intro B m hA hL h2 ha hm n
    obtain ⟨t', F, n1, e1, hn1, _⟩ := i1 B m hA hL h2 (by simp only [Fm.ht]; omega) (by omega) (n + 1)
    obtain ⟨t2, w1⟩ := walled_ok (m := mkM s (n + 1)) (t := t') (near_bw hn1)
    refine ⟨.read t2, F.bw.arg, n1, by simp only [plc, e1, Except.bind, w1], ?_⟩
    cases F with
    | box a =>
      simp only [Fm.near] at hn1
      cases a <;> first | exact ⟨rfl, Nat.zero_le _⟩ | cases hn1
    | any => exact ⟨rfl, Nat.zero_le _⟩
    | _ => cases hn1
  | @box N a f d t hf _ ih =>
    intro B m hA hL h2 ha hm n
    have hf2 := hf.2
    simp only [Fm.ht] at ha
    obtain ⟨t', F, n1, e1, _, _⟩ := ih B m hA hL h2 (by omega) (by omega) (n + 1 + 1 + 1)
    obtain ⟨t2, w1⟩ := walled_ok (m := mkM s (n + 1 + 1 + 1)) (t := t') (Fm.near_any F)
    obtain ⟨t3, w2⟩ := walled_ok (m := mkM s (n + 1 + 1)) (t := .tell .any t2) (Fm.any_near f)
    have hb : (Fm.box f).ht ≤ 5 := by simp only [Fm.ht]; omega
    refine ⟨.box f (.tell f t3), .box f, n1, ?_, by simp only [Fm.near]; exact hf.1, by simp only [Fm.ht]; omega⟩
    simp only [plc, e1, Except.bind, w1, w2, walled_same]
    exact lowM_ok hb
  | @deed N a b f d x t hf hx _ ih =>
    intro B m hA hL h2 ha hm n
    have hf2 := hf.2
    simp only [Fm.ht] at ha
    obtain ⟨t', F, n1, e1, hn1, hh⟩ := ih (B ++ [(x, f)]) m (hA.add x f) (hL.add (by omega)) h2 (by omega) (by omega) n
    have hb : (Fm.deed f F).ht ≤ 5 := by simp only [Fm.ht]; omega
    refine ⟨.deed x f t', .deed f F, n1, ?_, by simp only [Fm.near, hf.1, hn1, Bool.and_self], by simp only [Fm.ht]; omega⟩
    simp only [plc, e1, Except.bind]
    exact lowM_ok hb
end
end Wt
/-! How forms and terms stand in the heap. -/
namespace Wt
open PySem PySem.Spec PyProof.Rows L2
mutual
/-- data of texts, whole numbers, None, tuples, as it stands in the heap -/
inductive Rp (H : Hp) : V → PyData → Prop
  | non : Rp H .non .none
  | int (i : Int) : Rp H (.int i) (.int i)
  | str (x : Str) : Rp H (.str x) (.str x)
  | tup {a : Addr} {xs : List V} {ds : List PyData} : H a = some (.tup xs) → RpAll H xs ds → Rp H (.ref a) (.tuple ds)
inductive RpAll (H : Hp) : List V → List PyData → Prop
  | nil : RpAll H [] []
  | cons {v : V} {vs : List V} {d : PyData} {ds : List PyData} : Rp H v d → RpAll H vs ds → RpAll H (v :: vs) (d :: ds)
end
/-- all tuples stand -/
def Tk (H H' : Hp) : Prop := ∀ a xs, H a = some (.tup xs) → H' a = some (.tup xs)
mutual
theorem Rp.mono {H H' : Hp} (k : Tk H H') : ∀ {d : PyData} {v : V}, Rp H v d → Rp H' v d
  | _, _, .non => .non
  | _, _, .int i => .int i
  | _, _, .str x => .str x
  | _, _, .tup h r => .tup (k _ _ h) (RpAll.mono k r)
theorem RpAll.mono {H H' : Hp} (k : Tk H H') : ∀ {ds : List PyData} {vs : List V}, RpAll H vs ds → RpAll H' vs ds
  | _, _, .nil => .nil
  | _, _, .cons r t => .cons (Rp.mono k r) (RpAll.mono k t)
end
mutual
theorem Rp.dp {K : PySem.W.Frag} {H : Hp} : ∀ {d : PyData} {v : V}, Rp H v d → Dp K H v d
  | _, _, .non => .non
  | _, _, .int i => .int i
  | _, _, .str x => .str x
  | _, _, .tup h r => .tup (SqT.of h) (RpAll.dp r)
theorem RpAll.dp {K : PySem.W.Frag} {H : Hp} : ∀ {ds : List PyData} {vs : List V}, RpAll H vs ds → DpAll K H vs ds
  | _, _, .nil => .nil
  | _, _, .cons r t => .cons (Rp.dp r) (RpAll.dp t)
end
section
variable {H : Hp} {v : V}
theorem rp_str {x : Str} : Rp H v (.str x) ↔ v = .str x := ⟨fun h => by cases h; rfl, fun h => by subst h; exact .str x⟩
theorem rp_int {i : Int} : Rp H v (.int i) ↔ v = .int i := ⟨fun h => by cases h; rfl, fun h => by subst h; exact .int i⟩
theorem rp_non : Rp H v .none ↔ v = .non := ⟨fun h => by cases h; rfl, fun h => by subst h; exact .non⟩
theorem rp_tup {ds : List PyData} : Rp H v (.tuple ds) ↔ ∃ a xs, v = .ref a ∧ H a = some (.tup xs) ∧ RpAll H xs ds :=
  ⟨fun h => by cases h with | tup h r => exact ⟨_, _, rfl, h, r⟩, fun ⟨a, xs, e, h, r⟩ => by subst e; exact .tup h r⟩
theorem rpa_nil {xs : List V} : RpAll H xs [] ↔ xs = [] := ⟨fun h => by cases h; rfl, fun h => by subst h; exact .nil⟩
theorem rpa_cons {xs : List V} {d : PyData} {ds : List PyData} : RpAll H xs (d :: ds) ↔ ∃ v vs, xs = v :: vs ∧ Rp H v d ∧ RpAll H vs ds :=
  ⟨fun h => by cases h with | cons r t => exact ⟨_, _, rfl, r, t⟩, fun ⟨v, vs, e, r, t⟩ => by subst e; exact .cons r t⟩
theorem rp1 {d1 : PyData} : Rp H v (.tuple [d1]) ↔ ∃ a v1, v = .ref a ∧ H a = some (.tup [v1]) ∧ Rp H v1 d1 := by
  constructor
  · intro h
    obtain ⟨a, xs, rfl, e, r⟩ := rp_tup.mp h
    obtain ⟨v1, t1, rfl, r1, q1⟩ := rpa_cons.mp r
    obtain rfl := rpa_nil.mp q1
    exact ⟨a, v1, rfl, e, r1⟩
  · rintro ⟨a, v1, rfl, e, r1⟩
    exact .tup e (.cons r1 .nil)
theorem rp2 {d1 d2 : PyData} : Rp H v (.tuple [d1, d2]) ↔ ∃ a v1 v2, v = .ref a ∧ H a = some (.tup [v1, v2]) ∧ Rp H v1 d1 ∧ Rp H v2 d2 := by
  constructor
  · intro h
    obtain ⟨a, xs, rfl, e, r⟩ := rp_tup.mp h
    obtain ⟨v1, t1, rfl, r1, q1⟩ := rpa_cons.mp r
    obtain ⟨v2, t2, rfl, r2, q2⟩ := rpa_cons.mp q1
    obtain rfl := rpa_nil.mp q2
    exact ⟨a, v1, v2, rfl, e, r1, r2⟩
  · rintro ⟨a, v1, v2, rfl, e, r1, r2⟩
    exact .tup e (.cons r1 (.cons r2 .nil))
theorem rp3 {d1 d2 d3 : PyData} : Rp H v (.tuple [d1, d2, d3]) ↔ ∃ a v1 v2 v3, v = .ref a ∧ H a = some (.tup [v1, v2, v3]) ∧ Rp H v1 d1 ∧ Rp H v2 d2 ∧ Rp H v3 d3 := by
  constructor
  · intro h
    obtain ⟨a, xs, rfl, e, r⟩ := rp_tup.mp h
    obtain ⟨v1, t1, rfl, r1, q1⟩ := rpa_cons.mp r
    obtain ⟨v2, t2, rfl, r2, q2⟩ := rpa_cons.mp q1
    obtain ⟨v3, t3, rfl, r3, q3⟩ := rpa_cons.mp q2
    obtain rfl := rpa_nil.mp q3
    exact ⟨a, v1, v2, v3, rfl, e, r1, r2, r3⟩
  · rintro ⟨a, v1, v2, v3, rfl, e, r1, r2, r3⟩
    exact .tup e (.cons r1 (.cons r2 (.cons r3 .nil)))
theorem rp4 {d1 d2 d3 d4 : PyData} : Rp H v (.tuple [d1, d2, d3, d4]) ↔ ∃ a v1 v2 v3 v4, v = .ref a ∧ H a = some (.tup [v1, v2, v3, v4]) ∧ Rp H v1 d1 ∧ Rp H v2 d2 ∧ Rp H v3 d3 ∧ Rp H v4 d4 := by
  constructor
  · intro h
    obtain ⟨a, xs, rfl, e, r⟩ := rp_tup.mp h
    obtain ⟨v1, t1, rfl, r1, q1⟩ := rpa_cons.mp r
    obtain ⟨v2, t2, rfl, r2, q2⟩ := rpa_cons.mp q1
    obtain ⟨v3, t3, rfl, r3, q3⟩ := rpa_cons.mp q2
    obtain ⟨v4, t4, rfl, r4, q4⟩ := rpa_cons.mp q3
    obtain rfl := rpa_nil.mp q4
    exact ⟨a, v1, v2, v3, v4, rfl, e, r1, r2, r3, r4⟩
  · rintro ⟨a, v1, v2, v3, v4, rfl, e, r1, r2, r3, r4⟩
    exact .tup e (.cons r1 (.cons r2 (.cons r3 (.cons r4 .nil))))
theorem rp5 {d1 d2 d3 d4 d5 : PyData} : Rp H v (.tuple [d1, d2, d3, d4, d5]) ↔ ∃ a v1 v2 v3 v4 v5, v = .ref a ∧ H a = some (.tup [v1, v2, v3, v4, v5]) ∧ Rp H v1 d1 ∧ Rp H v2 d2 ∧ Rp H v3 d3 ∧ Rp H v4 d4 ∧ Rp H v5 d5 := by
  constructor
  · intro h
    obtain ⟨a, xs, rfl, e, r⟩ := rp_tup.mp h
    obtain ⟨v1, t1, rfl, r1, q1⟩ := rpa_cons.mp r
    obtain ⟨v2, t2, rfl, r2, q2⟩ := rpa_cons.mp q1
    obtain ⟨v3, t3, rfl, r3, q3⟩ := rpa_cons.mp q2
    obtain ⟨v4, t4, rfl, r4, q4⟩ := rpa_cons.mp q3
    obtain ⟨v5, t5, rfl, r5, q5⟩ := rpa_cons.mp q4
    obtain rfl := rpa_nil.mp q5
    exact ⟨a, v1, v2, v3, v4, v5, rfl, e, r1, r2, r3, r4, r5⟩
  · rintro ⟨a, v1, v2, v3, v4, v5, rfl, e, r1, r2, r3, r4, r5⟩
    exact .tup e (.cons r1 (.cons r2 (.cons r3 (.cons r4 (.cons r5 .nil)))))
end
/-! ### forms and terms as data -/
def Fm.d : Fm → PyData
  | .any => .str "any"
  | .num => .str "num"
  | .text => .str "text"
  | .deed a b => .tuple [.str "deed", a.d, b.d]
  | .box a => .tuple [.str "box", a.d]
def Tm.d : Tm → PyData
  | .number n => .tuple [.str "number", .int n]
  | .text w => .tuple [.str "text", .str w]
  | .name x => .tuple [.str "name", .str x]
  | .deed x A e => .tuple [.str "deed", .str x, A.d, e.d]
  | .call f e => .tuple [.str "call", f.d, e.d]
  | .letT x e f => .tuple [.str "let", .str x, e.d, f.d]
  | .tell A e => .tuple [.str "tell", A.d, e.d]
  | .ifT c e f => .tuple [.str "if", c.d, e.d, f.d]
  | .add e f => .tuple [.str "add", e.d, f.d]
  | .sub e f => .tuple [.str "sub", e.d, f.d]
  | .size e => .tuple [.str "size", e.d]
  | .box A e => .tuple [.str "box", A.d, e.d]
  | .read e => .tuple [.str "read", e.d]
  | .write e f => .tuple [.str "write", e.d, f.d]
  | .same e f => .tuple [.str "same", e.d, f.d]
  | .doT e f => .tuple [.str "do", e.d, f.d]
  | .wall m A B e => .tuple [.str "wall", .str m, A.d, B.d, e.d]
abbrev RpF (H : Hp) (v : V) (f : Fm) : Prop := Rp H v f.d
abbrev RpT (H : Hp) (v : V) (t : Tm) : Prop := Rp H v t.d
section
variable {H : Hp} {v : V}
theorem rpf_deed {a b : Fm} : RpF H v (.deed a b) ↔ ∃ p x y, v = .ref p ∧ H p = some (.tup [.str "deed", x, y]) ∧ RpF H x a ∧ RpF H y b := by
  constructor
  · intro h
    obtain ⟨p, w, x, y, rfl, e, r, r1, r2⟩ := rp3.mp (show Rp H v (.tuple [.str "deed", a.d, b.d]) from h)
    obtain rfl := rp_str.mp r
    exact ⟨p, x, y, rfl, e, r1, r2⟩
  · rintro ⟨p, x, y, rfl, e, r1, r2⟩
    exact rp3.mpr ⟨p, _, x, y, rfl, e, .str _, r1, r2⟩
theorem rpf_box {a : Fm} : RpF H v (.box a) ↔ ∃ p x, v = .ref p ∧ H p = some (.tup [.str "box", x]) ∧ RpF H x a := by
  constructor
  · intro h
    obtain ⟨p, w, x, rfl, e, r, r1⟩ := rp2.mp (show Rp H v (.tuple [.str "box", a.d]) from h)
    obtain rfl := rp_str.mp r
    exact ⟨p, x, rfl, e, r1⟩
  · rintro ⟨p, x, rfl, e, r1⟩
    exact rp2.mpr ⟨p, _, x, rfl, e, .str _, r1⟩
/-- a word and one more, two more .. -/
theorem rpw1 {w : Str} {d1 : PyData} : Rp H v (.tuple [.str w, d1]) ↔ ∃ p x, v = .ref p ∧ H p = some (.tup [.str w, x]) ∧ Rp H x d1 := by
  constructor
  · intro h
    obtain ⟨p, w', x, rfl, e, r, r1⟩ := rp2.mp h
    obtain rfl := rp_str.mp r
    exact ⟨p, x, rfl, e, r1⟩
  · rintro ⟨p, x, rfl, e, r1⟩
    exact rp2.mpr ⟨p, _, x, rfl, e, .str _, r1⟩
theorem rpw2 {w : Str} {d1 d2 : PyData} : Rp H v (.tuple [.str w, d1, d2]) ↔ ∃ p x y, v = .ref p ∧ H p = some (.tup [.str w, x, y]) ∧ Rp H x d1 ∧ Rp H y d2 := by
  constructor
  · intro h
    obtain ⟨p, w', x, y, rfl, e, r, r1, r2⟩ := rp3.mp h
    obtain rfl := rp_str.mp r
    exact ⟨p, x, y, rfl, e, r1, r2⟩
  · rintro ⟨p, x, y, rfl, e, r1, r2⟩
    exact rp3.mpr ⟨p, _, x, y, rfl, e, .str _, r1, r2⟩
theorem rpw3 {w : Str} {d1 d2 d3 : PyData} : Rp H v (.tuple [.str w, d1, d2, d3]) ↔ ∃ p x y z, v = .ref p ∧ H p = some (.tup [.str w, x, y, z]) ∧ Rp H x d1 ∧ Rp H y d2 ∧ Rp H z d3 := by
  constructor
  · intro h
    obtain ⟨p, w', x, y, z, rfl, e, r, r1, r2, r3⟩ := rp4.mp h
    obtain rfl := rp_str.mp r
    exact ⟨p, x, y, z, rfl, e, r1, r2, r3⟩
  · rintro ⟨p, x, y, z, rfl, e, r1, r2, r3⟩
    exact rp4.mpr ⟨p, _, x, y, z, rfl, e, .str _, r1, r2, r3⟩
end
/-! ### what may change: one object -/
def Kp (p : Addr) (H H' : Hp) : Prop := ∀ a o, a ≠ p → H a = some o → H' a = some o
theorem Kp.refl (p : Addr) (H : Hp) : Kp p H H := fun _ _ _ h => h
theorem Kp.trans {p : Addr} {H H1 H2 : Hp} (a : Kp p H H1) (b : Kp p H1 H2) : Kp p H H2 := fun c o n h => b c o n (a c o n h)
theorem Kp.of {p : Addr} {H H' : Hp} (h : Same H H') : Kp p H H' := fun c o _ q => h c o q
theorem Kp.new {p a : Addr} {H : Hp} (h : H a = none) (o : HO) : Kp p H (upd H a o) := fun c u _ q => by rw [upd_ne (ne_of_none q h)]; exact q
theorem Kp.at_ {p : Addr} {H : Hp} (o : HO) : Kp p H (upd H p o) := fun c u n q => by rw [upd_ne n]; exact q
theorem _root_.L2.Same.tk {H H' : Hp} (h : Same H H') : Tk H H' := fun a xs e => h a _ e
theorem same_new {H : Hp} {p : Addr} (h : H p = none) (o : HO) : Same H (upd H p o) := fun b u q => by rw [upd_ne (ne_of_none q h)]; exact q
/-- p is no tuple -/
def NoTup (H : Hp) (p : Addr) : Prop := ∀ xs, H p ≠ some (.tup xs)
theorem Kp.tk {p : Addr} {H H' : Hp} (h : Kp p H H') (n : NoTup H p) : Tk H H' := fun a xs e => h a _ (fun z => n xs (z ▸ e)) e
theorem NoTup.ins {H : Hp} {p C dx : Addr} {fs : List (Str × V)} (h : H p = some (.ins C dx fs)) : NoTup H p := fun xs e => by rw [h] at e; cases e
theorem NoTup.lst {H : Hp} {p : Addr} {xs : List V} (h : H p = some (.lst xs)) : NoTup H p := fun ys e => by rw [h] at e; cases e
theorem NoTup.dK {H : Hp} {p : Addr} {xs : List (Key × V)} (h : H p = some (.dK xs)) : NoTup H p := fun ys e => by rw [h] at e; cases e
/-! ### == of forms -/
theorem eqv_str (x y : Str) : PyData.eqv (.str x) (.str y) = decide (x = y) := by
  simp only [PyData.eqv]
  by_cases h : x = y
  · simp [h]
  · simp [h]
theorem Fm.eqv_d : ∀ f g : Fm, PyData.eqv f.d g.d = decide (f = g) := by
  intro f
  induction f with
  | any => intro g; cases g <;> simp [Fm.d, PyData.eqv] <;> decide
  | num => intro g; cases g <;> simp [Fm.d, PyData.eqv] <;> decide
  | text => intro g; cases g <;> simp [Fm.d, PyData.eqv] <;> decide
  | deed a b iha ihb =>
    intro g
    cases g with
    | deed c d =>
      simp only [Fm.d, PyData.eqv, PyData.eqvAll, iha, ihb]
      by_cases h1 : a = c <;> by_cases h2 : b = d <;> simp [h1, h2]
    | box c =>
      simp only [Fm.d, PyData.eqv, PyData.eqvAll, iha, ihb]
      have : (("deed" : Str) == ("box" : Str)) = false := by decide
      simp [this]
    | _ => simp [Fm.d, PyData.eqv]
  | box a iha =>
    intro g
    cases g with
    | deed c d =>
      simp only [Fm.d, PyData.eqv, PyData.eqvAll, iha]
      have : (("box" : Str) == ("deed" : Str)) = false := by decide
      simp [this]
    | box c =>
      simp only [Fm.d, PyData.eqv, PyData.eqvAll, iha]
      by_cases h1 : a = c <;> simp [h1]
    | _ => simp [Fm.d, PyData.eqv]
theorem Fm.canLay : ∀ f : Fm, f.d.canLay0 = true
  | .any => by decide +kernel
  | .num => by decide +kernel
  | .text => by decide +kernel
  | .deed a b => by
    have h1 := Fm.canLay a
    have h2 := Fm.canLay b
    have h3 : PyData.canLay0 (.str "deed") = true := by decide +kernel
    simp only [Fm.d, PyData.canLay0, PyData.canLayAll0, h1, h2] at h3 ⊢
    simp [h3]
  | .box a => by
    have h1 := Fm.canLay a
    have h3 : PyData.canLay0 (.str "box") = true := by decide +kernel
    simp only [Fm.d, PyData.canLay0, PyData.canLayAll0, h1] at h3 ⊢
    simp [h3]
theorem Fm.depth_d : ∀ f : Fm, f.d.depth = f.ht
  | .any => rfl
  | .num => rfl
  | .text => rfl
  | .deed a b => by
    have h1 := Fm.depth_d a
    have h2 := Fm.depth_d b
    simp only [Fm.d, PyData.depth, PyData.depthAll, h1, h2, Fm.ht]
    omega
  | .box a => by
    have h1 := Fm.depth_d a
    simp only [Fm.d, PyData.depth, PyData.depthAll, h1, Fm.ht]
    omega
theorem Fm.shaped {f : Fm} (h : f.ht ≤ 64) : SeqAt.shaped f.d = true := by
  unfold SeqAt.shaped
  rw [Fm.canLay, Fm.depth_d, decide_eq_true h]
  rfl
/-- the head of a form, or of a plain one the text itself -/
def Fm.plain : Fm → Bool
  | .deed _ _ => false
  | .box _ => false
  | _ => true
end Wt
/-! Rules of our own: a def by its name, a method by its name; isinstance; == and in on data. -/
namespace Wt
open PySem PySem.Spec PyProof.Rows L2
/-- a def of the module, by its name, with what it promises -/
structure Cl (P : Program) (w : World) (K : PySem.W.Frag) (mg : Str → Option Value) (base : Heap) (CX : CXT) (k : Nat) (x : Str) (sp : Sp) : Prop where
  ex : ∃ (f : Addr) (fd : FuncData) (ps : List Str), mg x = some (.ref f) ∧ FnOk P w K mg base CX k f fd ps sp ∧ PySem.W.keepIn K (.ref f) = true ∧ Binds K fd ps []
/-- a method of the class at C -/
structure Mt (P : Program) (w : World) (K : PySem.W.Frag) (mg : Str → Option Value) (base : Heap) (CX : CXT) (k : Nat) (C : Addr) (m : Str) (sp : Sp) : Prop where
  ex : ∃ (f : Addr) (fd : FuncData) (ps : List Str), Meth K C m f ∧ FnOk P w K mg base CX k f fd ps sp ∧ Binds K fd ps []
section
variable {P : Program} {w : World} {K : PySem.W.Frag} {mg : Str → Option Value} {base : Heap} {CX : CXT} {j k : Nat} {x m : Str} {C : Addr} {sp sp' : Sp}
theorem Cl.mono (c : Cl P w K mg base CX j x sp) (h : j ≤ k) : Cl P w K mg base CX k x sp := by
  obtain ⟨f, fd, ps, h1, h2, h3, h4⟩ := c.ex
  exact ⟨f, fd, ps, h1, h2.mono h, h3, h4⟩
theorem Cl.imp (c : Cl P w K mg base CX k x sp) (h : ∀ vs H Q E, sp' vs H Q E → sp vs H Q E) : Cl P w K mg base CX k x sp' := by
  obtain ⟨f, fd, ps, h1, h2, h3, h4⟩ := c.ex
  exact ⟨f, fd, ps, h1, h2.imp h, h3, h4⟩
theorem Mt.mono (c : Mt P w K mg base CX j C m sp) (h : j ≤ k) : Mt P w K mg base CX k C m sp := by
  obtain ⟨f, fd, ps, h1, h2, h4⟩ := c.ex
  exact ⟨f, fd, ps, h1, h2.mono h, h4⟩
theorem Mt.imp (c : Mt P w K mg base CX k C m sp) (h : ∀ vs H Q E, sp' vs H Q E → sp vs H Q E) : Mt P w K mg base CX k C m sp' := by
  obtain ⟨f, fd, ps, h1, h2, h4⟩ := c.ex
  exact ⟨f, fd, ps, h1, h2.imp h, h4⟩
end
section
variable {X : Cx} {CX : CXT} {j k : Nat} {x m : Str} {C : Addr} {sp : Sp} {E : XK} {p pos apos : Pos} {e o : Expr} {es : List Expr} {ta : TE} {t : TA}
theorem pe_cl (c : Cl X.prog X.w X.K X.mg X.base CX k x sp) (hr : Room j X.A) (hk : k ≤ j) (hx : Passes CX X E) (ha : PA X (e :: es) t) (hg : Gl X x := by rfl)
    (hdb : (x == ("__debug__" : Str)) = false := by decide) (he : starEach (e :: es) X.env = (false, eval e X.env) :: starEach es X.env := by rfl) (hpl : (backTo pos (starEach es X.env)).any (·.1) = false := by rfl) :
    PE X (.Call (.Name x p) (e :: es) [] pos) (tCall sp [] E t) := by
  obtain ⟨f, fd, ps, h1, h2, h3, h4⟩ := c.ex
  exact pe_call h2 (hr.mono hk) hg h1 h3 h4 .nil hx ha hdb he hpl
theorem pe_mcl {pl : Sem Bool} (c : Mt X.prog X.w X.K X.mg X.base CX k C m sp) (cl : Cls X.K C) (hr : Room j X.A) (hk : k ≤ j) (hx : Passes CX X E) (he : PE X o ta) (ha : PA X (e :: es) t)
    (hst : starEach (e :: es) X.env = (false, eval e X.env) :: starEach es X.env := by rfl) (hpl : (backTo pos (starEach es X.env)).any (·.1) = false := by rfl)
    (ht : eval (.Call (.Attribute o m apos) (e :: es) [] pos) X.env = (do
      let ov ← eval o X.env
      standAt apos.atName
      let (f, first) ← holding [ov] (getMethod ov m pl)
      callWith pos f first (backTo pos (starEach (e :: es) X.env)) (backToKw pos (keywordEach [] X.env))) := by rfl) :
    PE X (.Call (.Attribute o m apos) (e :: es) [] pos) (tMeth C m sp [] E ta t) := by
  obtain ⟨f, fd, ps, h1, h2, h4⟩ := c.ex
  exact pe_meth he cl h1 h2 (hr.mono hk) h4 .nil hx ha hst hpl ht
end
/-- nothing can be asked with no call left -/
theorem cl_zero {P : Program} {w : World} {K : PySem.W.Frag} {mg : Str → Option Value} {base : Heap} {CX : CXT} {x : Str} {sp : Sp} {f : Addr} {fd : FuncData} {ps : List Str} (g : mg x = some (.ref f)) (kp : PySem.W.keepIn K (.ref f) = true) (b : Binds K fd ps [])
    (no : ∀ vs H Q E, ¬ sp vs H Q E) : Cl P w K mg base CX 0 x sp :=
  ⟨f, fd, ps, g, ⟨fun vs H Q E h => absurd h (no vs H Q E), fun A outer s H args us vs Q E _ _ _ _ h => absurd h (no vs H Q E)⟩, kp, b⟩
/-! ### isinstance with a built-in class -/
inductive IsB (H : Hp) : V → String → Bool → Prop
  | ss (z : Str) : IsB H (.str z) "str" true
  | st (z : Str) : IsB H (.str z) "tuple" false
  | ts {a : Addr} {xs : List V} (h : H a = some (.tup xs)) : IsB H (.ref a) "str" false
  | tt {a : Addr} {xs : List V} (h : H a = some (.tup xs)) : IsB H (.ref a) "tuple" true
  | ll {a : Addr} {xs : List V} (h : H a = some (.lst xs)) : IsB H (.ref a) "list" true
  | ii (i : Int) : IsB H (.int i) "int" true
  | ib (i : Int) : IsB H (.int i) "bool" false
section
variable {X : Cx}
theorem call_isB : CallR X (.builtin "isinstance") (fun xs H Q => ∃ x n b, xs = [x, .ty n] ∧ IsB H x n b ∧ Q (.bl b) H) := by
  intro pins s σ H xs us Q I r h
  obtain ⟨x, n, b, rfl, hi, q⟩ := h
  refine call_isi pins s σ H _ us Q I r ?_
  cases hi with
  | ss z => exact ⟨_, _, .type "str", .type "str", true, rfl, .ty _, .base (.str z), kit_ty (by decide +kernel), q⟩
  | st z => exact ⟨_, _, .type "str", .type "tuple", false, rfl, .ty _, .base (.str z), kit_ty (by decide +kernel), q⟩
  | ts h => exact ⟨_, _, .type "tuple", .type "str", false, rfl, .ty _, .base (.tup h), kit_ty (by decide +kernel), q⟩
  | tt h => exact ⟨_, _, .type "tuple", .type "tuple", true, rfl, .ty _, .base (.tup h), kit_ty (by decide +kernel), q⟩
  | ll h => exact ⟨_, _, .type "list", .type "list", true, rfl, .ty _, .base (.lst h), kit_ty (by decide +kernel), q⟩
  | ii i => exact ⟨_, _, .type "int", .type "int", true, rfl, .ty _, .base (.int i), kit_ty (by decide +kernel), q⟩
  | ib i => exact ⟨_, _, .type "int", .type "bool", false, rfl, .ty _, .base (.int i), kit_ty (by decide +kernel), q⟩
end
end Wt
/-! Comprehensions whose steps leave all that was tracked as it was. -/
namespace Wt
open PySem PySem.Spec PyProof.Rows L2 RZ
theorem _root_.L2.Same.sqT {K : PySem.W.Frag} {H H' : Hp} {a : Addr} {xs : List V} (e : Same H H') (h : SqT K H a xs) : SqT K H' a xs := by
  rcases h with (h | ⟨o, h⟩) | h
  · exact .inl (.inl (e _ _ h))
  · exact .inl (.inr ⟨o, e _ _ h⟩)
  · exact .inr h
theorem _root_.L2.Same.upd_fresh {H0 H H' : Hp} {D : Addr} {o : HO} (h : Same H H') (hD : H D = none) : Same H (upd H' D o) := fun b u q => by
  rw [upd_ne (ne_of_none q hD)]
  exact h b u q
theorem _root_.L2.Same.upd2 {H H' : Hp} {D : Addr} {o : HO} (h : Same H H') (hD : H D = none) : Same H (upd H' D o) := fun b u q => by
  rw [upd_ne (ne_of_none q hD)]
  exact h b u q
/-- the results: ys, one by one -/
theorem lc_same {J : It} {n : Nat} {g : TG} {te : TE} {vs : List Nat} {σ : L2.St} {H1 : Hp} {D : Addr} {Qd : Hp → Prop} {ys : List V} (hD : H1 D = none) (hy : ys.length = n) (hz : n ≤ 1000)
    (stop : ∀ H', Same H1 H' → J.stop n H') (go : ∀ i H', i < n → Same H1 H' → J.go i H')
    (hyl : ∀ i x H' H'', J.yld i H' x H'' → Same H' H'')
    (hs : ∀ (i : Nat) x y H' H'' (Nx : VK), ys[i]? = some y → Same H1 H' → J.yld i H' x H'' → (∀ H3, Same H'' H3 → Nx y H3) → g x (wipe σ vs) H'' fun σ2 H2 => wipe σ2 vs = wipe σ vs ∧ te σ2 H2 Nx)
    (hd : ∀ H', Same H1 H' → H' D = some (.lst ys) → Qd H') :
    ∃ W : Nat → Nat → Hp → Prop, (∃ m, W 0 m (upd H1 D (.lst []))) ∧ ∀ i m H, W i m H →
      (J.stop i H ∧ Qd H) ∨ (J.go i H ∧ ∃ Nx : Hp → Prop, (∀ H', Nx H' → ∃ m', m' < m ∧ W (i + 1) m' H') ∧ ∀ x H', J.yld i H x H' → g x (wipe σ vs) H' fun σ2 H2 => wipe σ2 vs = wipe σ vs ∧ tYes σ2 H2 fun b H3 =>
        if b = true then te σ2 H3 fun y H4 => ∃ acc, H4 D = some (.lst acc) ∧ acc.length < sizeLine ∧ Nx (upd H4 D (.lst (acc ++ [y]))) else Nx H3) := by
  refine ⟨fun i m H => m = n - i ∧ i ≤ n ∧ Same H1 H ∧ H D = some (.lst (ys.take i)), ⟨n, by simp, Nat.zero_le _, same_new hD _, by rw [upd_same]; rfl⟩, ?_⟩
  rintro i m H ⟨rfl, hi, s1, e1⟩
  by_cases hlt : i < n
  · refine .inr ⟨go i H hlt s1, fun H' => Same H1 H' ∧ H' D = some (.lst (ys.take (i + 1))), fun H' ⟨a, b⟩ => ⟨n - (i + 1), by omega, rfl, hlt, a, b⟩, fun x H' yl => ?_⟩
    have hyi : ys[i]? = some ys[i] := List.getElem?_eq_getElem (by omega)
    have sy := hyl i x H H' yl
    have q := hs i x ys[i] H H' (fun y H4 => ∃ acc, H4 D = some (.lst acc) ∧ acc.length < sizeLine ∧ (Same H1 (upd H4 D (.lst (acc ++ [y]))) ∧ (upd H4 D (.lst (acc ++ [y]))) D = some (.lst (ys.take (i + 1))))) hyi s1 yl (fun H3 s3 => by
      refine ⟨ys.take i, s3 _ _ (sy _ _ e1), ?_, (s1.trans (sy.trans s3)).upd2 hD, ?_⟩
      · rw [List.length_take, sizeLine_eq]
        omega
      · rw [upd_same, List.take_add_one, hyi]
        rfl)
    have e : (fun σ2 H2 => wipe σ2 vs = wipe σ vs ∧ tYes σ2 H2 fun b H3 => if b = true then te σ2 H3 fun y H4 => ∃ acc, H4 D = some (.lst acc) ∧ acc.length < sizeLine ∧ (Same H1 (upd H4 D (.lst (acc ++ [y]))) ∧ (upd H4 D (.lst (acc ++ [y]))) D = some (.lst (ys.take (i + 1)))) else (Same H1 H3 ∧ H3 D = some (.lst (ys.take (i + 1)))))
        = fun σ2 H2 => wipe σ2 vs = wipe σ vs ∧ te σ2 H2 fun y H4 => ∃ acc, H4 D = some (.lst acc) ∧ acc.length < sizeLine ∧ (Same H1 (upd H4 D (.lst (acc ++ [y]))) ∧ (upd H4 D (.lst (acc ++ [y]))) D = some (.lst (ys.take (i + 1)))) := by
      funext σ2 H2
      simp only [tYes, if_true]
    rw [e]
    exact q
  · have e : i = n := by omega
    subst e
    refine .inl ⟨stop H s1, hd H s1 ?_⟩
    rw [e1, List.take_of_length_le (by omega)]
/-- over a tuple -/
theorem lc_tup_same {K : PySem.W.Frag} {a : Addr} {xs ys : List V} {g : TG} {te : TE} {vs : List Nat} {σ : L2.St} {H1 : Hp} {D : Addr} {Qd : Hp → Prop} (hD : H1 D = none) (hT : SqT K H1 a xs) (hy : ys.length = xs.length) (hz : xs.length ≤ 1000)
    (hs : ∀ (i : Nat) x y H' (Nx : VK), xs[i]? = some x → ys[i]? = some y → Same H1 H' → (∀ H3, Same H' H3 → Nx y H3) → g x (wipe σ vs) H' fun σ2 H2 => wipe σ2 vs = wipe σ vs ∧ te σ2 H2 Nx)
    (hd : ∀ H', Same H1 H' → H' D = some (.lst ys) → Qd H') :
    ∃ W : Nat → Nat → Hp → Prop, (∃ m, W 0 m (upd H1 D (.lst []))) ∧ ∀ i m H, W i m H →
      ((Itt K a).stop i H ∧ Qd H) ∨ ((Itt K a).go i H ∧ ∃ Nx : Hp → Prop, (∀ H', Nx H' → ∃ m', m' < m ∧ W (i + 1) m' H') ∧ ∀ x H', (Itt K a).yld i H x H' → g x (wipe σ vs) H' fun σ2 H2 => wipe σ2 vs = wipe σ vs ∧ tYes σ2 H2 fun b H3 =>
        if b = true then te σ2 H3 fun y H4 => ∃ acc, H4 D = some (.lst acc) ∧ acc.length < sizeLine ∧ Nx (upd H4 D (.lst (acc ++ [y]))) else Nx H3) :=
  lc_same (J := Itt K a) (n := xs.length) hD hy hz (fun H' s => ⟨xs, s.sqT hT, Nat.le_refl _⟩) (fun i H' hi s => ⟨xs, xs[i], s.sqT hT, List.getElem?_eq_getElem hi⟩)
    (fun i x H' H'' yl => by rw [yl.1]; exact Same.refl _) (fun i x y H' H'' Nx ey s yl k => by
      obtain ⟨e, yl⟩ := yl
      subst e
      exact hs i x y _ Nx (yl xs (s.sqT hT)) ey s k) hd
/-- over a list -/
theorem lc_list_same {K : PySem.W.Frag} {a : Addr} {xs ys : List V} {g : TG} {te : TE} {vs : List Nat} {σ : L2.St} {H1 : Hp} {D : Addr} {Qd : Hp → Prop} (hD : H1 D = none) (hT : SqL K H1 a xs) (hy : ys.length = xs.length) (hz : xs.length ≤ 1000)
    (hs : ∀ (i : Nat) x y H' (Nx : VK), xs[i]? = some x → ys[i]? = some y → Same H1 H' → (∀ H3, Same H' H3 → Nx y H3) → g x (wipe σ vs) H' fun σ2 H2 => wipe σ2 vs = wipe σ vs ∧ te σ2 H2 Nx)
    (hd : ∀ H', Same H1 H' → H' D = some (.lst ys) → Qd H') :
    ∃ W : Nat → Nat → Hp → Prop, (∃ m, W 0 m (upd H1 D (.lst []))) ∧ ∀ i m H, W i m H →
      ((Itl K a).stop i H ∧ Qd H) ∨ ((Itl K a).go i H ∧ ∃ Nx : Hp → Prop, (∀ H', Nx H' → ∃ m', m' < m ∧ W (i + 1) m' H') ∧ ∀ x H', (Itl K a).yld i H x H' → g x (wipe σ vs) H' fun σ2 H2 => wipe σ2 vs = wipe σ vs ∧ tYes σ2 H2 fun b H3 =>
        if b = true then te σ2 H3 fun y H4 => ∃ acc, H4 D = some (.lst acc) ∧ acc.length < sizeLine ∧ Nx (upd H4 D (.lst (acc ++ [y]))) else Nx H3) :=
  lc_same (J := Itl K a) (n := xs.length) hD hy hz (fun H' s => ⟨xs, s.seq hT, Nat.le_refl _⟩) (fun i H' hi s => ⟨xs, xs[i], s.seq hT, List.getElem?_eq_getElem hi⟩)
    (fun i x H' H'' yl => by rw [yl.1]; exact Same.refl _) (fun i x y H' H'' Nx ey s yl k => by
      obtain ⟨e, yl⟩ := yl
      subst e
      exact hs i x y _ Nx (yl xs (s.seq hT)) ey s k) hd
/-- over a text, sign by sign -/
theorem lc_str_same {z : Str} {ys : List V} {g : TG} {te : TE} {vs : List Nat} {σ : L2.St} {H1 : Hp} {D : Addr} {Qd : Hp → Prop} (hD : H1 D = none) (hy : ys.length = z.cps.size) (hz : z.cps.size ≤ 1000)
    (hs : ∀ (i : Nat) c y H' (Nx : VK), z.cps[i]? = some c → ys[i]? = some y → Same H1 H' → (∀ H3, Same H' H3 → Nx y H3) → g (.str ⟨#[c]⟩) (wipe σ vs) H' fun σ2 H2 => wipe σ2 vs = wipe σ vs ∧ te σ2 H2 Nx)
    (hd : ∀ H', Same H1 H' → H' D = some (.lst ys) → Qd H') :
    ∃ W : Nat → Nat → Hp → Prop, (∃ m, W 0 m (upd H1 D (.lst []))) ∧ ∀ i m H, W i m H →
      ((Its z).stop i H ∧ Qd H) ∨ ((Its z).go i H ∧ ∃ Nx : Hp → Prop, (∀ H', Nx H' → ∃ m', m' < m ∧ W (i + 1) m' H') ∧ ∀ x H', (Its z).yld i H x H' → g x (wipe σ vs) H' fun σ2 H2 => wipe σ2 vs = wipe σ vs ∧ tYes σ2 H2 fun b H3 =>
        if b = true then te σ2 H3 fun y H4 => ∃ acc, H4 D = some (.lst acc) ∧ acc.length < sizeLine ∧ Nx (upd H4 D (.lst (acc ++ [y]))) else Nx H3) :=
  lc_same (J := Its z) (n := z.cps.size) hD hy hz (fun H' s => Nat.le_refl _) (fun i H' hi s => hi)
    (fun i x H' H'' yl => by rw [yl.1]; exact Same.refl _) (fun i x y H' H'' Nx ey s yl k => by
      obtain ⟨e, c, ec, ex⟩ := yl
      subst e ex
      exact hs i c y _ Nx ec ey s k) hd
/-- over zip of two tuples of one length -/
theorem lc_zipT_same {K : PySem.W.Frag} {a b : Addr} {xs us ys : List V} {g : TG} {te : TE} {vs : List Nat} {σ : L2.St} {H1 : Hp} {D : Addr} {Qd : Hp → Prop} (hD : H1 D = none) (hT : SqT K H1 a xs) (hU : SqT K H1 b us) (hl : us.length = xs.length) (hy : ys.length = xs.length) (hz : xs.length ≤ 1000)
    (hs : ∀ (i : Nat) x u y T H' (Nx : VK), xs[i]? = some x → us[i]? = some u → ys[i]? = some y → Same H1 H' → H' T = some (.tup [x, u]) → (∀ H3, Same H' H3 → Nx y H3) → g (.ref T) (wipe σ vs) H' fun σ2 H2 => wipe σ2 vs = wipe σ vs ∧ te σ2 H2 Nx)
    (hd : ∀ H', Same H1 H' → H' D = some (.lst ys) → Qd H') :
    ∃ W : Nat → Nat → Hp → Prop, (∃ m, W 0 m (upd H1 D (.lst []))) ∧ ∀ i m H, W i m H →
      ((ItzT K a b).stop i H ∧ Qd H) ∨ ((ItzT K a b).go i H ∧ ∃ Nx : Hp → Prop, (∀ H', Nx H' → ∃ m', m' < m ∧ W (i + 1) m' H') ∧ ∀ x H', (ItzT K a b).yld i H x H' → g x (wipe σ vs) H' fun σ2 H2 => wipe σ2 vs = wipe σ vs ∧ tYes σ2 H2 fun b H3 =>
        if b = true then te σ2 H3 fun y H4 => ∃ acc, H4 D = some (.lst acc) ∧ acc.length < sizeLine ∧ Nx (upd H4 D (.lst (acc ++ [y]))) else Nx H3) :=
  lc_same (J := ItzT K a b) (n := xs.length) hD hy hz (fun H' s => ⟨xs, us, s.sqT hT, s.sqT hU, .inl (Nat.le_refl _)⟩)
    (fun i H' hi s => ⟨xs, us, xs[i], us[i], s.sqT hT, s.sqT hU, List.getElem?_eq_getElem hi, List.getElem?_eq_getElem (by omega)⟩)
    (fun i x H' H'' yl => by
      obtain ⟨T, x', u', _, hTn, rfl, _⟩ := yl
      exact same_new hTn _) (fun i x y H' H'' Nx ey s yl k => by
      obtain ⟨T, x', u', rfl, hTn, rfl, f1, f2⟩ := yl
      exact hs i x' u' y T _ Nx (f1 xs (s.sqT hT)) (f2 us (s.sqT hU)) ey (s.trans (same_new hTn _)) upd_same k) hd
/-! ### steps that tell what they give by a relation, and change what S lets them -/
structure Rel (S : Hp → Hp → Prop) : Prop where
  trans : ∀ {a b c : Hp}, S a b → S b c → S a c
  put : ∀ {H1 H : Hp} {D : Addr} {o : HO}, S H1 H → H1 D = none → S H1 (upd H D o)
  keep : ∀ {H1 H H' : Hp} {D : Addr} {o : HO}, S H1 H → H1 D = none → S H H' → H D = some o → H' D = some o
  tk : ∀ {H H' : Hp}, S H H' → Tk H H'
theorem rel_same : Rel Same := ⟨Same.trans, fun s h => s.upd2 h, fun _ _ s h => s _ _ h, Same.tk⟩
theorem tk_put {H : Hp} {D : Addr} {xs : List V} {o : HO} (h : H D = some (.lst xs)) : Tk H (upd H D o) := fun a ys e => by
  have n : a ≠ D := fun z => by rw [z, h] at e; cases e
  rw [upd_ne n]
  exact e
theorem lc_rel {S : Hp → Hp → Prop} (rS : Rel S) {J : It} {n : Nat} {g : TG} {te : TE} {vs : List Nat} {σ : L2.St} {H1 : Hp} {D : Addr} {Qd : Hp → Prop} (R : Nat → V → Hp → Prop) (hR : ∀ i y H H', Tk H H' → R i y H → R i y H') (hD : H1 D = none) (hS : S H1 H1) (hz : n ≤ 1000)
    (stop : ∀ H', S H1 H' → J.stop n H') (go : ∀ i H', i < n → S H1 H' → J.go i H')
    (hyl : ∀ i x H' H'', S H1 H' → J.yld i H' x H'' → S H' H'')
    (hs : ∀ (i : Nat) x H' H'' (Nx : VK), i < n → S H1 H' → J.yld i H' x H'' → (∀ y H3, S H'' H3 → R i y H3 → Nx y H3) → g x (wipe σ vs) H'' fun σ2 H2 => wipe σ2 vs = wipe σ vs ∧ te σ2 H2 Nx)
    (hd : ∀ H' ys, S H1 H' → H' D = some (.lst ys) → ys.length = n → (∀ (j : Nat) y, ys[j]? = some y → R j y H') → Qd H') :
    ∃ W : Nat → Nat → Hp → Prop, (∃ m, W 0 m (upd H1 D (.lst []))) ∧ ∀ i m H, W i m H →
      (J.stop i H ∧ Qd H) ∨ (J.go i H ∧ ∃ Nx : Hp → Prop, (∀ H', Nx H' → ∃ m', m' < m ∧ W (i + 1) m' H') ∧ ∀ x H', J.yld i H x H' → g x (wipe σ vs) H' fun σ2 H2 => wipe σ2 vs = wipe σ vs ∧ tYes σ2 H2 fun b H3 =>
        if b = true then te σ2 H3 fun y H4 => ∃ acc, H4 D = some (.lst acc) ∧ acc.length < sizeLine ∧ Nx (upd H4 D (.lst (acc ++ [y]))) else Nx H3) := by
  refine ⟨fun i m H => m = n - i ∧ i ≤ n ∧ S H1 H ∧ ∃ ys, H D = some (.lst ys) ∧ ys.length = i ∧ ∀ (j : Nat) y, ys[j]? = some y → R j y H, ⟨n, by simp, Nat.zero_le _, rS.put hS hD, [], upd_same, rfl, fun j y e => by simp at e⟩, ?_⟩
  rintro i m H ⟨rfl, hi, s1, ys, e1, hl, hr⟩
  by_cases hlt : i < n
  · refine .inr ⟨go i H hlt s1, fun H' => S H1 H' ∧ ∃ ys, H' D = some (.lst ys) ∧ ys.length = i + 1 ∧ ∀ (j : Nat) y, ys[j]? = some y → R j y H', fun H' ⟨a, b⟩ => ⟨n - (i + 1), by omega, rfl, hlt, a, b⟩, fun x H' yl => ?_⟩
    have sy := hyl i x H H' s1 yl
    have q := hs i x H H' (fun y H4 => ∃ acc, H4 D = some (.lst acc) ∧ acc.length < sizeLine ∧ (S H1 (upd H4 D (.lst (acc ++ [y]))) ∧ ∃ ys, (upd H4 D (.lst (acc ++ [y]))) D = some (.lst ys) ∧ ys.length = i + 1 ∧ ∀ (j : Nat) y', ys[j]? = some y' → R j y' (upd H4 D (.lst (acc ++ [y]))))) hlt s1 yl (fun y H3 s3 ry => by
      have s13 := rS.trans s1 (rS.trans sy s3)
      have e3 : H3 D = some (.lst ys) := rS.keep (rS.trans s1 sy) hD s3 (rS.keep s1 hD sy e1)
      refine ⟨ys, e3, by rw [hl, sizeLine_eq]; omega, rS.put s13 hD, ys ++ [y], upd_same, by rw [List.length_append, hl]; rfl, fun j y' ej => ?_⟩
      by_cases hj : j < ys.length
      · rw [List.getElem?_append_left hj] at ej
        exact hR j y' H3 _ (tk_put e3) (hR j y' H H3 (rS.tk (rS.trans sy s3)) (hr j y' ej))
      · rw [List.getElem?_append_right (by omega)] at ej
        have hj0 : j = i := by
          cases hq : j - ys.length with
          | zero => omega
          | succ k => rw [hq] at ej; simp at ej
        subst hj0
        rw [hl, Nat.sub_self] at ej
        cases ej
        exact hR j y H3 _ (tk_put e3) ry)
    have e : (fun σ2 H2 => wipe σ2 vs = wipe σ vs ∧ tYes σ2 H2 fun b H3 => if b = true then te σ2 H3 fun y H4 => ∃ acc, H4 D = some (.lst acc) ∧ acc.length < sizeLine ∧ (S H1 (upd H4 D (.lst (acc ++ [y]))) ∧ ∃ ys, (upd H4 D (.lst (acc ++ [y]))) D = some (.lst ys) ∧ ys.length = i + 1 ∧ ∀ (j : Nat) y', ys[j]? = some y' → R j y' (upd H4 D (.lst (acc ++ [y])))) else (S H1 H3 ∧ ∃ ys, H3 D = some (.lst ys) ∧ ys.length = i + 1 ∧ ∀ (j : Nat) y, ys[j]? = some y → R j y H3))
        = fun σ2 H2 => wipe σ2 vs = wipe σ vs ∧ te σ2 H2 fun y H4 => ∃ acc, H4 D = some (.lst acc) ∧ acc.length < sizeLine ∧ (S H1 (upd H4 D (.lst (acc ++ [y]))) ∧ ∃ ys, (upd H4 D (.lst (acc ++ [y]))) D = some (.lst ys) ∧ ys.length = i + 1 ∧ ∀ (j : Nat) y', ys[j]? = some y' → R j y' (upd H4 D (.lst (acc ++ [y])))) := by
      funext σ2 H2
      simp only [tYes, if_true]
    rw [e]
    exact q
  · have e : i = n := by omega
    subst e
    exact .inl ⟨stop H s1, hd H ys s1 e1 hl hr⟩
/-- a tuple, a list that S keeps -/
theorem lc_tup_rel {S : Hp → Hp → Prop} (rS : Rel S) {K : PySem.W.Frag} {a : Addr} {xs : List V} {g : TG} {te : TE} {vs : List Nat} {σ : L2.St} {H1 : Hp} {D : Addr} {Qd : Hp → Prop} (R : Nat → V → Hp → Prop) (hR : ∀ i y H H', Tk H H' → R i y H → R i y H') (hD : H1 D = none) (hS : S H1 H1) (hT : H1 a = some (.tup xs)) (hz : xs.length ≤ 1000)
    (hs : ∀ (i : Nat) x H' (Nx : VK), xs[i]? = some x → S H1 H' → (∀ y H3, S H' H3 → R i y H3 → Nx y H3) → g x (wipe σ vs) H' fun σ2 H2 => wipe σ2 vs = wipe σ vs ∧ te σ2 H2 Nx) (hrf : ∀ H', S H1 H' → S H' H')
    (hd : ∀ H' ys, S H1 H' → H' D = some (.lst ys) → ys.length = xs.length → (∀ (j : Nat) y, ys[j]? = some y → R j y H') → Qd H') :
    ∃ W : Nat → Nat → Hp → Prop, (∃ m, W 0 m (upd H1 D (.lst []))) ∧ ∀ i m H, W i m H →
      ((Itt K a).stop i H ∧ Qd H) ∨ ((Itt K a).go i H ∧ ∃ Nx : Hp → Prop, (∀ H', Nx H' → ∃ m', m' < m ∧ W (i + 1) m' H') ∧ ∀ x H', (Itt K a).yld i H x H' → g x (wipe σ vs) H' fun σ2 H2 => wipe σ2 vs = wipe σ vs ∧ tYes σ2 H2 fun b H3 =>
        if b = true then te σ2 H3 fun y H4 => ∃ acc, H4 D = some (.lst acc) ∧ acc.length < sizeLine ∧ Nx (upd H4 D (.lst (acc ++ [y]))) else Nx H3) :=
  lc_rel rS (J := Itt K a) (n := xs.length) R hR hD hS hz (fun H' s => ⟨xs, SqT.of (rS.tk s _ _ hT), Nat.le_refl _⟩) (fun i H' hi s => ⟨xs, xs[i], SqT.of (rS.tk s _ _ hT), List.getElem?_eq_getElem hi⟩)
    (fun i x H' H'' s yl => by rw [yl.1]; exact hrf _ s)
    (fun i x H' H'' Nx hi s yl k => by
      obtain ⟨e, yl⟩ := yl
      subst e
      exact hs i x _ Nx (yl xs (SqT.of (rS.tk s _ _ hT))) s k) hd
theorem lc_range_rel {S : Hp → Hp → Prop} (rS : Rel S) {lo : Int} {n : Nat} {g : TG} {te : TE} {vs : List Nat} {σ : L2.St} {H1 : Hp} {D : Addr} {Qd : Hp → Prop} (R : Nat → V → Hp → Prop) (hR : ∀ i y H H', Tk H H' → R i y H → R i y H') (hD : H1 D = none) (hS : S H1 H1) (hz : n ≤ 1000)
    (hs : ∀ (i : Nat) H' (Nx : VK), i < n → S H1 H' → (∀ y H3, S H' H3 → R i y H3 → Nx y H3) → g (.int (lo + i)) (wipe σ vs) H' fun σ2 H2 => wipe σ2 vs = wipe σ vs ∧ te σ2 H2 Nx) (hrf : ∀ H', S H1 H' → S H' H')
    (hd : ∀ H' ys, S H1 H' → H' D = some (.lst ys) → ys.length = n → (∀ (j : Nat) y, ys[j]? = some y → R j y H') → Qd H') :
    ∃ W : Nat → Nat → Hp → Prop, (∃ m, W 0 m (upd H1 D (.lst []))) ∧ ∀ i m H, W i m H →
      ((Itr lo n).stop i H ∧ Qd H) ∨ ((Itr lo n).go i H ∧ ∃ Nx : Hp → Prop, (∀ H', Nx H' → ∃ m', m' < m ∧ W (i + 1) m' H') ∧ ∀ x H', (Itr lo n).yld i H x H' → g x (wipe σ vs) H' fun σ2 H2 => wipe σ2 vs = wipe σ vs ∧ tYes σ2 H2 fun b H3 =>
        if b = true then te σ2 H3 fun y H4 => ∃ acc, H4 D = some (.lst acc) ∧ acc.length < sizeLine ∧ Nx (upd H4 D (.lst (acc ++ [y]))) else Nx H3) :=
  lc_rel rS (J := Itr lo n) (n := n) R hR hD hS hz (fun H' s => Nat.le_refl _) (fun i H' hi s => hi)
    (fun i x H' H'' s yl => by rw [yl.1]; exact hrf _ s)
    (fun i x H' H'' Nx hi s yl k => by
      obtain ⟨e, rfl⟩ := yl
      subst e
      exact hs i _ Nx hi s k) hd
theorem lc_zipT_rel {K : PySem.W.Frag} {a b : Addr} {xs us : List V} {g : TG} {te : TE} {vs : List Nat} {σ : L2.St} {H1 : Hp} {D : Addr} {Qd : Hp → Prop} (R : Nat → V → Hp → Prop) (hR : ∀ i y H H', Tk H H' → R i y H → R i y H') (hD : H1 D = none) (hT : SqT K H1 a xs) (hU : SqT K H1 b us) (hl : us.length = xs.length) (hz : xs.length ≤ 1000)
    (hs : ∀ (i : Nat) x u T H' (Nx : VK), xs[i]? = some x → us[i]? = some u → Same H1 H' → H' T = some (.tup [x, u]) → (∀ y H3, Same H' H3 → R i y H3 → Nx y H3) → g (.ref T) (wipe σ vs) H' fun σ2 H2 => wipe σ2 vs = wipe σ vs ∧ te σ2 H2 Nx)
    (hd : ∀ H' ys, Same H1 H' → H' D = some (.lst ys) → ys.length = xs.length → (∀ (j : Nat) y, ys[j]? = some y → R j y H') → Qd H') :
    ∃ W : Nat → Nat → Hp → Prop, (∃ m, W 0 m (upd H1 D (.lst []))) ∧ ∀ i m H, W i m H →
      ((ItzT K a b).stop i H ∧ Qd H) ∨ ((ItzT K a b).go i H ∧ ∃ Nx : Hp → Prop, (∀ H', Nx H' → ∃ m', m' < m ∧ W (i + 1) m' H') ∧ ∀ x H', (ItzT K a b).yld i H x H' → g x (wipe σ vs) H' fun σ2 H2 => wipe σ2 vs = wipe σ vs ∧ tYes σ2 H2 fun b H3 =>
        if b = true then te σ2 H3 fun y H4 => ∃ acc, H4 D = some (.lst acc) ∧ acc.length < sizeLine ∧ Nx (upd H4 D (.lst (acc ++ [y]))) else Nx H3) :=
  lc_rel rel_same (J := ItzT K a b) (n := xs.length) R hR hD (Same.refl _) hz (fun H' s => ⟨xs, us, s.sqT hT, s.sqT hU, .inl (Nat.le_refl _)⟩)
    (fun i H' hi s => ⟨xs, us, xs[i], us[i], s.sqT hT, s.sqT hU, List.getElem?_eq_getElem hi, List.getElem?_eq_getElem (by omega)⟩)
    (fun i x H' H'' _ yl => by
      obtain ⟨T, x', u', _, hTn, rfl, _⟩ := yl
      exact same_new hTn _)
    (fun i x H' H'' Nx hi s yl k => by
      obtain ⟨T, x', u', rfl, hTn, rfl, f1, f2⟩ := yl
      exact hs i x' u' T _ Nx (f1 xs (s.sqT hT)) (f2 us (s.sqT hU)) (s.trans (same_new hTn _)) upd_same k) hd
end Wt
/-! Heights, by the program and by the law. -/
namespace Wt
open PySem PySem.Spec PyProof.Rows L2
/-- a form with parts, as it stands -/
theorem fm_parts {H : Hp} {v : V} {f : Fm} (hv : RpF H v f) (hp : f.plain = false) :
    ∃ (a : Addr) (s : Str) (xs : List V) (fs : List Fm), v = .ref a ∧ H a = some (.tup (.str s :: xs)) ∧ xs.length = fs.length ∧ (fs.length = 1 ∨ fs.length = 2) ∧ (∀ (i : Nat) x g, xs[i]? = some x → fs[i]? = some g → RpF H x g ∧ g.ht + 1 ≤ f.ht) ∧
      (∀ m : Int, m ∈ fs.map (fun g => ((g.ht : Nat) : Int)) → (∀ y, y ∈ fs.map (fun g => ((g.ht : Nat) : Int)) → y ≤ m) → 1 + m = (f.ht : Nat)) := by
  cases f with
  | any => cases hp
  | num => cases hp
  | text => cases hp
  | deed b c =>
    obtain ⟨p, x, y, rfl, e, r1, r2⟩ := rpf_deed.mp hv
    refine ⟨p, _, [x, y], [b, c], rfl, e, rfl, .inr rfl, fun i z g h1 h2 => ?_, fun m hm hle => ?_⟩
    · match i, h1, h2 with
      | 0, h1, h2 => cases h1; cases h2; exact ⟨r1, by simp only [Fm.ht]; omega⟩
      | 1, h1, h2 => cases h1; cases h2; exact ⟨r2, by simp only [Fm.ht]; omega⟩
      | _ + 2, h1, _ => cases h1
    · have h1 := hle _ (by simp : ((b.ht : Nat) : Int) ∈ _)
      have h2 := hle _ (by simp : ((c.ht : Nat) : Int) ∈ _)
      simp only [List.map_cons, List.map_nil, List.mem_cons, List.not_mem_nil, or_false] at hm
      simp only [Fm.ht]
      omega
  | box b =>
    obtain ⟨p, x, rfl, e, r1⟩ := rpf_box.mp hv
    refine ⟨p, _, [x], [b], rfl, e, rfl, .inl rfl, fun i z g h1 h2 => ?_, fun m hm hle => ?_⟩
    · match i, h1, h2 with
      | 0, h1, h2 => cases h1; cases h2; exact ⟨r1, by simp only [Fm.ht]; omega⟩
      | _ + 1, h1, _ => cases h1
    · simp only [List.map_cons, List.map_nil, List.mem_cons, List.not_mem_nil, or_false] at hm
      simp only [Fm.ht]
      omega
theorem plain_str {H : Hp} {v : V} {f : Fm} (hv : RpF H v f) (hp : f.plain = true) : (∃ z, v = .str z) ∧ f.ht = 0 := by
  cases f with
  | any => exact ⟨⟨_, rp_str.mp hv⟩, rfl⟩
  | num => exact ⟨⟨_, rp_str.mp hv⟩, rfl⟩
  | text => exact ⟨⟨_, rp_str.mp hv⟩, rfl⟩
  | deed b c => cases hp
  | box b => cases hp
/-- what stands behind the first place -/
theorem cut1 {x : V} {xs : List V} : cutV (x :: xs) (some 1) none = xs := by
  unfold cutV
  have h1 : HT.sIx (x :: xs).length 0 (some 1) = 1 := by simp [HT.sIx]
  have h2 : HT.sIx (x :: xs).length (x :: xs).length none = (x :: xs).length := by simp [HT.sIx]
  rw [h1, h2]
  simp
theorem sIx1 {x : V} {xs : List V} : HT.sIx (x :: xs).length 0 (some 1) ≠ 0 := by
  have h1 : HT.sIx (x :: xs).length 0 (some 1) = 1 := by simp [HT.sIx]
  omega
def spHt (n : Nat) : Sp := fun vs H Q _ => ∃ v f, vs = [v] ∧ RpF H v f ∧ f.ht < n ∧ ∀ H', Same H H' → Q (.int (f.ht : Nat)) H'
section
variable {P : Program} {w : World} {K : PySem.W.Frag} {mg : Str → Option Value} {base : Heap}
theorem sc_law_height : FnScope ["_law_form_here", "_law_part"] ["_law_form_here"] (defScope s_law_height) := ⟨rfl, rfl, rfl, by decide +kernel, rfl, by decide +kernel, by decide +kernel⟩
theorem sc_height_of_form : FnScope ["form", "part"] ["form"] (defScope s_height_of_form) := ⟨rfl, rfl, rfl, by decide +kernel, rfl, by decide +kernel, by decide +kernel⟩
theorem ok__law_height (T : Facts w K mg) : ∀ n, Cl P w K mg base CX0 n "_law_height" (spHt n)
  | 0 => by
    obtain ⟨fd, F⟩ := T.f_law_height
    exact cl_zero T.g_law_height F.kp (F.bindsN (ps := ["_law_form_here"]) fun _ _ _ _ _ _ us hl => match us, hl with | [_], _ => rfl) fun vs H Q E ⟨v, f, _, _, h, _⟩ => absurd h (Nat.not_lt_zero _)
  | n + 1 => by
    have c_law_height := ok__law_height T n
    obtain ⟨fd, F⟩ := T.f_law_height
    refine ⟨_, fd, ["_law_form_here"], T.g_law_height, ?_, F.kp, F.bindsN fun _ _ _ _ _ _ us hl => match us, hl with | [_], _ => rfl⟩
    refine F.ok sc_law_height (fun vs H Q E h => ?_) (fun cdv A outer s H vs Q E hr h => ?_)
    · obtain ⟨v, f, rfl, _⟩ := h
      rfl
    obtain ⟨v, f, rfl, hv, hf, q⟩ := h
    refine ⟨_, PSs.nox (pss_cons (ps_if (pt_val (pe_callB call_isB (by rfl) T.z_isinstance (by decide +kernel) (pa_cons (pv 0) (pa_cons (pe_bltn (v := .ty "str") (by rfl) T.z_str (by decide +kernel) rfl) pa_nil)))) (pss_one (ps_ret pe_int)) pss_nil)
    (pss_one (ps_ret (pe_op op_add pe_int (pe_callB (cr_max rfl) (by rfl) T.z_max (by decide +kernel) (pa_cons (pe_lc (own := [("_law_part", 1)]) (g := (gName 1)) (tt := tYes) rfl sc_law_height.nd (pi_tup (pe_slice sl_tupA (pv 0) (po_some pe_int) po_none)) (blkOk_by (own := [("_law_part", 1)]) (N := ["_law_form_here", "_law_part"]) (sc := defScope s_law_height) (by decide +kernel)) (fun _ _ _ _ _ => (pg_name (i := 1) sc_law_height.nd rfl (Or.inl rfl))) (fun _ _ _ _ _ => pts_nil) (fun _ _ _ _ _ => (pe_cl c_law_height hr (by omega) pass0 (pa_cons (pv 1) pa_nil)))) pa_nil)))))), ?_⟩
    cases hp : f.plain with
    | true =>
      obtain ⟨⟨z, rfl⟩, e0⟩ := plain_str hv hp
      rw [e0] at q
      exact ⟨_, rfl, _, _, true, rfl, .ss _, _, rfl, iteT (q H (Same.refl _))⟩
    | false =>
      obtain ⟨a, sw, xs, fs, rfl, e, hl, h2, hi, hm⟩ := fm_parts hv hp
      refine ⟨_, rfl, _, _, false, rfl, .ts e, _, rfl, iteF ?_⟩
      refine ⟨_, rfl, _, rfl, a, _, rfl, SqT.of e, fun z => absurd z.1 sIx1, fun _ p hp2 => ?_⟩
      rw [cut1]
      refine ⟨p, rfl, ⟨_, SqT.of upd_same⟩, fun D hD => ?_⟩
      refine lc_tup_same (ys := fs.map fun g => V.int (g.ht : Nat)) hD (SqT.of upd_same) (by rw [List.length_map, hl]) (by omega) (fun i x y H' Nx hx hy hs k => ?_) (fun H' hs hD' => ?_)
      · rw [List.getElem?_map] at hy
        cases hg : fs[i]? with
        | none => rw [hg] at hy; cases hy
        | some g =>
          rw [hg] at hy
          cases hy
          obtain ⟨r, hh⟩ := hi i x g hx hg
          refine ⟨rfl, _, rfl, x, g, rfl, r.mono ((same_new hp2 _).trans hs).tk, by omega, fun H3 h3 => k H3 h3⟩
      · refine ⟨D, fs.map fun g => ((g.ht : Nat) : Int), rfl, SqL.of ?_, by rw [List.length_map]; omega, fun m hmm hle => ?_⟩
        · rw [List.map_map]
          exact hD'
        · refine ⟨1, m, rfl, rfl, ?_⟩
          have z := q H' ((same_new hp2 _).trans hs)
          rw [← hm m hmm hle] at z
          exact z
theorem ok_height_of_form (T : Facts w K mg) : ∀ n, Cl P w K mg base CX0 n "height_of_form" (spHt n)
  | 0 => by
    obtain ⟨fd, F⟩ := T.f_height_of_form
    exact cl_zero T.g_height_of_form F.kp (F.bindsN (ps := ["form"]) fun _ _ _ _ _ _ us hl => match us, hl with | [_], _ => rfl) fun vs H Q E ⟨v, f, _, _, h, _⟩ => absurd h (Nat.not_lt_zero _)
  | n + 1 => by
    have c_height_of_form := ok_height_of_form T n
    obtain ⟨fd, F⟩ := T.f_height_of_form
    refine ⟨_, fd, ["form"], T.g_height_of_form, ?_, F.kp, F.bindsN fun _ _ _ _ _ _ us hl => match us, hl with | [_], _ => rfl⟩
    refine F.ok sc_height_of_form (fun vs H Q E h => ?_) (fun cdv A outer s H vs Q E hr h => ?_)
    · obtain ⟨v, f, rfl, _⟩ := h
      rfl
    obtain ⟨v, f, rfl, hv, hf, q⟩ := h
    refine ⟨_, PSs.nox (pss_cons (ps_if (pt_val (pe_callB call_isB (by rfl) T.z_isinstance (by decide +kernel) (pa_cons (pv 0) (pa_cons (pe_bltn (v := .ty "str") (by rfl) T.z_str (by decide +kernel) rfl) pa_nil)))) (pss_one (ps_ret pe_int)) pss_nil)
    (pss_one (ps_ret (pe_op op_add pe_int (pe_callB (cr_max rfl) (by rfl) T.z_max (by decide +kernel) (pa_cons (pe_lc (own := [("part", 1)]) (g := (gName 1)) (tt := tYes) rfl sc_height_of_form.nd (pi_tup (pe_slice sl_tupA (pv 0) (po_some pe_int) po_none)) (blkOk_by (own := [("part", 1)]) (N := ["form", "part"]) (sc := defScope s_height_of_form) (by decide +kernel)) (fun _ _ _ _ _ => (pg_name (i := 1) sc_height_of_form.nd rfl (Or.inl rfl))) (fun _ _ _ _ _ => pts_nil) (fun _ _ _ _ _ => (pe_cl c_height_of_form hr (by omega) pass0 (pa_cons (pv 1) pa_nil)))) pa_nil)))))), ?_⟩
    cases hp : f.plain with
    | true =>
      obtain ⟨⟨z, rfl⟩, e0⟩ := plain_str hv hp
      rw [e0] at q
      exact ⟨_, rfl, _, _, true, rfl, .ss _, _, rfl, iteT (q H (Same.refl _))⟩
    | false =>
      obtain ⟨a, sw, xs, fs, rfl, e, hl, h2, hi, hm⟩ := fm_parts hv hp
      refine ⟨_, rfl, _, _, false, rfl, .ts e, _, rfl, iteF ?_⟩
      refine ⟨_, rfl, _, rfl, a, _, rfl, SqT.of e, fun z => absurd z.1 sIx1, fun _ p hp2 => ?_⟩
      rw [cut1]
      refine ⟨p, rfl, ⟨_, SqT.of upd_same⟩, fun D hD => ?_⟩
      refine lc_tup_same (ys := fs.map fun g => V.int (g.ht : Nat)) hD (SqT.of upd_same) (by rw [List.length_map, hl]) (by omega) (fun i x y H' Nx hx hy hs k => ?_) (fun H' hs hD' => ?_)
      · rw [List.getElem?_map] at hy
        cases hg : fs[i]? with
        | none => rw [hg] at hy; cases hy
        | some g =>
          rw [hg] at hy
          cases hy
          obtain ⟨r, hh⟩ := hi i x g hx hg
          refine ⟨rfl, _, rfl, x, g, rfl, r.mono ((same_new hp2 _).trans hs).tk, by omega, fun H3 h3 => k H3 h3⟩
      · refine ⟨D, fs.map fun g => ((g.ht : Nat) : Int), rfl, SqL.of ?_, by rw [List.length_map]; omega, fun m hmm hle => ?_⟩
        · rw [List.map_map]
          exact hD'
        · refine ⟨1, m, rfl, rfl, ?_⟩
          have z := q H' ((same_new hp2 _).trans hs)
          rw [← hm m hmm hle] at z
          exact z
end
end Wt
/-! zip of a text and a list; zip with strict=True of two tuples of one length. -/
namespace Wt
open PySem PySem.Spec PyProof.Rows L2
/-! ### text and list -/
def ItSL (K : PySem.W.Frag) (z : Str) (b : Addr) : It :=
  ⟨fun i H => ∃ (ys : List V) (y : V), i < z.cps.size ∧ SqL K H b ys ∧ ys[i]? = some y,
    fun i H v H' => ∃ T c y, v = .ref T ∧ H T = none ∧ H' = upd H T (.tup [.str ⟨#[c]⟩, y]) ∧ z.cps[i]? = some c ∧ ∀ ys, SqL K H b ys → ys[i]? = some y,
    fun i H => ∃ ys : List V, SqL K H b ys ∧ i ≤ z.cps.size ∧ i ≤ ys.length ∧ (i = z.cps.size ∨ i = ys.length)⟩
theorem an {a b : Nat} (h : a < b ∨ b < a) : @Ne Addr a b := fun e => by
  have e' : (a : Nat) = b := e
  omega
theorem nm1 {a b : Nat} (h : a < b ∨ b < a) : ¬ @Membership.mem Addr (List Addr) _ [b] a := fun e => an h (by simpa using e)
theorem nm2 {a b c : Nat} (h : a < b ∨ b < a) (h2 : a < c ∨ c < a) : ¬ @Membership.mem Addr (List Addr) _ [b, c] a := fun e => by
  rcases List.mem_cons.mp e with q | q
  · exact an h q
  · exact an h2 (by simpa using q)
theorem sep_sl {n b : Nat} (lb : b < n) : ZipSep2 (n + 4) (n + 2) (n + 3) n (n + 1) [n] [n + 1, b] where
  TIz := an (by omega)
  TOz := an (by omega)
  TITO := an (by omega)
  TIi1 := an (by omega)
  mem1 := by simp
  zf1 := nm1 (by omega)
  Tf1 := nm1 (by omega)
  TIi2 := an (by omega)
  mem2 := by simp
  zf2 := nm2 (by omega) (by omega)
  Tf2 := nm2 (by omega) (by omega)
  sep1_2 := nm2 (by omega) (by omega)
  sep2_1 := nm1 (by omega)
theorem turn_sl {P : Program} {w : World} {K : PySem.W.Frag} {elts : List Expr} {kk : Nat} {tpos : Pos} {z : Str} {t : Tok} {b n : Nat} (lb : b < n) :
    Turn P w K (.Tuple elts kk tpos) (ItSL K z b) [n + 4, n + 2, n + 3, n, n + 1] (n + 4) (fun i h => IsZip h (n + 4) (n + 2) (n + 3) .none ∧ IsTupOf2 h (n + 2) (.ref n) (.ref (n + 1)) ∧ (∃ x y, IsTupOf2 h (n + 3) x y) ∧ h.IsStrIter n (strIterType z) z t i ∧ h.IsListIter (n + 1) b i) where
  mem := by simp
  obj := fun i h st c hc => by
    obtain ⟨hz, hTI, ⟨x, y, hTO⟩, ⟨o1, e1, _, d1⟩, ⟨o2, e2, _, d2⟩⟩ := st
    have e' : c = n + 4 ∨ c = n + 2 ∨ c = n + 3 ∨ c = n ∨ c = n + 1 := by simpa using hc
    rcases e' with q | q | q | q | q
    · rw [q]; exact ⟨_, hz, fun v q => nomatch q⟩
    · rw [q]; exact ⟨_, hTI, fun v q => nomatch q⟩
    · rw [q]; exact ⟨_, hTO, fun v q => nomatch q⟩
    · rw [q]; exact ⟨o1, e1, fun v q => by rw [d1] at q; cases q⟩
    · rw [q]; exact ⟨o2, e2, fun v q => by rw [d2] at q; cases q⟩
  keep := fun i h h' st k => by
    obtain ⟨hz, hTI, ⟨x, y, hTO⟩, ⟨o1, e1, r1⟩, h2⟩ := st
    exact ⟨k _ (by simp) _ hz, k _ (by simp) _ hTI, ⟨x, y, k _ (by simp) _ hTO⟩, ⟨o1, k _ (by simp) _ e1, r1⟩, h2.at fun o q => k _ (by simp) o q⟩
  item := by
    intro X hP hw hK hc i pins s σ H E I hf st hg
    subst hP hw hK
    obtain ⟨hz, hTI, ⟨x0, y0, hTO⟩, h1, h2⟩ := st
    obtain ⟨ys, y, hlt, hqy, hy⟩ := hg
    obtain ⟨its2, rv2, p2, _⟩ := I.list hqy
    obtain ⟨u2, hu2, ru2⟩ := rv2.get hy
    have hzl : n + 4 < s.heap.objs.size := Heap.lt_size hz
    have hlt2 : i < its2.toArray.size := by
      obtain ⟨q, _⟩ := List.getElem?_eq_some_iff.mp hu2
      rw [List.size_toArray]
      exact q
    have hh : X.A.in1.handled = none := I.ok.hd hc
    refine wpAny_pyNext_zipD2_item (S := sep_sl lb) (Draws.text hh n z t) (Draws.list hh (n + 1) b (an (by omega)) its2.toArray) hz hTI hTO h1 ⟨h2, p2.isList⟩ hlt hlt2 fun x1 x2 h' tk hx1 hx2 z' TO' h1' h2' hT hsz hk => ?_
    obtain ⟨c, u, hcx, rfl⟩ := hx1
    have ex2 : x2 = u2 := by
      have q : its2[i]? = some x2 := by simpa using hx2
      rw [hu2] at q
      cases q
      rfl
    subst ex2
    refine ⟨_, rfl, wpAny_letOwnedTupleGo_zip (s := { s with heap := h', toks := tk }) z' fun h'' z'' sb => ?_⟩
    have hT2 : h''.get? s.heap.objs.size = some { cls := .type "tuple", data := .seq #[.str ⟨#[c]⟩ u, x2] } := (sb.2 _ (Nat.ne_of_gt hzl)).trans hT
    have new : ObjOk X.prog X.w (upd H s.heap.objs.size (.tup [.str ⟨#[c]⟩, y])) h'' s.heap.objs.size (.tup [.str ⟨#[c]⟩, y]) :=
      ⟨by show 2 ≤ sizeLine; decide, [.str ⟨#[c]⟩ u, x2], .cons ⟨u, rfl⟩ (.cons ru2 .nil), ⟨_, hT2, rfl, _, rfl⟩⟩
    have I1 : Inv X pins σ (upd H s.heap.objs.size (.tup [.str ⟨#[c]⟩, y])) { s with heap := h'', toks := tk } :=
      I.turnedNew (t' := tk) (ch := [n + 4, n + 2, n + 3, n, n + 1]) (fun c o hb q => (sb.2 c (fun q' => hb (by simp [q']))).trans (hk c o (fun q' => hb (by simp [q'])) (fun q' => hb (by simp [q'])) (fun q' => hb (by simp [q'])) (fun q' => hb (by simp [q'])) q)) hf (Nat.le_refl _) new
    refine ⟨.ref s.heap.objs.size, _, I1, rfl, ⟨_, c, y, rfl, I.hok.fresh (Nat.le_refl _), rfl, hcx, fun l hl => by rw [I.list_inj hl hqy]; exact hy⟩, ⟨z'', ?_, ⟨.str ⟨#[c]⟩ u, x2, ?_⟩, ?_, ?_⟩, fun c hcm => ?_⟩
    · exact (sb.2 _ (an (by omega))).trans (hk _ _ (an (by omega)) (an (by omega)) (an (by omega)) (an (by omega)) hTI)
    · exact (sb.2 _ (an (by omega))).trans TO'
    · obtain ⟨o1, e1, r1⟩ := h1'
      exact ⟨o1, (sb.2 _ (an (by omega))).trans e1, r1⟩
    · exact h2'.1.at fun o q => (sb.2 _ (an (by omega))).trans q
    · have hlt : c < s.heap.objs.size := by
        have e' : c = n + 4 ∨ c = n + 2 ∨ c = n + 3 ∨ c = n ∨ c = n + 1 := by simpa using hcm
        have hzn : (n + 4 : Nat) < s.heap.objs.size := hzl
        rcases e' with q | q | q | q | q
        · rw [q]; exact hzn
        · rw [q]; show (n + 2 : Nat) < _; omega
        · rw [q]; show (n + 3 : Nat) < _; omega
        · rw [q]; show (n : Nat) < _; omega
        · rw [q]; show (n + 1 : Nat) < _; omega
      rw [upd_ne (Nat.ne_of_lt hlt)]
      exact (hf c hcm).1
  done := by
    intro X hP hw hK hc i pins s σ H E I hf st hg
    subst hP hw hK
    obtain ⟨hz, hTI, ⟨x0, y0, hTO⟩, h1, h2⟩ := st
    obtain ⟨ys, hqy, hle1, hle2, hend⟩ := hg
    obtain ⟨its2, rv2, p2, _⟩ := I.list hqy
    have l2 := rv2.length
    have hh : X.A.in1.handled = none := I.ok.hd hc
    exact wpAny_pyNext_zipD2_end (S := sep_sl lb) (Draws.text hh n z t) (Draws.list hh (n + 1) b (an (by omega)) its2.toArray) hz hTI hTO h1 ⟨h2, p2.isList⟩ hle1 (by simp; omega) (by
        rcases hend with q | q
        · exact .inl q
        · exact .inr (by simp; omega)) fun h' tk hk => ⟨rfl, I.turnedL (t' := tk) (ch := [n + 4, n + 2, n + 3, n, n + 1]) (fun c o hb q =>
      hk c o (fun q' => hb (by simp [q'])) (fun q' => hb (by simp [q'])) (fun q' => hb (by simp [q'])) (fun q' => hb (by simp [q'])) q) hf⟩
  self := fun A i s Q E st h => wpAny_pyIter_zip st.1 h
def iZipSL (K : PySem.W.Frag) (ta : TA) : TI := fun σ H R => ta σ H fun vs H1 => ∃ z b ys, vs = [.str z, .ref b] ∧ SqL K H1 b ys ∧ R (ItSL K z b) H1
theorem pi_zipSL {X : Cx} {e e2 : Expr} {ta : TA} {p pos tpos : Pos} {elts : List Expr} {kk : Nat} (hg : Gl X "zip") (hm : X.mg "zip" = none) (ha : PA X [e, e2] ta)
    (hs : starEach [e, e2] X.env = (false, eval e X.env) :: starEach [e2] X.env := by rfl) (hpl : (backTo pos (starEach [e2] X.env)).any (·.1) = false := by rfl) :
    PI X (.Tuple elts kk tpos) (.Call (.Name "zip" p) [e, e2] [] pos) (iZipSL X.K ta) := by
  refine ⟨fun pins s σ H R I h => ?_⟩
  refine Call_ (ld_blt I hg hm PyProof.Rows.boot_zip (PyProof.Rows.callWith_type1 (thn (ha.run pos pins s σ H _ I h) fun us s1 ⟨vs, H1, I1, r1, q1⟩ => ?_) hs hpl))
  obtain ⟨z, b, ys, ex, hqy, q⟩ := q1
  subst ex
  cases r1 with
  | cons r rr =>
    cases rr with
    | cons r' rr =>
      cases rr
      obtain ⟨t, rfl⟩ := r
      cases r'
      have fresh5 : ∀ c, c ∈ [s1.heap.objs.size + 4, s1.heap.objs.size + 2, s1.heap.objs.size + 3, s1.heap.objs.size, s1.heap.objs.size + 1] → FpOk X pins H1 c := fun c hcm => by
        have e' : c = s1.heap.objs.size + 4 ∨ c = s1.heap.objs.size + 2 ∨ c = s1.heap.objs.size + 3 ∨ c = s1.heap.objs.size ∨ c = s1.heap.objs.size + 1 := by simpa using hcm
        have hle : s1.heap.objs.size ≤ c := by
          rcases e' with z | z | z | z | z
          · rw [z]; exact Nat.le_add_right _ _
          · rw [z]; exact Nat.le_add_right _ _
          · rw [z]; exact Nat.le_add_right _ _
          · rw [z]; exact Nat.le_refl _
          · rw [z]; exact Nat.le_add_right _ _
        exact I1.fpOk hle (I1.hok.fresh hle)
      obtain ⟨its2, rv2, p2, _⟩ := I1.list hqy
      refine zip_begins2 (begins_text z t) (begins_list b its2.toArray) trivial p2.isList fun h' hz hTI hTO h1 h2 hsz hk => wpAny_pyIter_zip hz ?_
      have I2 : Inv X pins σ H1 { s1 with heap := h' } := I1.kept (t' := s1.toks) hk
      exact ⟨s1.heap.objs.size + 4, [s1.heap.objs.size + 4, s1.heap.objs.size + 2, s1.heap.objs.size + 3, s1.heap.objs.size, s1.heap.objs.size + 1], _, _, H1, rfl, I2, turn_sl (z := z) (t := t) p2.lt, ⟨hz, hTI, ⟨_, _, hTO⟩, ⟨_, h1, rfl, rfl⟩, ⟨_, h2, rfl, rfl⟩⟩, fresh5, q⟩
end Wt
/-! zip with strict=True of two tuples of one length. -/
namespace Wt
open PySem PySem.Spec PyProof.Rows L2
abbrev IsZs (h : Heap) (z TI TO : Addr) (f0 : Value) : Prop :=
  h.get? z = some { cls := .type "zip", dict := none, data := .fields #[f0, .bool false, .bool true, .ref TI, .ref TO], slots := #[] }
section
variable {prog : Program} {w : World} {A : Around} {E : Value → Shared → Prop} {s : Shared} {z TI TO i1 i2 : Addr} {fp1 fp2 : List Addr} {n i : Nat} {P1 P2 : Nat → Value → Prop} {St1 St2 : Nat → Heap → Prop} {a1 a2 : Value}
theorem noe_item {it : Addr} {fp : List Addr} {P : Nat → Value → Prop} {St : Nat → Heap → Prop} {Q : Option Value → Shared → Prop} (D : Draws prog w A it fp n P St) (hlt : i < n) (st : St i s.heap)
    (hQ : ∀ x h' tk, P i x → St (i + 1) h' → Heap.SameBut it s.heap h' → Q (some x) { s with heap := h', toks := tk }) : wpAny (model prog w) A (Builtin.SmallTypes.nextOrEnd (.ref it)) Q E s := by
  unfold Builtin.SmallTypes.nextOrEnd
  exact wpAny_bind (wpAny_attempt (D.item i s _ _ hlt st fun x h' tk a b c => wpAny_pure (hQ x h' tk a b c)))
theorem noe_end {it : Addr} {fp : List Addr} {P : Nat → Value → Prop} {St : Nat → Heap → Prop} {Q : Option Value → Shared → Prop} (D : Draws prog w A it fp n P St) (st : St n s.heap)
    (hQ : ∀ h', Heap.ExtBut it s.heap h' → Q none { s with heap := h' }) : wpAny (model prog w) A (Builtin.SmallTypes.nextOrEnd (.ref it)) Q E s := by
  unfold Builtin.SmallTypes.nextOrEnd
  refine wpAny_bind (wpAny_attempt (D.done s _ _ st fun h' e he ho => ?_))
  obtain ⟨o, ho, hc⟩ := ho
  refine wpAny_bind (wpAny_isInstance (T := "StopIteration") (b := true) ⟨o, ho, hc⟩ isSubtype_stop ?_)
  exact wpAny_pure (hQ _ he)
theorem zs_next_item {Q : Value → Shared → Prop} (S : ZipSep2 z TI TO i1 i2 fp1 fp2) (D1 : Draws prog w A i1 fp1 n P1 St1) (D2 : Draws prog w A i2 fp2 n P2 St2)
    (hz : IsZs s.heap z TI TO .none) (hTI : IsTupOf2 s.heap TI (.ref i1) (.ref i2)) (hTO : IsTupOf2 s.heap TO a1 a2) (st1 : St1 i s.heap) (st2 : St2 i s.heap) (hlt : i < n)
    (hQ : ∀ x1 x2 h' tk, P1 i x1 → P2 i x2 → IsZs h' z TI TO (rawInt s.heap.objs.size) → IsTupOf2 h' TO x1 x2 → St1 (i + 1) h' → St2 (i + 1) h' → IsTupOf2 h' s.heap.objs.size x1 x2 → h'.objs.size = s.heap.objs.size + 1 →
      (∀ c o, c ≠ z → c ≠ TO → c ≠ i1 → c ≠ i2 → s.heap.get? c = some o → h'.get? c = some o) → Q (.ref s.heap.objs.size) { s with heap := h', toks := tk }) :
    wpAny (model prog w) A (Builtin.«zip.__next__» ⟨[.ref z], []⟩) (fun fin s' => ∃ v, fin = .done (.ret v) ∧ Q v s') E s := by
  obtain ⟨hp, g, d, tk0, os⟩ := s
  refine wpAny_bind (m := field (.ref z) 2) (wpAny_field hz rfl (x := .bool true) rfl ?_)
  refine wpAny_bind (m := field (.ref z) 3) (wpAny_field hz rfl (x := .ref TI) rfl ?_)
  refine wpAny_bind (wpAny_seqItems hTI rfl ?_)
  refine wpAny_bind (m := Builtin.SmallTypes.ownedTupleIsFree (.ref z)) ?_
  unfold Builtin.SmallTypes.ownedTupleIsFree
  refine wpAny_bind (wpAny_field hz rfl (x := .none) rfl (wpAny_pure ?_))
  simp only [if_true]
  refine wpAny_bind (wpAny_rule ?_)
  refine wpAny_bind (wpAny_field hz rfl (x := .ref TO) rfl ?_)
  refine wpAny_bind (wpAny_setField_rec hz (by simp) fun g0 hz0 hs0 => ?_)
  replace hz0 : IsZs g0 z TI TO .ellipsis := hz0
  replace hs0 : Heap.SameBut z hp g0 := hs0
  refine wpAny_bind ?_
  simp only [List.zipIdx_cons, List.zipIdx_nil, List.forIn_cons, List.forIn_nil]
  refine wpAny_bind (wpAny_bind (wpAny_onRaise ?_))
  show wpAny _ _ (Builtin.SmallTypes.nextOrEnd (.ref i1)) _ _ ⟨g0, g, d, tk0, os⟩
  refine noe_item D1 hlt (D1.over st1 hs0 S.zf1) fun x1 p1 tk1 hx1 sn1 hp1 => ?_
  replace hp1 : Heap.SameBut i1 g0 p1 := hp1
  have hU1 : IsTupOf2 p1 TO a1 a2 := hp1.extBut _ _ S.Ti1 (hs0.extBut _ _ S.TOz hTO)
  refine wpAny_bind (wpAny_seqItems (s := ⟨p1, g, d, tk1, os⟩) hU1 rfl ?_)
  refine wpAny_bind (updateSeq_IsTupOf2 (s := ⟨p1, g, d, tk1, os⟩) hU1 fun g1 hT1 hs1 => ?_)
  replace hT1 : IsTupOf2 g1 TO x1 a2 := hT1
  replace hs1 : Heap.SameBut TO p1 g1 := hs1
  refine wpAny_bind (wpAny_letGo (wpAny_pure ?_))
  refine wpAny_bind (wpAny_bind (wpAny_onRaise ?_))
  show wpAny _ _ (Builtin.SmallTypes.nextOrEnd (.ref i2)) _ _ ⟨g1, g, d, tk1, os⟩
  refine noe_item D2 hlt (D2.over (D2.over (D2.over st2 hs0 S.zf2) hp1 S.sep1_2) hs1 S.Tf2) fun x2 p2 tk2 hx2 sn2 hp2 => ?_
  replace hp2 : Heap.SameBut i2 g1 p2 := hp2
  have hU2 : IsTupOf2 p2 TO x1 a2 := hp2.extBut _ _ S.Ti2 hT1
  refine wpAny_bind (wpAny_seqItems (s := ⟨p2, g, d, tk2, os⟩) hU2 rfl ?_)
  refine wpAny_bind (updateSeq_IsTupOf2 (s := ⟨p2, g, d, tk2, os⟩) hU2 fun g2 hT2 hs2 => ?_)
  replace hT2 : IsTupOf2 g2 TO x1 x2 := hT2
  replace hs2 : Heap.SameBut TO p2 g2 := hs2
  refine wpAny_bind (wpAny_letGo (wpAny_pure (wpAny_pure ?_)))
  refine wpAny_bind (wpAny_seqItems (s := ⟨g2, g, d, tk2, os⟩) hT2 rfl ?_)
  refine wpAny_bind (wpAny_newTuple ?_)
  have hsz : g2.objs.size = hp.objs.size := by rw [hs2.1, hp2.1, hs1.1, hp1.1, hs0.1]
  have hzz : IsZs g2 z TI TO .ellipsis := hs2.extBut _ _ S.TOz.symm (hp2.extBut _ _ S.zi2 (hs1.extBut _ _ S.TOz.symm (hp1.extBut _ _ S.zi1 hz0)))
  have hkk : ∀ c o, c ≠ z → c ≠ TO → c ≠ i1 → c ≠ i2 → hp.get? c = some o → g2.get? c = some o := fun c o cz cT c1 c2 e =>
    hs2.extBut _ _ cT (hp2.extBut _ _ c2 (hs1.extBut _ _ cT (hp1.extBut _ _ c1 (hs0.extBut _ _ cz e))))
  have hj1 : St1 (i + 1) g2 := D1.over (D1.over (D1.over sn1 hs1 S.Tf1) hp2 S.sep2_1) hs2 S.Tf1
  have hj2 : St2 (i + 1) g2 := D2.over sn2 hs2 S.Tf2
  have hzlt : z < g2.objs.size := Heap.lt_size hzz
  refine wpAny_bind (m := Builtin.SmallTypes.ownedTupleHandOut (.ref z) (.ref g2.objs.size)) ?_
  unfold Builtin.SmallTypes.ownedTupleHandOut
  have hz6 : IsZs (g2.push { cls := .type "tuple", data := .seq #[x1, x2] }) z TI TO .ellipsis := Heap.get?_push_of_some _ hzz
  refine wpAny_bind (wpAny_setField_rec hz6 (by simp) fun h7 hz7 hs7 => ?_)
  replace hz7 : IsZs h7 z TI TO (rawInt g2.objs.size) := hz7
  refine wpAny_setField_rec hz7 (by simp) fun h8 hz8 hs8 => ?_
  replace hz8 : IsZs h8 z TI TO (rawInt g2.objs.size) := hz8
  replace hs7 : Heap.SameBut z (g2.push { cls := .type "tuple", data := .seq #[x1, x2] }) h7 := hs7
  replace hs8 : Heap.SameBut z h7 h8 := hs8
  have up : ∀ c o, c ≠ z → g2.get? c = some o → h8.get? c = some o := fun c o c1 e => hs8.extBut _ _ c1 (hs7.extBut _ _ c1 (Heap.get?_push_of_some _ e))
  have hT8 : IsTupOf2 h8 g2.objs.size x1 x2 := hs8.extBut _ _ (Nat.ne_of_gt hzlt) (hs7.extBut _ _ (Nat.ne_of_gt hzlt) (Heap.get?_push_size _ rfl))
  have hzz8 : h8.objs.size = g2.objs.size + 1 := by rw [hs8.1, hs7.1, Heap.size_push]
  rw [hsz] at hz8 hT8 hzz8
  refine wpAny_pure ⟨_, rfl, ?_⟩
  show Q (.ref g2.objs.size) ⟨h8, g, d, tk2, os⟩
  rw [hsz]
  exact hQ x1 x2 h8 tk2 hx1 hx2 hz8 (up _ _ S.TOz hT2) (D1.frame _ _ _ hj1 fun b hb o e => up b o (fun q => S.zf1 (q ▸ hb)) e) (D2.frame _ _ _ hj2 fun b hb o e => up b o (fun q => S.zf2 (q ▸ hb)) e) hT8 hzz8 fun c o cz cT c1 c2 e => up c o cz (hkk c o cz cT c1 c2 e)
theorem zs_next_end {Q : PySem.Fin → Shared → Prop} (hh : A.handled = none) (S : ZipSep2 z TI TO i1 i2 fp1 fp2) (D1 : Draws prog w A i1 fp1 n P1 St1) (D2 : Draws prog w A i2 fp2 n P2 St2)
    (hz : IsZs s.heap z TI TO .none) (hTI : IsTupOf2 s.heap TI (.ref i1) (.ref i2)) (hTO : IsTupOf2 s.heap TO a1 a2) (st1 : St1 n s.heap) (st2 : St2 n s.heap)
    (hE : ∀ h' tk e, (∀ c o, c ≠ z → c ≠ TO → c ≠ i1 → c ≠ i2 → s.heap.get? c = some o → h'.get? c = some o) → (∃ o, h'.get? e = some o ∧ o.cls = .type "StopIteration") → E (.ref e) { s with heap := h', toks := tk }) :
    wpAny (model prog w) A (Builtin.«zip.__next__» ⟨[.ref z], []⟩) Q E s := by
  obtain ⟨hp, g, d, tk0, os⟩ := s
  refine wpAny_bind (m := field (.ref z) 2) (wpAny_field hz rfl (x := .bool true) rfl ?_)
  refine wpAny_bind (m := field (.ref z) 3) (wpAny_field hz rfl (x := .ref TI) rfl ?_)
  refine wpAny_bind (wpAny_seqItems hTI rfl ?_)
  refine wpAny_bind (m := Builtin.SmallTypes.ownedTupleIsFree (.ref z)) ?_
  unfold Builtin.SmallTypes.ownedTupleIsFree
  refine wpAny_bind (wpAny_field hz rfl (x := .none) rfl (wpAny_pure ?_))
  simp only [if_true]
  refine wpAny_bind (wpAny_rule ?_)
  refine wpAny_bind (wpAny_field hz rfl (x := .ref TO) rfl ?_)
  refine wpAny_bind (wpAny_setField_rec hz (by simp) fun g0 hz0 hs0 => ?_)
  replace hz0 : IsZs g0 z TI TO .ellipsis := hz0
  replace hs0 : Heap.SameBut z hp g0 := hs0
  refine wpAny_bind ?_
  simp only [List.zipIdx_cons, List.zipIdx_nil, List.forIn_cons, List.forIn_nil]
  refine wpAny_bind (wpAny_bind (wpAny_onRaise ?_))
  show wpAny _ _ (Builtin.SmallTypes.nextOrEnd (.ref i1)) _ _ ⟨g0, g, d, tk0, os⟩
  refine noe_end D1 (D1.over st1 hs0 S.zf1) fun q hq => ?_
  replace hq : Heap.ExtBut i1 g0 q := hq
  have hzq : IsZs q z TI TO .ellipsis := hq _ _ S.zi1 hz0
  refine wpAny_bind (wpAny_setField_rec (s := ⟨q, g, d, tk0, os⟩) hzq (by simp) fun q' _ hq' => ?_)
  replace hq' : Heap.SameBut z q q' := hq'
  refine wpAny_bind ?_
  refine wpAny_bind ?_
  simp only [List.drop_succ_cons, List.drop_zero, List.zipIdx_cons, List.zipIdx_nil, List.forIn_cons, List.forIn_nil]
  refine wpAny_bind (wpAny_bind ?_)
  have hst2 : St2 n q' := D2.over (D2.frame _ _ _ (D2.over st2 hs0 S.zf2) fun b hb o e => hq b o (fun x => S.sep1_2 (x ▸ hb)) e) hq' S.zf2
  refine noe_end (s := ⟨q', g, d, tk0, os⟩) D2 hst2 fun r hr => ?_
  replace hr : Heap.ExtBut i2 q' r := hr
  refine wpAny_pure (wpAny_pure ?_)
  refine wpAny_bind (wpAny_rule ?_)
  show wpAny _ _ (newExc (.type "StopIteration") [] >>= _) _ _ _
  refine wpAny_bind ?_
  simp only [newExc, newTuple]
  refine wpAny_bind (wpAny_newObj_type ?_ (by size_fits))
  refine wpAny_bind (m := firstArgMember _ _) (wpAny_of_eq (a := Value.none) (by first | rfl | (simp only [firstArgMember]; rfl)) ?_)
  refine wpAny_newObj_type ?_ (by size_fits)
  simp only [raiseNew]
  refine wpAny_bind (wpAny_handled ?_)
  rw [hh]
  refine wpAny_bind (wpAny_pure (wpAny_throw ?_))
  exact hE _ tk0 _ (fun c o cz cT c1 c2 x => Heap.get?_push_of_some _ (Heap.get?_push_of_some _ (hr _ _ c2 (hq'.extBut _ _ cz (hq _ _ c1 (hs0.extBut _ _ cz x)))))) ⟨_, Heap.get?_push_size _ rfl, rfl⟩
end
end Wt
/-! zip(a, b, strict=True) begins; its turns; the rule. -/
namespace Wt
open PySem PySem.Spec PyProof.Rows L2
theorem oinit_kw {T newId : String} {self : Value} {rest : List Value} {kw : List (Str × Value)} (hl : typeLookup (.type T) "__init__" = pure (some (.builtin "object.__init__")))
    (hm : Bind.madeBy (.type T) = pure (some newId)) (hne : (some newId != some "object.__new__") = true) :
    Meets (Builtin.«object.__init__» ⟨self :: rest, kw⟩) (fun _ R s => s.TypeIs self T ∧ R (.ok (.ret .none)) s) := by
  refine Meets.of_wp fun prog w A R s hs => ?_
  obtain ⟨hT, hq⟩ := hs
  cases rest with
  | nil =>
    cases kw with
    | nil => exact wpAny_pure ⟨_, rfl, hq⟩
    | cons k kw =>
      repeat (any_goals (first | assumption | wp_step))
      exact ⟨_, rfl, hq⟩
  | cons a rest =>
    repeat (any_goals (first | assumption | wp_step))
    exact ⟨_, rfl, hq⟩
section
variable {prog : Program} {w : World} {A : Around} {E : Value → Shared → Prop} {s : Shared}
theorem callType_kw {T newId : String} {Bn : Builtin} {args : List Value} {kw : List (Str × Value)} {S : PySem.Spec} {Q : Value → Shared → Prop} (ft : TypeCalled T newId "object.__init__")
    (hne : (some newId != some "object.__new__") = true) (hct : checkTypeCall T ⟨args, kw⟩ = pure ()) (hcn : checkBuiltinCall newId ⟨.type T :: args, kw⟩ = pure ())
    (hok : ∀ obj, argsOk "object.__init__" ⟨obj :: args, kw⟩) (entryN : entryFor table newId = some Bn) (g : Meets (Bn ⟨.type T :: args, kw⟩) S)
    (h : S A.in1 (wants (fun obj s₁ => s₁.TypeIs obj T ∧ Q obj s₁) E) s) : wpAny (model prog w) A (call (.type T) args kw) Q E s := by
  obtain ⟨c, tl, hmro⟩ := ft.mro
  have hmade := ft.made
  have hsub := ft.sub
  refine wpAny_call (codeAny_of_tree ?_)
  show wpAny _ _ (callAny (.type T) _) _ _ _
  refine wpAny_pure ⟨Code.quiet_builtin _ (by decide +kernel), codeAny_builtin F.entry_type_call ?_⟩
  rw [Around.under_plain (weight_type_call_type T args kw) (units_type_call_type T args kw)]
  have h1 := ft.notType
  have h2 := ft.canCreate
  repeat (any_goals (first | assumption | wp_step))
  refine codeAny_mono (codeAny_call_builtin ft.plain entryN (wpAny_of_eq hcn (g prog w A.in1 _ s h))) fun r s₁ hr => ?_
  cases r with
  | error e => exact hr
  | ok fl =>
    cases fl with
    | ret obj =>
      obtain ⟨hT, hq⟩ := hr
      have hli := ft.init.lookup
      have hbi := ft.init.bind obj
      repeat (any_goals (first | assumption | wp_step))
      refine codeAny_mono (codeAny_call_builtin ft.init.plain F.entry_object_init (ft.init.check _ _ _ _ _ _ _ _ hT (hok obj) ((oinit_kw (kw := kw) ft.init.lookup ft.made hne) prog w A.in1 (wants (fun r s₂ => r = .none ∧ Q obj s₂) E) s₁ ⟨hT, rfl, hq⟩))) fun r₂ s₂ hr₂ => ?_
      cases r₂ with
      | error e => exact hr₂
      | ok fl₂ =>
        cases fl₂ with
        | ret r =>
          obtain ⟨rfl, hq⟩ := hr₂
          repeat (any_goals (first | assumption | wp_step))
        | _ => exact hr₂.elim
    | _ => exact hr.elim
end
theorem tcZ (a b : Value) : checkTypeCall "zip" ⟨[a, b], [(Str.ofString "strict", .bool true)]⟩ = pure () := by kernel_rfl
theorem ncZ (a b : Value) : checkBuiltinCall "zip.__new__" ⟨[.type "zip", a, b], [(Str.ofString "strict", .bool true)]⟩ = pure () := by kernel_rfl
theorem oiZ (a b c : Value) : argsOk "object.__init__" ⟨[a, b, c], [(Str.ofString "strict", .bool true)]⟩ := by
  unfold argsOk; kernel_rfl
end Wt
namespace Wt
open PySem PySem.Spec PyProof.Rows L2
abbrev zsZ (h : Heap) (o1 o2 : Obj) : Heap := (gzO2 h o1 o2).push { cls := .type "zip", data := .fields #[.none, .bool false, .bool true, .ref ((h.push o1).push o2).objs.size, .ref (gzT2 h o1 o2).objs.size] }
theorem meets_zs {v1 v2 : Value} {o1 o2 : Obj} {H1 H2 : Heap → Prop} (B1 : Begins v1 o1 H1) (B2 : Begins v2 o2 H2) :
    Meets (Builtin.«zip.__new__» ⟨[.type "zip", v1, v2], [(Str.ofString "strict", .bool true)]⟩) (fun _ R s => (H1 s.heap ∧ H2 s.heap) ∧
      R (.ok (.ret (.ref (gzO2 s.heap o1 o2).objs.size))) { s with heap := zsZ s.heap o1 o2 }) :=
  .of_wp fun prog w A R s h => by
    obtain ⟨hp, g, d, tk, os⟩ := s; obtain ⟨⟨h1, h2⟩, h⟩ := h
    have hsub := sub_zip
    have q1 : ∀ {A' : Around} {E : Value → Shared → Prop} {Q : Value → Shared → Prop}, Q (.ref hp.objs.size) ⟨(hp.push o1), g, d, tk, os⟩ → wpAny (model prog w) A' (pyIter v1) Q E ⟨hp, g, d, tk, os⟩ :=
      fun q => B1.iter prog w _ _ ⟨hp, g, d, tk, os⟩ _ (B1.keeps _ _ h1 fun b o' e => e) q
    have q2 : ∀ {A' : Around} {E : Value → Shared → Prop} {Q : Value → Shared → Prop}, Q (.ref (hp.push o1).objs.size) ⟨((hp.push o1).push o2), g, d, tk, os⟩ → wpAny (model prog w) A' (pyIter v2) Q E ⟨(hp.push o1), g, d, tk, os⟩ :=
      fun q => B2.iter prog w _ _ ⟨(hp.push o1), g, d, tk, os⟩ _ (B2.keeps _ _ h2 fun b o' e => (Heap.get?_push_of_some _ e)) q
    wp_walk using q1, q2
    exact ⟨_, rfl, h⟩
section
variable {prog : Program} {w : World} {A : Around} {E : Value → Shared → Prop} {s : Shared}
theorem zs_begins {v1 v2 : Value} {o1 o2 : Obj} {H1 H2 : Heap → Prop} {Q : Value → Shared → Prop} (B1 : Begins v1 o1 H1) (B2 : Begins v2 o2 H2) (h1 : H1 s.heap) (h2 : H2 s.heap)
    (h : ∀ h', IsZs h' (s.heap.objs.size + 4) (s.heap.objs.size + 2) (s.heap.objs.size + 3) .none → IsTupOf2 h' (s.heap.objs.size + 2) (.ref s.heap.objs.size) (.ref (s.heap.objs.size + 1)) →
      IsTupOf2 h' (s.heap.objs.size + 3) .none .none → h'.get? s.heap.objs.size = some o1 → h'.get? (s.heap.objs.size + 1) = some o2 → h'.objs.size = s.heap.objs.size + 5 →
      (∀ c o, s.heap.get? c = some o → h'.get? c = some o) → Q (.ref (s.heap.objs.size + 4)) { s with heap := h' }) :
    wpAny (model prog w) A (call (.type "zip") [v1, v2] [(Str.ofString "strict", .bool true)]) Q E s := by
  refine callType_kw F.called_zip (by decide) (tcZ _ _) (ncZ _ _) (fun obj => oiZ obj _ _) F.entry_zip_new (meets_zs B1 B2) ⟨⟨h1, h2⟩, ?_⟩
  have z1 : (s.heap.push o1).objs.size = s.heap.objs.size + 1 := by rw [Heap.size_push]
  have z2 : ((s.heap.push o1).push o2).objs.size = s.heap.objs.size + 2 := by rw [Heap.size_push, z1]
  have zT : (gzT2 s.heap o1 o2).objs.size = s.heap.objs.size + 3 := by rw [Heap.size_push, z2]
  have zO : (gzO2 s.heap o1 o2).objs.size = s.heap.objs.size + 4 := by rw [Heap.size_push, zT]
  have zZ : (zsZ s.heap o1 o2).objs.size = s.heap.objs.size + 5 := by rw [Heap.size_push, zO]
  have up : ∀ c o, (gzO2 s.heap o1 o2).get? c = some o → (zsZ s.heap o1 o2).get? c = some o := fun c o e => Heap.get?_push_of_some _ e
  have gZ : IsZs (zsZ s.heap o1 o2) (gzO2 s.heap o1 o2).objs.size ((s.heap.push o1).push o2).objs.size (gzT2 s.heap o1 o2).objs.size .none := Heap.get?_push_size _ rfl
  have gO : IsTupOf2 (zsZ s.heap o1 o2) (gzT2 s.heap o1 o2).objs.size .none .none := up _ _ (Heap.get?_push_size _ rfl)
  have gT : IsTupOf2 (zsZ s.heap o1 o2) ((s.heap.push o1).push o2).objs.size (.ref s.heap.objs.size) (.ref (s.heap.push o1).objs.size) := up _ _ (Heap.get?_push_of_some _ (Heap.get?_push_size _ rfl))
  have g1 : (zsZ s.heap o1 o2).get? s.heap.objs.size = some o1 := up _ _ (Heap.get?_push_of_some _ (Heap.get?_push_of_some _ (Heap.get?_push_of_some _ (Heap.get?_push_size _ B1.free))))
  have g2 : (zsZ s.heap o1 o2).get? (s.heap.push o1).objs.size = some o2 := up _ _ (Heap.get?_push_of_some _ (Heap.get?_push_of_some _ (Heap.get?_push_size _ B2.free)))
  rw [zO, zT, z2] at gZ
  rw [zT] at gO
  rw [z2, z1] at gT
  rw [z1] at g2
  show _ ∧ _
  rw [zO]
  exact ⟨⟨_, gZ, rfl⟩, h _ gZ gT gO g1 g2 zZ fun c o e => up _ _ (Heap.get?_push_of_some _ (Heap.get?_push_of_some _ (Heap.get?_push_of_some _ (Heap.get?_push_of_some _ e))))⟩
theorem pyIter_zs {z TI TO : Addr} {f0 : Value} {Q : Value → Shared → Prop} (hz : IsZs s.heap z TI TO f0) (h : Q (.ref z) s) : wpAny (model prog w) A (pyIter (.ref z)) Q E s := by
  have hT : s.TypeIs (.ref z) "zip" := ⟨_, hz, rfl⟩
  refine wpAny_pyIter_slot hT F.slot_zip_iter (wpAny_call_entry F.slot_zip_iter hT F.entry_zip_iter ?_ (F.args_zip_iter_1 _))
  show wpAny _ _ (ret (.ref z)) _ _ s
  exact wpAny_pure ⟨_, rfl, "zip", _, hT, F.slot_zip_next.lookup, h⟩
theorem letGo_zs {elts : List Expr} {x1} {pos : Pos} {z TI TO T : Addr} {Q : Unit → Shared → Prop} (hz : IsZs s.heap z TI TO (rawInt T))
    (hQ : ∀ h', IsZs h' z TI TO .none → Heap.SameBut z s.heap h' → Q () { s with heap := h' }) :
    wpAny (model prog w) A (letOwnedTupleGo (.Tuple elts x1 pos) (.ref z) (.ref T)) Q E s := by
  unfold letOwnedTupleGo
  refine wpAny_bind (wpAny_load hz ?_)
  show wpAny _ _ (if (["enumerate", "zip", "dict_itemiterator", "dict_reverseitemiterator", "odict_iterator", "itertools.zip_longest", "itertools.pairwise"].contains "zip" &&
      (#[rawInt T, .bool false, .bool true, .ref TI, .ref TO] : Array Value)[0]? == some (rawInt T)) = true then _ else _) Q E s
  rw [if_pos (by simp)]
  refine wpAny_bind (wpAny_rule ?_)
  show wpAny _ _ (setField (.ref z) 0 .none) Q E s
  exact wpAny_setField_rec hz (by simp) fun h' hz' hs' => hQ h' hz' hs'
variable {z TI TO i1 i2 : Addr} {fp1 fp2 : List Addr} {n i : Nat} {P1 P2 : Nat → Value → Prop} {St1 St2 : Nat → Heap → Prop} {a1 a2 : Value}
theorem pyNext_zs_item {Q : Option Value → Shared → Prop} (S : ZipSep2 z TI TO i1 i2 fp1 fp2) (D1 : Draws prog w A.in1 i1 fp1 n P1 St1) (D2 : Draws prog w A.in1 i2 fp2 n P2 St2)
    (hz : IsZs s.heap z TI TO .none) (hTI : IsTupOf2 s.heap TI (.ref i1) (.ref i2)) (hTO : IsTupOf2 s.heap TO a1 a2) (st1 : St1 i s.heap) (st2 : St2 i s.heap) (hlt : i < n)
    (hQ : ∀ x1 x2 h' tk, P1 i x1 → P2 i x2 → IsZs h' z TI TO (rawInt s.heap.objs.size) → IsTupOf2 h' TO x1 x2 → St1 (i + 1) h' → St2 (i + 1) h' → IsTupOf2 h' s.heap.objs.size x1 x2 → h'.objs.size = s.heap.objs.size + 1 →
      (∀ c o, c ≠ z → c ≠ TO → c ≠ i1 → c ≠ i2 → s.heap.get? c = some o → h'.get? c = some o) → Q (some (.ref s.heap.objs.size)) { s with heap := h', toks := tk }) :
    wpAny (model prog w) A (pyNext (.ref z)) Q E s := by
  have hT : s.TypeIs (.ref z) "zip" := ⟨_, hz, rfl⟩
  unfold pyNext
  exact wpAny_bind (wpAny_attempt (wpAny_callSpecial?_slot (name := Str.ofString "__next__") hT F.slot_zip_next
    (wpAny_call_entry F.slot_zip_next hT F.entry_zip_next
      (zs_next_item S D1 D2 hz hTI hTO st1 st2 hlt fun x1 x2 h' tk y1 y2 b1 b2 d1 d2 b5 b6 b7 => wpAny_pure (hQ x1 x2 h' tk y1 y2 b1 b2 d1 d2 b5 b6 b7)) (F.args_zip_next_1 _))))
theorem pyNext_zs_end {Q : Option Value → Shared → Prop} (hh : A.handled = none) (S : ZipSep2 z TI TO i1 i2 fp1 fp2) (D1 : Draws prog w A.in1 i1 fp1 n P1 St1) (D2 : Draws prog w A.in1 i2 fp2 n P2 St2)
    (hz : IsZs s.heap z TI TO .none) (hTI : IsTupOf2 s.heap TI (.ref i1) (.ref i2)) (hTO : IsTupOf2 s.heap TO a1 a2) (st1 : St1 n s.heap) (st2 : St2 n s.heap)
    (hQ : ∀ h' tk, (∀ c o, c ≠ z → c ≠ TO → c ≠ i1 → c ≠ i2 → s.heap.get? c = some o → h'.get? c = some o) → Q none { s with heap := h', toks := tk }) : wpAny (model prog w) A (pyNext (.ref z)) Q E s := by
  have hT : s.TypeIs (.ref z) "zip" := ⟨_, hz, rfl⟩
  unfold pyNext
  refine wpAny_bind (wpAny_attempt (wpAny_callSpecial?_slot (name := Str.ofString "__next__") hT F.slot_zip_next
    (wpAny_call_entry F.slot_zip_next hT F.entry_zip_next (zs_next_end (A := A.in1) hh S D1 D2 hz hTI hTO st1 st2 fun h' tk e hk he => ?_) (F.args_zip_next_1 _))))
  obtain ⟨o, ho, hc⟩ := he
  refine wpAny_bind (wpAny_isInstance (T := "StopIteration") (b := true) ⟨o, ho, hc⟩ isSubtype_stop ?_)
  exact wpAny_pure (hQ _ _ hk)
end
section
variable {M : Model} {A : Around} {E : Value → Shared → Prop} {s : Shared} {env : Env}
theorem callWith_tkw {pos : Pos} {T : String} {e : Expr} {rest : List Expr} {kws : List Keyword} {Q : Value → Shared → Prop}
    (h : wpAny M A (spliced (backTo pos (starEach (e :: rest) env))) (fun vs s₁ => wpAny M A (evalAll ((backToKw pos (keywordEach kws env)).map (·.2)))
      (fun kvs s₂ => wpAny M A (call (.type T) vs (((backToKw pos (keywordEach kws env)).filterMap (·.1)).zip kvs)) Q E s₂) E s₁) E s)
    (he : backTo pos (starEach (e :: rest) env) = (false, eval e env) :: backTo pos (starEach rest env) := by rfl)
    (hplain : (backTo pos (starEach (e :: rest) env)).any (·.1) = false := by rfl)
    (hall : (backToKw pos (keywordEach kws env)).all (·.1.isSome) = true := by rfl)
    (hkw : (backToKw pos (keywordEach kws env)).any (·.1.isNone) = false := by rfl) :
    wpAny M A (callWith pos (.type T) [] (backTo pos (starEach (e :: rest) env)) (backToKw pos (keywordEach kws env))) Q E s := by
  unfold callWith
  rw [he] at h
  have h2 := evalArgs_kwB (f := .type T) (Q := fun a s₁ => wpAny M A (call (.type T) a.pos a.kw) Q E s₁) hall h
  rw [← he] at h2
  refine wpAny_bind (wpAny_holding (wpAny_mono h2 (fun a s₁ h₁ => wpAny_bind (wpAny_standAt ?_)) fun _ _ x => x))
  simp only [hplain, hkw, Bool.or_false]
  refine wpAny_bind (wpAny_pure ?_)
  exact wpAny_bind (wpAny_mono h₁ (fun r s₂ hr => wpAny_bind (wpAny_holding (wpAny_point (wpAny_pure hr)))) fun _ _ x => x)
end
end Wt
namespace Wt
open PySem PySem.Spec PyProof.Rows L2
/-- two tuples of one length -/
def ItzS (K : PySem.W.Frag) (a b : Addr) : It :=
  ⟨fun i H => ∃ (xs ys : List V) (x y : V), SqT K H a xs ∧ SqT K H b ys ∧ xs.length = ys.length ∧ xs[i]? = some x ∧ ys[i]? = some y,
    fun i H v H' => ∃ T x y, v = .ref T ∧ H T = none ∧ H' = upd H T (.tup [x, y]) ∧ (∀ xs, SqT K H a xs → xs[i]? = some x) ∧ ∀ ys, SqT K H b ys → ys[i]? = some y,
    fun i H => ∃ xs ys : List V, SqT K H a xs ∧ SqT K H b ys ∧ xs.length = i ∧ ys.length = i⟩
theorem sep_ss {n a b : Nat} (la : a < n) (lb : b < n) : ZipSep2 (n + 4) (n + 2) (n + 3) n (n + 1) [n, a] [n + 1, b] where
  TIz := an (by omega)
  TOz := an (by omega)
  TITO := an (by omega)
  TIi1 := an (by omega)
  mem1 := by simp
  zf1 := nm2 (by omega) (by omega)
  Tf1 := nm2 (by omega) (by omega)
  TIi2 := an (by omega)
  mem2 := by simp
  zf2 := nm2 (by omega) (by omega)
  Tf2 := nm2 (by omega) (by omega)
  sep1_2 := nm2 (by omega) (by omega)
  sep2_1 := nm2 (by omega) (by omega)
theorem turn_ss {P : Program} {w : World} {K : PySem.W.Frag} {elts : List Expr} {kk : Nat} {tpos : Pos} {a b n : Nat} (la : a < n) (lb : b < n) :
    Turn P w K (.Tuple elts kk tpos) (ItzS K a b) [n + 4, n + 2, n + 3, n, n + 1] (n + 4) (fun i h => IsZs h (n + 4) (n + 2) (n + 3) .none ∧ IsTupOf2 h (n + 2) (.ref n) (.ref (n + 1)) ∧ (∃ x y, IsTupOf2 h (n + 3) x y) ∧ h.IsTupleIter n a i ∧ h.IsTupleIter (n + 1) b i) where
  mem := by simp
  obj := fun i h st c hc => by
    obtain ⟨hz, hTI, ⟨x, y, hTO⟩, ⟨o1, e1, _, d1⟩, ⟨o2, e2, _, d2⟩⟩ := st
    have e' : c = n + 4 ∨ c = n + 2 ∨ c = n + 3 ∨ c = n ∨ c = n + 1 := by simpa using hc
    rcases e' with q | q | q | q | q
    · rw [q]; exact ⟨_, hz, fun v q => nomatch q⟩
    · rw [q]; exact ⟨_, hTI, fun v q => nomatch q⟩
    · rw [q]; exact ⟨_, hTO, fun v q => nomatch q⟩
    · rw [q]; exact ⟨o1, e1, fun v q => by rw [d1] at q; cases q⟩
    · rw [q]; exact ⟨o2, e2, fun v q => by rw [d2] at q; cases q⟩
  keep := fun i h h' st k => by
    obtain ⟨hz, hTI, ⟨x, y, hTO⟩, h1, h2⟩ := st
    exact ⟨k _ (by simp) _ hz, k _ (by simp) _ hTI, ⟨x, y, k _ (by simp) _ hTO⟩, h1.at fun o q => k _ (by simp) o q, h2.at fun o q => k _ (by simp) o q⟩
  item := by
    intro X hP hw hK hc i pins s σ H E I hf st hg
    subst hP hw hK
    obtain ⟨hz, hTI, ⟨x0, y0, hTO⟩, h1, h2⟩ := st
    obtain ⟨xs, ys, x, y, hqx, hqy, hlen, hx, hy⟩ := hg
    obtain ⟨its, rv, p, _⟩ := I.tuple hqx
    obtain ⟨its2, rv2, p2, _⟩ := I.tuple hqy
    obtain ⟨u, hu, ru⟩ := rv.get hx
    obtain ⟨u2, hu2, ru2⟩ := rv2.get hy
    have hzl : n + 4 < s.heap.objs.size := Heap.lt_size hz
    have e1 := rv.length
    have e2 := rv2.length
    have hsz2 : its2.toArray.size = its.toArray.size := by rw [List.size_toArray, List.size_toArray]; omega
    have hlt : i < its.toArray.size := by
      obtain ⟨q, _⟩ := List.getElem?_eq_some_iff.mp hu
      rw [List.size_toArray]
      exact q
    have hh : X.A.in1.handled = none := I.ok.hd hc
    have D2 := Draws.tuple (prog := X.prog) (w := X.w) (A := X.A.in1) hh (n + 1) b (an (by omega)) its2.toArray
    rw [hsz2] at D2
    refine pyNext_zs_item (S := sep_ss la lb) (Draws.tuple hh n a (an (by omega)) its.toArray) D2 hz hTI hTO ⟨h1, p⟩ ⟨h2, p2⟩ hlt fun x1 x2 h' tk hx1 hx2 z' TO' h1' h2' hT hsz hk => ?_
    have ex1 : x1 = u := by
      have q : its[i]? = some x1 := by simpa using hx1
      rw [hu] at q
      cases q
      rfl
    have ex2 : x2 = u2 := by
      have q : its2[i]? = some x2 := by simpa using hx2
      rw [hu2] at q
      cases q
      rfl
    subst ex1 ex2
    refine ⟨_, rfl, letGo_zs (s := { s with heap := h', toks := tk }) z' fun h'' z'' sb => ?_⟩
    have hT2 : h''.get? s.heap.objs.size = some { cls := .type "tuple", data := .seq #[x1, x2] } := (sb.2 _ (Nat.ne_of_gt hzl)).trans hT
    have new : ObjOk X.prog X.w (upd H s.heap.objs.size (.tup [x, y])) h'' s.heap.objs.size (.tup [x, y]) :=
      ⟨by show 2 ≤ sizeLine; decide, [x1, x2], .cons ru (.cons ru2 .nil), ⟨_, hT2, rfl, _, rfl⟩⟩
    have I1 : Inv X pins σ (upd H s.heap.objs.size (.tup [x, y])) { s with heap := h'', toks := tk } :=
      I.turnedNew (t' := tk) (ch := [n + 4, n + 2, n + 3, n, n + 1]) (fun c o hb q => (sb.2 c (fun q' => hb (by simp [q']))).trans (hk c o (fun q' => hb (by simp [q'])) (fun q' => hb (by simp [q'])) (fun q' => hb (by simp [q'])) (fun q' => hb (by simp [q'])) q)) hf (Nat.le_refl _) new
    refine ⟨.ref s.heap.objs.size, _, I1, rfl, ⟨_, x, y, rfl, I.hok.fresh (Nat.le_refl _), rfl, fun l hl => by rw [I.tuple_inj hl hqx]; exact hx, fun l hl => by rw [I.tuple_inj hl hqy]; exact hy⟩, ⟨z'', ?_, ⟨x1, x2, ?_⟩, ?_, ?_⟩, fun c hcm => ?_⟩
    · exact (sb.2 _ (an (by omega))).trans (hk _ _ (an (by omega)) (an (by omega)) (an (by omega)) (an (by omega)) hTI)
    · exact (sb.2 _ (an (by omega))).trans TO'
    · exact h1'.1.at fun o q => (sb.2 _ (an (by omega))).trans q
    · exact h2'.1.at fun o q => (sb.2 _ (an (by omega))).trans q
    · have hlt : c < s.heap.objs.size := by
        have e' : c = n + 4 ∨ c = n + 2 ∨ c = n + 3 ∨ c = n ∨ c = n + 1 := by simpa using hcm
        have hzn : (n + 4 : Nat) < s.heap.objs.size := hzl
        rcases e' with q | q | q | q | q
        · rw [q]; exact hzn
        · rw [q]; show (n + 2 : Nat) < _; omega
        · rw [q]; show (n + 3 : Nat) < _; omega
        · rw [q]; show (n : Nat) < _; omega
        · rw [q]; show (n + 1 : Nat) < _; omega
      rw [upd_ne (Nat.ne_of_lt hlt)]
      exact (hf c hcm).1
  done := by
    intro X hP hw hK hc i pins s σ H E I hf st hg
    subst hP hw hK
    obtain ⟨hz, hTI, ⟨x0, y0, hTO⟩, h1, h2⟩ := st
    obtain ⟨xs, ys, hqx, hqy, hl1, hl2⟩ := hg
    obtain ⟨its, rv, p, _⟩ := I.tuple hqx
    obtain ⟨its2, rv2, p2, _⟩ := I.tuple hqy
    have e1 := rv.length
    have e2 := rv2.length
    have hh : X.A.in1.handled = none := I.ok.hd hc
    have s1 : its.toArray.size = i := by rw [List.size_toArray]; omega
    have s2 : its2.toArray.size = i := by rw [List.size_toArray]; omega
    have D1 := Draws.tuple (prog := X.prog) (w := X.w) (A := X.A.in1) hh n a (an (by omega)) its.toArray
    have D2 := Draws.tuple (prog := X.prog) (w := X.w) (A := X.A.in1) hh (n + 1) b (an (by omega)) its2.toArray
    rw [s1] at D1
    rw [s2] at D2
    exact pyNext_zs_end hh (S := sep_ss la lb) D1 D2 hz hTI hTO ⟨h1, p⟩ ⟨h2, p2⟩ fun h' tk hk => ⟨rfl, I.turnedL (t' := tk) (ch := [n + 4, n + 2, n + 3, n, n + 1]) (fun c o hb q =>
      hk c o (fun q' => hb (by simp [q'])) (fun q' => hb (by simp [q'])) (fun q' => hb (by simp [q'])) (fun q' => hb (by simp [q'])) q) hf⟩
  self := fun A i s Q E st h => pyIter_zs st.1 h
def iZipS (K : PySem.W.Frag) (ta : TA) (tk : TA) : TI := fun σ H R => ta σ H fun vs H1 => tk σ H1 fun zs H2 => ∃ a b xs ys, vs = [.ref a, .ref b] ∧ zs = [.bl true] ∧ SqT K H2 a xs ∧ SqT K H2 b ys ∧ R (ItzS K a b) H2
theorem pi_zipS {X : Cx} {e e2 : Expr} {ta tk : TA} {kws : List Keyword} {p pos tpos : Pos} {elts : List Expr} {kk : Nat} (hg : Gl X "zip") (hm : X.mg "zip" = none) (ha : PA X [e, e2] ta) (hk : PK X kws tk)
    (he : backTo pos (starEach [e, e2] X.env) = (false, eval e X.env) :: backTo pos (starEach [e2] X.env) := by rfl) (hpl : (backTo pos (starEach [e, e2] X.env)).any (·.1) = false := by rfl)
    (hall : (backToKw pos (keywordEach kws X.env)).all (·.1.isSome) = true := by rfl) (hnone : (backToKw pos (keywordEach kws X.env)).any (·.1.isNone) = false := by rfl) (hks : (backToKw pos (keywordEach kws X.env)).filterMap (·.1) = [Str.ofString "strict"] := by rfl) :
    PI X (.Tuple elts kk tpos) (.Call (.Name "zip" p) [e, e2] kws pos) (iZipS X.K ta tk) := by
  refine ⟨fun pins s σ H R I h => ?_⟩
  refine wpAny_Call_Name_kw (ld_blt I hg hm PyProof.Rows.boot_zip (callWith_tkw (thn (ha.run pos pins s σ H _ I h) fun us s0 ⟨vs, H0, I0, r0, q0⟩ => thn (hk.run pos pins s0 σ H0 _ I0 q0) fun ws s1 ⟨zs, H1, I1, r1, q1⟩ => ?_) he hpl hall hnone))
  rw [hks]
  obtain ⟨a, b, xs, ys, ex, ez, hqx, hqy, q⟩ := q1
  subst ex ez
  cases r1 with
  | cons rk rr =>
  cases rr
  cases rk
  cases r0 with
  | cons r rr =>
    cases rr with
    | cons r' rr =>
      cases rr
      cases r
      cases r'
      have fresh5 : ∀ c, c ∈ [s1.heap.objs.size + 4, s1.heap.objs.size + 2, s1.heap.objs.size + 3, s1.heap.objs.size, s1.heap.objs.size + 1] → FpOk X pins H1 c := fun c hcm => by
        have e' : c = s1.heap.objs.size + 4 ∨ c = s1.heap.objs.size + 2 ∨ c = s1.heap.objs.size + 3 ∨ c = s1.heap.objs.size ∨ c = s1.heap.objs.size + 1 := by simpa using hcm
        have hle : s1.heap.objs.size ≤ c := by
          rcases e' with z | z | z | z | z
          · rw [z]; exact Nat.le_add_right _ _
          · rw [z]; exact Nat.le_add_right _ _
          · rw [z]; exact Nat.le_add_right _ _
          · rw [z]; exact Nat.le_refl _
          · rw [z]; exact Nat.le_add_right _ _
        exact I1.fpOk hle (I1.hok.fresh hle)
      obtain ⟨its, rv, p1, _⟩ := I1.tuple hqx
      obtain ⟨its2, rv2, p2, _⟩ := I1.tuple hqy
      obtain ⟨o1, ho1, _⟩ := id p1
      obtain ⟨o2, ho2, _⟩ := id p2
      refine zs_begins (begins_tuple a its.toArray) (begins_tuple b its2.toArray) p1 p2 fun h' hz hTI hTO h1 h2 hsz hk => pyIter_zs hz ?_
      have I2 : Inv X pins σ H1 { s1 with heap := h' } := I1.kept (t' := s1.toks) hk
      exact ⟨s1.heap.objs.size + 4, [s1.heap.objs.size + 4, s1.heap.objs.size + 2, s1.heap.objs.size + 3, s1.heap.objs.size, s1.heap.objs.size + 1], _, _, H1, rfl, I2, turn_ss (Heap.lt_size ho1) (Heap.lt_size ho2), ⟨hz, hTI, ⟨_, _, hTO⟩, ⟨_, h1, rfl, rfl⟩, ⟨_, h2, rfl, rfl⟩⟩, fresh5, q⟩
/-- over the two, their items to a new list -/
theorem lc_zipS_same {K : PySem.W.Frag} {a b : Addr} {xs us ys : List V} {g : TG} {te : TE} {vs : List Nat} {σ : L2.St} {H1 : Hp} {D : Addr} {Qd : Hp → Prop} (hD : H1 D = none) (hT : SqT K H1 a xs) (hU : SqT K H1 b us) (hl : us.length = xs.length) (hy : ys.length = xs.length) (hz : xs.length ≤ 1000)
    (hs : ∀ (i : Nat) x u y T H' (Nx : VK), xs[i]? = some x → us[i]? = some u → ys[i]? = some y → Same H1 H' → H' T = some (.tup [x, u]) → (∀ H3, Same H' H3 → Nx y H3) → g (.ref T) (wipe σ vs) H' fun σ2 H2 => wipe σ2 vs = wipe σ vs ∧ te σ2 H2 Nx)
    (hd : ∀ H', Same H1 H' → H' D = some (.lst ys) → Qd H') :
    ∃ W : Nat → Nat → Hp → Prop, (∃ m, W 0 m (upd H1 D (.lst []))) ∧ ∀ i m H, W i m H →
      ((ItzS K a b).stop i H ∧ Qd H) ∨ ((ItzS K a b).go i H ∧ ∃ Nx : Hp → Prop, (∀ H', Nx H' → ∃ m', m' < m ∧ W (i + 1) m' H') ∧ ∀ x H', (ItzS K a b).yld i H x H' → g x (wipe σ vs) H' fun σ2 H2 => wipe σ2 vs = wipe σ vs ∧ tYes σ2 H2 fun b H3 =>
        if b = true then te σ2 H3 fun y H4 => ∃ acc, H4 D = some (.lst acc) ∧ acc.length < sizeLine ∧ Nx (upd H4 D (.lst (acc ++ [y]))) else Nx H3) :=
  lc_same (J := ItzS K a b) (n := xs.length) hD hy hz (fun H' s => ⟨xs, us, s.sqT hT, s.sqT hU, rfl, hl⟩)
    (fun i H' hi s => ⟨xs, us, xs[i], us[i], s.sqT hT, s.sqT hU, hl.symm, List.getElem?_eq_getElem hi, List.getElem?_eq_getElem (by omega)⟩)
    (fun i x H' H'' yl => by
      obtain ⟨T, x', u', _, hTn, rfl, _⟩ := yl
      exact same_new hTn _) (fun i x y H' H'' Nx ey s yl k => by
      obtain ⟨T, x', u', rfl, hTn, rfl, f1, f2⟩ := yl
      exact hs i x' u' y T _ Nx (f1 xs (s.sqT hT)) (f2 us (s.sqT hU)) ey (s.trans (same_new hTn _)) upd_same k) hd
/-- over a text and a list -/
theorem lc_zipSL_same {K : PySem.W.Frag} {z : Str} {b : Addr} {us ys : List V} {g : TG} {te : TE} {vs : List Nat} {σ : L2.St} {H1 : Hp} {D : Addr} {Qd : Hp → Prop} (hD : H1 D = none) (hU : SqL K H1 b us) (hl : us.length = z.cps.size) (hy : ys.length = z.cps.size) (hz : z.cps.size ≤ 1000)
    (hs : ∀ (i : Nat) c u y T H' (Nx : VK), z.cps[i]? = some c → us[i]? = some u → ys[i]? = some y → Same H1 H' → H' T = some (.tup [.str ⟨#[c]⟩, u]) → (∀ H3, Same H' H3 → Nx y H3) → g (.ref T) (wipe σ vs) H' fun σ2 H2 => wipe σ2 vs = wipe σ vs ∧ te σ2 H2 Nx)
    (hd : ∀ H', Same H1 H' → H' D = some (.lst ys) → Qd H') :
    ∃ W : Nat → Nat → Hp → Prop, (∃ m, W 0 m (upd H1 D (.lst []))) ∧ ∀ i m H, W i m H →
      ((ItSL K z b).stop i H ∧ Qd H) ∨ ((ItSL K z b).go i H ∧ ∃ Nx : Hp → Prop, (∀ H', Nx H' → ∃ m', m' < m ∧ W (i + 1) m' H') ∧ ∀ x H', (ItSL K z b).yld i H x H' → g x (wipe σ vs) H' fun σ2 H2 => wipe σ2 vs = wipe σ vs ∧ tYes σ2 H2 fun b H3 =>
        if b = true then te σ2 H3 fun y H4 => ∃ acc, H4 D = some (.lst acc) ∧ acc.length < sizeLine ∧ Nx (upd H4 D (.lst (acc ++ [y]))) else Nx H3) :=
  lc_same (J := ItSL K z b) (n := z.cps.size) hD hy hz (fun H' s => ⟨us, s.seq hU, Nat.le_refl _, by omega, .inl rfl⟩)
    (fun i H' hi s => ⟨us, us[i], hi, s.seq hU, List.getElem?_eq_getElem (by omega)⟩)
    (fun i x H' H'' yl => by
      obtain ⟨T, c, y', _, hTn, rfl, _⟩ := yl
      exact same_new hTn _) (fun i x y H' H'' Nx ey s yl k => by
      obtain ⟨T, c, u', rfl, hTn, rfl, f1, f2⟩ := yl
      exact hs i c u' y T _ Nx f1 (f2 us (s.seq hU)) ey (s.trans (same_new hTn _)) upd_same k) hd
end Wt
/-! word, *parts = a tuple; x in (a, b) where the items are data. -/
namespace Wt
open PySem PySem.Spec PySem.Calls PyProof.Rows L2 PySem.W
section
variable {prog : Program} {w : World} {A : Around} {E : Value → Shared → Prop} {s : Shared}
theorem star_unpack {l : Addr} {x : Value} {rest : List Value} {Q : List Value → Shared → Prop} (hl : IsTup s.heap l (x :: rest).toArray) (hh : A.handled = none) (hz : rest.length ≤ 16000)
    (h : ∀ (h' : Heap) tk, (∀ b o, s.heap.get? b = some o → h'.get? b = some o) → Q [x, .ref h'.objs.size] { s with heap := h'.push { cls := .type "list", data := .seq rest.toArray 0 }, toks := tk }) : wpAny (model prog w) A (unpackItems (.ref l) 2 (some 1)) Q E s := by
  have hlt : l ≠ s.heap.objs.size := by obtain ⟨o, ho, _⟩ := hl; exact Nat.ne_of_lt (Heap.lt_size ho)
  have hsz : (x :: rest).toArray.size = rest.length + 1 := by simp
  unfold unpackItems
  refine wpAny_bind ?_
  unfold notIterableAtAll
  refine wpAny_bind (wpAny_specialOf hl.typeIs slot_tuple_iter.lookup ?_)
  refine wpAny_pure ?_
  simp only [Bool.false_eq_true, if_false]
  refine wpAny_bind (wpAny_holding (iter_tuple hl ?_))
  refine wpAny_bind (wpAny_holding (draw_tuple hlt 1 0 _ _ ⟨_, Heap.get?_push_size _ rfl, rfl, rfl⟩ (hl.push _) (by rw [hsz]; omega) fun h1 hit1 hs1 => ?_))
  have hl1 : IsTup h1 l (x :: rest).toArray := (hl.push _).extBut hs1.extBut hlt
  rw [Nat.zero_add] at hit1
  have hit1' := hit1
  obtain ⟨oi, hoi, _⟩ := hit1'
  have hl1' := hl1
  obtain ⟨ol, hol, _⟩ := hl1'
  have hb : s.heap.objs.size < h1.objs.size := Heap.lt_size hoi
  show wpAny _ _ (if ([x] : List Value).length < 1 then _ else _) _ _ _
  rw [if_neg (by simp)]
  refine wpAny_bind (wpAny_holding (kun_collect (s := { s with heap := h1 }) (T := "tuple_iterator") (.inr (.inr (.inr rfl))) (Walks.tuple (A := A.in1) hh s.heap.objs.size l hlt (x :: rest).toArray) (fun j u st => st.1.typeIs) (k := 1) (by rw [hsz]; omega) ⟨hit1, hl1⟩ (Heap.lt_size hoi) (Heap.lt_size hol) (fun h2 tk hk => ?_) (by rw [hsz, sizeLine_eq]; omega)))
  show wpAny _ _ (if (rest.length : Nat) < 0 then _ else _) _ _ _
  rw [if_neg (by omega)]
  show wpAny _ _ (newList (rest.take rest.length) >>= fun d => pure ([x] ++ [d] ++ rest.drop rest.length)) _ _ _
  rw [List.take_length, List.drop_length]
  have he : ∀ b o, s.heap.get? b = some o → h2.get? b = some o := fun b o e => hk b o (Nat.ne_of_lt (Heap.lt_size e)) (hs1.extBut b o (Nat.ne_of_lt (Heap.lt_size e)) (Heap.get?_push_of_some _ e))
  refine wpAny_bind (wpAny_newList ?_ (by rw [sizeLine_eq]; omega))
  exact wpAny_pure (h h2 tk he)
end
section
variable {X : Cx} {pos p1 p2 p3 : Pos}
/-- word, *parts = a tuple with at least one item -/
def gStar (K : PySem.W.Frag) (i j : Nat) : TG := fun v σ H Q => ∃ a x xs, v = .ref a ∧ H a = some (.tup (x :: xs)) ∧ xs.length ≤ 1000 ∧ ∀ D, H D = none → Q ((σ.set i (some x)).set j (some (.ref D))) (upd H D (.lst xs))
theorem pg_star {i j : Nat} {x y : Str} {k : Nat} (hc : X.calm = true) (hN : X.N.Nodup) (hi : X.N[i]? = some x) (hx : Loc X.env.scope x) (hj : X.N[j]? = some y) (hy : Loc X.env.scope y)
    (hf : X.fn x = true ∨ X.env.scope.names.lookup x = some .local := by first | exact .inl rfl | exact .inr rfl | assumption) (hg : X.fn y = true ∨ X.env.scope.names.lookup y = some .local := by first | exact .inl rfl | exact .inr rfl | assumption)
    (hn : (assignEach [.Name x p1, .Starred (.Name y p2) p3] X.env).length = 2 := by rfl) (hst : (assignEach [.Name x p1, .Starred (.Name y p2) p3] X.env).findIdx? (·.1) = some 1 := by rfl)
    (hm : (assignEach [.Name x p1, .Starred (.Name y p2) p3] X.env).map (·.2) = [assign (.Name x p1) X.env, assign (.Name y p2) X.env] := by rfl) : PG X (.Tuple [.Name x p1, .Starred (.Name y p2) p3] k pos) (gStar X.K i j) := by
  refine ⟨fun pins s σ H v u Q I r hw => ?_⟩
  obtain ⟨a, z, xs, e1, hq, hl, hw⟩ := hw
  subst e1
  cases r
  obtain ⟨its, rv, ht, hz⟩ := I.tuple (SqT.of hq)
  cases rv with
  | cons rz rr =>
    rename_i uz us
    have hlen := rr.length
    rw [assign_Tuple]
    refine wpAny_bind (wpAny_standAt ?_)
    unfold unpack
    rw [hn, hst]
    refine wpAny_bind (wpAny_holding (star_unpack ht (I.ok.hd hc) (by omega) fun h' tk hk => ?_))
    have I1 : Inv X pins σ H { s with heap := h', toks := tk } := I.kept (t' := tk) hk
    have hf0 : H h'.objs.size = none := I1.hok.fresh (Nat.le_refl _)
    have I2 : Inv X pins σ (upd H h'.objs.size (.lst xs)) { s with heap := h'.push { cls := .type "list", data := .seq us.toArray 0 }, toks := tk } :=
      I1.laid (t' := tk) (fun b u e => Heap.get?_push_of_some _ e) (Nat.le_refl _) ⟨by rw [sizeLine_eq]; omega, us, 0, rr, Heap.get?_push_size _ rfl⟩
    show wpAny _ _ (assignInOrder ((assignEach [.Name x p1, .Starred (.Name y p2) p3] X.env).map (·.2)) _) _ _ _
    rw [hm]
    refine assignInOrder_cons (wpAny_assign_Name (store_ok I2 hN hi hx rz (fun s2 I3 => ?_) hf))
    exact assignInOrder_cons (wpAny_assign_Name (store_ok (v := .ref h'.objs.size) I3 hN hj hy rfl (fun s3 I4 => assignInOrder_nil ⟨_, _, I4, hw _ hf0⟩) hg))
/-! ### in a tuple, items data of any depth -/
def rInDT (K : PySem.W.Frag) : R2 := fun x y H Q => ∃ d ds, Dp K H x d ∧ Dp K H y (.tuple ds) ∧ SeqAt.shaped d = true ∧ SeqAt.shaped (.tuple ds) = true ∧ Q (.bl (ds.any fun z => PyData.eqv z d)) H
theorem op_inDT (hu : X.A.units + 65 < cLine) : OpR X (compareOp .In) (rInDT X.K) := by
  intro pins s σ H x y v u Q I rx ry h
  obtain ⟨d, ds, hd, he, sd, se, q⟩ := h
  obtain ⟨as, r1⟩ := Dp.reads I d x v hd rx
  obtain ⟨bs, r2⟩ := Dp.reads I (.tuple ds) y u he ry
  exact SeqAt.in_tuple_reads r2 r1 (SeqAt.canLay_of_shaped se) (SeqAt.canLay_of_shaped sd) (room_in_shaped sd hu) ⟨.bl _, H, I, rfl, q⟩
end
end Wt
/-! Near forms, met forms. -/
namespace Wt
open PySem PySem.Spec PyProof.Rows L2 RZ
theorem r65 {k : Nat} {A : Around} (r : Room k A) : A.units + 65 < cLine := by have := r.un; omega
def Fm.word : Fm → Str
  | .any => "any"
  | .num => "num"
  | .text => "text"
  | .deed _ _ => "deed"
  | .box _ => "box"
def Fm.parts : Fm → List Fm
  | .deed a b => [a, b]
  | .box a => [a]
  | _ => []
theorem rpf_parts {H : Hp} {v : V} {f : Fm} (hv : RpF H v f) (hp : f.plain = false) : ∃ (a : Addr) (xs : List V), v = .ref a ∧ H a = some (.tup (.str f.word :: xs)) ∧ xs.length = f.parts.length ∧ ∀ (i : Nat) x g, xs[i]? = some x → f.parts[i]? = some g → RpF H x g := by
  cases f with
  | any => cases hp
  | num => cases hp
  | text => cases hp
  | deed b c =>
    obtain ⟨p, x, y, rfl, e, r1, r2⟩ := rpf_deed.mp hv
    refine ⟨p, [x, y], rfl, e, rfl, fun i z g h1 h2 => ?_⟩
    match i, h1, h2 with
    | 0, h1, h2 => cases h1; cases h2; exact r1
    | 1, h1, h2 => cases h1; cases h2; exact r2
    | _ + 2, h1, _ => cases h1
  | box b =>
    obtain ⟨p, x, rfl, e, r1⟩ := rpf_box.mp hv
    refine ⟨p, [x], rfl, e, rfl, fun i z g h1 h2 => ?_⟩
    match i, h1, h2 with
    | 0, h1, h2 => cases h1; cases h2; exact r1
    | _ + 1, h1, _ => cases h1
theorem rpf_of {H : Hp} {a : Addr} {zs : List V} {f : Fm} (hp : f.plain = false) (e : H a = some (.tup (.str f.word :: zs))) (hl : zs.length = f.parts.length) (hz : ∀ (i : Nat) z g, zs[i]? = some z → f.parts[i]? = some g → RpF H z g) : RpF H (.ref a) f := by
  cases f with
  | any => cases hp
  | num => cases hp
  | text => cases hp
  | deed b c =>
    match zs, hl with
    | [x, y], _ => exact rpf_deed.mpr ⟨a, x, y, rfl, e, hz 0 x b rfl rfl, hz 1 y c rfl rfl⟩
  | box b =>
    match zs, hl with
    | [x], _ => exact rpf_box.mpr ⟨a, x, rfl, e, hz 0 x b rfl rfl⟩
theorem rpf_plain {H : Hp} {v : V} {f : Fm} (hv : RpF H v f) (hp : f.plain = true) : v = .str f.word := by
  cases f with
  | any => exact rp_str.mp hv
  | num => exact rp_str.mp hv
  | text => exact rp_str.mp hv
  | deed b c => cases hp
  | box b => cases hp
theorem parts_ht {f g : Fm} {i : Nat} (h : f.parts[i]? = some g) : g.ht + 1 ≤ f.ht := by
  cases f with
  | deed b c =>
    match i, h with
    | 0, h => cases h; simp only [Fm.ht]; omega
    | 1, h => cases h; simp only [Fm.ht]; omega
    | _ + 2, h => cases h
  | box b =>
    match i, h with
    | 0, h => cases h; simp only [Fm.ht]; omega
    | _ + 1, h => cases h
  | _ => cases h
theorem parts_len {f : Fm} (hp : f.plain = false) : 1 ≤ f.parts.length ∧ f.parts.length ≤ 2 := by
  cases f with
  | deed b c => exact ⟨by simp [Fm.parts], by simp [Fm.parts]⟩
  | box b => exact ⟨by simp [Fm.parts], by simp [Fm.parts]⟩
  | _ => cases hp
theorem same_len {f g : Fm} (hf : f.plain = false) (hg : g.plain = false) (h : f.word = g.word) : g.parts.length = f.parts.length := by
  cases f <;> cases g <;> first | exact Bool.noConfusion hf | exact Bool.noConfusion hg | rfl | exact absurd (show ("deed" : Str) = "box" from h) (by decide) | exact absurd (show ("box" : Str) = "deed" from h) (by decide)
theorem near_rec {f g : Fm} (hf : f.plain = false) (hg : g.plain = false) (h : f.word = g.word) : Fm.near f g = (List.zipWith Fm.near f.parts g.parts).all id := by
  cases f <;> cases g <;> first | exact Bool.noConfusion hf | exact Bool.noConfusion hg | exact absurd (show ("deed" : Str) = "box" from h) (by decide) | exact absurd (show ("box" : Str) = "deed" from h) (by decide) | simp [Fm.near, Fm.parts]
theorem near_no {f g : Fm} (h : f.word ≠ g.word) (hf : f ≠ .any) (hg : g ≠ .any) : Fm.near f g = false := by
  cases f <;> cases g <;> first | exact absurd rfl hf | exact absurd rfl hg | exact absurd rfl h | rfl
theorem near_plain {f g : Fm} (h : f.plain = true ∨ g.plain = true) (hf : f ≠ .any) (hg : g ≠ .any) : Fm.near f g = decide (f = g) := by
  cases f <;> cases g <;> first | exact absurd rfl hf | exact absurd rfl hg | (rcases h with h | h <;> exact Bool.noConfusion h) | simp [Fm.near]
theorem met_parts {f g : Fm} (hf : f.plain = false) (hg : g.plain = false) (h : f.word = g.word) : (Fm.met f g).plain = false ∧ (Fm.met f g).word = f.word ∧ (Fm.met f g).parts = List.zipWith Fm.met f.parts g.parts := by
  cases f <;> cases g <;> first | exact Bool.noConfusion hf | exact Bool.noConfusion hg | exact absurd (show ("deed" : Str) = "box" from h) (by decide) | exact absurd (show ("box" : Str) = "deed" from h) (by decide) | exact ⟨rfl, rfl, rfl⟩
theorem met_plain {f g : Fm} (h : f.plain = true) (hf : f ≠ .any) : Fm.met f g = f := by
  cases f <;> cases g <;> first | exact absurd rfl hf | rfl | exact Bool.noConfusion h
theorem Fm.any_d (f : Fm) : PyData.eqv f.d (.str "any") = decide (f = .any) := Fm.eqv_d f .any
theorem shaped_any : SeqAt.shaped (.str "any") = true := Fm.shaped (f := .any) (by decide)
theorem shaped_pair {f g : Fm} (hf : f.ht ≤ 60) (hg : g.ht ≤ 60) : SeqAt.shaped (.tuple [f.d, g.d]) = true := by
  have h1 := Fm.canLay f
  have h2 := Fm.canLay g
  have h3 := Fm.depth_d f
  have h4 := Fm.depth_d g
  unfold SeqAt.shaped
  simp only [PyData.canLay0, PyData.canLayAll0, PyData.depth, PyData.depthAll, h1, h2, h3, h4, Bool.true_and, Bool.and_true]
  exact decide_eq_true (by omega)
theorem any_pair (f g : Fm) : ([f.d, g.d].any fun z => PyData.eqv z (.str "any")) = (decide (f = .any) || decide (g = .any)) := by
  simp only [List.any_cons, List.any_nil, Bool.or_false, Fm.any_d]
theorem sz1 : 1 ≤ sizeLine := by decide
theorem sz2 : 2 ≤ sizeLine := by decide
theorem sz3 : 3 ≤ sizeLine := by decide
theorem sz4 : 4 ≤ sizeLine := by decide
theorem sz5 : 5 ≤ sizeLine := by decide
theorem decide_str (x y : Str) : decide (V.str x = V.str y) = decide (x = y) := by
  by_cases h : x = y
  · rw [decide_eq_true h, h]; simp
  · rw [decide_eq_false h, decide_eq_false (fun e => h (V.str.inj e))]
theorem atN {xs : List V} {j : Nat} {x : V} (h : xs[j]? = some x) : atI xs (j : Nat) = some x := by
  obtain ⟨hj, _⟩ := List.getElem?_eq_some_iff.mp h
  unfold atI ixN
  rw [if_pos (by omega), if_pos (by omega)]
  exact h
theorem atM {xs : List V} {j : Nat} {x : V} (h0 : 0 < j) (hj : j ≤ xs.length) (h : xs[xs.length - j]? = some x) : atI xs (-(j : Int)) = some x := by
  unfold atI ixN
  rw [if_neg (by omega), if_pos (by omega)]
  have e : (-(j : Int) + (xs.length : Nat)).toNat = xs.length - j := by omega
  first
    | (show xs[(-(j : Int) + (xs.length : Nat)).toNat]? = some x; rw [e]; exact h)
    | (show xs[((xs.length : Int) + -(j : Int)).toNat]? = some x; rw [Int.add_comm, e]; exact h)
theorem at0 {x : V} {xs : List V} : atI (x :: xs) 0 = some x := atN (j := 0) rfl
theorem at1 {x y : V} {xs : List V} : atI (x :: y :: xs) 1 = some y := atN (j := 1) rfl
theorem at2 {x y z : V} {xs : List V} : atI (x :: y :: z :: xs) 2 = some z := atN (j := 2) rfl
theorem at3 {x y z u : V} {xs : List V} : atI (x :: y :: z :: u :: xs) 3 = some u := atN (j := 3) rfl
theorem get_of {α β : Type} {xs : List α} {ys : List β} {i : Nat} {x : α} (h : xs[i]? = some x) (hl : xs.length = ys.length) : ∃ y, ys[i]? = some y := by
  obtain ⟨hi, _⟩ := List.getElem?_eq_some_iff.mp h
  exact ⟨ys[i]'(by omega), List.getElem?_eq_getElem (by omega)⟩
theorem cutV_whole {xs : List V} {lo hi : Option Int} (h1 : HT.sIx xs.length 0 lo = 0) (h2 : HT.sIx xs.length xs.length hi = xs.length) : cutV xs lo hi = xs := by
  unfold cutV
  rw [h1, h2]
  simp
theorem sl_use {K : PySem.W.Frag} {H : Hp} {a : Addr} {xs ys : List V} {lo hi : Option Int} {Q : VK} (e : H a = some (.tup xs)) (hc : cutV xs lo hi = ys) (k : ∀ p H', Same H H' → H' p = some (.tup ys) → Q (.ref p) H') : rSlA K (.ref a) lo hi H Q := by
  refine ⟨a, xs, rfl, SqT.of e, fun z => ?_, fun _ p hp => ?_⟩
  · rw [cutV_whole z.1 z.2] at hc
    exact k a H (Same.refl _) (hc ▸ e)
  · rw [hc]
    exact k p _ (same_new hp _) upd_same
theorem cat_use {K : PySem.W.Frag} {H : Hp} {a b : Addr} {xs ys : List V} {Q : VK} (e1 : H a = some (.tup xs)) (e2 : H b = some (.tup ys)) (hl : xs.length + ys.length ≤ 1000) (k : ∀ p H', Same H H' → H' p = some (.tup (xs ++ ys)) → Q (.ref p) H') : rCatA K (.ref a) (.ref b) H Q := by
  refine ⟨a, b, xs, ys, rfl, rfl, SqT.of e1, SqT.of e2, by rw [sizeLine_eq]; omega, fun h => ?_, fun _ h => ?_, fun _ _ p hp => k p _ (same_new hp _) upd_same⟩
  · subst h
    exact k b H (Same.refl _) e2
  · subst h
    exact k a H (Same.refl _) (by rw [List.append_nil]; exact e1)
theorem cutF {x : V} {xs : List V} : cutV (x :: xs) none (some 1) = [x] := by
  unfold cutV
  have h2 : HT.sIx (x :: xs).length (x :: xs).length (some 1) = 1 := by simp [HT.sIx]
  rw [h2]
  simp [HT.sIx]
def spNear (n : Nat) : Sp := fun vs H Q _ => ∃ u v f g, vs = [u, v] ∧ RpF H u f ∧ RpF H v g ∧ f.ht < n ∧ f.ht ≤ 60 ∧ g.ht ≤ 60 ∧ ∀ H', Same H H' → Q (.bl (Fm.near f g)) H'
section
variable {P : Program} {w : World} {K : PySem.W.Frag} {mg : Str → Option Value} {base : Heap}
theorem sc_law_is_near : FnScope ["_law_left", "_law_right", "_law_part", "_law_beside"] ["_law_left", "_law_right"] (defScope s_law_is_near) := ⟨rfl, rfl, rfl, by decide +kernel, rfl, by decide +kernel, by decide +kernel⟩
theorem sc_near_forms : FnScope ["one", "other", "part", "beside"] ["one", "other"] (defScope s_near_forms) := ⟨rfl, rfl, rfl, by decide +kernel, rfl, by decide +kernel, by decide +kernel⟩
theorem ok__law_is_near (T : Facts w K mg) : ∀ n, Cl P w K mg base CX0 n "_law_is_near" (spNear n)
  | 0 => by
    obtain ⟨fd, F⟩ := T.f_law_is_near
    exact cl_zero T.g_law_is_near F.kp (F.bindsN (ps := ["_law_left", "_law_right"]) fun _ _ _ _ _ _ us hl => match us, hl with | [_, _], _ => rfl) fun vs H Q E ⟨u, v, f, g, _, _, _, h, _⟩ => absurd h (Nat.not_lt_zero _)
  | n + 1 => by
    have c_law_is_near := ok__law_is_near T n
    obtain ⟨fd, F⟩ := T.f_law_is_near
    refine ⟨_, fd, ["_law_left", "_law_right"], T.g_law_is_near, ?_, F.kp, F.bindsN fun _ _ _ _ _ _ us hl => match us, hl with | [_, _], _ => rfl⟩
    refine F.ok sc_law_is_near (fun vs H Q E h => ?_) (fun cdv A outer s H vs Q E hr h => ?_)
    · obtain ⟨u, v, f, g, rfl, _⟩ := h
      rfl
    obtain ⟨u, v, f, g, rfl, hu1, hv1, hf, hf6, hg6, q⟩ := h
    have hu64 := hr.units
    have hu65 := r65 hr
    refine ⟨_, PSs.nox (pss_cons (ps_if (PW.pt (pw_or (pt_cmpR (op_inDT hu65) pe_str (pe_tup (pa_cons (pv 0) (pa_cons (pv 1) pa_nil))) (by rfl)) (pw_or1 (pt_cmpR (op_eqD hu64) (pv 0) (pv 1) (nomark _))))) (pss_one (ps_ret pe_bl)) pss_nil)
    (pss_cons (ps_if (PW.pt (pw_or (pt_val (pe_callB call_isB (by rfl) T.z_isinstance (by decide +kernel) (pa_cons (pv 0) (pa_cons (pe_bltn (v := .ty "str") (by rfl) T.z_str (by decide +kernel) rfl) pa_nil)))) (pw_or (pt_val (pe_callB call_isB (by rfl) T.z_isinstance (by decide +kernel) (pa_cons (pv 1) (pa_cons (pe_bltn (v := .ty "str") (by rfl) T.z_str (by decide +kernel) rfl) pa_nil)))) (pw_or1 (pt_cmpR op_ne (pe_ix ix_tup (pv 0) pe_int (fun _ _ => rfl)) (pe_ix ix_tup (pv 1) pe_int (fun _ _ => rfl)) (nomark _)))))) (pss_one (ps_ret pe_bl)) pss_nil)
    (pss_one (ps_ret (pe_callB (cr_all rfl) (by rfl) T.z_all (by decide +kernel) (pa_cons (pe_lc (own := [("_law_part", 2), ("_law_beside", 3)]) (g := (gTup K 2 (gCons (gName 2) (gCons (gName 3) gNil)))) (tt := tYes) rfl sc_law_is_near.nd (pi_zipA (by rfl) T.z_zip (pa_cons (pe_slice sl_tupA (pv 0) (po_some pe_int) po_none) (pa_cons (pe_slice sl_tupA (pv 1) (po_some pe_int) po_none) pa_nil))) (blkOk_by (own := [("_law_part", 2), ("_law_beside", 3)]) (N := ["_law_left", "_law_right", "_law_part", "_law_beside"]) (sc := defScope s_law_is_near) (by decide +kernel)) (fun _ _ _ _ _ => (pg_tup (by rfl) (pgs_cons (pg_name (i := 2) sc_law_is_near.nd rfl (Or.inl rfl)) (pgs_cons (pg_name (i := 3) sc_law_is_near.nd rfl (Or.inl rfl)) pgs_nil)))) (fun _ _ _ _ _ => pts_nil) (fun _ _ _ _ _ => (pe_cl c_law_is_near hr (by omega) pass0 (pa_cons (pv 2) (pa_cons (pv 3) pa_nil))))) pa_nil)))))), ?_⟩
    refine ⟨_, rfl, _, rfl, sz2, fun p hp => ?_⟩
    have s1 := same_new hp (.tup [u, v])
    have ru := hu1.mono s1.tk
    have rv := hv1.mono s1.tk
    refine ⟨.str "any", [f.d, g.d], .str _, Rp.dp (.tup upd_same (.cons ru (.cons rv .nil))), shaped_any, shaped_pair hf6 hg6, _, rfl, ?_⟩
    rw [any_pair]
    by_cases ha : f = .any ∨ g = .any
    · rw [show (decide (f = .any) || decide (g = .any)) = true by simpa using ha]
      refine iteT (iteT ?_)
      have e : Fm.near f g = true := by
        rcases ha with rfl | rfl
        · exact Fm.any_near _
        · exact Fm.near_any _
      rw [e] at q
      exact q _ s1
    have hfa : f ≠ .any := fun e => ha (.inl e)
    have hga : g ≠ .any := fun e => ha (.inr e)
    rw [show (decide (f = .any) || decide (g = .any)) = false by simpa using ha]
    refine iteF ⟨_, rfl, _, rfl, f.d, g.d, ru.dp, rv.dp, Fm.shaped (by omega), Fm.shaped (by omega), _, rfl, ?_⟩
    rw [Fm.eqv_d]
    by_cases he : f = g
    · subst he
      rw [decide_eq_true rfl]
      refine iteT ?_
      rw [Fm.near_refl] at q
      exact q _ s1
    rw [decide_eq_false he]
    refine iteF ?_
    cases hpf : f.plain with
    | true =>
      obtain rfl := rpf_plain ru hpf
      refine ⟨_, rfl, _, _, true, rfl, .ss _, _, rfl, iteT (iteT ?_)⟩
      rw [near_plain (.inl hpf) hfa hga, decide_eq_false he] at q
      exact q _ s1
    | false =>
    obtain ⟨a, xs, rfl, e, hl, hi⟩ := rpf_parts ru hpf
    refine ⟨_, rfl, _, _, false, rfl, .ts e, _, rfl, iteF ?_⟩
    cases hpg : g.plain with
    | true =>
      obtain rfl := rpf_plain rv hpg
      refine ⟨_, rfl, _, _, true, rfl, .ss _, _, rfl, iteT (iteT ?_)⟩
      rw [near_plain (.inr hpg) hfa hga, decide_eq_false he] at q
      exact q _ s1
    | false =>
    obtain ⟨b, ys, rfl, e', hl', hi'⟩ := rpf_parts rv hpg
    refine ⟨_, rfl, _, _, false, rfl, .ts e', _, rfl, iteF ?_⟩
    refine ⟨_, rfl, a, _, 0, .str f.word, rfl, rfl, SqT.of e, at0, _, rfl, b, _, 0, .str g.word, rfl, rfl, SqT.of e', at0, rfl, _, rfl, ?_⟩
    rw [decide_str]
    by_cases hw : f.word = g.word
    · rw [decide_eq_true hw]
      refine iteF ?_
      refine ⟨_, rfl, _, rfl, a, _, rfl, SqT.of e, fun z => absurd z.1 sIx1, fun _ p1 hp1 => ?_⟩
      rw [cut1]
      have s2 := same_new hp1 (.tup xs)
      refine ⟨_, rfl, _, rfl, b, _, rfl, SqT.of (s2 _ _ e'), fun z => absurd z.1 sIx1, fun _ p2 hp2 => ?_⟩
      rw [cut1]
      have s3 := same_new hp2 (.tup ys)
      refine ⟨p1, p2, xs, ys, rfl, .inr ⟨SqT.of (s3 _ _ upd_same), SqT.of upd_same, fun D hD => ?_⟩⟩
      have hll : ys.length = xs.length := by rw [hl', hl, same_len hpf hpg hw]
      have hln := parts_len hpf
      refine lc_zipT_same (ys := (List.zipWith Fm.near f.parts g.parts).map V.bl) hD (SqT.of (s3 _ _ upd_same)) (SqT.of upd_same) hll (by rw [List.length_map, List.length_zipWith, same_len hpf hpg hw, hl]; omega) (by omega) (fun i x y z Tp H' Nx hx hy hz hs hTp k => ?_) (fun H' hs hD' => ?_)
      · obtain ⟨fi, hfi⟩ := get_of hx hl
        obtain ⟨gi, hgi⟩ := get_of hy hl'
        have ez : z = .bl (Fm.near fi gi) := by
          rw [List.getElem?_map, List.getElem?_zipWith, hfi, hgi] at hz
          cases hz
          rfl
        subst ez
        have t4 := (s2.trans (s3.trans hs)).tk
        have := parts_ht hfi
        have := parts_ht hgi
        refine ⟨Tp, [x, y], rfl, SqT.of hTp, rfl, x, [y], rfl, y, [], rfl, rfl, rfl, _, rfl, _, rfl, x, y, fi, gi, rfl, (hi i x fi hx hfi).mono t4, (hi' i y gi hy hgi).mono t4, by omega, by omega, by omega, fun H3 h3 => k H3 h3⟩
      · refine ⟨D, List.zipWith Fm.near f.parts g.parts, rfl, SqL.of hD', ?_⟩
        rw [← near_rec hpf hpg hw]
        exact q H' (s1.trans (s2.trans (s3.trans hs)))
    · rw [decide_eq_false hw]
      refine iteT ?_
      rw [near_no hw hfa hga] at q
      exact q _ s1
theorem ok_near_forms (T : Facts w K mg) : ∀ n, Cl P w K mg base CX0 n "near_forms" (spNear n)
  | 0 => by
    obtain ⟨fd, F⟩ := T.f_near_forms
    exact cl_zero T.g_near_forms F.kp (F.bindsN (ps := ["one", "other"]) fun _ _ _ _ _ _ us hl => match us, hl with | [_, _], _ => rfl) fun vs H Q E ⟨u, v, f, g, _, _, _, h, _⟩ => absurd h (Nat.not_lt_zero _)
  | n + 1 => by
    have c_near_forms := ok_near_forms T n
    obtain ⟨fd, F⟩ := T.f_near_forms
    refine ⟨_, fd, ["one", "other"], T.g_near_forms, ?_, F.kp, F.bindsN fun _ _ _ _ _ _ us hl => match us, hl with | [_, _], _ => rfl⟩
    refine F.ok sc_near_forms (fun vs H Q E h => ?_) (fun cdv A outer s H vs Q E hr h => ?_)
    · obtain ⟨u, v, f, g, rfl, _⟩ := h
      rfl
    obtain ⟨u, v, f, g, rfl, hu1, hv1, hf, hf6, hg6, q⟩ := h
    have hu64 := hr.units
    have hu65 := r65 hr
    refine ⟨_, PSs.nox (pss_cons (ps_if (pt_cmpR (op_inDT hu65) (pe_glob (v := .str "any") rfl T.c_ANY_forms.choose_spec ⟨_, rfl⟩) (pe_tup (pa_cons (pv 0) (pa_cons (pv 1) pa_nil))) (by rfl)) (pss_one (ps_ret pe_bl)) pss_nil)
    (pss_cons (ps_if (PW.pt (pw_or (pt_val (pe_callB call_isB (by rfl) T.z_isinstance (by decide +kernel) (pa_cons (pv 0) (pa_cons (pe_bltn (v := .ty "str") (by rfl) T.z_str (by decide +kernel) rfl) pa_nil)))) (pw_or (pt_val (pe_callB call_isB (by rfl) T.z_isinstance (by decide +kernel) (pa_cons (pv 1) (pa_cons (pe_bltn (v := .ty "str") (by rfl) T.z_str (by decide +kernel) rfl) pa_nil)))) (pw_or1 (pt_cmpR op_ne (pe_ix ix_tup (pv 0) pe_int (fun _ _ => rfl)) (pe_ix ix_tup (pv 1) pe_int (fun _ _ => rfl)) (nomark _)))))) (pss_one (ps_ret (pe_cmpR (op_eqD hu64) (pv 0) (pv 1) (nomark _)))) pss_nil)
    (pss_one (ps_ret (pe_callB (cr_all rfl) (by rfl) T.z_all (by decide +kernel) (pa_cons (pe_lc (own := [("part", 2), ("beside", 3)]) (g := (gTup K 2 (gCons (gName 2) (gCons (gName 3) gNil)))) (tt := tYes) rfl sc_near_forms.nd (pi_zipS (by rfl) T.z_zip (pa_cons (pe_slice sl_tupA (pv 0) (po_some pe_int) po_none) (pa_cons (pe_slice sl_tupA (pv 1) (po_some pe_int) po_none) pa_nil)) (pk_cons pe_bl pk_nil)) (blkOk_by (own := [("part", 2), ("beside", 3)]) (N := ["one", "other", "part", "beside"]) (sc := defScope s_near_forms) (by decide +kernel)) (fun _ _ _ _ _ => (pg_tup (by rfl) (pgs_cons (pg_name (i := 2) sc_near_forms.nd rfl (Or.inl rfl)) (pgs_cons (pg_name (i := 3) sc_near_forms.nd rfl (Or.inl rfl)) pgs_nil)))) (fun _ _ _ _ _ => pts_nil) (fun _ _ _ _ _ => (pe_cl c_near_forms hr (by omega) pass0 (pa_cons (pv 2) (pa_cons (pv 3) pa_nil))))) pa_nil)))))), ?_⟩
    refine ⟨_, rfl, _, rfl, sz2, fun p hp => ?_⟩
    have s1 := same_new hp (.tup [u, v])
    have ru := hu1.mono s1.tk
    have rv := hv1.mono s1.tk
    refine ⟨.str "any", [f.d, g.d], .str _, Rp.dp (.tup upd_same (.cons ru (.cons rv .nil))), shaped_any, shaped_pair hf6 hg6, _, rfl, ?_⟩
    rw [any_pair]
    by_cases ha : f = .any ∨ g = .any
    · rw [show (decide (f = .any) || decide (g = .any)) = true by simpa using ha]
      refine iteT ?_
      have e : Fm.near f g = true := by
        rcases ha with rfl | rfl
        · exact Fm.any_near _
        · exact Fm.near_any _
      rw [e] at q
      exact q _ s1
    have hfa : f ≠ .any := fun e => ha (.inl e)
    have hga : g ≠ .any := fun e => ha (.inr e)
    rw [show (decide (f = .any) || decide (g = .any)) = false by simpa using ha]
    refine iteF ?_
    cases hpf : f.plain with
    | true =>
      obtain rfl := rpf_plain ru hpf
      refine ⟨_, rfl, _, _, true, rfl, .ss _, _, rfl, iteT (iteT ?_)⟩
      refine ⟨_, rfl, _, rfl, f.d, g.d, ru.dp, rv.dp, Fm.shaped (by omega), Fm.shaped (by omega), ?_⟩
      rw [Fm.eqv_d]
      rw [near_plain (.inl hpf) hfa hga] at q
      exact q _ s1
    | false =>
    obtain ⟨a, xs, rfl, e, hl, hi⟩ := rpf_parts ru hpf
    refine ⟨_, rfl, _, _, false, rfl, .ts e, _, rfl, iteF ?_⟩
    cases hpg : g.plain with
    | true =>
      obtain rfl := rpf_plain rv hpg
      refine ⟨_, rfl, _, _, true, rfl, .ss _, _, rfl, iteT (iteT ?_)⟩
      refine ⟨_, rfl, _, rfl, f.d, g.d, ru.dp, rv.dp, Fm.shaped (by omega), Fm.shaped (by omega), ?_⟩
      rw [Fm.eqv_d]
      rw [near_plain (.inr hpg) hfa hga] at q
      exact q _ s1
    | false =>
    obtain ⟨b, ys, rfl, e', hl', hi'⟩ := rpf_parts rv hpg
    refine ⟨_, rfl, _, _, false, rfl, .ts e', _, rfl, iteF ?_⟩
    refine ⟨_, rfl, a, _, 0, .str f.word, rfl, rfl, SqT.of e, at0, _, rfl, b, _, 0, .str g.word, rfl, rfl, SqT.of e', at0, rfl, _, rfl, ?_⟩
    rw [decide_str]
    by_cases hw : f.word = g.word
    · rw [decide_eq_true hw]
      refine iteF ?_
      refine ⟨_, rfl, _, rfl, a, _, rfl, SqT.of e, fun z => absurd z.1 sIx1, fun _ p1 hp1 => ?_⟩
      rw [cut1]
      have s2 := same_new hp1 (.tup xs)
      refine ⟨_, rfl, _, rfl, b, _, rfl, SqT.of (s2 _ _ e'), fun z => absurd z.1 sIx1, fun _ p2 hp2 => ?_⟩
      rw [cut1]
      have s3 := same_new hp2 (.tup ys)
      refine ⟨p1, p2, xs, ys, rfl, rfl, SqT.of (s3 _ _ upd_same), SqT.of upd_same, fun D hD => ?_⟩
      have hll : ys.length = xs.length := by rw [hl', hl, same_len hpf hpg hw]
      have hln := parts_len hpf
      refine lc_zipS_same (ys := (List.zipWith Fm.near f.parts g.parts).map V.bl) hD (SqT.of (s3 _ _ upd_same)) (SqT.of upd_same) hll (by rw [List.length_map, List.length_zipWith, same_len hpf hpg hw, hl]; omega) (by omega) (fun i x y z Tp H' Nx hx hy hz hs hTp k => ?_) (fun H' hs hD' => ?_)
      · obtain ⟨fi, hfi⟩ := get_of hx hl
        obtain ⟨gi, hgi⟩ := get_of hy hl'
        have ez : z = .bl (Fm.near fi gi) := by
          rw [List.getElem?_map, List.getElem?_zipWith, hfi, hgi] at hz
          cases hz
          rfl
        subst ez
        have t4 := (s2.trans (s3.trans hs)).tk
        have := parts_ht hfi
        have := parts_ht hgi
        refine ⟨Tp, [x, y], rfl, SqT.of hTp, rfl, x, [y], rfl, y, [], rfl, rfl, rfl, _, rfl, _, rfl, x, y, fi, gi, rfl, (hi i x fi hx hfi).mono t4, (hi' i y gi hy hgi).mono t4, by omega, by omega, by omega, fun H3 h3 => k H3 h3⟩
      · refine ⟨D, List.zipWith Fm.near f.parts g.parts, rfl, SqL.of hD', ?_⟩
        rw [← near_rec hpf hpg hw]
        exact q H' (s1.trans (s2.trans (s3.trans hs)))
    · rw [decide_eq_false hw]
      refine iteT ?_
      refine ⟨_, rfl, _, rfl, f.d, g.d, ru.dp, rv.dp, Fm.shaped (by omega), Fm.shaped (by omega), ?_⟩
      rw [Fm.eqv_d]
      rw [near_no hw hfa hga] at q
      rw [decide_eq_false (fun e => hw (congrArg Fm.word e))]
      exact q _ s1
end
end Wt
namespace Wt
open PySem PySem.Spec PyProof.Rows L2 RZ
theorem near_word {f g : Fm} (h : Fm.near f g = true) (hf : f.plain = false) (hg : g.plain = false) : f.word = g.word := by
  cases f <;> cases g <;> first | exact Bool.noConfusion hf | exact Bool.noConfusion hg | rfl | exact Bool.noConfusion h
theorem near_part {f g : Fm} (h : Fm.near f g = true) (hf : f.plain = false) (hg : g.plain = false) {i : Nat} {a b : Fm} (ha : f.parts[i]? = some a) (hb : g.parts[i]? = some b) : Fm.near a b = true := by
  rw [near_rec hf hg (near_word h hf hg), List.all_eq_true] at h
  refine h _ (List.mem_iff_getElem?.mpr ⟨i, ?_⟩)
  rw [List.getElem?_zipWith, ha, hb]
theorem near_np {f g : Fm} (h : Fm.near f g = true) (hf : f.plain = false) (hg : g ≠ .any) : g.plain = false := by
  cases f <;> cases g <;> first | rfl | exact Bool.noConfusion hf | exact absurd rfl hg | exact Bool.noConfusion h
theorem sl_lo {K : PySem.W.Frag} {H : Hp} {a : Addr} {xs ys : List V} {lo : Option Int} {Q : VK} {σ : L2.St} (e : H a = some (.tup xs)) (hc : cutV xs lo none = ys) (k : ∀ p H', Same H H' → H' p = some (.tup ys) → Q (.ref p) H') : tNoPart σ H fun u H3 => rSlA K (.ref a) lo u H3 Q := sl_use e hc k
theorem lc_zipS_rel {K : PySem.W.Frag} {a b : Addr} {xs us : List V} {g : TG} {te : TE} {vs : List Nat} {σ : L2.St} {H1 : Hp} {D : Addr} {Qd : Hp → Prop} (R : Nat → V → Hp → Prop) (hR : ∀ i y H H', Tk H H' → R i y H → R i y H') (hD : H1 D = none) (hT : SqT K H1 a xs) (hU : SqT K H1 b us) (hl : us.length = xs.length) (hz : xs.length ≤ 1000)
    (hs : ∀ (i : Nat) x u T H' (Nx : VK), xs[i]? = some x → us[i]? = some u → Same H1 H' → H' T = some (.tup [x, u]) → (∀ y H3, Same H' H3 → R i y H3 → Nx y H3) → g (.ref T) (wipe σ vs) H' fun σ2 H2 => wipe σ2 vs = wipe σ vs ∧ te σ2 H2 Nx)
    (hd : ∀ H' ys, Same H1 H' → H' D = some (.lst ys) → ys.length = xs.length → (∀ (j : Nat) y, ys[j]? = some y → R j y H') → Qd H') :
    ∃ W : Nat → Nat → Hp → Prop, (∃ m, W 0 m (upd H1 D (.lst []))) ∧ ∀ i m H, W i m H →
      ((ItzS K a b).stop i H ∧ Qd H) ∨ ((ItzS K a b).go i H ∧ ∃ Nx : Hp → Prop, (∀ H', Nx H' → ∃ m', m' < m ∧ W (i + 1) m' H') ∧ ∀ x H', (ItzS K a b).yld i H x H' → g x (wipe σ vs) H' fun σ2 H2 => wipe σ2 vs = wipe σ vs ∧ tYes σ2 H2 fun b H3 =>
        if b = true then te σ2 H3 fun y H4 => ∃ acc, H4 D = some (.lst acc) ∧ acc.length < sizeLine ∧ Nx (upd H4 D (.lst (acc ++ [y]))) else Nx H3) :=
  lc_rel rel_same (J := ItzS K a b) (n := xs.length) R hR hD (Same.refl _) hz (fun H' s => ⟨xs, us, s.sqT hT, s.sqT hU, rfl, hl⟩)
    (fun i H' hi s => ⟨xs, us, xs[i], us[i], s.sqT hT, s.sqT hU, hl.symm, List.getElem?_eq_getElem hi, List.getElem?_eq_getElem (by omega)⟩)
    (fun i x H' H'' _ yl => by
      obtain ⟨T, x', u', _, hTn, rfl, _⟩ := yl
      exact same_new hTn _)
    (fun i x H' H'' Nx hi s yl k => by
      obtain ⟨T, x', u', rfl, hTn, rfl, f1, f2⟩ := yl
      exact hs i x' u' T _ Nx (f1 xs (s.sqT hT)) (f2 us (s.sqT hU)) (s.trans (same_new hTn _)) upd_same k) hd
def spMet (n : Nat) : Sp := fun vs H Q _ => ∃ u v f g, vs = [u, v] ∧ RpF H u f ∧ RpF H v g ∧ Fm.near f g = true ∧ f.ht < n ∧ f.ht ≤ 60 ∧ g.ht ≤ 60 ∧ ∀ H' x, Same H H' → RpF H' x (Fm.met f g) → Q x H'
section
variable {P : Program} {w : World} {K : PySem.W.Frag} {mg : Str → Option Value} {base : Heap}
theorem sc_law_joint : FnScope ["_law_left", "_law_right", "_law_part", "_law_beside"] ["_law_left", "_law_right"] (defScope s_law_joint) := ⟨rfl, rfl, rfl, by decide +kernel, rfl, by decide +kernel, by decide +kernel⟩
theorem sc_met_forms : FnScope ["one", "other", "part", "beside"] ["one", "other"] (defScope s_met_forms) := ⟨rfl, rfl, rfl, by decide +kernel, rfl, by decide +kernel, by decide +kernel⟩
theorem ok__law_joint (T : Facts w K mg) : ∀ n, Cl P w K mg base CX0 n "_law_joint" (spMet n)
  | 0 => by
    obtain ⟨fd, F⟩ := T.f_law_joint
    exact cl_zero T.g_law_joint F.kp (F.bindsN (ps := ["_law_left", "_law_right"]) fun _ _ _ _ _ _ us hl => match us, hl with | [_, _], _ => rfl) fun vs H Q E ⟨u, v, f, g, _, _, _, _, h, _⟩ => absurd h (Nat.not_lt_zero _)
  | n + 1 => by
    have c_law_joint := ok__law_joint T n
    obtain ⟨fd, F⟩ := T.f_law_joint
    refine ⟨_, fd, ["_law_left", "_law_right"], T.g_law_joint, ?_, F.kp, F.bindsN fun _ _ _ _ _ _ us hl => match us, hl with | [_, _], _ => rfl⟩
    refine F.ok sc_law_joint (fun vs H Q E h => ?_) (fun cdv A outer s H vs Q E hr h => ?_)
    · obtain ⟨u, v, f, g, rfl, _⟩ := h
      rfl
    obtain ⟨u, v, f, g, rfl, ru, rv, hnr, hf, hf6, hg6, q⟩ := h
    have hu64 := hr.units
    refine ⟨_, PSs.nox (pss_cons (ps_if (pt_cmpR (op_eqD hu64) (pv 0) pe_str (nomark _)) (pss_one (ps_ret (pv 1))) pss_nil)
    (pss_cons (ps_if (PW.pt (pw_or (pt_cmpR (op_eqD hu64) (pv 1) pe_str (nomark _)) (pw_or1 (pt_val (pe_callB call_isB (by rfl) T.z_isinstance (by decide +kernel) (pa_cons (pv 0) (pa_cons (pe_bltn (v := .ty "str") (by rfl) T.z_str (by decide +kernel) rfl) pa_nil))))))) (pss_one (ps_ret (pv 0))) pss_nil)
    (pss_one (ps_ret (pe_op op_catA (pe_slice sl_tupA (pv 0) po_none (po_some pe_int)) (pe_callTy call_tuple_of (by rfl) T.z_tuple (by decide +kernel) (pa_cons (pe_lc (own := [("_law_part", 2), ("_law_beside", 3)]) (g := (gTup K 2 (gCons (gName 2) (gCons (gName 3) gNil)))) (tt := tYes) rfl sc_law_joint.nd (pi_zipA (by rfl) T.z_zip (pa_cons (pe_slice sl_tupA (pv 0) (po_some pe_int) po_none) (pa_cons (pe_slice sl_tupA (pv 1) (po_some pe_int) po_none) pa_nil))) (blkOk_by (own := [("_law_part", 2), ("_law_beside", 3)]) (N := ["_law_left", "_law_right", "_law_part", "_law_beside"]) (sc := defScope s_law_joint) (by decide +kernel)) (fun _ _ _ _ _ => (pg_tup (by rfl) (pgs_cons (pg_name (i := 2) sc_law_joint.nd rfl (Or.inl rfl)) (pgs_cons (pg_name (i := 3) sc_law_joint.nd rfl (Or.inl rfl)) pgs_nil)))) (fun _ _ _ _ _ => pts_nil) (fun _ _ _ _ _ => (pe_cl c_law_joint hr (by omega) pass0 (pa_cons (pv 2) (pa_cons (pv 3) pa_nil))))) pa_nil))))))), ?_⟩
    refine ⟨_, rfl, f.d, .str "any", ru.dp, .str _, Fm.shaped (by omega), shaped_any, _, rfl, ?_⟩
    rw [Fm.any_d]
    by_cases ha : f = .any
    · subst ha
      exact iteT ⟨_, rfl, q _ _ (Same.refl _) rv⟩
    rw [decide_eq_false ha]
    refine iteF ⟨_, rfl, g.d, .str "any", rv.dp, .str _, Fm.shaped (by omega), shaped_any, _, rfl, ?_⟩
    rw [Fm.any_d]
    by_cases hb : g = .any
    · subst hb
      rw [decide_eq_true rfl]
      exact iteT (iteT ⟨_, rfl, q _ _ (Same.refl _) (by rw [Fm.met_any]; exact ru)⟩)
    rw [decide_eq_false hb]
    cases hpf : f.plain with
    | true =>
      obtain rfl := rpf_plain ru hpf
      exact iteF ⟨_, rfl, _, _, true, rfl, .ss _, _, rfl, iteT ⟨_, rfl, q _ _ (Same.refl _) (by rw [met_plain hpf ha]; exact ru)⟩⟩
    | false =>
    obtain ⟨a, xs, rfl, e, hl, hi⟩ := rpf_parts ru hpf
    refine iteF ⟨_, rfl, _, _, false, rfl, .ts e, _, rfl, iteF ?_⟩
    have hpg := near_np hnr hpf hb
    have hw := near_word hnr hpf hpg
    obtain ⟨b, ys, rfl, e', hl', hi'⟩ := rpf_parts rv hpg
    have hll : ys.length = xs.length := by rw [hl', hl, same_len hpf hpg hw]
    have hln := parts_len hpf
    obtain ⟨m1, m2, m3⟩ := met_parts hpf hpg hw
    refine ⟨_, rfl, _, rfl, sl_use e cutF fun p0 H0 s0 e0 => ?_⟩
    refine ⟨_, rfl, _, rfl, ?_⟩
    refine sl_lo (s0 _ _ e) cut1 fun p1 H1 s1 e1 => ?_
    refine ⟨_, rfl, _, rfl, ?_⟩
    refine sl_lo (s1 _ _ (s0 _ _ e')) cut1 fun p2 H2 s2 e2 => ?_
    refine ⟨p1, p2, xs, ys, rfl, .inr ⟨SqT.of (s2 _ _ e1), SqT.of e2, fun D hD => ?_⟩⟩
    refine lc_zipT_rel (fun i y H => ∀ m, (List.zipWith Fm.met f.parts g.parts)[i]? = some m → RpF H y m) (fun i y H H' k h m hm => (h m hm).mono k) hD (SqT.of (s2 _ _ e1)) (SqT.of e2) hll (by omega) (fun i x y Tp H' Nx hx hy hs hTp k => ?_) (fun H' zs hs hD' hzl hz => ?_)
    · obtain ⟨fi, hfi⟩ := get_of hx hl
      obtain ⟨gi, hgi⟩ := get_of hy hl'
      have t4 := (s0.trans (s1.trans (s2.trans hs))).tk
      have := parts_ht hfi
      have := parts_ht hgi
      refine ⟨Tp, [x, y], rfl, SqT.of hTp, rfl, x, [y], rfl, y, [], rfl, rfl, rfl, _, rfl, _, rfl, x, y, fi, gi, rfl, (hi i x fi hx hfi).mono t4, (hi' i y gi hy hgi).mono t4, near_part hnr hpf hpg hfi hgi, by omega, by omega, by omega, fun H3 z h3 rz => k z H3 h3 fun m hm => ?_⟩
      rw [List.getElem?_zipWith, hfi, hgi] at hm
      cases hm
      exact rz
    · refine ⟨D, zs, rfl, .inl ⟨SqL.of hD', fun l hnl => ?_⟩⟩
      have s5 := same_new hnl (.tup zs)
      refine cat_use (s5 _ _ (hs _ _ (s2 _ _ (s1 _ _ e0)))) upd_same (by rw [hzl, List.length_singleton]; omega) fun p H5 s6 e6 => ?_
      refine q H5 _ (s0.trans (s1.trans (s2.trans (hs.trans (s5.trans s6))))) (rpf_of (zs := zs) m1 (by rw [m2]; exact e6) (by rw [hzl, m3, List.length_zipWith, same_len hpf hpg hw, hl]; omega) fun i z m h1 h2 => ?_)
      rw [m3] at h2
      exact (hz i z h1 m h2).mono (s5.trans s6).tk
theorem ok_met_forms (T : Facts w K mg) : ∀ n, Cl P w K mg base CX0 n "met_forms" (spMet n)
  | 0 => by
    obtain ⟨fd, F⟩ := T.f_met_forms
    exact cl_zero T.g_met_forms F.kp (F.bindsN (ps := ["one", "other"]) fun _ _ _ _ _ _ us hl => match us, hl with | [_, _], _ => rfl) fun vs H Q E ⟨u, v, f, g, _, _, _, _, h, _⟩ => absurd h (Nat.not_lt_zero _)
  | n + 1 => by
    have c_met_forms := ok_met_forms T n
    obtain ⟨fd, F⟩ := T.f_met_forms
    refine ⟨_, fd, ["one", "other"], T.g_met_forms, ?_, F.kp, F.bindsN fun _ _ _ _ _ _ us hl => match us, hl with | [_, _], _ => rfl⟩
    refine F.ok sc_met_forms (fun vs H Q E h => ?_) (fun cdv A outer s H vs Q E hr h => ?_)
    · obtain ⟨u, v, f, g, rfl, _⟩ := h
      rfl
    obtain ⟨u, v, f, g, rfl, ru, rv, hnr, hf, hf6, hg6, q⟩ := h
    have hu64 := hr.units
    refine ⟨_, PSs.nox (pss_cons (ps_if (pt_cmpR (op_eqD hu64) (pv 0) (pe_glob (v := .str "any") rfl T.c_ANY_forms.choose_spec ⟨_, rfl⟩) (nomark _)) (pss_one (ps_ret (pv 1))) pss_nil)
    (pss_cons (ps_if (PW.pt (pw_or (pt_cmpR (op_eqD hu64) (pv 1) (pe_glob (v := .str "any") rfl T.c_ANY_forms.choose_spec ⟨_, rfl⟩) (nomark _)) (pw_or1 (pt_val (pe_callB call_isB (by rfl) T.z_isinstance (by decide +kernel) (pa_cons (pv 0) (pa_cons (pe_bltn (v := .ty "str") (by rfl) T.z_str (by decide +kernel) rfl) pa_nil))))))) (pss_one (ps_ret (pv 0))) pss_nil)
    (pss_one (ps_ret (pe_op op_catA (pe_slice sl_tupA (pv 0) po_none (po_some pe_int)) (pe_callTy call_tuple_of (by rfl) T.z_tuple (by decide +kernel) (pa_cons (pe_lc (own := [("part", 2), ("beside", 3)]) (g := (gTup K 2 (gCons (gName 2) (gCons (gName 3) gNil)))) (tt := tYes) rfl sc_met_forms.nd (pi_zipS (by rfl) T.z_zip (pa_cons (pe_slice sl_tupA (pv 0) (po_some pe_int) po_none) (pa_cons (pe_slice sl_tupA (pv 1) (po_some pe_int) po_none) pa_nil)) (pk_cons pe_bl pk_nil)) (blkOk_by (own := [("part", 2), ("beside", 3)]) (N := ["one", "other", "part", "beside"]) (sc := defScope s_met_forms) (by decide +kernel)) (fun _ _ _ _ _ => (pg_tup (by rfl) (pgs_cons (pg_name (i := 2) sc_met_forms.nd rfl (Or.inl rfl)) (pgs_cons (pg_name (i := 3) sc_met_forms.nd rfl (Or.inl rfl)) pgs_nil)))) (fun _ _ _ _ _ => pts_nil) (fun _ _ _ _ _ => (pe_cl c_met_forms hr (by omega) pass0 (pa_cons (pv 2) (pa_cons (pv 3) pa_nil))))) pa_nil))))))), ?_⟩
    refine ⟨_, rfl, f.d, .str "any", ru.dp, .str _, Fm.shaped (by omega), shaped_any, _, rfl, ?_⟩
    rw [Fm.any_d]
    by_cases ha : f = .any
    · subst ha
      exact iteT ⟨_, rfl, q _ _ (Same.refl _) rv⟩
    rw [decide_eq_false ha]
    refine iteF ⟨_, rfl, g.d, .str "any", rv.dp, .str _, Fm.shaped (by omega), shaped_any, _, rfl, ?_⟩
    rw [Fm.any_d]
    by_cases hb : g = .any
    · subst hb
      rw [decide_eq_true rfl]
      exact iteT (iteT ⟨_, rfl, q _ _ (Same.refl _) (by rw [Fm.met_any]; exact ru)⟩)
    rw [decide_eq_false hb]
    cases hpf : f.plain with
    | true =>
      obtain rfl := rpf_plain ru hpf
      exact iteF ⟨_, rfl, _, _, true, rfl, .ss _, _, rfl, iteT ⟨_, rfl, q _ _ (Same.refl _) (by rw [met_plain hpf ha]; exact ru)⟩⟩
    | false =>
    obtain ⟨a, xs, rfl, e, hl, hi⟩ := rpf_parts ru hpf
    refine iteF ⟨_, rfl, _, _, false, rfl, .ts e, _, rfl, iteF ?_⟩
    have hpg := near_np hnr hpf hb
    have hw := near_word hnr hpf hpg
    obtain ⟨b, ys, rfl, e', hl', hi'⟩ := rpf_parts rv hpg
    have hll : ys.length = xs.length := by rw [hl', hl, same_len hpf hpg hw]
    have hln := parts_len hpf
    obtain ⟨m1, m2, m3⟩ := met_parts hpf hpg hw
    refine ⟨_, rfl, _, rfl, sl_use e cutF fun p0 H0 s0 e0 => ?_⟩
    refine ⟨_, rfl, _, rfl, ?_⟩
    refine sl_lo (s0 _ _ e) cut1 fun p1 H1 s1 e1 => ?_
    refine ⟨_, rfl, _, rfl, ?_⟩
    refine sl_lo (s1 _ _ (s0 _ _ e')) cut1 fun p2 H2 s2 e2 => ?_
    refine ⟨p1, p2, xs, ys, rfl, rfl, SqT.of (s2 _ _ e1), SqT.of e2, fun D hD => ?_⟩
    refine lc_zipS_rel (fun i y H => ∀ m, (List.zipWith Fm.met f.parts g.parts)[i]? = some m → RpF H y m) (fun i y H H' k h m hm => (h m hm).mono k) hD (SqT.of (s2 _ _ e1)) (SqT.of e2) hll (by omega) (fun i x y Tp H' Nx hx hy hs hTp k => ?_) (fun H' zs hs hD' hzl hz => ?_)
    · obtain ⟨fi, hfi⟩ := get_of hx hl
      obtain ⟨gi, hgi⟩ := get_of hy hl'
      have t4 := (s0.trans (s1.trans (s2.trans hs))).tk
      have := parts_ht hfi
      have := parts_ht hgi
      refine ⟨Tp, [x, y], rfl, SqT.of hTp, rfl, x, [y], rfl, y, [], rfl, rfl, rfl, _, rfl, _, rfl, x, y, fi, gi, rfl, (hi i x fi hx hfi).mono t4, (hi' i y gi hy hgi).mono t4, near_part hnr hpf hpg hfi hgi, by omega, by omega, by omega, fun H3 z h3 rz => k z H3 h3 fun m hm => ?_⟩
      rw [List.getElem?_zipWith, hfi, hgi] at hm
      cases hm
      exact rz
    · refine ⟨D, zs, rfl, .inl ⟨SqL.of hD', fun l hnl => ?_⟩⟩
      have s5 := same_new hnl (.tup zs)
      refine cat_use (s5 _ _ (hs _ _ (s2 _ _ (s1 _ _ e0)))) upd_same (by rw [hzl, List.length_singleton]; omega) fun p H5 s6 e6 => ?_
      refine q H5 _ (s0.trans (s1.trans (s2.trans (hs.trans (s5.trans s6))))) (rpf_of (zs := zs) m1 (by rw [m2]; exact e6) (by rw [hzl, m3, List.length_zipWith, same_len hpf hpg hw, hl]; omega) fun i z m h1 h2 => ?_)
      rw [m3] at h2
      exact (hz i z h1 m h2).mono (s5.trans s6).tk
end
end Wt
/-! tuple * int, one or more. -/
namespace Wt
open PySem PySem.Spec PyProof.Rows L2 RZ
theorem tmul1 (l : Addr) (items : Array Value) (n : Nat) (dd : Option Addr) (sl : Array (Option Value)) (u : Tok) (c2 : items.isEmpty = false) :
    Meets (Builtin.«tuple.__mul__» ⟨[.ref l, .int 1 u], []⟩) (fun _ R s => s.heap.get? l = some { cls := .type "tuple", dict := dd, data := .seq items n, slots := sl } ∧
      R (.ok (.ret (Value.ref l))) s) :=
  .of_wp fun prog w A R s h => by
    obtain ⟨hp, g, d, tk, os⟩ := s
    obtain ⟨hl, h⟩ := h
    have f1 := AutoSeq1.idx_int
    wp_walk using wpAny_loadPart' hl
    exact ⟨_, rfl, h⟩
def rRepN (K : PySem.W.Frag) : R2 := fun x y H Q => ∃ l k xs, x = .ref l ∧ y = .int k ∧ H l = some (.tup xs) ∧ xs ≠ [] ∧ 1 ≤ k ∧ k ≤ 1000 ∧ xs.length ≤ 1000 ∧ ∀ p H', Same H H' → H' p = some (.tup (List.replicate k.toNat xs).flatten) → Q (.ref p) H'
theorem op_repN {X : Cx} : OpR X (binaryOp .Mult) (rRepN X.K) := by
  intro pins s σ H x y v u Q I rx ry h
  obtain ⟨l, k, xs, rfl, rfl, hT, hne, h1, h2, hz, q⟩ := h
  by_cases hk : 2 ≤ k
  · exact op_repT pins s σ H _ _ v u Q I rx ry ⟨l, k, xs, rfl, rfl, SqT.of hT, hne, hk, h2, hz, fun p hp => q p _ (same_new hp _) upd_same⟩
  have ek : k = 1 := by omega
  subst ek
  have q1 := q l H (Same.refl _) (by simpa using hT)
  cases rx
  obtain ⟨t, rfl⟩ := ry
  obtain ⟨its, r, ⟨⟨cls, dd, data, sl⟩, ho, hc, n, hd⟩, hs⟩ := I.tuple (SqT.of hT)
  simp only at hc hd
  subst hc hd
  have hle : its.length = xs.length := r.length.symm
  have hn : its ≠ [] := fun e => hne (by
    rw [e] at hle
    exact List.eq_nil_of_length_eq_zero hle.symm)
  have hi : its.toArray.isEmpty = false := by
    cases its with
    | nil => exact absurd rfl hn
    | cons a b => rfl
  refine wpAny_binaryOp_repeat_ref (T := "tuple") (U := "int") (by decide) ⟨_, ho, rfl⟩ (fun s' => typeIs_int s' 1 t) noFill_tuple_mul F.fills_int_mul F.slot_int_rmul repeat_tuple F.slot_int_index.lookup
    (call_meets F.slot_int_rmul (typeIs_int s 1 t) F.entry_int_rmul (F.args_int_rmul_2 _ _) (int_rmul_tuple 1 t l its.toArray n dd sl)
      ⟨ho, rfl, ⟨_, ho, rfl⟩, call_meets F.slot_tuple_mul ⟨_, ho, rfl⟩ F.entry_tuple_mul (F.args_tuple_mul_2 _ _) (tmul1 l its.toArray n dd sl t hi) ⟨ho, ?_⟩⟩)
  exact ⟨.ref l, H, I, rfl, q1⟩
theorem kdct_of {K : PySem.W.Frag} {w : World} {d : Addr} {es : Array DictEntry} {n : Nat} {x : Str} {v : V} (D : KDict K w d es n) (h : ∃ u, PySem.W.nsIn K d x = some (some u) ∧ RelV v u) : KDct K w d x v := by
  obtain ⟨u, h1, h2⟩ := h
  exact ⟨es, n, u, D.at_, D.lit, h1, h2⟩
end Wt
/-! Names, forms, terms are looked at. -/
namespace Wt
open PySem PySem.Spec PyProof.Rows L2 RZ
def spName : Sp := fun vs H Q _ => ∃ x, vs = [.str x] ∧ NameOk x ∧ ∀ H', Same H H' → Q (.bl true) H'
def spWritten : Sp := fun vs H Q _ => ∃ x, vs = [.str x] ∧ TextOk x ∧ ∀ H', Same H H' → Q (.bl true) H'
theorem str_len {x : Str} : x.length = x.cps.size := rfl
theorem lw_get {x : Str} (h : Lw x) {i c : Nat} (e : x.cps[i]? = some c) : decide (c ∈ (Str.cps "abcdefghijklmnopqrstuvwxyz").toList) = true := by
  have hm : c ∈ x.cps.toList := by
    rw [← Array.getElem?_toList] at e
    exact List.mem_of_getElem? e
  have := h c hm
  have k : ∀ c : Nat, 97 ≤ c → c ≤ 122 → decide (c ∈ (Str.cps "abcdefghijklmnopqrstuvwxyz").toList) = true := by
    intro c h1 h2
    have : c = 97 ∨ c = 98 ∨ c = 99 ∨ c = 100 ∨ c = 101 ∨ c = 102 ∨ c = 103 ∨ c = 104 ∨ c = 105 ∨ c = 106 ∨ c = 107 ∨ c = 108 ∨ c = 109 ∨ c = 110 ∨ c = 111 ∨ c = 112 ∨ c = 113 ∨ c = 114 ∨ c = 115 ∨ c = 116 ∨ c = 117 ∨ c = 118 ∨ c = 119 ∨ c = 120 ∨ c = 121 ∨ c = 122 := by omega
    rcases this with h | h | h | h | h | h | h | h | h | h | h | h | h | h | h | h | h | h | h | h | h | h | h | h | h | h <;> subst h <;> decide
  exact k c this.1 this.2
theorem all_rep (n : Nat) : (List.replicate n true).all id = true := by
  rw [List.all_eq_true]
  intro b hb
  rw [List.eq_of_mem_replicate hb]
  rfl
theorem sz0 : 0 ≤ sizeLine := by decide
section
variable {P : Program} {w : World} {K : PySem.W.Frag} {mg : Str → Option Value} {base : Heap}
theorem sc_is_name : FnScope ["thing", "sign"] ["thing"] (defScope s_is_name) := ⟨rfl, rfl, rfl, by decide +kernel, rfl, by decide +kernel, by decide +kernel⟩
theorem sc_is_written : FnScope ["thing", "sign"] ["thing"] (defScope s_is_written) := ⟨rfl, rfl, rfl, by decide +kernel, rfl, by decide +kernel, by decide +kernel⟩
theorem ok_is_name (T : Facts w K mg) : Cl P w K mg base CX0 1 "is_name" spName := by
  obtain ⟨fd, F⟩ := T.f_is_name
  refine ⟨_, fd, ["thing"], T.g_is_name, ?_, F.kp, F.bindsN fun _ _ _ _ _ _ us hl => match us, hl with | [_], _ => rfl⟩
  refine F.ok sc_is_name (fun vs H Q E h => ?_) (fun cdv A outer s H vs Q E hr h => ?_)
  · obtain ⟨x, rfl, _⟩ := h
    rfl
  obtain ⟨x, rfl, hx, q⟩ := h
  refine ⟨_, PSs.nox (pss_cons (ps_if (PW.pt (pw_or (pt_not (pt_val (pe_callB call_isB (by rfl) T.z_isinstance (by decide +kernel) (pa_cons (pv 0) (pa_cons (pe_bltn (v := .ty "str") (by rfl) T.z_str (by decide +kernel) rfl) pa_nil))))) (pw_or1 (pt_not (pt_chain op_le op_le pe_int (pe_callB call_len_str (by rfl) T.z_len (by decide +kernel) (pa_cons (pv 0) pa_nil)) (pe_glob (v := .int 8) rfl T.c_MOST_LETTERS.choose_spec ⟨_, rfl⟩)))))) (pss_one (ps_ret pe_bl)) pss_nil)
    (pss_one (ps_ret (pe_callB (cr_all rfl) (by rfl) T.z_all (by decide +kernel) (pa_cons (pe_lc (own := [("sign", 1)]) (g := (gName 1)) (tt := tYes) rfl sc_is_name.nd (pi_str (pv 0)) (blkOk_by (own := [("sign", 1)]) (N := ["thing", "sign"]) (sc := defScope s_is_name) (by decide +kernel)) (fun _ _ _ _ _ => (pg_name (i := 1) sc_is_name.nd rfl (Or.inl rfl))) (fun _ _ _ _ _ => pts_nil) (fun _ _ _ _ _ => (pe_cmpR op_in_sign (pv 1) (pe_glob (v := .str "abcdefghijklmnopqrstuvwxyz") rfl T.c_LETTERS_forms.choose_spec ⟨_, rfl⟩) (by rfl)))) pa_nil))))), ?_⟩
  refine ⟨_, rfl, _, _, true, rfl, .ss _, _, rfl, ?_⟩
  have hl : x.length ≤ 8 := hx.2.2
  have hl1 : 1 ≤ x.length := hx.2.1
  refine iteF ⟨_, rfl, x, rfl, by rw [sizeLine_eq]; omega, _, _, rfl, rfl, _, rfl, ?_⟩
  rw [decide_eq_true (by omega)]
  refine iteT ⟨_, _, rfl, rfl, _, rfl, ?_⟩
  rw [decide_eq_true (by omega)]
  refine iteF ⟨_, rfl, x, rfl, fun D hD => ?_⟩
  refine lc_str_same (ys := List.replicate x.cps.size (.bl true)) hD (by simp) (by rw [← str_len]; omega) (fun i c y H' Nx hc hy hs k => ?_) (fun H' hs hD' => ?_)
  · have ey : y = .bl true := List.eq_of_mem_replicate (List.mem_of_getElem? hy)
    subst ey
    refine ⟨rfl, _, rfl, c, _, rfl, rfl, ?_⟩
    rw [lw_get hx.1 hc]
    exact k H' (Same.refl _)
  · refine ⟨D, List.replicate x.cps.size true, rfl, SqL.of (by rw [List.map_replicate]; exact hD'), ?_⟩
    rw [all_rep]
    exact q H' hs
theorem ok_is_written (T : Facts w K mg) : Cl P w K mg base CX0 1 "is_written" spWritten := by
  obtain ⟨fd, F⟩ := T.f_is_written
  refine ⟨_, fd, ["thing"], T.g_is_written, ?_, F.kp, F.bindsN fun _ _ _ _ _ _ us hl => match us, hl with | [_], _ => rfl⟩
  refine F.ok sc_is_written (fun vs H Q E h => ?_) (fun cdv A outer s H vs Q E hr h => ?_)
  · obtain ⟨x, rfl, _⟩ := h
    rfl
  obtain ⟨x, rfl, hx, q⟩ := h
  refine ⟨_, PSs.nox (pss_one (ps_ret (pe_and (pe_callB call_isB (by rfl) T.z_isinstance (by decide +kernel) (pa_cons (pv 0) (pa_cons (pe_bltn (v := .ty "str") (by rfl) T.z_str (by decide +kernel) rfl) pa_nil))) (pe_and (pe_cmpR op_le (pe_callB call_len_str (by rfl) T.z_len (by decide +kernel) (pa_cons (pv 0) pa_nil)) (pe_glob (v := .int 8) rfl T.c_MOST_SIGNS.choose_spec ⟨_, rfl⟩) (nomark _)) (pe_one (pe_callB (cr_all rfl) (by rfl) T.z_all (by decide +kernel) (pa_cons (pe_lc (own := [("sign", 1)]) (g := (gName 1)) (tt := tYes) rfl sc_is_written.nd (pi_str (pv 0)) (blkOk_by (own := [("sign", 1)]) (N := ["thing", "sign"]) (sc := defScope s_is_written) (by decide +kernel)) (fun _ _ _ _ _ => (pg_name (i := 1) sc_is_written.nd rfl (Or.inl rfl))) (fun _ _ _ _ _ => pts_nil) (fun _ _ _ _ _ => (pe_cmpR op_in_sign (pv 1) (pe_glob (v := .str "abcdefghijklmnopqrstuvwxyz") rfl T.c_LETTERS_terms.choose_spec ⟨_, rfl⟩) (by rfl)))) pa_nil))))))), ?_⟩
  have hl : x.length ≤ 8 := hx.2
  refine ⟨_, rfl, _, _, true, rfl, .ss _, _, rfl, iteT ⟨_, rfl, x, rfl, by rw [sizeLine_eq]; omega, _, _, rfl, rfl, _, rfl, ?_⟩⟩
  rw [decide_eq_true (by omega)]
  refine iteT ⟨_, rfl, x, rfl, fun D hD => ?_⟩
  refine lc_str_same (ys := List.replicate x.cps.size (.bl true)) hD (by simp) (by rw [← str_len]; omega) (fun i c y H' Nx hc hy hs k => ?_) (fun H' hs hD' => ?_)
  · have ey : y = .bl true := List.eq_of_mem_replicate (List.mem_of_getElem? hy)
    subst ey
    refine ⟨rfl, _, rfl, c, _, rfl, rfl, ?_⟩
    rw [lw_get hx.1 hc]
    exact k H' (Same.refl _)
  · refine ⟨D, List.replicate x.cps.size true, rfl, SqL.of (by rw [List.map_replicate]; exact hD'), ?_⟩
    rw [all_rep]
    exact q H' hs
def spWhole : Sp := fun vs H Q _ => ∃ i, vs = [.int i] ∧ ∀ H', Same H H' → Q (.bl true) H'
theorem sc_is_whole : FnScope ["thing"] ["thing"] (defScope s_is_whole) := ⟨rfl, rfl, rfl, by decide +kernel, rfl, by decide +kernel, by decide +kernel⟩
theorem ok_is_whole (T : Facts w K mg) : Cl P w K mg base CX0 1 "is_whole" spWhole := by
  obtain ⟨fd, F⟩ := T.f_is_whole
  refine ⟨_, fd, ["thing"], T.g_is_whole, ?_, F.kp, F.bindsN fun _ _ _ _ _ _ us hl => match us, hl with | [_], _ => rfl⟩
  refine F.ok sc_is_whole (fun vs H Q E h => ?_) (fun cdv A outer s H vs Q E hr h => ?_)
  · obtain ⟨x, rfl, _⟩ := h
    rfl
  obtain ⟨x, rfl, q⟩ := h
  refine ⟨_, PSs.nox (pss_one (ps_ret (pe_and (pe_callB call_isB (by rfl) T.z_isinstance (by decide +kernel) (pa_cons (pv 0) (pa_cons (pe_bltn (v := .ty "int") (by rfl) T.z_int (by decide +kernel) rfl) pa_nil))) (pe_one (pe_not (pe_callB call_isB (by rfl) T.z_isinstance (by decide +kernel) (pa_cons (pv 0) (pa_cons (pe_bltn (v := .ty "bool") (by rfl) T.z_bool (by decide +kernel) rfl) pa_nil)))))))), ?_⟩
  exact ⟨_, rfl, _, _, true, rfl, .ii _, _, rfl, iteT ⟨_, rfl, _, _, false, rfl, .ib _, _, rfl, q H (Same.refl _)⟩⟩
/-! ### forms -/
theorem decide_int (i j : Int) : decide (V.int i = V.int j) = decide (i = j) := by
  by_cases h : i = j
  · rw [decide_eq_true h, h]; simp
  · rw [decide_eq_false h, decide_eq_false (fun e => h (V.int.inj e))]
theorem form_ne {f : Fm} (hp : f.plain = false) : PyData.eqv f.d (.tuple []) = false := by
  cases f <;> first | exact Bool.noConfusion hp | simp [Fm.d, PyData.eqv, PyData.eqvAll]
def spFormTo (n : Nat) : Sp := fun vs H Q _ => ∃ (v : V) (f : Fm) (h : Nat), vs = [v, .int h] ∧ RpF H v f ∧ f.ht < n ∧ f.ht ≤ h ∧ f.ht ≤ 60 ∧ ∀ H', Same H H' → Q (.bl true) H'
theorem word_plain {f : Fm} (h : f.plain = true) : inV (.str f.word) [.str "any", .str "num", .str "text"] = true := by
  cases f <;> first | exact Bool.noConfusion h | decide
theorem widths (T : Facts w K mg) {f : Fm} (hp : f.plain = false) : ∃ u, PySem.W.nsIn K (He.ga K "WIDTHS") f.word = some (some u) ∧ RelV (.int ((f.parts.length + 1 : Nat) : Int)) u := by
  cases f with
  | deed a b => exact T.w_deed
  | box a => exact T.w_box
  | _ => cases hp
theorem sc_is_form_to : FnScope ["thing", "high", "word", "parts", "part"] ["thing", "high"] (defScope s_is_form_to) := ⟨rfl, rfl, rfl, by decide +kernel, rfl, by decide +kernel, by decide +kernel⟩
theorem ok_is_form_to (T : Facts w K mg) : ∀ n, Cl P w K mg base CX0 n "is_form_to" (spFormTo n)
  | 0 => by
    obtain ⟨fd, F⟩ := T.f_is_form_to
    exact cl_zero T.g_is_form_to F.kp (F.bindsN (ps := ["thing", "high"]) fun _ _ _ _ _ _ us hl => match us, hl with | [_, _], _ => rfl) fun vs H Q E ⟨v, f, h, _, _, z, _⟩ => absurd z (Nat.not_lt_zero _)
  | n + 1 => by
    have c_is_form_to := ok_is_form_to T n
    obtain ⟨fd, F⟩ := T.f_is_form_to
    refine ⟨_, fd, ["thing", "high"], T.g_is_form_to, ?_, F.kp, F.bindsN fun _ _ _ _ _ _ us hl => match us, hl with | [_, _], _ => rfl⟩
    refine F.ok sc_is_form_to (fun vs H Q E h => ?_) (fun cdv A outer s H vs Q E hr h => ?_)
    · obtain ⟨v, f, h, rfl, _⟩ := h
      rfl
    obtain ⟨v, f, m, rfl, rv, hf, hm, hf6, q⟩ := h
    have hu64 := hr.units
    refine ⟨_, PSs.nox (pss_cons (ps_if (pt_val (pe_callB call_isB (by rfl) T.z_isinstance (by decide +kernel) (pa_cons (pv 0) (pa_cons (pe_bltn (v := .ty "str") (by rfl) T.z_str (by decide +kernel) rfl) pa_nil)))) (pss_one (ps_ret (pe_cmpR op_in_seq (pv 0) (pe_glob (v := .ref (He.ga K "PLAIN")) rfl T.g_PLAIN rfl) (by rfl)))) pss_nil)
    (pss_cons (ps_if (PW.pt (pw_or (pt_not (pt_val (pe_callB call_isB (by rfl) T.z_isinstance (by decide +kernel) (pa_cons (pv 0) (pa_cons (pe_bltn (v := .ty "tuple") (by rfl) T.z_tuple (by decide +kernel) rfl) pa_nil))))) (pw_or (pt_cmpR (op_eqD hu64) (pv 0) (pe_tup pa_nil) (nomark _)) (pw_or1 (pt_cmpR op_eq (pv 1) pe_int (nomark _)))))) (pss_one (ps_ret pe_bl)) pss_nil)
    (pss_cons (ps_asg (pv 0) (pg_star (i := 2) (j := 3) rfl sc_is_form_to.nd rfl (Or.inl rfl) rfl (Or.inl rfl)))
    (pss_cons (ps_if (PW.pt (pw_or (pt_not (pt_val (pe_callB call_isB (by rfl) T.z_isinstance (by decide +kernel) (pa_cons (pv 2) (pa_cons (pe_bltn (v := .ty "str") (by rfl) T.z_str (by decide +kernel) rfl) pa_nil))))) (pw_or (pt_cmpR (op_notIn_kd T.d_WIDTHS.choose_spec.choose_spec) (pv 2) (pe_glob (v := .ref (He.ga K "WIDTHS")) rfl T.g_WIDTHS rfl) (by rfl)) (pw_or1 (pt_cmpR op_ne (pe_callB call_len_seq (by rfl) T.z_len (by decide +kernel) (pa_cons (pv 0) pa_nil)) (pe_ix ix_kdict (pe_glob (v := .ref (He.ga K "WIDTHS")) rfl T.g_WIDTHS rfl) (pv 2) (fun _ _ => rfl)) (nomark _)))))) (pss_one (ps_ret pe_bl)) pss_nil)
    (pss_one (ps_ret (pe_callB (cr_all rfl) (by rfl) T.z_all (by decide +kernel) (pa_cons (pe_lc (own := [("part", 4)]) (g := (gName 4)) (tt := tYes) rfl sc_is_form_to.nd (pi_list (pv 3)) (blkOk_by (own := [("part", 4)]) (N := ["thing", "high", "word", "parts", "part"]) (sc := defScope s_is_form_to) (by decide +kernel)) (fun _ _ _ _ _ => (pg_name (i := 4) sc_is_form_to.nd rfl (Or.inl rfl))) (fun _ _ _ _ _ => pts_nil) (fun _ _ _ _ _ => (pe_cl c_is_form_to hr (by omega) pass0 (pa_cons (pv 4) (pa_cons (pe_op op_sub (pv 1) pe_int) pa_nil))))) pa_nil)))))))), ?_⟩
    cases hp : f.plain with
    | true =>
      obtain rfl := rpf_plain rv hp
      refine ⟨_, rfl, _, _, true, rfl, .ss _, _, rfl, iteT ⟨_, rfl, _, _, rfl, .inr (T.t_PLAIN _), rfl, rfl, ?_⟩⟩
      rw [if_neg Bool.false_ne_true, word_plain hp]
      exact q H (Same.refl _)
    | false =>
    obtain ⟨a, xs, rfl, e, hl, hi⟩ := rpf_parts rv hp
    have hln := parts_len hp
    refine ⟨_, rfl, _, _, false, rfl, .ts e, _, rfl, iteF ?_⟩
    refine ⟨_, rfl, _, _, true, rfl, .tt e, _, rfl, iteF ?_⟩
    refine ⟨_, rfl, sz0, fun p hp1 => ?_⟩
    have s1 := same_new hp1 (.tup [])
    refine ⟨f.d, .tuple [], (rv.mono s1.tk).dp, Rp.dp (.tup upd_same .nil), Fm.shaped (by omega), by decide, _, rfl, ?_⟩
    rw [form_ne hp]
    have hm0 : 1 ≤ f.ht := by cases f <;> first | exact Bool.noConfusion hp | (simp only [Fm.ht]; omega)
    refine iteF ⟨_, rfl, rfl, _, rfl, ?_⟩
    rw [decide_int, decide_eq_false (by omega)]
    refine iteF ⟨_, rfl, a, _, xs, rfl, s1 _ _ e, by omega, fun D hD => ?_⟩
    have s2 := same_new hD (.lst xs)
    have e2 := s2 _ _ (s1 _ _ e)
    obtain ⟨u, hu1, hu2⟩ := widths T hp
    refine ⟨_, rfl, _, _, true, rfl, .ss _, _, rfl, iteF ?_⟩
    refine ⟨_, rfl, _, _, rfl, rfl, hu1, _, rfl, iteF ?_⟩
    refine ⟨_, rfl, a, _, rfl, .inr (SqT.of e2), _, rfl, _, _, _, rfl, rfl, kdct_of T.d_WIDTHS.choose_spec.choose_spec ⟨u, hu1, hu2⟩, rfl, _, rfl, ?_⟩
    rw [decide_int, decide_eq_true (by rw [List.length_cons, hl])]
    refine iteF ⟨_, rfl, D, rfl, ⟨_, SqL.of upd_same⟩, fun D2 hD2 => ?_⟩
    refine lc_list_same (ys := List.replicate xs.length (.bl true)) hD2 (SqL.of upd_same) (by simp) (by omega) (fun i x y H' Nx hx hy hs k => ?_) (fun H' hs hD' => ?_)
    · have ey : y = .bl true := List.eq_of_mem_replicate (List.mem_of_getElem? hy)
      subst ey
      obtain ⟨fi, hfi⟩ := get_of hx hl
      have := parts_ht hfi
      refine ⟨rfl, _, rfl, _, rfl, _, _, rfl, rfl, x, fi, m - 1, ?_, (hi i x fi hx hfi).mono (s1.trans (s2.trans hs)).tk, by omega, by omega, by omega, fun H3 h3 => k H3 h3⟩
      show [x, V.int ((m : Int) - 1)] = [x, V.int ((m - 1 : Nat) : Int)]
      rw [show ((m : Int) - 1) = ((m - 1 : Nat) : Int) by omega]
    · refine ⟨D2, List.replicate xs.length true, rfl, SqL.of (by rw [List.map_replicate]; exact hD'), ?_⟩
      rw [all_rep]
      exact q H' (s1.trans (s2.trans hs))
def spForm : Sp := fun vs H Q _ => ∃ (v : V) (f : Fm), vs = [v] ∧ RpF H v f ∧ f.ht ≤ 5 ∧ ∀ H', Same H H' → Q (.bl true) H'
def spWantF : Sp := fun vs H Q _ => ∃ (v : V) (f : Fm), vs = [v] ∧ RpF H v f ∧ f.ht ≤ 5 ∧ ∀ H', Same H H' → Q .non H'
theorem sc_is_form : FnScope ["thing"] ["thing"] (defScope s_is_form) := ⟨rfl, rfl, rfl, by decide +kernel, rfl, by decide +kernel, by decide +kernel⟩
theorem ok_is_form (T : Facts w K mg) : Cl P w K mg base CX0 7 "is_form" spForm := by
  have c_is_form_to := ok_is_form_to (P := P) (base := base) T 6
  obtain ⟨fd, F⟩ := T.f_is_form
  refine ⟨_, fd, ["thing"], T.g_is_form, ?_, F.kp, F.bindsN fun _ _ _ _ _ _ us hl => match us, hl with | [_], _ => rfl⟩
  refine F.ok sc_is_form (fun vs H Q E h => ?_) (fun cdv A outer s H vs Q E hr h => ?_)
  · obtain ⟨v, f, rfl, _⟩ := h
    rfl
  obtain ⟨v, f, rfl, rv, hf, q⟩ := h
  refine ⟨_, PSs.nox (pss_one (ps_ret (pe_cl c_is_form_to hr (by omega) pass0 (pa_cons (pv 0) (pa_cons (pe_glob (v := .int 5) rfl T.c_MOST_HEIGHT.choose_spec ⟨_, rfl⟩) pa_nil))))), ?_⟩
  exact ⟨_, rfl, v, f, 5, rfl, rv, by omega, hf, by omega, q⟩
theorem sc_want_form : FnScope ["thing"] ["thing"] (defScope s_want_form) := ⟨rfl, rfl, rfl, by decide +kernel, rfl, by decide +kernel, by decide +kernel⟩
theorem ok_want_form (T : Facts w K mg) : Cl P w K mg base CX0 8 "want_form" spWantF := by
  have c_is_form := ok_is_form (P := P) (base := base) T
  obtain ⟨fd, F⟩ := T.f_want_form
  refine ⟨_, fd, ["thing"], T.g_want_form, ?_, F.kp, F.bindsN fun _ _ _ _ _ _ us hl => match us, hl with | [_], _ => rfl⟩
  refine F.ok sc_want_form (fun vs H Q E h => ?_) (fun cdv A outer s H vs Q E hr h => ?_)
  · obtain ⟨v, f, rfl, _⟩ := h
    rfl
  obtain ⟨v, f, rfl, rv, hf, q⟩ := h
  refine ⟨_, PSs.nox (pss_one (ps_if (pt_not (pt_val (pe_cl c_is_form hr (by omega) pass0 (pa_cons (pv 0) pa_nil)))) (pss_one ps_never) pss_nil)), ?_⟩
  exact ⟨_, rfl, v, f, rfl, rv, hf, fun H' h' => ⟨_, rfl, iteF (q H' h')⟩⟩
end
end Wt
namespace Wt
open PySem PySem.Spec PyProof.Rows L2 RZ
def Fm.hd (f : Fm) : V := if f = .any then .non else .str f.word
def spHead : Sp := fun vs H Q _ => ∃ (v : V) (f : Fm), vs = [v] ∧ RpF H v f ∧ f.ht ≤ 60 ∧ ∀ H', Same H H' → Q f.hd H'
def spHead5 : Sp := fun vs H Q _ => ∃ (v : V) (f : Fm), vs = [v] ∧ RpF H v f ∧ f.ht ≤ 5 ∧ ∀ H', Same H H' → Q f.hd H'
def spWide : Sp := fun vs H Q _ => ∃ (h : Str) (g : Fm), vs = [.str h] ∧ (h = "deed" ∧ g = .deed .any .any ∨ h = "box" ∧ g = .box .any) ∧ ∀ H' x, Same H H' → RpF H' x g → Q x H'
def spHallF : Sp := fun vs H Q _ => ∃ (v : V) (f : Fm), vs = [v] ∧ RpF H v f ∧ f.ht ≤ 5 ∧ (f = .any ∨ f.word = "deed") ∧ ∀ H', Same H H' → Q (.bl true) H'
section
variable {P : Program} {w : World} {K : PySem.W.Frag} {mg : Str → Option Value} {base : Heap}
theorem sc_head_of_form : FnScope ["form"] ["form"] (defScope s_head_of_form) := ⟨rfl, rfl, rfl, by decide +kernel, rfl, by decide +kernel, by decide +kernel⟩
theorem ok_head_of_form (T : Facts w K mg) : Cl P w K mg base CX0 1 "head_of_form" spHead := by
  obtain ⟨fd, F⟩ := T.f_head_of_form
  refine ⟨_, fd, ["form"], T.g_head_of_form, ?_, F.kp, F.bindsN fun _ _ _ _ _ _ us hl => match us, hl with | [_], _ => rfl⟩
  refine F.ok sc_head_of_form (fun vs H Q E h => ?_) (fun cdv A outer s H vs Q E hr h => ?_)
  · obtain ⟨v, f, rfl, _⟩ := h
    rfl
  obtain ⟨v, f, rfl, rv, hf, q⟩ := h
  have hu64 := hr.units
  refine ⟨_, PSs.nox (pss_cons (ps_if (pt_cmpR (op_eqD hu64) (pv 0) (pe_glob (v := .str "any") rfl T.c_ANY_forms.choose_spec ⟨_, rfl⟩) (nomark _)) (pss_one (ps_ret pe_non)) pss_nil)
    (pss_one (ps_ret (pe_ifExp (pt_val (pe_callB call_isB (by rfl) T.z_isinstance (by decide +kernel) (pa_cons (pv 0) (pa_cons (pe_bltn (v := .ty "str") (by rfl) T.z_str (by decide +kernel) rfl) pa_nil)))) (pv 0) (pe_ix ix_tup (pv 0) pe_int (fun _ _ => rfl)))))), ?_⟩
  refine ⟨_, rfl, f.d, .str "any", rv.dp, .str _, Fm.shaped (by omega), shaped_any, _, rfl, ?_⟩
  rw [Fm.any_d]
  by_cases ha : f = .any
  · subst ha
    exact iteT (q _ (Same.refl _))
  rw [decide_eq_false ha]
  have e1 : f.hd = .str f.word := if_neg ha
  rw [e1] at q
  cases hp : f.plain with
  | true =>
    obtain rfl := rpf_plain rv hp
    exact iteF ⟨_, rfl, _, _, true, rfl, .ss _, _, rfl, iteT ⟨_, rfl, q _ (Same.refl _)⟩⟩
  | false =>
    obtain ⟨a, xs, rfl, e, hl, hi⟩ := rpf_parts rv hp
    exact iteF ⟨_, rfl, _, _, false, rfl, .ts e, _, rfl, iteF ⟨_, rfl, a, _, 0, .str f.word, rfl, rfl, SqT.of e, at0, q _ (Same.refl _)⟩⟩
theorem sc_head_of : FnScope ["form"] ["form"] (defScope s_head_of) := ⟨rfl, rfl, rfl, by decide +kernel, rfl, by decide +kernel, by decide +kernel⟩
theorem ok_head_of (T : Facts w K mg) : Cl P w K mg base CX0 9 "head_of" spHead5 := by
  have c_want_form := ok_want_form (P := P) (base := base) T
  have c_head_of_form := ok_head_of_form (P := P) (base := base) T
  obtain ⟨fd, F⟩ := T.f_head_of
  refine ⟨_, fd, ["form"], T.g_head_of, ?_, F.kp, F.bindsN fun _ _ _ _ _ _ us hl => match us, hl with | [_], _ => rfl⟩
  refine F.ok sc_head_of (fun vs H Q E h => ?_) (fun cdv A outer s H vs Q E hr h => ?_)
  · obtain ⟨v, f, rfl, _⟩ := h
    rfl
  obtain ⟨v, f, rfl, rv, hf, q⟩ := h
  refine ⟨_, PSs.nox (pss_cons (ps_expr (pe_cl c_want_form hr (by omega) pass0 (pa_cons (pv 0) pa_nil)))
    (pss_one (ps_ret (pe_cl c_head_of_form hr (by omega) pass0 (pa_cons (pv 0) pa_nil))))), ?_⟩
  exact ⟨_, rfl, v, f, rfl, rv, hf, fun H' h' => ⟨_, rfl, v, f, rfl, rv.mono h'.tk, by omega, fun H2 h2 => q H2 (h'.trans h2)⟩⟩
theorem sc_is_hall_form : FnScope ["thing"] ["thing"] (defScope s_is_hall_form) := ⟨rfl, rfl, rfl, by decide +kernel, rfl, by decide +kernel, by decide +kernel⟩
theorem ok_is_hall_form (T : Facts w K mg) : Cl P w K mg base CX0 10 "is_hall_form" spHallF := by
  have c_is_form := ok_is_form (P := P) (base := base) T
  have c_head_of := ok_head_of (P := P) (base := base) T
  obtain ⟨fd, F⟩ := T.f_is_hall_form
  refine ⟨_, fd, ["thing"], T.g_is_hall_form, ?_, F.kp, F.bindsN fun _ _ _ _ _ _ us hl => match us, hl with | [_], _ => rfl⟩
  refine F.ok sc_is_hall_form (fun vs H Q E h => ?_) (fun cdv A outer s H vs Q E hr h => ?_)
  · obtain ⟨v, f, rfl, _⟩ := h
    rfl
  obtain ⟨v, f, rfl, rv, hf, hw, q⟩ := h
  have hu64 := hr.units
  refine ⟨_, PSs.nox (pss_one (ps_ret (pe_and (pe_cl c_is_form hr (by omega) pass0 (pa_cons (pv 0) pa_nil)) (pe_one (pe_or (pe_cmpR (op_eqD hu64) (pv 0) (pe_glob (v := .str "any") rfl T.c_ANY_halls.choose_spec ⟨_, rfl⟩) (nomark _)) (pe_one (pe_cmpR op_eq (pe_cl c_head_of hr (by omega) pass0 (pa_cons (pv 0) pa_nil)) (pe_glob (v := .str "deed") rfl T.c_DEED_halls.choose_spec ⟨_, rfl⟩) (nomark _)))))))), ?_⟩
  refine ⟨_, rfl, v, f, rfl, rv, hf, fun H1 h1 => ⟨_, rfl, iteT ?_⟩⟩
  refine ⟨_, rfl, f.d, .str "any", (rv.mono h1.tk).dp, .str _, Fm.shaped (by omega), shaped_any, _, rfl, ?_⟩
  rw [Fm.any_d]
  by_cases ha : f = .any
  · rw [decide_eq_true ha]
    exact iteT (q _ h1)
  rw [decide_eq_false ha]
  refine iteF ⟨_, rfl, v, f, rfl, rv.mono h1.tk, hf, fun H2 h2 => ?_⟩
  have e1 : f.hd = .str f.word := if_neg ha
  rw [e1]
  refine ⟨rfl, ?_⟩
  rw [decide_str, decide_eq_true (hw.resolve_left ha)]
  exact q _ (h1.trans h2)
theorem sc_wide_of : FnScope ["head"] ["head"] (defScope s_wide_of) := ⟨rfl, rfl, rfl, by decide +kernel, rfl, by decide +kernel, by decide +kernel⟩
theorem ok_wide_of (T : Facts w K mg) : Cl P w K mg base CX0 1 "wide_of" spWide := by
  obtain ⟨fd, F⟩ := T.f_wide_of
  refine ⟨_, fd, ["head"], T.g_wide_of, ?_, F.kp, F.bindsN fun _ _ _ _ _ _ us hl => match us, hl with | [_], _ => rfl⟩
  refine F.ok sc_wide_of (fun vs H Q E h => ?_) (fun cdv A outer s H vs Q E hr h => ?_)
  · obtain ⟨v, f, rfl, _⟩ := h
    rfl
  obtain ⟨h, g, rfl, hg, q⟩ := h
  refine ⟨_, PSs.nox (pss_cons (ps_if (pt_cmpR (op_in_kd T.d_WIDTHS.choose_spec.choose_spec) (pv 0) (pe_glob (v := .ref (He.ga K "WIDTHS")) rfl T.g_WIDTHS rfl) (by rfl)) (pss_one (ps_ret (pe_op op_catA (pe_tup (pa_cons (pv 0) pa_nil)) (pe_op op_repN (pe_tup (pa_cons (pe_glob (v := .str "any") rfl T.c_ANY_forms.choose_spec ⟨_, rfl⟩) pa_nil)) (pe_op op_sub (pe_ix ix_kdict (pe_glob (v := .ref (He.ga K "WIDTHS")) rfl T.g_WIDTHS rfl) (pv 0) (fun _ _ => rfl)) pe_int))))) pss_nil)
    (pss_one (ps_ret (pv 0)))), ?_⟩
  obtain ⟨k, u, hk, hu1, hu2, hgw⟩ : ∃ (k : Nat) (u : Value), (k = 1 ∨ k = 2) ∧ PySem.W.nsIn K (He.ga K "WIDTHS") h = some (some u) ∧ RelV (.int ((k : Int) + 1)) u ∧ (h = g.word ∧ g.plain = false ∧ g.parts = List.replicate k .any) := by
    rcases hg with ⟨rfl, rfl⟩ | ⟨rfl, rfl⟩
    · obtain ⟨u, h1, h2⟩ := T.w_deed
      exact ⟨2, u, .inr rfl, h1, h2, rfl, rfl, rfl⟩
    · obtain ⟨u, h1, h2⟩ := T.w_box
      exact ⟨1, u, .inl rfl, h1, h2, rfl, rfl, rfl⟩
  obtain ⟨hw, hp, hps⟩ := hgw
  refine ⟨_, rfl, h, _, rfl, rfl, hu1, _, rfl, iteT ?_⟩
  refine ⟨_, rfl, sz1, fun p hp1 => ⟨sz1, fun p2 hp2 => ?_⟩⟩
  have s1 := same_new hp1 (.tup [.str h])
  have s2 := same_new hp2 (.tup [.str "any"])
  refine ⟨_, rfl, _, _, _, rfl, rfl, kdct_of T.d_WIDTHS.choose_spec.choose_spec ⟨u, hu1, hu2⟩, _, _, rfl, rfl, ?_⟩
  refine ⟨p2, _, [.str "any"], rfl, rfl, upd_same, by simp, by omega, by omega, by decide, fun p3 H3 s3 e3 => ?_⟩
  have er : (List.replicate ((k : Int) + 1 - 1).toNat [V.str "any"]).flatten = List.replicate k (V.str "any") := by
    rw [show ((k : Int) + 1 - 1).toNat = k by omega]
    rcases hk with rfl | rfl <;> rfl
  rw [er] at e3
  refine cat_use (s3 _ _ (s2 _ _ upd_same)) e3 (by rw [List.length_replicate, List.length_singleton]; omega) fun p4 H4 s4 e4 => ?_
  refine q H4 _ (s1.trans (s2.trans (s3.trans s4))) (rpf_of (zs := List.replicate k (V.str "any")) hp (by rw [← hw]; exact e4) (by rw [hps, List.length_replicate, List.length_replicate]) fun i z m h1 h2 => ?_)
  rw [hps] at h2
  rw [List.eq_of_mem_replicate (List.mem_of_getElem? h1), List.eq_of_mem_replicate (List.mem_of_getElem? h2)]
  exact .str _
end
end Wt
/-! Terms are looked at. -/
namespace Wt
open PySem PySem.Spec PyProof.Rows L2 RZ
theorem lw_strOk {x : Str} (h : Lw x) : PyData.canLay0 (.str x) = true := by
  show PyData.strOk x = true
  unfold PyData.strOk
  rw [Array.all_eq_true']
  intro c hc
  have := h c (by simpa using hc)
  exact decide_eq_true (by omega)
/-- t's data are flat enough to be compared -/
theorem tm_lay : ∀ t : Tm, t.wf → t.d.canLay0 = true ∧ t.d.depth ≤ t.dep + 6 := by
  intro t
  induction t with
  | number n => exact fun _ => ⟨by simp only [Tm.d, PyData.canLay0, PyData.canLayAll0]; decide +kernel, by simp [Tm.d, PyData.depth, PyData.depthAll]⟩
  | text z =>
    intro h
    have h1 := lw_strOk h.1
    refine ⟨?_, by simp [Tm.d, PyData.depth, PyData.depthAll]⟩
    simp only [Tm.d, PyData.canLay0, PyData.canLayAll0] at h1 ⊢
    rw [h1]
    decide +kernel
  | name z =>
    intro h
    have h1 := lw_strOk h.1
    refine ⟨?_, by simp [Tm.d, PyData.depth, PyData.depthAll]⟩
    simp only [Tm.d, PyData.canLay0, PyData.canLayAll0] at h1 ⊢
    rw [h1]
    decide +kernel
  | wall => exact fun h => h.elim
  | deed x A e ih =>
    intro h
    have h1 := lw_strOk h.1.1
    have h2 := Fm.canLay A
    have h3 := Fm.depth_d A
    have h4 := ih h.2.2
    have h5 := h.2.1
    refine ⟨?_, ?_⟩
    · have k : PyData.canLay0 (.str "deed") = true := by decide +kernel
      simp only [Tm.d, PyData.canLay0, PyData.canLayAll0] at h1 k ⊢
      rw [h1, k, h2, h4.1]
      rfl
    · have h6 := h4.2
      simp only [Tm.d, PyData.depth, PyData.depthAll, Tm.dep, h3]
      omega
  | tell A e ih =>
    intro h
    have h2 := Fm.canLay A
    have h3 := Fm.depth_d A
    have h4 := ih h.2
    have h5 := h.1
    refine ⟨?_, ?_⟩
    · have k : PyData.canLay0 (.str "tell") = true := by decide +kernel
      simp only [Tm.d, PyData.canLay0, PyData.canLayAll0] at k ⊢
      rw [k, h2, h4.1]
      rfl
    · have h6 := h4.2
      simp only [Tm.d, PyData.depth, PyData.depthAll, Tm.dep, h3]
      omega
  | box A e ih =>
    intro h
    have h2 := Fm.canLay A
    have h3 := Fm.depth_d A
    have h4 := ih h.2
    have h5 := h.1
    refine ⟨?_, ?_⟩
    · have k : PyData.canLay0 (.str "box") = true := by decide +kernel
      simp only [Tm.d, PyData.canLay0, PyData.canLayAll0] at k ⊢
      rw [k, h2, h4.1]
      rfl
    · have h6 := h4.2
      simp only [Tm.d, PyData.depth, PyData.depthAll, Tm.dep, h3]
      omega
  | letT x e f ie jf =>
    intro h
    have h1 := lw_strOk h.1.1
    have h4 := ie h.2.1
    have h5 := jf h.2.2
    refine ⟨?_, ?_⟩
    · have k : PyData.canLay0 (.str "let") = true := by decide +kernel
      simp only [Tm.d, PyData.canLay0, PyData.canLayAll0] at h1 k ⊢
      rw [h1, k, h5.1, h4.1]
      rfl
    · have h6 := h4.2
      have h7 := h5.2
      simp only [Tm.d, PyData.depth, PyData.depthAll, Tm.dep]
      omega
  | ifT c e f ic ie jf =>
    intro h
    have h1 := ic h.1
    have h4 := ie h.2.1
    have h5 := jf h.2.2
    refine ⟨?_, ?_⟩
    · have k : PyData.canLay0 (.str "if") = true := by decide +kernel
      simp only [Tm.d, PyData.canLay0, PyData.canLayAll0] at k ⊢
      rw [h1.1, k, h5.1, h4.1]
      rfl
    · have h6 := h4.2
      have h7 := h5.2
      have h8 := h1.2
      simp only [Tm.d, PyData.depth, PyData.depthAll, Tm.dep]
      omega
  | size e ih =>
    intro h
    have h4 := ih h
    refine ⟨?_, ?_⟩
    · have k : PyData.canLay0 (.str "size") = true := by decide +kernel
      simp only [Tm.d, PyData.canLay0, PyData.canLayAll0] at k ⊢
      rw [k, h4.1]
      rfl
    · have h6 := h4.2
      simp only [Tm.d, PyData.depth, PyData.depthAll, Tm.dep]
      omega
  | read e ih =>
    intro h
    have h4 := ih h
    refine ⟨?_, ?_⟩
    · have k : PyData.canLay0 (.str "read") = true := by decide +kernel
      simp only [Tm.d, PyData.canLay0, PyData.canLayAll0] at k ⊢
      rw [k, h4.1]
      rfl
    · have h6 := h4.2
      simp only [Tm.d, PyData.depth, PyData.depthAll, Tm.dep]
      omega
  | call e f ie jf =>
    intro h
    have h4 := ie h.1
    have h5 := jf h.2
    refine ⟨?_, ?_⟩
    · have k : PyData.canLay0 (.str "call") = true ∧ PyData.canLay0 (.str "add") = true ∧ PyData.canLay0 (.str "sub") = true ∧ PyData.canLay0 (.str "write") = true ∧ PyData.canLay0 (.str "same") = true ∧ PyData.canLay0 (.str "do") = true := by decide +kernel
      obtain ⟨k1, k2, k3, k4, k5, k6⟩ := k
      simp only [Tm.d, PyData.canLay0, PyData.canLayAll0] at k1 k2 k3 k4 k5 k6 ⊢
      first | rw [k1, h4.1, h5.1]; rfl | rw [k2, h4.1, h5.1]; rfl | rw [k3, h4.1, h5.1]; rfl | rw [k4, h4.1, h5.1]; rfl | rw [k5, h4.1, h5.1]; rfl | rw [k6, h4.1, h5.1]; rfl
    · have h6 := h4.2
      have h7 := h5.2
      simp only [Tm.d, PyData.depth, PyData.depthAll, Tm.dep]
      omega
  | add e f ie jf =>
    intro h
    have h4 := ie h.1
    have h5 := jf h.2
    refine ⟨?_, ?_⟩
    · have k : PyData.canLay0 (.str "call") = true ∧ PyData.canLay0 (.str "add") = true ∧ PyData.canLay0 (.str "sub") = true ∧ PyData.canLay0 (.str "write") = true ∧ PyData.canLay0 (.str "same") = true ∧ PyData.canLay0 (.str "do") = true := by decide +kernel
      obtain ⟨k1, k2, k3, k4, k5, k6⟩ := k
      simp only [Tm.d, PyData.canLay0, PyData.canLayAll0] at k1 k2 k3 k4 k5 k6 ⊢
      first | rw [k1, h4.1, h5.1]; rfl | rw [k2, h4.1, h5.1]; rfl | rw [k3, h4.1, h5.1]; rfl | rw [k4, h4.1, h5.1]; rfl | rw [k5, h4.1, h5.1]; rfl | rw [k6, h4.1, h5.1]; rfl
    · have h6 := h4.2
      have h7 := h5.2
      simp only [Tm.d, PyData.depth, PyData.depthAll, Tm.dep]
      omega
  | sub e f ie jf =>
    intro h
    have h4 := ie h.1
    have h5 := jf h.2
    refine ⟨?_, ?_⟩
    · have k : PyData.canLay0 (.str "call") = true ∧ PyData.canLay0 (.str "add") = true ∧ PyData.canLay0 (.str "sub") = true ∧ PyData.canLay0 (.str "write") = true ∧ PyData.canLay0 (.str "same") = true ∧ PyData.canLay0 (.str "do") = true := by decide +kernel
      obtain ⟨k1, k2, k3, k4, k5, k6⟩ := k
      simp only [Tm.d, PyData.canLay0, PyData.canLayAll0] at k1 k2 k3 k4 k5 k6 ⊢
      first | rw [k1, h4.1, h5.1]; rfl | rw [k2, h4.1, h5.1]; rfl | rw [k3, h4.1, h5.1]; rfl | rw [k4, h4.1, h5.1]; rfl | rw [k5, h4.1, h5.1]; rfl | rw [k6, h4.1, h5.1]; rfl
    · have h6 := h4.2
      have h7 := h5.2
      simp only [Tm.d, PyData.depth, PyData.depthAll, Tm.dep]
      omega
  | write e f ie jf =>
    intro h
    have h4 := ie h.1
    have h5 := jf h.2
    refine ⟨?_, ?_⟩
    · have k : PyData.canLay0 (.str "call") = true ∧ PyData.canLay0 (.str "add") = true ∧ PyData.canLay0 (.str "sub") = true ∧ PyData.canLay0 (.str "write") = true ∧ PyData.canLay0 (.str "same") = true ∧ PyData.canLay0 (.str "do") = true := by decide +kernel
      obtain ⟨k1, k2, k3, k4, k5, k6⟩ := k
      simp only [Tm.d, PyData.canLay0, PyData.canLayAll0] at k1 k2 k3 k4 k5 k6 ⊢
      first | rw [k1, h4.1, h5.1]; rfl | rw [k2, h4.1, h5.1]; rfl | rw [k3, h4.1, h5.1]; rfl | rw [k4, h4.1, h5.1]; rfl | rw [k5, h4.1, h5.1]; rfl | rw [k6, h4.1, h5.1]; rfl
    · have h6 := h4.2
      have h7 := h5.2
      simp only [Tm.d, PyData.depth, PyData.depthAll, Tm.dep]
      omega
  | same e f ie jf =>
    intro h
    have h4 := ie h.1
    have h5 := jf h.2
    refine ⟨?_, ?_⟩
    · have k : PyData.canLay0 (.str "call") = true ∧ PyData.canLay0 (.str "add") = true ∧ PyData.canLay0 (.str "sub") = true ∧ PyData.canLay0 (.str "write") = true ∧ PyData.canLay0 (.str "same") = true ∧ PyData.canLay0 (.str "do") = true := by decide +kernel
      obtain ⟨k1, k2, k3, k4, k5, k6⟩ := k
      simp only [Tm.d, PyData.canLay0, PyData.canLayAll0] at k1 k2 k3 k4 k5 k6 ⊢
      first | rw [k1, h4.1, h5.1]; rfl | rw [k2, h4.1, h5.1]; rfl | rw [k3, h4.1, h5.1]; rfl | rw [k4, h4.1, h5.1]; rfl | rw [k5, h4.1, h5.1]; rfl | rw [k6, h4.1, h5.1]; rfl
    · have h6 := h4.2
      have h7 := h5.2
      simp only [Tm.d, PyData.depth, PyData.depthAll, Tm.dep]
      omega
  | doT e f ie jf =>
    intro h
    have h4 := ie h.1
    have h5 := jf h.2
    refine ⟨?_, ?_⟩
    · have k : PyData.canLay0 (.str "call") = true ∧ PyData.canLay0 (.str "add") = true ∧ PyData.canLay0 (.str "sub") = true ∧ PyData.canLay0 (.str "write") = true ∧ PyData.canLay0 (.str "same") = true ∧ PyData.canLay0 (.str "do") = true := by decide +kernel
      obtain ⟨k1, k2, k3, k4, k5, k6⟩ := k
      simp only [Tm.d, PyData.canLay0, PyData.canLayAll0] at k1 k2 k3 k4 k5 k6 ⊢
      first | rw [k1, h4.1, h5.1]; rfl | rw [k2, h4.1, h5.1]; rfl | rw [k3, h4.1, h5.1]; rfl | rw [k4, h4.1, h5.1]; rfl | rw [k5, h4.1, h5.1]; rfl | rw [k6, h4.1, h5.1]; rfl
    · have h6 := h4.2
      have h7 := h5.2
      simp only [Tm.d, PyData.depth, PyData.depthAll, Tm.dep]
      omega
theorem tm_shaped {t : Tm} (h : t.wf) (hd : t.dep ≤ 40) : SeqAt.shaped t.d = true := by
  obtain ⟨h1, h2⟩ := tm_lay t h
  unfold SeqAt.shaped
  rw [h1, decide_eq_true (by omega)]
  rfl
theorem tm_ne (t : Tm) : PyData.eqv t.d (.tuple []) = false := by cases t <;> simp [Tm.d, PyData.eqv, PyData.eqvAll]
inductive Part (n : Nat) (H : Hp) : Nat → V → Prop
  | w (i : Int) : Part n H 119 (.int i)
  | l (z : Str) : TextOk z → Part n H 108 (.str z)
  | x (z : Str) : NameOk z → Part n H 120 (.str z)
  | A {v : V} {f : Fm} : RpF H v f → f.ht ≤ 5 → Part n H 65 v
  | e {v : V} {t : Tm} : RpT H v t → t.wf → t.dep < n → t.dep ≤ 40 → Part n H 101 v
def spFits (n : Nat) : Sp := fun vs H Q _ => ∃ c x, vs = [.str ⟨#[c]⟩, x] ∧ Part n H c x ∧ ∀ H', Same H H' → Q (.bl true) H'
def spTerm (n : Nat) : Sp := fun vs H Q _ => ∃ v t, vs = [v] ∧ RpT H v t ∧ t.wf ∧ t.dep < n ∧ t.dep ≤ 40 ∧ ∀ H', Same H H' → Q (.bl true) H'
theorem Part.mono {n c : Nat} {H H' : Hp} {x : V} (k : Tk H H') (p : Part n H c x) : Part n H' c x := by
  cases p with
  | w i => exact .w i
  | l z h => exact .l z h
  | x z h => exact .x z h
  | A r h => exact .A (r.mono k) h
  | e r h1 h2 h3 => exact .e (r.mono k) h1 h2 h3
/-- the parts of a term, as its shape tells -/
def Pts (n : Nat) (H : Hp) : List Nat → List V → Prop
  | [], [] => True
  | c :: cs, x :: xs => Part n H c x ∧ Pts n H cs xs
  | _, _ => False
theorem Pts.len {n : Nat} {H : Hp} : ∀ {cs : List Nat} {xs : List V}, Pts n H cs xs → xs.length = cs.length
  | [], [], _ => rfl
  | c :: cs, x :: xs, h => by rw [List.length_cons, List.length_cons, Pts.len h.2]
  | [], _ :: _, h => h.elim
  | _ :: _, [], h => h.elim
theorem Pts.get {n : Nat} {H : Hp} : ∀ {cs : List Nat} {xs : List V} {i c : Nat} {x : V}, Pts n H cs xs → cs[i]? = some c → xs[i]? = some x → Part n H c x
  | c :: cs, x :: xs, 0, _, _, h, h1, h2 => by cases h1; cases h2; exact h.1
  | c :: cs, x :: xs, i + 1, _, _, h, h1, h2 => Pts.get (i := i) h.2 h1 h2
  | [], _, _, _, _, _, h1, _ => by simp at h1
  | _ :: _, [], _, _, _, h, _, _ => h.elim
theorem tm_parts {w : World} {K : PySem.W.Frag} {mg : Str → Option Value} (T : Facts w K mg) {n : Nat} {H : Hp} {v : V} {t : Tm} (r : RpT H v t) (hw : t.wf) (hd : t.dep < n + 1) (h40 : t.dep ≤ 40) :
    ∃ (a : Addr) (s z : Str) (xs : List V), v = .ref a ∧ H a = some (.tup (.str s :: xs)) ∧ (∃ u, PySem.W.nsIn K (He.ga K "SHAPES") s = some (some u) ∧ RelV (.str z) u) ∧ z.cps.size ≤ 3 ∧ Pts n H z.cps.toList xs := by
  cases t with
  | number i =>
    obtain ⟨p, x, rfl, e, r1⟩ := rpw1.mp r
    obtain rfl := rp_int.mp r1
    exact ⟨p, _, "w", _, rfl, e, T.s_number, by decide, .w i, trivial⟩
  | text z =>
    obtain ⟨p, x, rfl, e, r1⟩ := rpw1.mp r
    obtain rfl := rp_str.mp r1
    exact ⟨p, _, "l", _, rfl, e, T.s_text, by decide, .l z hw, trivial⟩
  | name z =>
    obtain ⟨p, x, rfl, e, r1⟩ := rpw1.mp r
    obtain rfl := rp_str.mp r1
    exact ⟨p, _, "x", _, rfl, e, T.s_name, by decide, .x z hw, trivial⟩
  | wall => exact hw.elim
  | deed x A e =>
    obtain ⟨p, x1, x2, x3, rfl, e, r1, r2, r3⟩ := rpw3.mp r
    obtain rfl := rp_str.mp r1
    simp only [Tm.dep] at hd h40
    exact ⟨p, _, "xAe", _, rfl, e, T.s_deed, by decide, .x _ hw.1, .A r2 hw.2.1, .e r3 hw.2.2 (by omega) (by omega), trivial⟩
  | letT x e f =>
    obtain ⟨p, x1, x2, x3, rfl, e, r1, r2, r3⟩ := rpw3.mp r
    obtain rfl := rp_str.mp r1
    simp only [Tm.dep] at hd h40
    exact ⟨p, _, "xee", _, rfl, e, T.s_let, by decide, .x _ hw.1, .e r2 hw.2.1 (by omega) (by omega), .e r3 hw.2.2 (by omega) (by omega), trivial⟩
  | ifT c e f =>
    obtain ⟨p, x1, x2, x3, rfl, e, r1, r2, r3⟩ := rpw3.mp r
    simp only [Tm.dep] at hd h40
    exact ⟨p, _, "eee", _, rfl, e, T.s_if, by decide, .e r1 hw.1 (by omega) (by omega), .e r2 hw.2.1 (by omega) (by omega), .e r3 hw.2.2 (by omega) (by omega), trivial⟩
  | tell A e =>
    obtain ⟨p, x1, x2, rfl, e, r1, r2⟩ := rpw2.mp r
    simp only [Tm.dep] at hd h40
    exact ⟨p, _, "Ae", _, rfl, e, T.s_tell, by decide, .A r1 hw.1, .e r2 hw.2 (by omega) (by omega), trivial⟩
  | box A e =>
    obtain ⟨p, x1, x2, rfl, e, r1, r2⟩ := rpw2.mp r
    simp only [Tm.dep] at hd h40
    exact ⟨p, _, "Ae", _, rfl, e, T.s_box, by decide, .A r1 hw.1, .e r2 hw.2 (by omega) (by omega), trivial⟩
  | size e =>
    obtain ⟨p, x1, rfl, e, r1⟩ := rpw1.mp r
    simp only [Tm.dep] at hd h40
    exact ⟨p, _, "e", _, rfl, e, T.s_size, by decide, .e r1 hw (by omega) (by omega), trivial⟩
  | read e =>
    obtain ⟨p, x1, rfl, e, r1⟩ := rpw1.mp r
    simp only [Tm.dep] at hd h40
    exact ⟨p, _, "e", _, rfl, e, T.s_read, by decide, .e r1 hw (by omega) (by omega), trivial⟩
  | call e f =>
    obtain ⟨p, x1, x2, rfl, e, r1, r2⟩ := rpw2.mp r
    simp only [Tm.dep] at hd h40
    refine ⟨p, _, "ee", _, rfl, e, ?_, by decide, .e r1 hw.1 (by omega) (by omega), .e r2 hw.2 (by omega) (by omega), trivial⟩
    first | exact T.s_call | exact T.s_add | exact T.s_sub | exact T.s_write | exact T.s_same | exact T.s_do
  | add e f =>
    obtain ⟨p, x1, x2, rfl, e, r1, r2⟩ := rpw2.mp r
    simp only [Tm.dep] at hd h40
    refine ⟨p, _, "ee", _, rfl, e, ?_, by decide, .e r1 hw.1 (by omega) (by omega), .e r2 hw.2 (by omega) (by omega), trivial⟩
    first | exact T.s_call | exact T.s_add | exact T.s_sub | exact T.s_write | exact T.s_same | exact T.s_do
  | sub e f =>
    obtain ⟨p, x1, x2, rfl, e, r1, r2⟩ := rpw2.mp r
    simp only [Tm.dep] at hd h40
    refine ⟨p, _, "ee", _, rfl, e, ?_, by decide, .e r1 hw.1 (by omega) (by omega), .e r2 hw.2 (by omega) (by omega), trivial⟩
    first | exact T.s_call | exact T.s_add | exact T.s_sub | exact T.s_write | exact T.s_same | exact T.s_do
  | write e f =>
    obtain ⟨p, x1, x2, rfl, e, r1, r2⟩ := rpw2.mp r
    simp only [Tm.dep] at hd h40
    refine ⟨p, _, "ee", _, rfl, e, ?_, by decide, .e r1 hw.1 (by omega) (by omega), .e r2 hw.2 (by omega) (by omega), trivial⟩
    first | exact T.s_call | exact T.s_add | exact T.s_sub | exact T.s_write | exact T.s_same | exact T.s_do
  | same e f =>
    obtain ⟨p, x1, x2, rfl, e, r1, r2⟩ := rpw2.mp r
    simp only [Tm.dep] at hd h40
    refine ⟨p, _, "ee", _, rfl, e, ?_, by decide, .e r1 hw.1 (by omega) (by omega), .e r2 hw.2 (by omega) (by omega), trivial⟩
    first | exact T.s_call | exact T.s_add | exact T.s_sub | exact T.s_write | exact T.s_same | exact T.s_do
  | doT e f =>
    obtain ⟨p, x1, x2, rfl, e, r1, r2⟩ := rpw2.mp r
    simp only [Tm.dep] at hd h40
    refine ⟨p, _, "ee", _, rfl, e, ?_, by decide, .e r1 hw.1 (by omega) (by omega), .e r2 hw.2 (by omega) (by omega), trivial⟩
    first | exact T.s_call | exact T.s_add | exact T.s_sub | exact T.s_write | exact T.s_same | exact T.s_do
section
variable {P : Program} {w : World} {K : PySem.W.Frag} {mg : Str → Option Value} {base : Heap}
theorem sc_fits : FnScope ["sort", "thing"] ["sort", "thing"] (defScope s_fits) := ⟨rfl, rfl, rfl, by decide +kernel, rfl, by decide +kernel, by decide +kernel⟩
theorem ok_fits (T : Facts w K mg) (n : Nat) (c_is_term : Cl P w K mg base CX0 (2 * n + 7) "is_term" (spTerm n)) : Cl P w K mg base CX0 (2 * n + 8) "fits" (spFits n) := by
  have c_is_whole := ok_is_whole (P := P) (base := base) T
  have c_is_written := ok_is_written (P := P) (base := base) T
  have c_is_name := ok_is_name (P := P) (base := base) T
  have c_is_form := ok_is_form (P := P) (base := base) T
  obtain ⟨fd, F⟩ := T.f_fits
  refine ⟨_, fd, ["sort", "thing"], T.g_fits, ?_, F.kp, F.bindsN fun _ _ _ _ _ _ us hl => match us, hl with | [_, _], _ => rfl⟩
  refine F.ok sc_fits (fun vs H Q E h => ?_) (fun cdv A outer s H vs Q E hr h => ?_)
  · obtain ⟨c, x, rfl, _⟩ := h
    rfl
  obtain ⟨c, x, rfl, hp, q⟩ := h
  refine ⟨_, PSs.nox (pss_cons (ps_if (pt_cmpR op_eq (pv 0) pe_str (nomark _)) (pss_one (ps_ret (pe_cl c_is_whole hr (by omega) pass0 (pa_cons (pv 1) pa_nil)))) pss_nil)
    (pss_cons (ps_if (pt_cmpR op_eq (pv 0) pe_str (nomark _)) (pss_one (ps_ret (pe_cl c_is_written hr (by omega) pass0 (pa_cons (pv 1) pa_nil)))) pss_nil)
    (pss_cons (ps_if (pt_cmpR op_eq (pv 0) pe_str (nomark _)) (pss_one (ps_ret (pe_cl c_is_name hr (by omega) pass0 (pa_cons (pv 1) pa_nil)))) pss_nil)
    (pss_one (ps_ret (pe_ifExp (pt_cmpR op_eq (pv 0) pe_str (nomark _)) (pe_cl c_is_form hr (by omega) pass0 (pa_cons (pv 1) pa_nil)) (pe_cl c_is_term hr (by omega) pass0 (pa_cons (pv 1) pa_nil)))))))), ?_⟩
  cases hp with
  | w i =>
    refine ⟨_, rfl, rfl, _, rfl, ?_⟩
    rw [decide_str, decide_eq_true (by decide)]
    exact iteT ⟨_, rfl, i, rfl, q⟩
  | l z hz =>
    refine ⟨_, rfl, rfl, _, rfl, ?_⟩
    rw [decide_str, decide_eq_false (by decide)]
    refine iteF ⟨_, rfl, rfl, _, rfl, ?_⟩
    rw [decide_str, decide_eq_true (by decide)]
    exact iteT ⟨_, rfl, z, rfl, hz, q⟩
  | x z hz =>
    refine ⟨_, rfl, rfl, _, rfl, ?_⟩
    rw [decide_str, decide_eq_false (by decide)]
    refine iteF ⟨_, rfl, rfl, _, rfl, ?_⟩
    rw [decide_str, decide_eq_false (by decide)]
    refine iteF ⟨_, rfl, rfl, _, rfl, ?_⟩
    rw [decide_str, decide_eq_true (by decide)]
    exact iteT ⟨_, rfl, z, rfl, hz, q⟩
  | A r h5 =>
    refine ⟨_, rfl, rfl, _, rfl, ?_⟩
    rw [decide_str, decide_eq_false (by decide)]
    refine iteF ⟨_, rfl, rfl, _, rfl, ?_⟩
    rw [decide_str, decide_eq_false (by decide)]
    refine iteF ⟨_, rfl, rfl, _, rfl, ?_⟩
    rw [decide_str, decide_eq_false (by decide)]
    refine iteF ⟨_, rfl, rfl, _, rfl, ?_⟩
    rw [decide_str, decide_eq_true (by decide)]
    exact iteT ⟨_, rfl, _, _, rfl, r, h5, q⟩
  | e r h1 h2 h3 =>
    refine ⟨_, rfl, rfl, _, rfl, ?_⟩
    rw [decide_str, decide_eq_false (by decide)]
    refine iteF ⟨_, rfl, rfl, _, rfl, ?_⟩
    rw [decide_str, decide_eq_false (by decide)]
    refine iteF ⟨_, rfl, rfl, _, rfl, ?_⟩
    rw [decide_str, decide_eq_false (by decide)]
    refine iteF ⟨_, rfl, rfl, _, rfl, ?_⟩
    rw [decide_str, decide_eq_false (by decide)]
    exact iteF ⟨_, rfl, _, _, rfl, r, h1, h2, h3, q⟩
end
end Wt
namespace Wt
open PySem PySem.Spec PyProof.Rows L2 RZ
section
variable {P : Program} {w : World} {K : PySem.W.Frag} {mg : Str → Option Value} {base : Heap}
theorem sc_is_term : FnScope ["thing", "word", "others", "shape", "sort", "one"] ["thing"] (defScope s_is_term) := ⟨rfl, rfl, rfl, by decide +kernel, rfl, by decide +kernel, by decide +kernel⟩
theorem ok_is_term (T : Facts w K mg) : ∀ n, Cl P w K mg base CX0 (2 * n + 7) "is_term" (spTerm n)
  | 0 => by
    obtain ⟨fd, F⟩ := T.f_is_term
    exact (cl_zero T.g_is_term F.kp (F.bindsN (ps := ["thing"]) fun _ _ _ _ _ _ us hl => match us, hl with | [_], _ => rfl) fun vs H Q E ⟨v, t, _, _, _, z, _⟩ => absurd z (Nat.not_lt_zero _)).mono (by omega)
  | n + 1 => by
    have c_fits := ok_fits T n (ok_is_term T n)
    obtain ⟨fd, F⟩ := T.f_is_term
    refine ⟨_, fd, ["thing"], T.g_is_term, ?_, F.kp, F.bindsN fun _ _ _ _ _ _ us hl => match us, hl with | [_], _ => rfl⟩
    refine F.ok sc_is_term (fun vs H Q E h => ?_) (fun cdv A outer s H vs Q E hr h => ?_)
    · obtain ⟨v, t, rfl, _⟩ := h
      rfl
    obtain ⟨v, t, rfl, rv, hw, hd, h40, q⟩ := h
    have hu64 := hr.units
    obtain ⟨a, sw, z, xs, rfl, e, ⟨u, hu1, hu2⟩, hz3, hpt⟩ := tm_parts T rv hw hd h40
    have hl := hpt.len
    have hzs : z.cps.toList.length = z.cps.size := Array.length_toList
    refine ⟨_, PSs.nox (pss_cons (ps_if (PW.pt (pw_or (pt_not (pt_val (pe_callB call_isB (by rfl) T.z_isinstance (by decide +kernel) (pa_cons (pv 0) (pa_cons (pe_bltn (v := .ty "tuple") (by rfl) T.z_tuple (by decide +kernel) rfl) pa_nil))))) (pw_or (pt_cmpR (op_eqD hu64) (pv 0) (pe_tup pa_nil) (nomark _)) (pw_or (pt_not (pt_val (pe_callB call_isB (by rfl) T.z_isinstance (by decide +kernel) (pa_cons (pe_ix ix_tup (pv 0) pe_int (fun _ _ => rfl)) (pa_cons (pe_bltn (v := .ty "str") (by rfl) T.z_str (by decide +kernel) rfl) pa_nil))))) (pw_or1 (pt_cmpR (op_notIn_kd T.d_SHAPES.choose_spec.choose_spec) (pe_ix ix_tup (pv 0) pe_int (fun _ _ => rfl)) (pe_glob (v := .ref (He.ga K "SHAPES")) rfl T.g_SHAPES rfl) (by rfl))))))) (pss_one (ps_ret pe_bl)) pss_nil)
    (pss_cons (ps_asg (pv 0) (pg_star (i := 1) (j := 2) rfl sc_is_term.nd rfl (Or.inl rfl) rfl (Or.inl rfl)))
    (pss_cons (ps_set (i := 3) sc_is_term.nd rfl (Or.inl rfl) (pe_ix ix_kdict (pe_glob (v := .ref (He.ga K "SHAPES")) rfl T.g_SHAPES rfl) (pv 1) (fun _ _ => rfl)))
    (pss_one (ps_ret (pe_and (pe_cmpR op_eq (pe_callB call_len_seq (by rfl) T.z_len (by decide +kernel) (pa_cons (pv 2) pa_nil)) (pe_callB call_len_str (by rfl) T.z_len (by decide +kernel) (pa_cons (pv 3) pa_nil)) (nomark _)) (pe_one (pe_callB (cr_all rfl) (by rfl) T.z_all (by decide +kernel) (pa_cons (pe_lc (own := [("sort", 4), ("one", 5)]) (g := (gTup K 2 (gCons (gName 4) (gCons (gName 5) gNil)))) (tt := tYes) rfl sc_is_term.nd (pi_zipSL (by rfl) T.z_zip (pa_cons (pv 3) (pa_cons (pv 2) pa_nil))) (blkOk_by (own := [("sort", 4), ("one", 5)]) (N := ["thing", "word", "others", "shape", "sort", "one"]) (sc := defScope s_is_term) (by decide +kernel)) (fun _ _ _ _ _ => (pg_tup (by rfl) (pgs_cons (pg_name (i := 4) sc_is_term.nd rfl (Or.inl rfl)) (pgs_cons (pg_name (i := 5) sc_is_term.nd rfl (Or.inl rfl)) pgs_nil)))) (fun _ _ _ _ _ => pts_nil) (fun _ _ _ _ _ => (pe_cl c_fits hr (by omega) pass0 (pa_cons (pv 4) (pa_cons (pv 5) pa_nil))))) pa_nil))))))))), ?_⟩
    refine ⟨_, rfl, _, _, true, rfl, .tt e, _, rfl, iteF ?_⟩
    refine ⟨_, rfl, sz0, fun p hp1 => ?_⟩
    have s1 := same_new hp1 (.tup [])
    have e1 := s1 _ _ e
    refine ⟨t.d, .tuple [], (rv.mono s1.tk).dp, Rp.dp (.tup upd_same .nil), tm_shaped hw h40, by decide, _, rfl, ?_⟩
    rw [tm_ne]
    refine iteF ⟨_, rfl, a, _, 0, .str sw, rfl, rfl, SqT.of e1, at0, _, _, true, rfl, .ss _, _, rfl, iteF ?_⟩
    refine ⟨_, rfl, a, _, 0, .str sw, rfl, rfl, SqT.of e1, at0, _, _, rfl, rfl, hu1, _, rfl, iteF ?_⟩
    refine ⟨_, rfl, a, _, xs, rfl, e1, by omega, fun D hD => ?_⟩
    have s2 := same_new hD (.lst xs)
    have eD : upd (upd H p (.tup [])) D (.lst xs) D = some (.lst xs) := upd_same
    refine ⟨_, rfl, _, _, _, rfl, rfl, kdct_of T.d_SHAPES.choose_spec.choose_spec ⟨u, hu1, hu2⟩, ?_⟩
    refine ⟨_, rfl, D, _, rfl, .inl (SqL.of eD), _, rfl, z, rfl, by rw [str_len, sizeLine_eq]; omega, rfl, _, rfl, ?_⟩
    rw [decide_int, decide_eq_true (by rw [hl, hzs, str_len])]
    refine iteT ⟨_, rfl, _, rfl, z, D, xs, rfl, SqL.of eD, fun D2 hD2 => ?_⟩
    refine lc_zipSL_same (ys := List.replicate z.cps.size (.bl true)) hD2 (SqL.of eD) (by rw [hl, hzs]) (by simp) (by omega) (fun i c x y Tp H' Nx hc hx hy hs hTp k => ?_) (fun H' hs hD' => ?_)
    · have ey : y = .bl true := List.eq_of_mem_replicate (List.mem_of_getElem? hy)
      subst ey
      have hpc := (hpt.get (by rw [Array.getElem?_toList]; exact hc) hx).mono (s1.trans (s2.trans hs)).tk
      refine ⟨Tp, [.str ⟨#[c]⟩, x], rfl, SqT.of hTp, rfl, _, [x], rfl, x, [], rfl, rfl, rfl, _, rfl, _, rfl, c, x, rfl, hpc, fun H3 h3 => k H3 h3⟩
    · refine ⟨D2, List.replicate z.cps.size true, rfl, SqL.of (by rw [List.map_replicate]; exact hD'), ?_⟩
      rw [all_rep]
      exact q H' (s1.trans (s2.trans hs))
def spWantT : Sp := fun vs H Q _ => ∃ v t, vs = [v] ∧ RpT H v t ∧ t.wf ∧ t.dep ≤ 40 ∧ ∀ H', Same H H' → Q .non H'
theorem sc_want_term : FnScope ["thing"] ["thing"] (defScope s_want_term) := ⟨rfl, rfl, rfl, by decide +kernel, rfl, by decide +kernel, by decide +kernel⟩
theorem ok_want_term (T : Facts w K mg) : Cl P w K mg base CX0 90 "want_term" spWantT := by
  have c_is_term := ok_is_term (P := P) (base := base) T 41
  obtain ⟨fd, F⟩ := T.f_want_term
  refine ⟨_, fd, ["thing"], T.g_want_term, ?_, F.kp, F.bindsN fun _ _ _ _ _ _ us hl => match us, hl with | [_], _ => rfl⟩
  refine F.ok sc_want_term (fun vs H Q E h => ?_) (fun cdv A outer s H vs Q E hr h => ?_)
  · obtain ⟨v, f, rfl, _⟩ := h
    rfl
  obtain ⟨v, t, rfl, rv, hw, h40, q⟩ := h
  refine ⟨_, PSs.nox (pss_one (ps_if (pt_not (pt_val (pe_cl c_is_term hr (by omega) pass0 (pa_cons (pv 0) pa_nil)))) (pss_one ps_never) pss_nil)), ?_⟩
  exact ⟨_, rfl, v, t, rfl, rv, hw, by omega, h40, fun H' h' => ⟨_, rfl, iteF (q H' h')⟩⟩
end
end Wt
/-! Halls are looked at. -/
namespace Wt
open PySem PySem.Spec PyProof.Rows L2 RZ
structure Hl where
  x : Str
  f : Fm
  t : Tm
def Hl.d (h : Hl) : PyData := .tuple [.str h.x, h.f.d, h.t.d]
def Hl.ok (h : Hl) : Prop := NameOk h.x ∧ h.f.ht ≤ 5 ∧ (h.f = .any ∨ h.f.word = "deed") ∧ (∃ x A e, h.t = .deed x A e) ∧ h.t.wf ∧ h.t.dep ≤ 40
/-- any loop, by what stands ahead of each turn -/
theorem for_inv {J : It} {n : Nat} {g : TG} {tb : TS} {D : Ends} {σ : L2.St} {H : Hp} (Pv : Nat → L2.St → Hp → Prop) (h0 : Pv 0 σ H) (stop : ∀ σ H, Pv n σ H → J.stop n H) (go : ∀ i σ H, i < n → Pv i σ H → J.go i H)
    (hs : ∀ i v σ H H', i < n → Pv i σ H → J.yld i H v H' → g v σ H' fun σ2 H2 => tb { D with nx := Pv (i + 1), ct := Pv (i + 1), bk := D.nx } σ2 H2) (hd : ∀ σ H, Pv n σ H → D.nx σ H) :
    ∃ W : Nat → Nat → L2.St → Hp → Prop, (∃ m, W 0 m σ H) ∧ ∀ i m σ H, W i m σ H →
      (J.stop i H ∧ D.nx σ H) ∨ (J.go i H ∧ ∃ N : L2.St → Hp → Prop, (∀ σ' H', N σ' H' → ∃ m', m' < m ∧ W (i + 1) m' σ' H') ∧ ∀ v H', J.yld i H v H' → g v σ H' fun σ2 H2 => tb { D with nx := N, ct := N, bk := D.nx } σ2 H2) := by
  refine ⟨fun i m σ H => m = n - i ∧ i ≤ n ∧ Pv i σ H, ⟨n, rfl, Nat.zero_le _, h0⟩, ?_⟩
  rintro i m σ H ⟨rfl, hi, p⟩
  by_cases hlt : i < n
  · exact .inr ⟨go i σ H hlt p, Pv (i + 1), fun σ' H' p' => ⟨n - (i + 1), by omega, rfl, hlt, p'⟩, fun v H' y => hs i v σ H H' hlt p y⟩
  · have e : i = n := by omega
    subst e
    exact .inl ⟨stop σ H p, hd σ H p⟩
theorem rp_hl {H : Hp} {v : V} {h : Hl} : Rp H v h.d ↔ ∃ a x y, v = .ref a ∧ H a = some (.tup [.str h.x, x, y]) ∧ RpF H x h.f ∧ RpT H y h.t := rpw2
def spHall : Sp := fun vs H Q _ => ∃ v h, vs = [v] ∧ Rp H v (Hl.d h) ∧ h.ok ∧ ∀ H', Same H H' → Q (.bl true) H'
/-- halls as they stand in a list -/
def Hls (H : Hp) (vs : List V) (hs : List Hl) : Prop := RpAll H vs (hs.map Hl.d)
theorem Hls.mono {H H' : Hp} {vs : List V} {hs : List Hl} (k : Tk H H') (h : Hls H vs hs) : Hls H' vs hs := RpAll.mono k h
theorem rpa_len {H : Hp} : ∀ {vs : List V} {ds : List PyData}, RpAll H vs ds → vs.length = ds.length
  | [], [], _ => rfl
  | _ :: _, _ :: _, .cons _ t => by rw [List.length_cons, List.length_cons, rpa_len t]
theorem rpa_get {H : Hp} : ∀ {vs : List V} {ds : List PyData} {i : Nat} {v : V} {d : PyData}, RpAll H vs ds → vs[i]? = some v → ds[i]? = some d → Rp H v d
  | _ :: _, _ :: _, 0, _, _, .cons r _, h1, h2 => by cases h1; cases h2; exact r
  | _ :: _, _ :: _, i + 1, _, _, .cons _ t, h1, h2 => rpa_get (i := i) t h1 h2
  | [], _, _, _, _, _, h1, _ => by simp at h1
  | _ :: _, [], _, _, _, h, _, _ => by cases h
theorem Hls.get {H : Hp} {vs : List V} {hs : List Hl} {i : Nat} {v : V} (h : Hls H vs hs) (e : vs[i]? = some v) : ∃ x, hs[i]? = some x ∧ Rp H v x.d := by
  have hl := rpa_len h
  obtain ⟨d, hd⟩ := get_of e hl
  rw [List.getElem?_map] at hd
  obtain ⟨x, hx, rfl⟩ := Option.map_eq_some_iff.mp hd
  exact ⟨x, hx, rpa_get h e (by rw [List.getElem?_map, hx]; rfl)⟩
theorem Hls.len {H : Hp} {vs : List V} {hs : List Hl} (h : Hls H vs hs) : vs.length = hs.length := by
  have := rpa_len h
  rw [List.length_map] at this
  exact this
def spHalls : Sp := fun vs H Q _ => ∃ (L : Addr) (xs : List V) (hs : List Hl), vs = [.ref L] ∧ H L = some (.lst xs) ∧ Hls H xs hs ∧ (∀ h ∈ hs, h.ok) ∧ (hs.map Hl.x).Nodup ∧ hs.length ≤ 12 ∧ ∀ H', Same H H' → Q .non H'
theorem inV_str {x : Str} {ys : List Str} : inV (.str x) (ys.map V.str) = decide (x ∈ ys) := by
  unfold inV
  rw [List.any_map]
  rw [Bool.eq_iff_iff, List.any_eq_true, decide_eq_true_iff]
  constructor
  · rintro ⟨y, hy, e⟩
    have e2 : (y == x) = true := e
    rw [← eq_of_beq e2]
    exact hy
  · intro h
    exact ⟨x, h, beq_self_eq_true x⟩
theorem flat_strs (ys : List Str) : (ys.map V.str).all flatV = true := by
  rw [List.all_map, List.all_eq_true]
  intro y _
  rfl
section
variable {P : Program} {w : World} {K : PySem.W.Frag} {mg : Str → Option Value} {base : Heap}
theorem sc_is_hall : FnScope ["thing", "name", "form", "term"] ["thing"] (defScope s_is_hall) := ⟨rfl, rfl, rfl, by decide +kernel, rfl, by decide +kernel, by decide +kernel⟩
theorem ok_is_hall (T : Facts w K mg) : Cl P w K mg base CX0 91 "is_hall" spHall := by
  have c_is_term := ok_is_term (P := P) (base := base) T 41
  have c_is_name := ok_is_name (P := P) (base := base) T
  have c_is_hall_form := ok_is_hall_form (P := P) (base := base) T
  obtain ⟨fd, F⟩ := T.f_is_hall
  refine ⟨_, fd, ["thing"], T.g_is_hall, ?_, F.kp, F.bindsN fun _ _ _ _ _ _ us hl => match us, hl with | [_], _ => rfl⟩
  refine F.ok sc_is_hall (fun vs H Q E h => ?_) (fun cdv A outer s H vs Q E hr h => ?_)
  · obtain ⟨v, f, rfl, _⟩ := h
    rfl
  obtain ⟨v, h, rfl, rv, hok, q⟩ := h
  obtain ⟨h1, h2, h3, ⟨bx, bA, be, ht⟩, h5, h6⟩ := hok
  obtain ⟨a, x, y, rfl, e, rf, rt⟩ := rp_hl.mp rv
  refine ⟨_, PSs.nox (pss_cons (ps_if (PW.pt (pw_or (pt_not (pt_val (pe_callB call_isB (by rfl) T.z_isinstance (by decide +kernel) (pa_cons (pv 0) (pa_cons (pe_bltn (v := .ty "tuple") (by rfl) T.z_tuple (by decide +kernel) rfl) pa_nil))))) (pw_or1 (pt_cmpR op_ne (pe_callB call_len_seq (by rfl) T.z_len (by decide +kernel) (pa_cons (pv 0) pa_nil)) pe_int (nomark _))))) (pss_one (ps_ret pe_bl)) pss_nil)
    (pss_cons (ps_asg (pv 0) (pg_tup (by rfl) (pgs_cons (pg_name (i := 1) sc_is_hall.nd rfl (Or.inl rfl)) (pgs_cons (pg_name (i := 2) sc_is_hall.nd rfl (Or.inl rfl)) (pgs_cons (pg_name (i := 3) sc_is_hall.nd rfl (Or.inl rfl)) pgs_nil)))))
    (pss_one (ps_ret (pe_and (pe_cl c_is_name hr (by omega) pass0 (pa_cons (pv 1) pa_nil)) (pe_and (pe_cl c_is_hall_form hr (by omega) pass0 (pa_cons (pv 2) pa_nil)) (pe_and (pe_cl c_is_term hr (by omega) pass0 (pa_cons (pv 3) pa_nil)) (pe_one (pe_cmpR op_eq (pe_ix ix_tup (pv 3) pe_int (fun _ _ => rfl)) (pe_glob (v := .str "deed") rfl T.c_DEED_halls.choose_spec ⟨_, rfl⟩) (nomark _)))))))))), ?_⟩
  refine ⟨_, rfl, _, _, true, rfl, .tt e, _, rfl, iteF ?_⟩
  refine ⟨_, rfl, a, _, rfl, .inr (SqT.of e), rfl, _, rfl, iteF ?_⟩
  refine ⟨_, rfl, a, _, rfl, SqT.of e, rfl, _, [x, y], rfl, x, [y], rfl, y, [], rfl, rfl, ?_⟩
  refine ⟨_, rfl, h.x, rfl, h1, fun H1 s1 => ⟨_, rfl, iteT ?_⟩⟩
  refine ⟨_, rfl, x, h.f, rfl, rf.mono s1.tk, h2, h3, fun H2 s2 => ⟨_, rfl, iteT ?_⟩⟩
  refine ⟨_, rfl, y, h.t, rfl, rt.mono (s1.trans s2).tk, h5, by omega, h6, fun H3 s3 => ⟨_, rfl, iteT ?_⟩⟩
  have rt3 := rt.mono (s1.trans (s2.trans s3)).tk
  rw [ht] at rt3
  obtain ⟨b, z1, z2, z3, rfl, eb, _⟩ := rpw3.mp rt3
  refine ⟨_, rfl, b, _, 0, .str "deed", rfl, rfl, SqT.of eb, at0, rfl, ?_⟩
  exact q _ (s1.trans (s2.trans s3))
theorem sc_want_halls : FnScope ["thing", "names", "number", "hall"] ["thing"] (defScope s_want_halls) := ⟨rfl, rfl, rfl, by decide +kernel, rfl, by decide +kernel, by decide +kernel⟩
theorem ok_want_halls (T : Facts w K mg) : Cl P w K mg base CX0 92 "want_halls" spHalls := by
  have c_is_hall := ok_is_hall (P := P) (base := base) T
  obtain ⟨fd, F⟩ := T.f_want_halls
  refine ⟨_, fd, ["thing"], T.g_want_halls, ?_, F.kp, F.bindsN fun _ _ _ _ _ _ us hl => match us, hl with | [_], _ => rfl⟩
  refine F.ok sc_want_halls (fun vs H Q E h => ?_) (fun cdv A outer s H vs Q E hr h => ?_)
  · obtain ⟨L, xs, hs, rfl, _⟩ := h
    rfl
  obtain ⟨L, xs, hs, rfl, eL, hx, hok, hnd, h12, q⟩ := h
  have hlen := hx.len
  refine ⟨_, PSs.nox (pss_cons (ps_if (PW.pt (pw_or (pt_not (pt_val (pe_callB call_isB (by rfl) T.z_isinstance (by decide +kernel) (pa_cons (pv 0) (pa_cons (pe_bltn (v := .ty "list") (by rfl) T.z_list (by decide +kernel) rfl) pa_nil))))) (pw_or1 (pt_cmpR op_gt (pe_callB call_len_seq (by rfl) T.z_len (by decide +kernel) (pa_cons (pv 0) pa_nil)) (pe_glob (v := .int 12) rfl T.c_MOST_HALLS.choose_spec ⟨_, rfl⟩) (nomark _))))) (pss_one ps_never) pss_nil)
    (pss_cons (ps_set (i := 1) sc_want_halls.nd rfl (Or.inl rfl) (pe_lst pa_nil))
    (pss_one (ps_for PassesOwn.never rfl (pi_enum (by rfl) T.z_enumerate (pa_cons (pv 0) pa_nil)) (pg_tup (by rfl) (pgs_cons (pg_name (i := 2) sc_want_halls.nd rfl (Or.inl rfl)) (pgs_cons (pg_name (i := 3) sc_want_halls.nd rfl (Or.inl rfl)) pgs_nil))) (pss_cons (ps_if (PW.pt (pw_or (pt_not (pt_val (pe_cl c_is_hall hr (by omega) pass0 (pa_cons (pv 3) pa_nil)))) (pw_or1 (pt_cmpR op_in_seq (pe_ix ix_tup (pv 3) pe_int (fun _ _ => rfl)) (pv 1) (by rfl))))) (pss_one ps_never) pss_nil)
    (pss_one (ps_expr (pe_bm PySem.F.plainAttrs_list PySem.F.slot_list_append PySem.F.type_list_append mt_append (pv 1) (pa_cons (pe_ix ix_tup (pv 3) pe_int (fun _ _ => rfl)) pa_nil))))))))), ?_⟩
  refine ⟨_, rfl, _, _, true, rfl, .ll eL, _, rfl, iteF ?_⟩
  refine ⟨_, rfl, L, _, rfl, .inl (SqL.of eL), _, _, rfl, rfl, _, rfl, ?_⟩
  rw [decide_eq_false (by omega)]
  refine iteF ⟨sz0, fun D hD => ?_⟩
  have s0 := same_new hD (.lst [])
  refine ⟨_, rfl, L, xs, rfl, SqL.of (s0 _ _ eL), ?_⟩
  refine for_inv (n := xs.length) (fun i σ H' => (∃ u v, σ = [some (.ref L), some (.ref D), u, v]) ∧ Same H H' ∧ H' D = some (.lst ((hs.take i).map fun h => V.str h.x))) ⟨⟨_, _, rfl⟩, s0, upd_same⟩ (fun σ H' p => ⟨xs, SqL.of (p.2.1 _ _ eL), Nat.le_refl _⟩) (fun i σ H' hi p => ⟨xs, xs[i], SqL.of (p.2.1 _ _ eL), List.getElem?_eq_getElem hi⟩) (fun i v σ H' H'' hi p y => ?_) (fun σ H' p => q _ p.2.1)
  obtain ⟨⟨u0, v0, rfl⟩, s1, eD⟩ := p
  obtain ⟨Tp, x, rfl, hTn, rfl, hy⟩ := y
  have s2 := same_new hTn (.tup [.int (i : Nat), x])
  have hxi := hy xs (SqL.of (s1 _ _ eL))
  obtain ⟨h, hh, rh⟩ := hx.get hxi
  have rh2 := rh.mono (s1.trans s2).tk
  have hhm : h ∈ hs := List.mem_of_getElem? hh
  refine ⟨Tp, _, rfl, SqT.of upd_same, rfl, _, [x], rfl, x, [], rfl, rfl, ?_⟩
  refine ⟨_, rfl, x, h, rfl, rh2, hok h hhm, fun H3 s3 => ⟨_, rfl, iteF ?_⟩⟩
  obtain ⟨a, y1, y2, rfl, ea, _⟩ := rp_hl.mp (rh2.mono s3.tk)
  have eD3 := s3 _ _ (s2 _ _ eD)
  have em : (hs.take i).map (fun h => V.str h.x) = ((hs.take i).map Hl.x).map V.str := by rw [List.map_map]; rfl
  have hin : h.x ∉ (hs.take i).map Hl.x := fun z => by
    obtain ⟨j, hj, ej⟩ := List.getElem_of_mem z
    rw [List.length_map, List.length_take] at hj
    rw [List.getElem_map, List.getElem_take] at ej
    have h1 : (hs.map Hl.x)[j]'(by rw [List.length_map]; omega) = h.x := by rw [List.getElem_map]; exact ej
    have h2 : (hs.map Hl.x)[i]? = some h.x := by rw [List.getElem?_map, hh]; rfl
    obtain ⟨h3, h4⟩ := List.getElem?_eq_some_iff.mp h2
    exact absurd (h1.trans h4.symm) (List.pairwise_iff_getElem.mp hnd j i _ h3 (by omega))
  refine ⟨_, rfl, a, _, 0, .str h.x, rfl, rfl, SqT.of ea, at0, _, rfl, D, _, rfl, .inl (SqL.of eD3), rfl, by rw [em]; exact flat_strs _, _, rfl, ?_⟩
  rw [if_neg Bool.false_ne_true, em, inV_str, decide_eq_false hin]
  refine iteF ⟨_, rfl, .inl ⟨rfl, _, SqL.of eD3⟩, _, rfl, a, _, 0, .str h.x, rfl, rfl, SqT.of ea, at0, D, _, .str h.x, rfl, rfl, eD3, by rw [List.length_map, List.length_take, sizeLine_eq]; omega, ?_⟩
  refine ⟨⟨_, _, rfl⟩, ?_, ?_⟩
  · exact (s1.trans (s2.trans s3)).upd2 hD
  · rw [upd_same, List.take_add_one, hh, List.map_append]
    rfl
end
end Wt
/-! Own errors with one field, over any built-in base. -/
namespace Wt
open PySem PySem.W PySem.Calls PyProof.Rows PySem.HandSPX
section
open Builtin Builtin.ObjectAttr
variable {prog : Program} {w : World} {A : Around} {E : Value → Shared → Prop} {R : Result → Shared → Prop} {hp : Heap} {g : Array GenState} {d : Drawn} {t : Nat} {os : OsState}
theorem osa_gen {B : String} {bmB bm : List Value} {K : W.Frag} {name : Str} {tk : Tok} {v : Value} {x C : Addr} {fv : Array Value} {cd : ClassData}
    (SF : StoreFacts B bmB "object.__setattr__" "object") (X : K.In hp) (hx : hp.get? x = some { cls := .ref C, data := .fields fv }) (hcd : W.clsIn K C = some cd) (hm : cd.mro = .ref C :: bm) (ht : excTail bmB bm = true) (hh : cd.hasDict = true) (ha : W.findIn K (.ref C) name = some none)
    (hq : ∀ h' tk' dx, (∀ b o, b ≠ x → hp.get? b = some o → h'.get? b = some o) → hp.objs.size ≤ dx → dx ≠ x → h'.get? x = some { cls := .ref C, dict := some dx, data := .fields fv } →
      h'.Ns1 dx (fun y => if y = name then some v else none) → R (.ok (.ret .none)) ⟨h', g, d, tk', os⟩) :
    codeAny (model prog w) A (.call (.builtin "object.__setattr__") ⟨[.ref x, .str name tk, v], []⟩) R ⟨hp, g, d, t, os⟩ := by
  have I : W.InstAt hp x { cls := .ref C, data := .fields fv } C none := ⟨hx, rfl, rfl, trivial⟩
  have ne : cd.mro.isEmpty = false := by rw [hm]; rfl
  have hob : cd.mro.contains (.type "object") = true := by rw [hm, List.contains_cons, excTail_contains "object" _ ht, SF.hasOwner, Bool.or_true]
  have hxs : x ≠ hp.objs.size := Nat.ne_of_lt (Heap.lt_size hx)
  have sub : W.Looks (model prog w) hp (isInstance (.ref x) (.type "object")) true := I.type.andThen (W.looks_mroIn X (by unfold W.mroIn; rw [hcd, Option.bind_some, if_neg (by rw [ne]; decide), hob]))
  refine codeAny_call_builtin SF.slot.plain SF.entry (@W.check_slot (model prog w) _ _ ⟨hp, g, d, t, os⟩ "object.__setattr__" "object" "__setattr__" (.ref x) [.str name tk, v] [] _ SF.kind SF.split sub (SF.args (.ref x) (.str name tk) v) ?_)
  have hmr : W.Looks (model prog w) hp (mroOf (.ref C)) cd.mro := (W.looks_clsIn X hcd).andThen .now
  have L3 : W.Looks (model prog w) hp (storeTaker? none) none := .now
  have hcls : W.Looks (model prog w) hp (classData C) cd := W.looks_clsIn X hcd
  rw [W.osa_eq, refuse_eq]
  refine wpAny_bind (wpAny_bind (I.type.at (wpAny_bind (hmr.at ?_))))
  rw [hm, refuseLoop_ref, excTail_pass _ (SF.passes _) _ ht]
  refine wpAny_pure (wpAny_bind (I.type.at (wpAny_bind ((W.looks_findIn X ha).at (wpAny_bind (L3.at ?_))))))
  show wpAny _ _ (storeInOwnDict (.ref x) (.ref C) (.str name tk) name v false) _ _ _
  obtain ⟨nm, bs, mro, ns, qn, hd, sn, sb, ab, col, del⟩ := cd
  dsimp only at hh
  subst hh
  unfold storeInOwnDict ownDictForStores
  repeat (first | with_reducible refine store_in_new ?_ ?_ | with_reducible refine wpAny_loadPart_at hx ?_ | with_reducible refine hcls.at ?_ | wp_step)
  · exact ⟨_, #[], _, (Heap.get?_update_ne _ _ _ _ hxs.symm).trans (Heap.get?_push_at rfl rfl), rfl, fun e he => absurd he (by simp), fun _ => rfl⟩
  · intro h' tk' hn' hs
    have hx₁ : (hp.push { cls := .type "dict", data := .dict #[] }).get? x = some { cls := .ref C, data := .fields fv } := Heap.get?_push_of_some _ hx
    refine hq h' tk' hp.objs.size (fun b o hb ho => ?_) (Nat.le_refl _) hxs.symm ?_ hn'
    · exact (hs.2 b (Nat.ne_of_lt (Heap.lt_size ho))).trans ((Heap.get?_update_ne _ _ _ _ hb).trans (Heap.get?_push_of_some _ ho))
    · exact (hs.2 x hxs).trans (Heap.get?_update_self _ hx₁ rfl)
end
end Wt
namespace Wt
open PySem PySem.Spec PyProof.Rows L2
section
variable {X : Cx} {pins : List (Addr × Obj)} {σ : L2.St} {H : Hp} {s : Shared} {a C fI dx : Addr} {f : Str} {y : V} {u : Value} {fs : List (Str × V)} {Q : Unit → Shared → Prop} {E : Value → Shared → Prop} {A : Around} {B newId initId : String} {bmB : List Value}
theorem ost_newG (T : ErrC X.K C fI f bmB newId) (SF : StoreFacts B bmB "object.__setattr__" "object") (I : Inv X pins σ H s) (e : H a = some (exo a C none)) (ry : RelV y u)
    (h : ∀ dx s', H dx = none → dx ≠ a → Inv X pins σ (upd (upd H dx (exd dx [(f, y)])) a (exo a C (some dx))) s' → Q () s') : wpAny (model X.prog X.w) A (setAttr (.ref a) f u) Q E s := by
  obtain ⟨nm, q, N, bs, bm, sn, sub, ab, col, dd, k0, k1, k2, k3, k5, hC, hbm⟩ := T.cls
  have hcl : PySem.W.clsIn X.K C = some { name := nm, bases := bs, mro := .ref C :: bm, ns := N, qualname := q, hasDict := true, slotNames := sn, subclasses := sub, abstract := ab, collection := col, hasDel := false } := by unfold PySem.W.clsIn; rw [hC] <;> rfl
  obtain ⟨t1, ho⟩ := exo_at I.hok e
  obtain ⟨hp, g, d, t, os⟩ := s
  refine PySem.W.set_plain I.kIn (ox := { cls := .ref C, dict := none, data := .fields #[.ref t1, .none, .none, .none, .bool false, .none] }) (od := none) ⟨ho, rfl, rfl, trivial⟩ T.sa ?_
  refine osa_gen SF I.kIn ho hcl rfl hbm rfl T.noN (fun h' tk' dx k dn dne hx hn => ?_)
  have hnd : H dx = none := I.hok.fresh dn
  have nd : ∀ {b : Addr} {o : Obj}, hp.get? b = some o → b ≠ dx := fun {b o} q => Nat.ne_of_lt (Nat.lt_of_lt_of_le (Heap.lt_size q) dn)
  have na : ∀ {b : Addr}, H b = none → b ≠ a := fun {b} n z => by
    rw [z, e] at n
    cases n
  have Un1 : Un X.fs [] H (upd (upd H dx (exd dx [(f, y)])) a (exo a C (some dx))) hp h' := {
    keep := fun b o q n _ _ => k b o (na n) q
    slot := fun b o q n _ _ => ⟨o.slots, k b o (na n) q⟩
    free := fun b o q n _ => by rw [upd_ne (na n), upd_ne (nd q)]; exact n
    there := fun b o q _ => by
      by_cases hb : b = a
      · exact ⟨_, by rw [hb]; exact hx⟩
      · exact ⟨o, k b o hb q⟩
    tups := fun b xs q => by rw [upd_ne (at_ne e q exo_tup), upd_ne (ne_of_none q hnd)]; exact q
    frzs := fun b o v q => by rw [upd_ne (at_ne e q exo_frz), upd_ne (ne_of_none q hnd)]; exact q
    tbls := fun b ps q => ⟨#[], by rw [upd_ne (at_ne e q exo_tbl), upd_ne (ne_of_none q hnd), q]; simp⟩ }
  refine h dx _ hnd dne (I.un (t' := tk') Un1 fun b o q => ?_)
  by_cases hb : b = a
  · subst hb
    rw [upd_same] at q
    cases q
    exact exo_ok hx
  · rw [upd_ne hb] at q
    by_cases hd : b = dx
    · subst hd
      rw [upd_same] at q
      cases q
      exact exd_ok hn (relO_put (fs := []) ry fun g => True.intro)
    · rw [upd_ne hd] at q
      exact (I.hok b o q).stay (fun c v hc z => k c v (by
          rcases hc with hc | hc
          · rw [hc]
            exact hb
          · exact at_ne e hc exo_own) z)
        (fun c hc => by rw [upd_ne (at_ne e hc exo_own), upd_ne (ne_of_none hc hnd)]; exact hc) (fun c xs hc => by rw [upd_ne (at_ne e hc exo_tup), upd_ne (ne_of_none hc hnd)]; exact hc)
theorem oinitG {us : List Value} {Q : Value → Shared → Prop} (T : ErrC X.K C fI f bmB newId) (FB : PySem.ExcBaseFacts B newId initId bmB) (I : Inv X pins σ H s) (e : H a = some (exo a C none)) (hl : us.length ≤ sizeLine) (h : ∀ s', Inv X pins σ H s' → Q .none s') :
    wpAny (model X.prog X.w) A (call (.builtin initId) (.ref a :: us)) Q E s := by
  obtain ⟨nm, q, N, bs, bm, sn, sub, ab, col, dd, k0, k1, k2, k3, k5, hC, hbm⟩ := T.cls
  obtain ⟨t1, ho⟩ := exo_at I.hok e
  obtain ⟨hp, g, d, t, os⟩ := s
  refine wpAny_call (PySem.HandSPX.init_base FB (fun Y => PySem.W.excTail_contains Y bm hbm) (I.kIn _ _ hC) ho hl fun h' t2 k hx => ?_)
  have J := I.write (t' := t) (x := a) (e := a) (o := exo a C none) (by rw [e]; exact True.intro) (.inl rfl) k ⟨_, hx⟩ (exo_ok hx)
  have eu : upd H a (exo a C none) = H := by
    funext b
    by_cases hb : b = a
    · rw [hb, upd_same, e]
    · rw [upd_ne hb]
  rw [eu] at J
  exact h _ J
end
section
variable {X : Cx} {C fI : Addr} {f : Str} {B newId initId : String} {bmB : List Value} {e : Expr} {es : List Expr} {ta : TA} {p pos : Pos}
theorem pmk_oexG {CX : CXT} {x : Str} {C fI : Addr} {k : Nat} {fd : FuncData} {ps : List Str} {sp : Sp} {ds : List Value} {dvs : List V} (T : ErrC X.K C fI f bmB newId) (FB : PySem.ExcBaseFacts B newId initId bmB)
    (F1 : FnOk X.prog X.w X.K X.mg X.base CX k fI fd ps sp) (hr : Room (k + 1) X.A) (hb : Binds X.K fd ps ds) (hd : Vals dvs ds) (hx : Passes CX X (fun _ _ _ => False)) (hg : Gl X x) (hm : X.mg x = some (.ref C)) (ha : PA X (e :: es) ta)
    (hdb : (x == ("__debug__" : Str)) = false := by decide) (he : starEach (e :: es) X.env = (false, eval e X.env) :: starEach es X.env := by rfl) (hpl : (backTo pos (starEach es X.env)).any (·.1) = false := by rfl) :
    PMk X (.Call (.Name x p) (e :: es) [] pos) (tMkO C sp dvs ta) := by
  intro pins s σ H Q I h
  obtain ⟨nm, q, N, bs, bm, sn, sub, ab, col, dd, k0, k1, k2, k3, k5, hC, hbm⟩ := T.cls
  refine wpAny_Call_Name_kw (ld_glob I hg hm ?_ hdb)
  refine PySem.W.callWith_K (h₀ := X.base) I.ok.mod.kin T.kC (thn (ha.run pos pins s σ H _ I h) fun us s1 ⟨vs, H1, I1, r1, hz, q1⟩ => ⟨I1.kIn, ?_⟩) he hpl
  show wpAny _ _ (call (.ref C) us) _ _ _
  obtain ⟨hp, g, dr, tk, os⟩ := s1
  have hsz : hp.objs.size ≤ hp.objs.size + 1 := Nat.le_succ _
  have hn : H1 (hp.objs.size + 1) = none := I1.hok.fresh hsz
  have hq := q1 (hp.objs.size + 1) hn
  have kk : ∀ b o, hp.get? b = some o → ((hp.push (PySem.W.kdv_tup us)).push (PySem.HandSPX.excO C hp.objs.size)).get? b = some o := fun b o e => Heap.get?_push_of_some _ (Heap.get?_push_of_some _ e)
  have hget : ((hp.push (PySem.W.kdv_tup us)).push (PySem.HandSPX.excO C hp.objs.size)).get? (hp.objs.size + 1) = some (PySem.HandSPX.excO C hp.objs.size) := by heap_get
  have I2 : Inv X pins σ (upd H1 (hp.objs.size + 1) (exo (hp.objs.size + 1) C none)) ⟨(hp.push (PySem.W.kdv_tup us)).push (PySem.HandSPX.excO C hp.objs.size), g, dr, tk, os⟩ :=
    I1.laid (t' := tk) (a := hp.objs.size + 1) (o := exo (hp.objs.size + 1) C none) (h' := (hp.push (PySem.W.kdv_tup us)).push (PySem.HandSPX.excO C hp.objs.size)) kk hsz (exo_ok hget)
  have r2 : Vals (V.ref (hp.objs.size + 1) :: (vs ++ dvs)) (Value.ref (hp.objs.size + 1) :: (us ++ ds)) := .cons rfl (r1.append hd)
  have hl : (Value.ref (hp.objs.size + 1) :: us ++ ds).length = ps.length := by
    have e := r2.length
    rw [F1.len _ _ _ _ hq] at e
    exact e.symm
  have hus : us.length ≤ sizeLine := by
    rw [← Paired.length r1, sizeLine_eq]
    omega
  refine wpAny_call (PySem.HandSPX.call_own FB (fun Y => PySem.W.excTail_contains Y bm hbm) (I1.kIn _ _ hC) (PySem.W.looks_findIn I1.kIn T.iC) (fun self => PySem.W.bind_fn I1.kIn self T.tC) hus
    (codeAny_mono (F1.run _ X.stack _ _ ⟨Value.ref (hp.objs.size + 1) :: us, []⟩ (Value.ref (hp.objs.size + 1) :: (us ++ ds)) _ _ (fun _ _ _ => False) (hr.make C us []) (I2.env0.make C us []) (hb _ (Value.ref (hp.objs.size + 1) :: us) I2.kIn hl) r2 hq) fun r s' hq' => ?_))
  cases r with
  | error er => exact hx pins σ _ _ er s' I2 hq'
  | ok fl =>
    cases fl with
    | ret u =>
      obtain ⟨v, H2, os2, bare2, un2, hok2, rv, ev, d, fs, ea, ed, hd1, q2⟩ := hq'
      subst ev
      obtain ⟨h2, g2, d2, t2, os'⟩ := s'
      exact ⟨rv, mk_end (raises_own T.exC T.tyC) I1 hsz kk un2 hok2 os2 bare2 ea ed hd1 q2⟩
    | next => exact False.elim hq'
    | brk => exact False.elim hq'
    | cont => exact False.elim hq'
end
end Wt
/-! NotLet(mark), NoName(name) are made. -/
namespace Wt
open PySem PySem.Spec PyProof.Rows L2 RZ
section
variable {X : Cx} {C fI : Addr} {f : Str} {B newId initId : String} {bmB : List Value} {o e : Expr} {es : List Expr} {to te : TE} {ta : TA} {p p' p1 p2 pos : Pos}
def tInitG (C : Addr) (ta : TA) : TE := fun σ H Q => ta σ H fun vs H1 => ∃ (a : Addr) (ws : List V), vs = .ref a :: ws ∧ ws.length ≤ 1000 ∧ H1 a = some (exo a C none) ∧ Q .non H1
/-- the base's __init__, once it is in hand -/
theorem initG_go {pins : List (Addr × Obj)} {s : Shared} {σ : L2.St} {H : Hp} {Q : VK} (T : ErrC X.K C fI f bmB newId) (FB : PySem.ExcBaseFacts B newId initId bmB) (ha : PA X (e :: es) ta) (I : Inv X pins σ H s) (h : tInitG C ta σ H Q)
    (he : starEach (e :: es) X.env = (false, eval e X.env) :: starEach es X.env := by rfl) (hpl : (backTo pos (starEach es X.env)).any (·.1) = false := by rfl) :
    wpAny (model X.prog X.w) X.A (callWith pos (.builtin initId) [] (backTo pos (starEach (e :: es) X.env)) []) (EP X pins σ Q) X.xe s := by
  refine PyProof.Rows.callWith_method1 (thn (ha.run pos pins _ σ H _ I h) fun us s1 hh => ?_) he hpl
  obtain ⟨vs, H1, I1, r1, a, ws, ev, hl, ea, q⟩ := hh
  subst ev
  cases r1 with
  | @cons _ u0 _ ur ra rw' =>
    obtain rfl : u0 = Value.ref a := ra
    have hlen : ur.length ≤ sizeLine := by
      rw [← Paired.length rw', sizeLine_eq]
      omega
    exact oinitG T FB I1 ea hlen fun s' J => ⟨.non, H1, J, rfl, q⟩
/-- a built-in base's -/
theorem pe_initB {x : Str} {n : String} {pl : Sem Bool} (T : ErrC X.K C fI f bmB newId) (FB : PySem.ExcBaseFacts B newId initId bmB) (hg : Gl X x) (hm : X.mg x = none) (hv : bootBuiltins x = some (.type n)) (ty : typeOf (.type n) = pure (.type "type")) (st : Manifest.isStub n = false)
    (vV : PySem.W.findCls X.K (.type n) (.type "type") "__init__" = some (.val (.builtin initId))) (hh : PySem.W.handedIn (.builtin initId) = true) (ha : PA X (e :: es) ta)
    (hn : x ≠ "__name__" := by decide) (hdb : (x == ("__debug__" : Str)) = false := by decide)
    (hc : eval (.Call (.Attribute (.Name x p1) "__init__" p2) (e :: es) [] pos) X.env = (do
      let ov ← eval (.Name x p1) X.env
      standAt p2.atName
      let (f, first) ← holding [ov] (getMethod ov "__init__" pl)
      callWith pos f first (backTo pos (starEach (e :: es) X.env)) (backToKw pos (keywordEach [] X.env))) := by rfl)
    (he : starEach (e :: es) X.env = (false, eval e X.env) :: starEach es X.env := by rfl) (hpl : (backTo pos (starEach es X.env)).any (·.1) = false := by rfl) :
    PE X (.Call (.Attribute (.Name x p1) "__init__" p2) (e :: es) [] pos) (tInitG C ta) := by
  refine ⟨fun pins s σ H Q I h => ?_⟩
  refine PySem.W.methodCall_KW (ld_blt I hg hm hv ?_ hn hdb) hc
  obtain ⟨m, fr⟩ := I.fr
  exact PySem.W.method_type fr I.ok.mod.kin ty st vV hh (initG_go T FB ha (I.tok _) h he hpl)
/-- an own base's, which has none of its own -/
theorem pe_initC {x : Str} {D : Addr} {pl : Sem Bool} (T : ErrC X.K C fI f bmB newId) (FB : PySem.ExcBaseFacts B newId initId bmB) (hg : Gl X x) (hm : X.mg x = some (.ref D)) (vW : PySem.W.readsIn X.K D (.type "type") = true ∧ PySem.W.specialIn X.K (.ref D) "__getattribute__" = some (some (.builtin "type.__getattribute__")))
    (vV : PySem.W.findCls X.K (.ref D) (.type "type") "__init__" = some (.val (.builtin initId))) (hh : PySem.W.handedIn (.builtin initId) = true) (ha : PA X (e :: es) ta) (hdb : (x == ("__debug__" : Str)) = false := by decide)
    (hc : eval (.Call (.Attribute (.Name x p1) "__init__" p2) (e :: es) [] pos) X.env = (do
      let ov ← eval (.Name x p1) X.env
      standAt p2.atName
      let (f, first) ← holding [ov] (getMethod ov "__init__" pl)
      callWith pos f first (backTo pos (starEach (e :: es) X.env)) (backToKw pos (keywordEach [] X.env))) := by rfl)
    (he : starEach (e :: es) X.env = (false, eval e X.env) :: starEach es X.env := by rfl) (hpl : (backTo pos (starEach es X.env)).any (·.1) = false := by rfl) :
    PE X (.Call (.Attribute (.Name x p1) "__init__" p2) (e :: es) [] pos) (tInitG C ta) := by
  refine ⟨fun pins s σ H Q I h => ?_⟩
  refine PySem.W.methodCall_KW (ld_glob I hg hm ?_ hdb) hc
  exact PySem.W.method_cls I.kIn vW.2 (PySem.W.cls_value I.kIn vW.1 vV hh (initG_go T FB ha (I.tok _) h he hpl))
def tOstG (C : Addr) (f : Str) (to te : TE) : TS := fun D σ H => te σ H fun y H1 => to σ H1 fun x H2 => ∃ a : Addr, x = .ref a ∧ H2 a = some (exo a C none) ∧ ∀ dx, H2 dx = none → dx ≠ a → D.nx σ (upd (upd H2 dx (exd dx [(f, y)])) a (exo a C (some dx)))
theorem ps_ostG (T : ErrC X.K C fI f bmB newId) (SF : StoreFacts B bmB "object.__setattr__" "object") (ho : PE X o to) (he : PE X e te) (hs : swapsWith e (some (.Attribute o f p')) pos.line X.env = pure false := by rfl) : PS X (.Assign [.Attribute o f p'] e pos) (tOstG C f to te) := by
  refine ⟨fun pins s σ H D I h => ?_⟩
  refine plainObj_wpAny_Assign_Attribute (thn (he.run pins s σ H _ I h) fun v s1 hv => ?_) hs
  obtain ⟨y, H1, I1, r1, q1⟩ := hv
  refine thn (ho.run pins s1 σ H1 _ I1 q1) fun u s2 hu => ?_
  obtain ⟨x, H2, I2, r2, a, ex, ea, q⟩ := hu
  subst ex
  obtain rfl : u = Value.ref a := r2
  exact ost_newG T SF I2 ea r1 fun dx s' n ne J => ⟨σ, _, J, q dx n ne⟩
end
def spErr (C : Addr) (f : Str) : Sp := fun vs H Q _ => ∃ (a : Addr) (y : V), vs = [.ref a, y] ∧ H a = some (exo a C none) ∧ ∀ dx, H dx = none → dx ≠ a → Q .non (upd (upd H dx (exd dx [(f, y)])) a (exo a C (some dx)))
section
variable {P : Program} {w : World} {K : PySem.W.Frag} {mg : Str → Option Value} {base : Heap}
theorem sc_NotLet_init : FnScope ["self", "mark"] ["self", "mark"] (defScope s_NotLet_init) := ⟨rfl, rfl, rfl, by decide +kernel, rfl, by decide +kernel, by decide +kernel⟩
theorem sc_NoName_init : FnScope ["self", "name"] ["self", "name"] (defScope s_NoName_init) := ⟨rfl, rfl, rfl, by decide +kernel, rfl, by decide +kernel, by decide +kernel⟩
theorem ok_NotLet_init (T : Facts w K mg) : ∃ fd, FnOk P w K mg base CX0 1 (He.ma K (He.ga K "NotLet") "__init__") fd ["self", "mark"] (spErr (He.ga K "NotLet") "mark") ∧ Binds K fd ["self", "mark"] [] := by
  obtain ⟨fd, F⟩ := T.f_NotLet_init
  refine ⟨fd, F.ok sc_NotLet_init (fun vs H Q E h => ?_) (fun cdv A outer s H vs Q E hr h => ?_), F.bindsN fun _ _ _ _ _ _ us hl => match us, hl with | [_, _], _ => rfl⟩
  · obtain ⟨a, y, rfl, _⟩ := h
    rfl
  obtain ⟨a, y, rfl, ea, q⟩ := h
  refine ⟨_, PSs.nox (pss_cons (ps_expr (pe_initC T.e_NotLet PySem.F.excBase_ValueError (by rfl) T.g_WallError T.v_WallError.1 T.v_WallError.2 (by decide +kernel) (pa_cons (pv 0) (pa_cons pe_str pa_nil)))) (pss_one (ps_ostG T.e_NotLet PySem.F.store_ValueError (pv 0) (pv 1)))), ?_⟩
  exact ⟨_, rfl, a, _, rfl, by simp, ea, _, rfl, _, rfl, a, rfl, ea, q⟩
theorem ok_NoName_init (T : Facts w K mg) : ∃ fd, FnOk P w K mg base CX0 1 (He.ma K (He.ga K "NoName") "__init__") fd ["self", "name"] (spErr (He.ga K "NoName") "name") ∧ Binds K fd ["self", "name"] [] := by
  obtain ⟨fd, F⟩ := T.f_NoName_init
  refine ⟨fd, F.ok sc_NoName_init (fun vs H Q E h => ?_) (fun cdv A outer s H vs Q E hr h => ?_), F.bindsN fun _ _ _ _ _ _ us hl => match us, hl with | [_, _], _ => rfl⟩
  · obtain ⟨a, y, rfl, _⟩ := h
    rfl
  obtain ⟨a, y, rfl, ea, q⟩ := h
  refine ⟨_, PSs.nox (pss_cons (ps_expr (pe_initB T.e_NoName PySem.F.excBase_LookupError (by rfl) T.z_LookupError (by decide +kernel) (by kernel_rfl) (by decide +kernel) T.v_LookupError (by decide +kernel) (pa_cons (pv 0) (pa_cons pe_str pa_nil)))) (pss_one (ps_ostG T.e_NoName PySem.F.store_LookupError (pv 0) (pv 1)))), ?_⟩
  exact ⟨_, rfl, a, _, rfl, by simp, ea, _, rfl, _, rfl, a, rfl, ea, q⟩
/-- NotLet(e), NoName(e): the error's own dict is new, holds the field; all else stands -/
theorem oex_end {C a d : Addr} {H1 H2 : Hp} {fs : List (Str × V)} {x : Str} {y : V} (h1 : H1 a = none) : True := trivial
def tMkE (C : Addr) (f : Str) (ta : TA) : L2.St → Hp → XK → Prop := fun σ H Q => ta σ H fun vs H1 => ∃ y, vs = [y] ∧ ∀ d H', Same H1 H' → H' d = some (.xd [(f, y)]) → Q (.ref C) (some d) H'
theorem mkE_of {C : Addr} {f : Str} {ta : TA} {σ : L2.St} {H : Hp} {Q : XK} (hta : ∀ {Q Q' : List V → Hp → Prop} {σ H}, (∀ vs H, Q vs H → Q' vs H) → ta σ H Q → ta σ H Q') (h : tMkE C f ta σ H Q) : tMkO C (spErr C f) [] ta σ H Q := by
  refine hta (fun vs H1 h => ?_) h
  obtain ⟨y, rfl, q⟩ := h
  refine ⟨by simp, fun a ha => ⟨a, y, rfl, upd_same, fun dx hdx hne => ⟨rfl, dx, [(f, y)], upd_same, ?_, ?_, ?_⟩⟩⟩
  · rw [upd_ne hne, upd_same]
  · rw [upd_ne hne] at hdx
    exact hdx
  · have hd1 : H1 dx = none := by rw [upd_ne hne] at hdx; exact hdx
    refine q dx _ (fun b u e => ?_) upd_same
    have hb : b ≠ dx := ne_of_none e hd1
    have hba : b ≠ a := ne_of_none e ha
    rw [upd_ne hb, del_ne hba, upd_ne hba, upd_ne hb, upd_ne hba]
    exact e
end
section
variable {X : Cx} {e : Expr} {te : TE} {p pos : Pos} {base : Heap}
theorem pmk_NotLet (T : Facts X.w X.K X.mg) {j : Nat} (hr : Room j X.A) (hj : 2 ≤ j) (hg : Gl X "NotLet") (ha : PA X [e] (tCons te tNil)) (hm : ∀ {Q Q' : VK} {σ H}, (∀ v H, Q v H → Q' v H) → te σ H Q → te σ H Q')
    (he : starEach (e :: []) X.env = (false, eval e X.env) :: starEach [] X.env := by rfl) (hpl : (backTo pos (starEach [] X.env)).any (·.1) = false := by rfl) :
    PMk X (.Call (.Name "NotLet" p) [e] [] pos) (tMkE (He.ga X.K "NotLet") "mark" (tCons te tNil)) := by
  obtain ⟨fd, F1, F2⟩ := ok_NotLet_init (P := X.prog) (base := X.base) T
  intro pins s σ H Q I h
  exact pmk_oexG T.e_NotLet PySem.F.excBase_ValueError F1 (hr.mono hj) F2 .nil pass0 hg T.g_NotLet ha (by decide) he hpl pins s σ H Q I (mkE_of (fun k h => hm (fun v H h => k _ _ h) h) h)
theorem pmk_NoName (T : Facts X.w X.K X.mg) {j : Nat} (hr : Room j X.A) (hj : 2 ≤ j) (hg : Gl X "NoName") (ha : PA X [e] (tCons te tNil)) (hm : ∀ {Q Q' : VK} {σ H}, (∀ v H, Q v H → Q' v H) → te σ H Q → te σ H Q')
    (he : starEach (e :: []) X.env = (false, eval e X.env) :: starEach [] X.env := by rfl) (hpl : (backTo pos (starEach [] X.env)).any (·.1) = false := by rfl) :
    PMk X (.Call (.Name "NoName" p) [e] [] pos) (tMkE (He.ga X.K "NoName") "name" (tCons te tNil)) := by
  obtain ⟨fd, F1, F2⟩ := ok_NoName_init (P := X.prog) (base := X.base) T
  intro pins s σ H Q I h
  exact pmk_oexG T.e_NoName PySem.F.excBase_LookupError F1 (hr.mono hj) F2 .nil pass0 hg T.g_NoName ha (by decide) he hpl pins s σ H Q I (mkE_of (fun k h => hm (fun v H h => k _ _ h) h) h)
end
end Wt
/-! Low forms; walls. -/
namespace Wt
open PySem PySem.Spec PyProof.Rows L2 RZ
theorem r1 {k : Nat} {A : Around} (r : Room k A) : A.units + 1 < cLine := by have := r.un; omega
/-- the ways out of placing: what the error is, all but one object as it was -/
def ErrS (K : PySem.W.Frag) (p : Addr) (H : Hp) (E : XK) : Er → Prop
  | .name x => ∀ d H', Kp p H H' → H' d = some (.xd [("name", .str x)]) → E (.ref (He.ga K "NoName")) (some d) H'
  | .lt m => ∀ d H', Kp p H H' → H' d = some (.xd [("mark", .str m)]) → E (.ref (He.ga K "NotLet")) (some d) H'
  | .high => ∀ H', Kp p H H' → E (.ref (He.ga K "TooHigh")) none H'
theorem ErrS.kp {K : PySem.W.Frag} {p : Addr} {H H1 : Hp} {E : XK} {e : Er} (h : ErrS K p H E e) (k : Kp p H H1) : ErrS K p H1 E e := by
  cases e with
  | name x => exact fun d H' k2 e => h d H' (k.trans k2) e
  | lt m => exact fun d H' k2 e => h d H' (k.trans k2) e
  | high => exact fun H' k2 => h H' (k.trans k2)
def spLow (K : PySem.W.Frag) : Sp := fun vs H Q E => ∃ v f, vs = [v] ∧ RpF H v f ∧ f.ht ≤ 6 ∧ (f.ht ≤ 5 → ∀ H', Same H H' → Q v H') ∧ (5 < f.ht → ∀ H', Same H H' → E (.ref (He.ga K "TooHigh")) none H')
/-- walled(mark, placed, form, want) -/
def spWalled (K : PySem.W.Frag) : Sp := fun vs H Q E => ∃ m x d a b f g, vs = [.str m, x, a, b] ∧ Rp H x d ∧ RpF H a f ∧ RpF H b g ∧ f.ht ≤ 6 ∧ g.ht ≤ 6 ∧
  (f = g → ∀ H', Same H H' → Q x H') ∧ (f ≠ g → Fm.near f g = true → ∀ H' y, Same H H' → Rp H' y (.tuple [.str "wall", .str m, f.d, g.d, d]) → Q y H') ∧
  (Fm.near f g = false → ∀ dd H', Same H H' → H' dd = some (.xd [("mark", .str m)]) → E (.ref (He.ga K "NotLet")) (some dd) H')
section
variable {P : Program} {w : World} {K : PySem.W.Frag} {mg : Str → Option Value} {base : Heap}
theorem sc_low : FnScope ["form"] ["form"] (defScope s_low) := ⟨rfl, rfl, rfl, by decide +kernel, rfl, by decide +kernel, by decide +kernel⟩
theorem ok_low (T : Facts w K mg) : Cl P w K mg base (L2.CX P w) 8 "low" (spLow K) := by
  have c_height_of_form := ok_height_of_form (P := P) (base := base) T 7
  obtain ⟨fd, F⟩ := T.f_low
  refine ⟨_, fd, ["form"], T.g_low, ?_, F.kp, F.bindsN fun _ _ _ _ _ _ us hl => match us, hl with | [_], _ => rfl⟩
  refine F.ok sc_low (fun vs H Q E h => ?_) (fun cdv A outer s H vs Q E hr h => ?_)
  · obtain ⟨v, f, rfl, _⟩ := h
    rfl
  obtain ⟨v, f, rfl, rv, hf, q1, q2⟩ := h
  refine ⟨_, (pss_cons (ps_if (pt_cmpR op_gt (pe_cl c_height_of_form hr (by omega) pass0 (pa_cons (pv 0) pa_nil)) (pe_glob (v := .int 5) rfl T.c_MOST_HEIGHT.choose_spec ⟨_, rfl⟩) (nomark _)) (pss_one (ps_raise rfl (takes_of rfl rfl rfl rfl) (pmk_own PySem.F.excBase_ValueError T.e_TooHigh.1 T.g_TooHigh T.e_TooHigh.2.1 (raises_own T.e_TooHigh.2.2.1 T.e_TooHigh.2.2.2) rfl))) pss_nil)
    (pss_one (ps_ret (pv 0)))), ?_⟩
  refine ⟨_, rfl, v, f, rfl, rv, by omega, fun H' h' => ⟨_, _, rfl, rfl, _, rfl, ?_⟩⟩
  by_cases h5 : f.ht ≤ 5
  · rw [decide_eq_false (by omega)]
    exact iteF ⟨_, rfl, q1 h5 _ h'⟩
  · rw [decide_eq_true (by omega)]
    exact iteT (q2 (by omega) _ h')
theorem sc_walled : FnScope ["mark", "placed", "form", "want"] ["mark", "placed", "form", "want"] (defScope s_walled) := ⟨rfl, rfl, rfl, by decide +kernel, rfl, by decide +kernel, by decide +kernel⟩
theorem ok_walled (T : Facts w K mg) : Cl P w K mg base (L2.CX P w) 10 "walled" (spWalled K) := by
  have c_near_forms := ok_near_forms (P := P) (base := base) T 7
  obtain ⟨fd, F⟩ := T.f_walled
  refine ⟨_, fd, ["mark", "placed", "form", "want"], T.g_walled, ?_, F.kp, F.bindsN fun _ _ _ _ _ _ us hl => match us, hl with | [_, _, _, _], _ => rfl⟩
  refine F.ok sc_walled (fun vs H Q E h => ?_) (fun cdv A outer s H vs Q E hr h => ?_)
  · obtain ⟨m, x, d, a, b, f, g, rfl, _⟩ := h
    rfl
  obtain ⟨m, x, d, a, b, f, g, rfl, rx, ra, rb, hf, hg, q1, q2, q3⟩ := h
  have hu64 := hr.units
  refine ⟨_, (pss_cons (ps_if (pt_cmpR (op_eqD hu64) (pv 2) (pv 3) (nomark _)) (pss_one (ps_ret (pv 1))) pss_nil)
    (pss_cons (ps_if (pt_not (pt_val (pe_cl c_near_forms hr (by omega) pass0 (pa_cons (pv 2) (pa_cons (pv 3) pa_nil))))) (pss_one (ps_raise rfl (takes_of rfl rfl rfl rfl) (pmk_NotLet T hr (by decide) (by rfl) (pa_cons (pv 0) pa_nil) (fun k h => ⟨h.choose, h.choose_spec.1, k _ _ h.choose_spec.2⟩)))) pss_nil)
    (pss_one (ps_ret (pe_tup (pa_cons (pe_glob (v := .str "wall") rfl T.c_WALL.choose_spec ⟨_, rfl⟩) (pa_cons (pv 0) (pa_cons (pv 2) (pa_cons (pv 3) (pa_cons (pv 1) pa_nil)))))))))), ?_⟩
  refine ⟨_, rfl, _, rfl, f.d, g.d, ra.dp, rb.dp, Fm.shaped (by omega), Fm.shaped (by omega), _, rfl, ?_⟩
  rw [Fm.eqv_d]
  by_cases he : f = g
  · rw [decide_eq_true he]
    exact iteT ⟨_, rfl, q1 he _ (Same.refl _)⟩
  rw [decide_eq_false he]
  refine iteF ⟨_, rfl, _, rfl, a, b, f, g, rfl, ra, rb, by omega, by omega, by omega, fun H1 h1 => ⟨_, rfl, ?_⟩⟩
  cases hn : Fm.near f g with
  | false => exact iteT ⟨_, rfl, .str m, rfl, fun dd H' h' ed => q3 hn dd H' (h1.trans h') ed⟩
  | true =>
    refine iteF ⟨_, rfl, _, rfl, _, rfl, _, rfl, sz5, fun p hp => ?_⟩
    have h2 := same_new hp (.tup [.str "wall", .str m, a, b, x])
    have t2 := (h1.trans h2).tk
    exact q2 he hn _ _ (h1.trans h2) (rp5.mpr ⟨p, _, _, _, _, _, rfl, upd_same, .str _, .str _, ra.mono t2, rb.mono t2, rx.mono t2⟩)
end
end Wt
/-! What is placed has a low form; how far the marks are counted. -/
namespace Wt
open PySem PySem.Spec PyProof.Rows L2 RZ
def G5 (G : Str → Option Fm) : Prop := ∀ x f, G x = some f → f.ht ≤ 5
def B5 (B : Bd) : Prop := ∀ q ∈ B, q.2.ht ≤ 5
theorem B5.add {B : Bd} {x : Str} {f : Fm} (h : B5 B) (hf : f.ht ≤ 5) : B5 (B ++ [(x, f)]) := fun q hq => by
  rcases List.mem_append.mp hq with hq | hq
  · exact h q hq
  · rw [List.mem_singleton.mp hq]
    exact hf
theorem B5.nil : B5 [] := fun q hq => absurd hq (by simp)
theorem bind_ok {α β : Type} {r : Except Er α} {k : α → Except Er β} {b : β} (h : r.bind k = .ok b) : ∃ a, r = .ok a ∧ k a = .ok b := by
  cases r with
  | ok a => exact ⟨a, rfl, h⟩
  | error e => cases h
theorem lowM_inv {t : Tm} {f : Fm} {n : Nat} {r : Tm × Fm × Nat} (h : lowM t f n = .ok r) : r = (t, f, n) ∧ f.ht ≤ 5 := by
  unfold lowM at h
  split at h
  · cases h
  · cases h
    exact ⟨rfl, by omega⟩
theorem dw_low {f : Fm} (h : f.ht ≤ 5) : f.dw.ht ≤ 5 ∧ f.dw.arg.ht ≤ 4 ∧ f.dw.res.ht ≤ 4 := by
  cases f <;> simp only [Fm.dw, Fm.arg, Fm.res, Fm.ht] at h ⊢ <;> omega
theorem bw_low {f : Fm} (h : f.ht ≤ 5) : f.bw.ht ≤ 5 ∧ f.bw.arg.ht ≤ 4 := by
  cases f <;> simp only [Fm.bw, Fm.arg, Fm.ht] at h ⊢ <;> omega
theorem plc_low {G : Str → Option Fm} {s : Str} (g5 : G5 G) : ∀ (t : Tm) {B : Bd} {n : Nat} {r : Tm × Fm × Nat}, plc G s B n t = .ok r → t.wf → B5 B → r.2.1.ht ≤ 5 ∧ n ≤ r.2.2 ∧ r.2.2 + 1 ≤ n + t.nodes := by
  intro t
  induction t with
  | number i =>
    intro B n r h _ _
    cases h
    simp [Fm.ht, Tm.nodes]
  | text z =>
    intro B n r h _ _
    cases h
    simp [Fm.ht, Tm.nodes]
  | name x =>
    intro B n r h _ hB
    simp only [plc] at h
    cases hl : lookB B x with
    | some f =>
      rw [hl] at h
      cases h
      have := hB _ (lookB_mem hl)
      simp only [Tm.nodes]
      exact ⟨this, by omega, by omega⟩
    | none =>
      rw [hl] at h
      cases hg : G x with
      | some f =>
        simp only [hg] at h
        cases h
        have := g5 _ _ hg
        simp only [Tm.nodes]
        exact ⟨this, by omega, by omega⟩
      | none =>
        simp only [hg] at h
        cases h
  | deed x A e ih =>
    intro B n r h hw hB
    obtain ⟨q, h1, h2⟩ := bind_ok h
    obtain ⟨rfl, h3⟩ := lowM_inv h2
    obtain ⟨a1, a2, a3⟩ := ih h1 hw.2.2 (hB.add hw.2.1)
    simp only [Tm.nodes]
    exact ⟨h3, by omega, by omega⟩
  | call f e jf je =>
    intro B n r h hw hB
    obtain ⟨q, h1, h⟩ := bind_ok h
    obtain ⟨u, h2, h⟩ := bind_ok h
    obtain ⟨v, h3, h⟩ := bind_ok h
    obtain ⟨z, h4, h⟩ := bind_ok h
    cases h
    obtain ⟨a1, a2, a3⟩ := jf h1 hw.1 hB
    obtain ⟨b1, b2, b3⟩ := je h3 hw.2 hB
    have := dw_low a1
    simp only [Tm.nodes]
    exact ⟨by omega, by omega, by omega⟩
  | letT x e f je jf =>
    intro B n r h hw hB
    obtain ⟨q, h1, h⟩ := bind_ok h
    obtain ⟨v, h3, h⟩ := bind_ok h
    cases h
    obtain ⟨a1, a2, a3⟩ := je h1 hw.2.1 hB
    obtain ⟨b1, b2, b3⟩ := jf h3 hw.2.2 (hB.add a1)
    simp only [Tm.nodes]
    exact ⟨b1, by omega, by omega⟩
  | tell A e je =>
    intro B n r h hw hB
    obtain ⟨q, h1, h⟩ := bind_ok h
    obtain ⟨u, h2, h⟩ := bind_ok h
    cases h
    obtain ⟨a1, a2, a3⟩ := je h1 hw.2 hB
    simp only [Tm.nodes]
    exact ⟨hw.1, by omega, by omega⟩
  | ifT c e f jc je jf =>
    intro B n r h hw hB
    obtain ⟨q, h1, h⟩ := bind_ok h
    obtain ⟨u, h2, h⟩ := bind_ok h
    obtain ⟨v, h3, h⟩ := bind_ok h
    obtain ⟨z, h4, h⟩ := bind_ok h
    obtain ⟨a1, a2, a3⟩ := jc h1 hw.1 hB
    obtain ⟨b1, b2, b3⟩ := je h3 hw.2.1 hB
    obtain ⟨c1, c2, c3⟩ := jf h4 hw.2.2 hB
    split at h
    · obtain ⟨x1, h5, h⟩ := bind_ok h
      obtain ⟨x2, h6, h⟩ := bind_ok h
      cases h
      have := Fm.met_ht v.2.1 z.2.1
      simp only [Tm.nodes]
      exact ⟨by omega, by omega, by omega⟩
    · cases h
  | add e f je jf =>
    intro B n r h hw hB
    obtain ⟨q, h1, h⟩ := bind_ok h
    obtain ⟨u, h2, h⟩ := bind_ok h
    obtain ⟨v, h3, h⟩ := bind_ok h
    obtain ⟨z, h4, h⟩ := bind_ok h
    cases h
    obtain ⟨a1, a2, a3⟩ := je h1 hw.1 hB
    obtain ⟨b1, b2, b3⟩ := jf h3 hw.2 hB
    simp only [Tm.nodes, Fm.ht]
    exact ⟨by omega, by omega, by omega⟩
  | sub e f je jf =>
    intro B n r h hw hB
    obtain ⟨q, h1, h⟩ := bind_ok h
    obtain ⟨u, h2, h⟩ := bind_ok h
    obtain ⟨v, h3, h⟩ := bind_ok h
    obtain ⟨z, h4, h⟩ := bind_ok h
    cases h
    obtain ⟨a1, a2, a3⟩ := je h1 hw.1 hB
    obtain ⟨b1, b2, b3⟩ := jf h3 hw.2 hB
    simp only [Tm.nodes, Fm.ht]
    exact ⟨by omega, by omega, by omega⟩
  | size e je =>
    intro B n r h hw hB
    obtain ⟨q, h1, h⟩ := bind_ok h
    obtain ⟨u, h2, h⟩ := bind_ok h
    cases h
    obtain ⟨a1, a2, a3⟩ := je h1 hw hB
    simp only [Tm.nodes, Fm.ht]
    exact ⟨by omega, by omega, by omega⟩
  | box A e je =>
    intro B n r h hw hB
    obtain ⟨q, h1, h⟩ := bind_ok h
    obtain ⟨u, h2, h⟩ := bind_ok h
    obtain ⟨rfl, h3⟩ := lowM_inv h
    obtain ⟨a1, a2, a3⟩ := je h1 hw.2 hB
    simp only [Tm.nodes]
    exact ⟨h3, by omega, by omega⟩
  | read e je =>
    intro B n r h hw hB
    obtain ⟨q, h1, h⟩ := bind_ok h
    obtain ⟨u, h2, h⟩ := bind_ok h
    cases h
    obtain ⟨a1, a2, a3⟩ := je h1 hw hB
    have := bw_low a1
    simp only [Tm.nodes]
    exact ⟨by omega, by omega, by omega⟩
  | write e f je jf =>
    intro B n r h hw hB
    obtain ⟨q, h1, h⟩ := bind_ok h
    obtain ⟨u, h2, h⟩ := bind_ok h
    obtain ⟨v, h3, h⟩ := bind_ok h
    obtain ⟨z, h4, h⟩ := bind_ok h
    cases h
    obtain ⟨a1, a2, a3⟩ := je h1 hw.1 hB
    obtain ⟨b1, b2, b3⟩ := jf h3 hw.2 hB
    simp only [Tm.nodes, Fm.ht]
    exact ⟨by omega, by omega, by omega⟩
  | same e f je jf =>
    intro B n r h hw hB
    obtain ⟨q, h1, h⟩ := bind_ok h
    obtain ⟨u, h2, h⟩ := bind_ok h
    obtain ⟨v, h3, h⟩ := bind_ok h
    obtain ⟨z, h4, h⟩ := bind_ok h
    cases h
    obtain ⟨a1, a2, a3⟩ := je h1 hw.1 hB
    obtain ⟨b1, b2, b3⟩ := jf h3 hw.2 hB
    simp only [Tm.nodes, Fm.ht]
    exact ⟨by omega, by omega, by omega⟩
  | doT e f je jf =>
    intro B n r h hw hB
    obtain ⟨q, h1, h⟩ := bind_ok h
    obtain ⟨v, h3, h⟩ := bind_ok h
    cases h
    obtain ⟨a1, a2, a3⟩ := je h1 hw.1 hB
    obtain ⟨b1, b2, b3⟩ := jf h3 hw.2 hB
    simp only [Tm.nodes]
    exact ⟨b1, by omega, by omega⟩
  | wall m A C e => exact fun h _ _ => by cases h
/-! ### where the placer stands -/
def GAt (H : Hp) (fa : Addr) (G : Str → Option Fm) : Prop := ∃ kvs, H fa = some (.dK kvs) ∧ ∀ x, (match G x with
  | some f => ∃ v, valV kvs (.inr x) = some v ∧ RpF H v f
  | none => valV kvs (.inr x) = none)
def BAt (H : Hp) (b : Addr) (B : Bd) : Prop := ∃ vs, H b = some (.lst vs) ∧ RpAll H vs (B.map fun q => .tuple [.str q.1, q.2.d])
def plO (K : PySem.W.Frag) (dx : Addr) (s : Str) (fa : Addr) (n : Nat) : HO := .ins (He.ga K "Placer") dx [("ahead", .str s), ("forms", .ref fa), ("places", .int (n : Nat))]
theorem GAt.kp {H H' : Hp} {p fa : Addr} {G : Str → Option Fm} (g : GAt H fa G) (k : Kp p H H') (hn : NoTup H p) (hne : fa ≠ p) : GAt H' fa G := by
  obtain ⟨kvs, e, h⟩ := g
  refine ⟨kvs, k _ _ hne e, fun x => ?_⟩
  have hx := h x
  cases hg : G x with
  | none =>
    simp only [hg] at hx ⊢
    exact hx
  | some f =>
    simp only [hg] at hx ⊢
    obtain ⟨v, e1, r⟩ := hx
    exact ⟨v, e1, r.mono (k.tk hn)⟩
theorem BAt.kp {H H' : Hp} {p b : Addr} {B : Bd} (g : BAt H b B) (k : Kp p H H') (hn : NoTup H p) (hne : b ≠ p) : BAt H' b B := by
  obtain ⟨vs, e, h⟩ := g
  exact ⟨vs, k _ _ hne e, RpAll.mono (k.tk hn) h⟩
/-- a placer at p, its forms at fa, what is bound at b -/
structure PlS (K : PySem.W.Frag) (H : Hp) (p b fa : Addr) (s : Str) (n : Nat) (B : Bd) (G : Str → Option Fm) : Prop where
  at_ : ∃ dx, H p = some (plO K dx s fa n)
  gs : GAt H fa G
  bs : BAt H b B
  g5 : G5 G
  b5 : B5 B
  s20 : s.length ≤ 20
theorem PlS.noT {K : PySem.W.Frag} {H : Hp} {p b fa : Addr} {s : Str} {n : Nat} {B : Bd} {G : Str → Option Fm} (h : PlS K H p b fa s n B G) : NoTup H p := by
  obtain ⟨dx, e⟩ := h.at_
  exact NoTup.ins e
theorem PlS.fne {K : PySem.W.Frag} {H : Hp} {p b fa : Addr} {s : Str} {n : Nat} {B : Bd} {G : Str → Option Fm} (h : PlS K H p b fa s n B G) : fa ≠ p := fun z => by
  obtain ⟨dx, e⟩ := h.at_
  obtain ⟨kvs, e2, _⟩ := h.gs
  rw [z, e] at e2
  cases e2
theorem PlS.bne {K : PySem.W.Frag} {H : Hp} {p b fa : Addr} {s : Str} {n : Nat} {B : Bd} {G : Str → Option Fm} (h : PlS K H p b fa s n B G) : b ≠ p := fun z => by
  obtain ⟨dx, e⟩ := h.at_
  obtain ⟨kvs, e2, _⟩ := h.bs
  rw [z, e] at e2
  cases e2
theorem PlS.kp {K : PySem.W.Frag} {H H' : Hp} {p b fa : Addr} {s : Str} {n m : Nat} {B : Bd} {G : Str → Option Fm} (h : PlS K H p b fa s n B G) (k : Kp p H H') (a : ∃ dx, H' p = some (plO K dx s fa m)) : PlS K H' p b fa s m B G :=
  ⟨a, h.gs.kp k h.noT h.fne, h.bs.kp k h.noT h.bne, h.g5, h.b5, h.s20⟩
theorem PlS.same {K : PySem.W.Frag} {H H' : Hp} {p b fa : Addr} {s : Str} {n : Nat} {B : Bd} {G : Str → Option Fm} (h : PlS K H p b fa s n B G) (k : Same H H') : PlS K H' p b fa s n B G :=
  h.kp (Kp.of k) ⟨h.at_.choose, k _ _ h.at_.choose_spec⟩
theorem PlS.tk {K : PySem.W.Frag} {H H' : Hp} {p b fa : Addr} {s : Str} {n : Nat} {B : Bd} {G : Str → Option Fm} (h : PlS K H p b fa s n B G) (k : Kp p H H') : Tk H H' := k.tk h.noT
/-- another list of what is bound -/
theorem PlS.other {K : PySem.W.Frag} {H : Hp} {p b b' fa : Addr} {s : Str} {n : Nat} {B B' : Bd} {G : Str → Option Fm} (h : PlS K H p b fa s n B G) (hb : BAt H b' B') (h5 : B5 B') : PlS K H p b' fa s n B' G := ⟨h.at_, h.gs, hb, h.g5, h5, h.s20⟩
end Wt
/-! The form that a name stands for, by the program and by the law. -/
namespace Wt
open PySem PySem.Spec PyProof.Rows L2 RZ RT
/-- a call of whatever an expression gives -/
def tCallV (X : Cx) (j : Nat) (CX : CXT) (E : XK) (tf : TE) (t : TA) : TE := fun σ H Q => tf σ H fun v H1 => ∃ (f : Addr) (fd : FuncData) (ps : List Str) (k : Nat) (sp : Sp), v = .ref f ∧ FnOk X.prog X.w X.K X.mg X.base CX k f fd ps sp ∧ PySem.W.keepIn X.K (.ref f) = true ∧ Binds X.K fd ps [] ∧ k ≤ j ∧ t σ H1 fun vs H2 => sp vs H2 Q E
theorem pe_callV {X : Cx} {j : Nat} {CX : CXT} {E : XK} {fx e : Expr} {es : List Expr} {tf : TE} {t : TA} {pos : Pos} (hf : PE X fx tf) (hr : Room j X.A) (hx : Passes CX X E) (ha : PA X (e :: es) t)
    (hc : eval (.Call fx (e :: es) [] pos) X.env = (do callWith pos (← eval fx X.env) [] (backTo pos (starEach (e :: es) X.env)) (backToKw pos (keywordEach [] X.env))) := by rfl)
    (he : starEach (e :: es) X.env = (false, eval e X.env) :: starEach es X.env := by rfl) (hpl : (backTo pos (starEach es X.env)).any (·.1) = false := by rfl) : PE X (.Call fx (e :: es) [] pos) (tCallV X j CX E tf t) := by
  refine ⟨fun pins s σ H Q I h => ?_⟩
  rw [hc]
  refine wpAny_bind (thn (hf.run pins s σ H _ I h) fun v s1 hv => ?_)
  obtain ⟨x, H1, I1, r1, f, fd, ps, k, sp, rfl, F, hk, hb, hkj, q⟩ := hv
  cases r1
  refine PySem.W.callWith_K (h₀ := X.base) I.ok.mod.kin hk (thn (ha.run pos pins s1 σ H1 _ I1 q) fun us s2 ⟨vs, H2, I2, r, q⟩ => ⟨I2.kIn, ?_⟩) he hpl
  exact run_fn F (hr.mono hkj) hb .nil hx I2 r (by rw [List.append_nil]; exact q)
/-- a list, backwards, item by item -/
theorem find_at {α : Type} {p : α → Bool} : ∀ {l : List α} {i : Nat} {q : α}, l[i]? = some q → p q = true → (∀ j, j < i → ∀ q', l[j]? = some q' → p q' = false) → l.find? p = some q
  | a :: l, 0, q, h, hp, _ => by
    cases h
    rw [List.find?_cons_of_pos hp]
  | a :: l, i + 1, q, h, hp, hn => by
    rw [List.find?_cons_of_neg (by rw [hn 0 (by omega) a rfl]; exact Bool.false_ne_true)]
    exact find_at (i := i) h hp fun j hj q' e => hn (j + 1) (by omega) q' e
  | [], i, q, h, _, _ => by simp at h
theorem find_no {α : Type} {p : α → Bool} {l : List α} (hn : ∀ (j : Nat) (q : α), l[j]? = some q → p q = false) : l.find? p = none := by
  rw [List.find?_eq_none]
  intro q hq
  obtain ⟨j, hj⟩ := List.mem_iff_getElem?.mp hq
  rw [hn j q hj]
  exact Bool.false_ne_true
theorem rpa_rev {H : Hp} {vs : List V} {ds : List PyData} (h : RpAll H vs ds) {i : Nat} {v : V} (hv : vs.reverse[i]? = some v) : ∃ d, ds.reverse[i]? = some d ∧ Rp H v d := by
  have hl := rpa_len h
  obtain ⟨hi, e⟩ := List.getElem?_eq_some_iff.mp hv
  rw [List.length_reverse] at hi
  rw [List.getElem?_reverse hi] at hv
  obtain ⟨d, hd⟩ := get_of hv hl
  refine ⟨d, ?_, rpa_get h hv hd⟩
  rw [List.getElem?_reverse (by omega), ← hl]
  exact hd
/-- what the form of a name must answer -/
def FormOf (H : Hp) (B : Bd) (G : Str → Option Fm) (x : Str) (Q : VK) (no : Prop) : Prop := match lookB B x with
  | some f => ∀ H' y, Same H H' → RpF H' y f → Q y H'
  | none => match G x with
    | some f => ∀ H' y, Same H H' → RpF H' y f → Q y H'
    | none => no
theorem formOf_bound {H : Hp} {B : Bd} {G : Str → Option Fm} {x : Str} {Q : VK} {no : Prop} (h : FormOf H B G x Q no) {i : Nat} {q : Str × Fm} (hq : B.reverse[i]? = some q) (hx : q.1 = x) (hn : ∀ j, j < i → ∀ q', B.reverse[j]? = some q' → q'.1 ≠ x) : ∀ H' y, Same H H' → RpF H' y q.2 → Q y H' := by
  have e : lookB B x = some q.2 := by
    unfold lookB
    rw [find_at hq (decide_eq_true hx) fun j hj q' e => decide_eq_false (hn j hj q' e)]
    rfl
  unfold FormOf at h
  rw [e] at h
  exact h
theorem formOf_free {H : Hp} {B : Bd} {G : Str → Option Fm} {x : Str} {Q : VK} {no : Prop} (h : FormOf H B G x Q no) (hn : ∀ (j : Nat) (q' : Str × Fm), B.reverse[j]? = some q' → q'.1 ≠ x) : match G x with
    | some f => ∀ H' y, Same H H' → RpF H' y f → Q y H'
    | none => no := by
  have e : lookB B x = none := by
    unfold lookB
    rw [find_no fun j q' e => decide_eq_false (hn j q' e)]
    rfl
  unfold FormOf at h
  rw [e] at h
  exact h
theorem pl_a {a b c : V} : List.lookup ("ahead" : Str) [("ahead", a), ("forms", b), ("places", c)] = some a := by simp [List.lookup]
theorem pl_f {a b c : V} : List.lookup ("forms" : Str) [("ahead", a), ("forms", b), ("places", c)] = some b := by
  have h : (("forms" : Str) == ("ahead" : Str)) = false := by decide
  simp [List.lookup, h]
theorem pl_p {a b c : V} : List.lookup ("places" : Str) [("ahead", a), ("forms", b), ("places", c)] = some c := by
  have h : (("places" : Str) == ("ahead" : Str)) = false := by decide
  have h2 : (("places" : Str) == ("forms" : Str)) = false := by decide
  simp [List.lookup, h, h2]
def spFormOf (K : PySem.W.Frag) : Sp := fun vs H Q E => ∃ p x b fa s n B G, vs = [.ref p, .str x, .ref b] ∧ PlS K H p b fa s n B G ∧ B.length ≤ 900 ∧ FormOf H B G x Q (∀ d H', Same H H' → H' d = some (.xd [("name", .str x)]) → E (.ref (He.ga K "NoName")) (some d) H')
section
variable {P : Program} {w : World} {K : PySem.W.Frag} {mg : Str → Option Value} {base : Heap}
theorem sc_Placer_form_of : FnScope ["self", "name", "bound", "other", "form"] ["self", "name", "bound"] (defScope s_Placer_form_of) := ⟨rfl, rfl, rfl, by decide +kernel, rfl, by decide +kernel, by decide +kernel⟩
theorem ok_Placer_form_of (T : Facts w K mg) : Mt P w K mg base (L2.CX P w) 5 (He.ga K "Placer") "form_of" (spFormOf K) := by
  obtain ⟨fd, F⟩ := T.f_Placer_form_of
  refine ⟨_, fd, ["self", "name", "bound"], T.m_Placer_form_of, ?_, F.bindsN fun _ _ _ _ _ _ us hl => match us, hl with | [_, _, _], _ => rfl⟩
  refine F.ok sc_Placer_form_of (fun vs H Q E h => ?_) (fun cdv A outer s H vs Q E hr h => ?_)
  · obtain ⟨p, x, b, fa, s, n, B, G, rfl, _⟩ := h
    rfl
  obtain ⟨p, x, b, fa, s', n, B, G, rfl, S, hB9, q⟩ := h
  have hu := r1 hr
  obtain ⟨vs, eb, rb⟩ := S.bs
  obtain ⟨dx, ep⟩ := S.at_
  obtain ⟨kvs, ef, hG⟩ := S.gs
  have hlen := rpa_len rb
  rw [List.length_map] at hlen
  refine ⟨_, (pss_cons (ps_for (passes_of rfl) rfl (pi_revA (by rfl) T.z_reversed (pv 2)) (pg_tup (by rfl) (pgs_cons (pg_name (i := 3) sc_Placer_form_of.nd rfl (Or.inl rfl)) (pgs_cons (pg_name (i := 4) sc_Placer_form_of.nd rfl (Or.inl rfl)) pgs_nil))) (pss_one (ps_if (pt_cmpR op_eq (pv 3) (pv 1) (nomark _)) (pss_one (ps_ret (pv 4))) pss_nil)))
    (pss_cons (ps_if (pt_cmp (pc_dnotin hu (pv 1) (pe_fld (pv 0) rfl)) rfl) (pss_one (ps_raise rfl (takes_of rfl rfl rfl rfl) (pmk_NoName T hr (by decide) (by rfl) (pa_cons (pv 1) pa_nil) (fun k h => ⟨h.choose, h.choose_spec.1, k _ _ h.choose_spec.2⟩)))) pss_nil)
    (pss_one (ps_ret (pe_dget hu (pe_fld (pv 0) rfl) (pv 1) (fun _ _ => rfl)))))), ?_⟩
  refine ⟨_, rfl, b, vs, rfl, .inl ⟨SqL.of eb, ?_⟩⟩
  refine for_inv (n := vs.length) (fun i σ H' => (∃ u v, σ = [some (.ref p), some (.str x), some (.ref b), u, v]) ∧ H' = H ∧ ∀ j, j < i → ∀ q', B.reverse[j]? = some q' → q'.1 ≠ x) ⟨⟨_, _, rfl⟩, rfl, fun j hj => absurd hj (Nat.not_lt_zero _)⟩ (fun σ H' p => Nat.le_refl _)
    (fun i σ H' hi hp => ?_) (fun i v σ H' H'' hi hp y => ?_) (fun σ H' hp => ?_)
  · obtain ⟨_, rfl, _⟩ := hp
    exact ⟨hi, vs, vs[vs.length - 1 - i], SqL.of eb, List.getElem?_eq_getElem (by omega)⟩
  · obtain ⟨⟨u0, v0, rfl⟩, rfl, hn⟩ := hp
    obtain ⟨rfl, hy⟩ := y
    have hv := hy vs (SqL.of eb)
    rw [← List.getElem?_reverse hi] at hv
    obtain ⟨d, hd, rd⟩ := rpa_rev rb hv
    rw [← List.map_reverse, List.getElem?_map] at hd
    obtain ⟨⟨xn, fn⟩, hq, rfl⟩ := Option.map_eq_some_iff.mp hd
    obtain ⟨a, v1, v2, rfl, ea, r1', r2'⟩ := rp2.mp rd
    obtain rfl := rp_str.mp r1'
    refine ⟨a, _, rfl, SqT.of ea, rfl, _, [v2], rfl, v2, [], rfl, rfl, ?_⟩
    refine ⟨_, rfl, _, rfl, rfl, _, rfl, ?_⟩
    rw [decide_str]
    by_cases hx : xn = x
    · rw [decide_eq_true hx]
      exact iteT ⟨_, rfl, formOf_bound q hq hx hn _ _ (Same.refl _) r2'⟩
    · rw [decide_eq_false hx]
      refine iteF ⟨⟨_, _, rfl⟩, rfl, fun j hj q' e => ?_⟩
      by_cases hji : j < i
      · exact hn j hji q' e
      · have : j = i := by omega
        subst this
        rw [hq] at e
        cases e
        exact hx
  · obtain ⟨⟨u0, v0, rfl⟩, rfl, hn⟩ := hp
    have q2 := formOf_free q fun j q' e => hn j (by
      obtain ⟨hj, _⟩ := List.getElem?_eq_some_iff.mp e
      rw [List.length_reverse] at hj
      omega) q' e
    have hx := hG x
    have key : ∀ H, DGet H fa (.str x) (valV kvs (.inr x)) ↔ DGet H fa (.str x) (valV kvs (.inr x)) := fun _ => Iff.rfl
    have hgd : DGet H' fa (.str x) (valV kvs (.inr x)) := DGet.k (k := .inr x) ef
    have fld : ∀ {Qx : VK}, Qx (.ref fa) H' → tFld K (tVar 0) "forms" [some (.ref p), some (.str x), some (.ref b), u0, v0] H' Qx := fun k =>
      ⟨_, rfl, p, _, dx, _, .ref fa, rfl, ep, T.cls_Placer, T.no_Placer_forms, pl_f, k⟩
    cases hg : G x with
    | none =>
      simp only [hg] at hx q2
      refine ⟨_, rfl, fld ⟨fa, none, rfl, by rw [← hx]; exact hgd, _, rfl, ?_⟩⟩
      exact iteT ⟨_, rfl, .str x, rfl, fun d H' h' ed => q2 d H' h' ed⟩
    | some f =>
      simp only [hg] at hx q2
      obtain ⟨v, ev, rv⟩ := hx
      rw [ev] at hgd
      refine ⟨_, rfl, fld ⟨fa, some v, rfl, hgd, _, rfl, ?_⟩⟩
      exact iteF ⟨_, rfl, p, _, dx, _, .ref fa, rfl, ep, T.cls_Placer, T.no_Placer_forms, pl_f, _, rfl, fa, v, rfl, hgd, q2 _ _ (Same.refl _) rv⟩
end
end Wt
/-! The program's ways, one for each word. -/
namespace Wt
open PySem PySem.Spec PyProof.Rows L2 RZ RT
def Tm.wd : Tm → Str
  | .number _ => "number"
  | .text _ => "text"
  | .name _ => "name"
  | .deed .. => "deed"
  | .call .. => "call"
  | .letT .. => "let"
  | .tell .. => "tell"
  | .ifT .. => "if"
  | .add .. => "add"
  | .sub .. => "sub"
  | .size _ => "size"
  | .box .. => "box"
  | .read _ => "read"
  | .write .. => "write"
  | .same .. => "same"
  | .doT .. => "do"
  | .wall .. => "wall"
/-- what is to be placed, and where -/
structure Job (K : PySem.W.Frag) (H : Hp) (p b fa : Addr) (s : Str) (n : Nat) (B : Bd) (G : Str → Option Fm) (v : V) (t : Tm) (N : Nat) : Prop where
  S : PlS K H p b fa s n B G
  r : RpT H v t
  wf : t.wf
  dep : t.dep < N
  cnt : n + t.nodes ≤ 100000
  len : B.length + t.dep ≤ 900
/-- the placer behind -/
def PAt (K : PySem.W.Frag) (H : Hp) (p : Addr) (s : Str) (fa : Addr) (n : Nat) : Prop := ∃ dx, H p = some (plO K dx s fa n)
def Good (K : PySem.W.Frag) (p : Addr) (H : Hp) (s : Str) (fa : Addr) (Q : VK) (r : Tm × Fm × Nat) : Prop := ∀ H' x, Kp p H H' → PAt K H' p s fa r.2.2 → Rp H' x (.tuple [r.1.d, r.2.1.d]) → Q x H'
def spPlaced (K : PySem.W.Frag) (N : Nat) : Sp := fun vs H Q E => ∃ p v b fa s n B G t, vs = [.ref p, v, .ref b] ∧ Job K H p b fa s n B G v t N ∧ Fin (plc G s B n t) (Good K p H s fa Q) (ErrS K p H E)
def spWay (K : PySem.W.Frag) (N : Nat) (w : Str) : Sp := fun vs H Q E => ∃ p v b fa s n B G t, vs = [.ref p, v, .ref b] ∧ t.wd = w ∧ Job K H p b fa s n B G v t (N + 1) ∧ Fin (plc G s B n t) (Good K p H s fa Q) (ErrS K p H E)
theorem Tk.trans' {a b c : Hp} (h : Tk a b) (k : Tk b c) : Tk a c := fun x xs e => k x xs (h x xs e)
theorem pl_n {a b c : V} {m : Str} (h1 : (m == ("ahead" : Str)) = false := by decide) (h2 : (m == ("forms" : Str)) = false := by decide) (h3 : (m == ("places" : Str)) = false := by decide) : List.lookup m [("ahead", a), ("forms", b), ("places", c)] = none := by
  simp [List.lookup, h1, h2, h3]
theorem fin_low {t : Tm} {f : Fm} {n : Nat} {good : Tm × Fm × Nat → Prop} {bad : Er → Prop} (h : Fin (lowM t f n) good bad) : (f.ht ≤ 5 → good (t, f, n)) ∧ (5 < f.ht → bad .high) := by
  unfold lowM at h
  by_cases h5 : 5 < f.ht
  · rw [if_pos h5] at h
    exact ⟨fun z => absurd z (by omega), fun _ => h⟩
  · rw [if_neg h5] at h
    exact ⟨fun _ => h, fun z => absurd z h5⟩
theorem bat_add {H' : Hp} {b q : Addr} {B : Bd} {vs : List V} {x : Str} {f : Fm} {y : V} {c : Addr} (eb : H' b = some (.lst vs)) (rb : RpAll H' vs (B.map fun q => .tuple [.str q.1, q.2.d])) (eq : H' q = some (.lst (vs ++ [.ref c]))) (ec : H' c = some (.tup [.str x, y])) (ry : RpF H' y f) : BAt H' q (B ++ [(x, f)]) := by
  refine ⟨_, eq, ?_⟩
  rw [List.map_append]
  have app : ∀ {us : List V} {ds : List PyData}, RpAll H' us ds → RpAll H' (us ++ [.ref c]) (ds ++ [.tuple [.str x, f.d]]) := by
    intro us
    induction us with
    | nil =>
      intro ds h
      cases h
      exact .cons (rp2.mpr ⟨c, _, _, rfl, ec, .str _, ry⟩) .nil
    | cons u us ih =>
      intro ds h
      cases h with
      | cons r t => exact .cons r (ih t)
  exact app rb
section
variable {P : Program} {w : World} {K : PySem.W.Frag} {mg : Str → Option Value} {base : Heap}
theorem sc_of_number : FnScope ["placer", "term", "bound"] ["placer", "term", "bound"] (defScope s_of_number) := ⟨rfl, rfl, rfl, by decide +kernel, rfl, by decide +kernel, by decide +kernel⟩
theorem sc_of_text : FnScope ["placer", "term", "bound"] ["placer", "term", "bound"] (defScope s_of_text) := ⟨rfl, rfl, rfl, by decide +kernel, rfl, by decide +kernel, by decide +kernel⟩
theorem sc_of_name : FnScope ["placer", "term", "bound"] ["placer", "term", "bound"] (defScope s_of_name) := ⟨rfl, rfl, rfl, by decide +kernel, rfl, by decide +kernel, by decide +kernel⟩
theorem sc_of_deed : FnScope ["placer", "term", "bound", "word", "name", "form", "body", "placed", "given"] ["placer", "term", "bound"] (defScope s_of_deed) := ⟨rfl, rfl, rfl, by decide +kernel, rfl, by decide +kernel, by decide +kernel⟩
theorem ok_of_number (T : Facts w K mg) (N : Nat) : Cl P w K mg base (L2.CX P w) 1 "of_number" (spWay K N "number") := by
  obtain ⟨fd, F⟩ := T.f_of_number
  refine ⟨_, fd, ["placer", "term", "bound"], T.g_of_number, ?_, F.kp, F.bindsN fun _ _ _ _ _ _ us hl => match us, hl with | [_, _, _], _ => rfl⟩
  refine F.ok sc_of_number (fun vs H Q E h => ?_) (fun cdv A outer s H vs Q E hr h => ?_)
  · obtain ⟨p, v, b, fa, s, n, B, G, t, rfl, _⟩ := h
    rfl
  obtain ⟨p, v, b, fa, s', n, B, G, t, rfl, hw, J, hf⟩ := h
  refine ⟨_, PSs.nox (pss_one (ps_ret (pe_tup (pa_cons (pv 1) (pa_cons (pe_glob (v := .str "num") rfl T.c_NUM.choose_spec ⟨_, rfl⟩) pa_nil))))), ?_⟩
  refine ⟨_, rfl, sz2, fun q hq => ?_⟩
  have s1 : ∀ o, Same H (upd H q o) := same_new hq
  cases t <;> first | (simp only [Tm.wd] at hw; exact absurd hw (by decide)) | skip
  exact hf _ _ (Kp.of (s1 _)) ⟨J.S.at_.choose, s1 _ _ _ J.S.at_.choose_spec⟩ (rp2.mpr ⟨q, _, _, rfl, upd_same, J.r.mono (s1 _).tk, .str _⟩)
theorem ok_of_text (T : Facts w K mg) (N : Nat) : Cl P w K mg base (L2.CX P w) 1 "of_text" (spWay K N "text") := by
  obtain ⟨fd, F⟩ := T.f_of_text
  refine ⟨_, fd, ["placer", "term", "bound"], T.g_of_text, ?_, F.kp, F.bindsN fun _ _ _ _ _ _ us hl => match us, hl with | [_, _, _], _ => rfl⟩
  refine F.ok sc_of_text (fun vs H Q E h => ?_) (fun cdv A outer s H vs Q E hr h => ?_)
  · obtain ⟨p, v, b, fa, s, n, B, G, t, rfl, _⟩ := h
    rfl
  obtain ⟨p, v, b, fa, s', n, B, G, t, rfl, hw, J, hf⟩ := h
  refine ⟨_, PSs.nox (pss_one (ps_ret (pe_tup (pa_cons (pv 1) (pa_cons (pe_glob (v := .str "text") rfl T.c_TEXT.choose_spec ⟨_, rfl⟩) pa_nil))))), ?_⟩
  refine ⟨_, rfl, sz2, fun q hq => ?_⟩
  have s1 : ∀ o, Same H (upd H q o) := same_new hq
  cases t <;> first | (simp only [Tm.wd] at hw; exact absurd hw (by decide)) | skip
  exact hf _ _ (Kp.of (s1 _)) ⟨J.S.at_.choose, s1 _ _ _ J.S.at_.choose_spec⟩ (rp2.mpr ⟨q, _, _, rfl, upd_same, J.r.mono (s1 _).tk, .str _⟩)
theorem ok_of_name (T : Facts w K mg) (N : Nat) : Cl P w K mg base (L2.CX P w) 6 "of_name" (spWay K N "name") := by
  have m_form_of := ok_Placer_form_of (P := P) (base := base) T
  obtain ⟨fd, F⟩ := T.f_of_name
  refine ⟨_, fd, ["placer", "term", "bound"], T.g_of_name, ?_, F.kp, F.bindsN fun _ _ _ _ _ _ us hl => match us, hl with | [_, _, _], _ => rfl⟩
  refine F.ok sc_of_name (fun vs H Q E h => ?_) (fun cdv A outer s H vs Q E hr h => ?_)
  · obtain ⟨p, v, b, fa, s, n, B, G, t, rfl, _⟩ := h
    rfl
  obtain ⟨p, v, b, fa, s', n, B, G, t, rfl, hw, J, hf⟩ := h
  refine ⟨_, (pss_one (ps_ret (pe_tup (pa_cons (pv 1) (pa_cons (pe_mcl m_form_of T.cls_Placer hr (by omega) (passes_call (takes_of rfl rfl rfl rfl) fun _ _ _ _ z => z) (pv 0) (pa_cons (pe_ix ix_tup (pv 1) pe_int (fun _ _ => rfl)) (pa_cons (pv 2) pa_nil))) pa_nil))))), ?_⟩
  cases t <;> first | (simp only [Tm.wd] at hw; exact absurd hw (by decide)) | skip
  rename_i x
  obtain ⟨a, y, rfl, ea, ry⟩ := rpw1.mp J.r
  obtain rfl := rp_str.mp ry
  obtain ⟨dx, ep⟩ := J.S.at_
  refine ⟨_, rfl, _, rfl, p, dx, _, rfl, ep, pl_n, _, rfl, a, _, 1, .str x, rfl, rfl, SqT.of ea, at1, _, rfl, ?_⟩
  have hB : B.length ≤ 900 := by have := J.len; omega
  have fin : ∀ (f : Fm), plc G s' B n (.name x) = .ok (.name x, f, n) → ∀ H' y, Same H H' → RpF H' y f → tNil [some (.ref p), some (.ref a), some (.ref b)] H' fun xs H2 => ([V.ref a, y] ++ xs).length ≤ sizeLine ∧ ∀ q, H2 q = none → Q (.ref q) (upd H2 q (.tup ([V.ref a, y] ++ xs))) := by
    intro f e H' y h' r
    refine ⟨sz2, fun q hq => ?_⟩
    have s1 := same_new hq (.tup [.ref a, y])
    rw [e] at hf
    exact hf _ _ (Kp.of (h'.trans s1)) ⟨dx, s1 _ _ (h' _ _ ep)⟩ (rp2.mpr ⟨q, _, _, rfl, upd_same, J.r.mono (h'.trans s1).tk, r.mono s1.tk⟩)
  refine ⟨p, x, b, fa, s', n, B, G, rfl, J.S, hB, ?_⟩
  unfold FormOf
  simp only [plc] at hf fin
  cases hl : lookB B x with
  | some f =>
    rw [hl] at hf fin
    exact fun H' y h' r => fin f rfl H' y h' r
  | none =>
    rw [hl] at hf fin
    cases hg : G x with
    | some f =>
      simp only [hg] at hf fin ⊢
      exact fun H' y h' r => fin f rfl H' y h' r
    | none =>
      simp only [hg] at hf fin ⊢
      exact fun d H' h' ed => hf d H' (Kp.of h') ed
theorem ok_of_deed (T : Facts w K mg) (N L : Nat) (hL : 10 ≤ L) (m_placed : Mt P w K mg base (L2.CX P w) L (He.ga K "Placer") "placed" (spPlaced K N)) : Cl P w K mg base (L2.CX P w) (L + 1) "of_deed" (spWay K N "deed") := by
  have c_low := ok_low (P := P) (base := base) T
  obtain ⟨fd, F⟩ := T.f_of_deed
  refine ⟨_, fd, ["placer", "term", "bound"], T.g_of_deed, ?_, F.kp, F.bindsN fun _ _ _ _ _ _ us hl => match us, hl with | [_, _, _], _ => rfl⟩
  refine F.ok sc_of_deed (fun vs H Q E h => ?_) (fun cdv A outer s H vs Q E hr h => ?_)
  · obtain ⟨p, v, b, fa, s, n, B, G, t, rfl, _⟩ := h
    rfl
  obtain ⟨p, v, b, fa, s', n, B, G, t, rfl, hw, J, hf⟩ := h
  refine ⟨_, (pss_cons (ps_asg (pv 1) (pg_tup (by rfl) (pgs_cons (pg_name (i := 3) sc_of_deed.nd rfl (Or.inl rfl)) (pgs_cons (pg_name (i := 4) sc_of_deed.nd rfl (Or.inl rfl)) (pgs_cons (pg_name (i := 5) sc_of_deed.nd rfl (Or.inl rfl)) (pgs_cons (pg_name (i := 6) sc_of_deed.nd rfl (Or.inl rfl)) pgs_nil))))))
    (pss_cons (ps_asg (pe_mcl m_placed T.cls_Placer hr (by omega) (passes_call (takes_of rfl rfl rfl rfl) fun _ _ _ _ z => z) (pv 0) (pa_cons (pv 6) (pa_cons (pe_op op_cat (pv 2) (pe_lst (pa_cons (pe_tup (pa_cons (pv 4) (pa_cons (pv 5) pa_nil))) pa_nil))) pa_nil))) (pg_tup (by rfl) (pgs_cons (pg_name (i := 7) sc_of_deed.nd rfl (Or.inl rfl)) (pgs_cons (pg_name (i := 8) sc_of_deed.nd rfl (Or.inl rfl)) pgs_nil))))
    (pss_one (ps_ret (pe_tup (pa_cons (pe_tup (pa_cons (pv 3) (pa_cons (pv 4) (pa_cons (pv 5) (pa_cons (pv 7) pa_nil))))) (pa_cons (pe_cl c_low hr (by omega) (passes_call (takes_of rfl rfl rfl rfl) fun _ _ _ _ z => z) (pa_cons (pe_tup (pa_cons (pe_glob (v := .str "deed") rfl T.c_DEED_forms.choose_spec ⟨_, rfl⟩) (pa_cons (pv 5) (pa_cons (pv 8) pa_nil)))) pa_nil)) pa_nil))))))), ?_⟩
  cases t <;> first | (simp only [Tm.wd] at hw; exact absurd hw (by decide)) | skip
  rename_i x f e
  obtain ⟨a, y1, y2, y3, rfl, ea, r1, r2, r3⟩ := rpw3.mp J.r
  obtain rfl := rp_str.mp r1
  obtain ⟨dx, ep⟩ := J.S.at_
  obtain ⟨vs, eb, rb⟩ := J.S.bs
  have hlen := rpa_len rb
  have hJd := J.dep
  have hJc := J.cnt
  have hJl := J.len
  simp only [Tm.dep, Tm.nodes] at hJd hJc hJl
  rw [List.length_map] at hlen
  refine ⟨_, rfl, a, _, rfl, SqT.of ea, rfl, _, _, rfl, _, _, rfl, _, _, rfl, _, _, rfl, rfl, ?_⟩
  refine ⟨_, rfl, p, dx, _, rfl, ep, pl_n, _, rfl, _, rfl, _, rfl, _, rfl, sz2, fun q1 hq1 => ⟨sz1, fun q2 hq2 => ?_⟩⟩
  have s1 := same_new hq1 (.tup [.str x, y2])
  have s2 := same_new hq2 (.lst [.ref q1])
  refine ⟨b, q2, vs, [.ref q1], rfl, rfl, s2 _ _ (s1 _ _ eb), upd_same, by rw [sizeLine_eq, List.length_singleton]; omega, fun q3 hq3 => ?_⟩
  have s3 := same_new hq3 (.lst (vs ++ [.ref q1]))
  have s13 := s1.trans (s2.trans s3)
  have hb' : BAt _ q3 (B ++ [(x, f)]) := bat_add (s13 _ _ eb) (RpAll.mono s13.tk rb) upd_same (s3 _ _ (s2 _ _ upd_same)) (r2.mono s13.tk)
  have S3 := (J.S.same s13).other hb' (J.S.b5.add J.wf.2.1)
  rw [plc, fin_bind] at hf
  refine ⟨p, y3, q3, fa, s', n, _, G, e, rfl, ⟨S3, r3.mono s13.tk, J.wf.2.2, by omega, by omega, by rw [List.length_append, List.length_singleton]; omega⟩, ?_⟩
  refine fin_mono hf (fun r er h => ?_) (fun er _ h => h.kp (Kp.of s13))
  intro H4 xr k4 a4 rr
  have h6 : (Fm.deed f r.2.1).ht ≤ 6 := by
    have := (plc_low J.S.g5 e er J.wf.2.2 (J.S.b5.add J.wf.2.1)).1
    have := J.wf.2.1
    simp only [Fm.ht]
    omega
  have t4 := J.S.tk ((Kp.of s13).trans k4)
  obtain ⟨c, z1, z2, rfl, ec, rz1, rz2⟩ := rp2.mp rr
  refine ⟨c, _, rfl, SqT.of ec, rfl, _, _, rfl, _, _, rfl, rfl, ?_⟩
  obtain ⟨h5a, h5b⟩ := fin_low h
  refine ⟨_, rfl, _, rfl, _, rfl, _, rfl, sz4, fun q5 hq5 => ?_⟩
  have s5 := same_new hq5 (.tup [.str "deed", .str x, y2, z1])
  refine ⟨_, rfl, _, rfl, sz3, fun q6 hq6 => ?_⟩
  have s6 := same_new hq6 (.tup [.str "deed", y2, z2])
  have t6 := (s5.trans s6).tk
  have rf : RpF _ (.ref q6) (.deed f r.2.1) := rpf_deed.mpr ⟨q6, _, _, rfl, upd_same, (r2.mono t4).mono t6, rz2.mono t6⟩
  have k6 : Kp p H _ := (Kp.of s13).trans (k4.trans (Kp.of (s5.trans s6)))
  refine ⟨_, _, rfl, rf, h6, fun h5 H7 s7 => ?_, fun h5 H7 s7 => h5b h5 H7 (k6.trans (Kp.of s7))⟩
  refine ⟨sz2, fun q8 hq8 => ?_⟩
  have s8 := same_new hq8 (.tup [.ref q5, .ref q6])
  have s78 := s7.trans s8
  refine h5a h5 _ _ (k6.trans (Kp.of s78)) ⟨a4.choose, s78 _ _ (s6 _ _ (s5 _ _ a4.choose_spec))⟩ (rp2.mpr ⟨q8, _, _, rfl, upd_same, ?_, rf.mono s78.tk⟩)
  exact rp4.mpr ⟨q5, _, _, _, _, rfl, s78 _ _ (s6 _ _ upd_same), .str _, .str _, (r2.mono t4).mono (t6.trans' s78.tk), rz1.mono (t6.trans' s78.tk)⟩
end
end Wt
/-! begun, wanted, wanted_head. -/
namespace Wt
open PySem PySem.Spec PyProof.Rows L2 RZ RT
def spBegun (K : PySem.W.Frag) (N : Nat) : Sp := fun vs H Q E => ∃ p v b fa s n B G t, vs = [.ref p, v, .ref b] ∧ Job K H p b fa s n B G v t N ∧ n + 1 + t.nodes ≤ 100000 ∧
  Fin (plc G s B (n + 1) t) (fun r => ∀ H' x, Kp p H H' → PAt K H' p s fa r.2.2 → Rp H' x (.tuple [.str (mkM s (n + 1)), r.1.d, r.2.1.d]) → Q x H') (ErrS K p H E)
def spWanted (K : PySem.W.Frag) (N : Nat) : Sp := fun vs H Q E => ∃ p v b wv g fa s n B G t, vs = [.ref p, v, .ref b, wv] ∧ Job K H p b fa s n B G v t N ∧ n + 1 + t.nodes ≤ 100000 ∧ RpF H wv g ∧ g.ht ≤ 5 ∧
  Fin (plc G s B (n + 1) t) (fun r => Fin (walledM (mkM s (n + 1)) r.1 r.2.1 g) (fun t' => ∀ H' x, Kp p H H' → PAt K H' p s fa r.2.2 → Rp H' x t'.d → Q x H') (ErrS K p H E)) (ErrS K p H E)
def spWH (K : PySem.W.Frag) (N : Nat) : Sp := fun vs H Q E => ∃ (p : Addr) (v : V) (b : Addr) (h : Str) (hw : Fm → Fm) (fa : Addr) (s : Str) (n : Nat) (B : Bd) (G : Str → Option Fm) (t : Tm), vs = [.ref p, v, .ref b, .str h] ∧ Job K H p b fa s n B G v t N ∧ n + 1 + t.nodes ≤ 100000 ∧ (h = "deed" ∧ hw = Fm.dw ∨ h = "box" ∧ hw = Fm.bw) ∧
  Fin (plc G s B (n + 1) t) (fun r => Fin (walledM (mkM s (n + 1)) r.1 r.2.1 (hw r.2.1)) (fun t' => ∀ H' x, Kp p H H' → PAt K H' p s fa r.2.2 → Rp H' x (.tuple [t'.d, (hw r.2.1).d]) → Q x H') (ErrS K p H E)) (ErrS K p H E)
theorem fin_two {α β γ : Type} {A : Except Er α} {W : α → Except Er β} {k : β → α → Except Er γ} {good : γ → Prop} {bad bad' : Er → Prop} {g' : β → α → Prop} (h : Fin (A.bind fun r => (W r).bind fun f' => k f' r) good bad) (hg : ∀ r f', A = .ok r → W r = .ok f' → Fin (k f' r) good bad → g' f' r) (hb : ∀ e, bad e → bad' e) :
    Fin A (fun r => Fin (W r) (fun f' => g' f' r) bad') bad' := by
  rw [fin_bind] at h
  refine fin_mono h (fun r er h => ?_) fun e _ h => hb e h
  rw [fin_bind] at h
  exact fin_mono h (fun f' ef h => hg r f' er ef h) fun e _ h => hb e h
theorem num_small {n : Nat} (h : n ≤ 100000) : ((n : Nat) : Int).natAbs.log2 < 1920 := by
  have e : ((n : Nat) : Int).natAbs = n := Int.natAbs_natCast n
  rw [e]
  by_cases h0 : n = 0
  · subst h0; decide
  · have := Nat.log2_lt (n := n) (k := 17) h0
    have h2 : n.log2 < 17 := this.mpr (by omega)
    omega
theorem num_len {n : Nat} (h : n ≤ 100000) : (((toString ((n : Nat) : Int) : String) : Str)).length ≤ 6 := PyProof.Rows.toString_length_le (by omega) (by decide) (by omega)
theorem str_app_len (x y : Str) : (x ++ y).length = x.length + y.length := by
  show (x ++ y).cps.size = _
  rw [Str.cps_append, Array.size_append]
  rfl
theorem walled_spec {K : PySem.W.Frag} {p : Addr} {H H1 : Hp} {m : Str} {f g : Fm} {t : Tm} {Q : VK} {E : XK} {x a b : V} {good : Tm → Prop} (k1 : Kp p H H1) (hx : Rp H1 x t.d) (ha : RpF H1 a f) (hb : RpF H1 b g) (hf : f.ht ≤ 6) (hg : g.ht ≤ 6)
    (h : Fin (walledM m t f g) good (ErrS K p H E)) (q : ∀ t', good t' → ∀ H' y, Same H1 H' → Rp H' y t'.d → Q y H') : spWalled K [.str m, x, a, b] H1 Q E := by
  refine ⟨m, x, t.d, a, b, f, g, rfl, hx, ha, hb, hf, hg, fun e H' s' => ?_, fun ne hn H' y s' r => ?_, fun hn dd H' s' ed => ?_⟩
  · unfold walledM at h
    rw [if_pos e] at h
    exact q t h H' x s' (hx.mono s'.tk)
  · unfold walledM at h
    rw [if_neg ne, if_pos hn] at h
    exact q _ h H' y s' r
  · unfold walledM at h
    rw [if_neg (fun e => by rw [e, Fm.near_refl] at hn; cases hn), if_neg (by rw [hn]; exact Bool.false_ne_true)] at h
    exact h dd H' (k1.trans (Kp.of s')) ed
section
variable {P : Program} {w : World} {K : PySem.W.Frag} {mg : Str → Option Value} {base : Heap}
theorem sc_Placer_begun : FnScope ["self", "term", "bound", "mark", "placed", "form"] ["self", "term", "bound"] (defScope s_Placer_begun) := ⟨rfl, rfl, rfl, by decide +kernel, rfl, by decide +kernel, by decide +kernel⟩
theorem sc_Placer_wanted : FnScope ["self", "term", "bound", "want", "mark", "placed", "form"] ["self", "term", "bound", "want"] (defScope s_Placer_wanted) := ⟨rfl, rfl, rfl, by decide +kernel, rfl, by decide +kernel, by decide +kernel⟩
theorem sc_Placer_wanted_head : FnScope ["self", "term", "bound", "head", "mark", "placed", "form", "want"] ["self", "term", "bound", "head"] (defScope s_Placer_wanted_head) := ⟨rfl, rfl, rfl, by decide +kernel, rfl, by decide +kernel, by decide +kernel⟩
theorem ok_Placer_begun (T : Facts w K mg) (N L : Nat) (m_placed : Mt P w K mg base (L2.CX P w) L (He.ga K "Placer") "placed" (spPlaced K N)) : Mt P w K mg base (L2.CX P w) (L + 1) (He.ga K "Placer") "begun" (spBegun K N) := by
  obtain ⟨fd, F⟩ := T.f_Placer_begun
  refine ⟨_, fd, ["self", "term", "bound"], T.m_Placer_begun, ?_, F.bindsN fun _ _ _ _ _ _ us hl => match us, hl with | [_, _, _], _ => rfl⟩
  refine F.ok sc_Placer_begun (fun vs H Q E h => ?_) (fun cdv A outer s H vs Q E hr h => ?_)
  · obtain ⟨p, v, b, fa, s, n, B, G, t, rfl, _⟩ := h
    rfl
  obtain ⟨p, v, b, fa, s', n, B, G, t, rfl, J, hc, hf⟩ := h
  obtain ⟨dx, ep⟩ := J.S.at_
  have h20 := J.S.s20
  refine ⟨_, (pss_cons (ps_fldaug (pv 0) pe_int in_add)
    (pss_cons (ps_set (i := 3) sc_Placer_begun.nd rfl (Or.inl rfl) (pe_joined (PJ.cons (pe_fmt (pe_fld (pv 0) rfl)) (PJ.cons pe_str (PJ.cons (pe_fmt (pe_fld (pv 0) rfl)) PJ.nil)))))
    (pss_cons (ps_asg (pe_mcl m_placed T.cls_Placer hr (by omega) (passes_call (takes_of rfl rfl rfl rfl) fun _ _ _ _ z => z) (pv 0) (pa_cons (pv 1) (pa_cons (pv 2) pa_nil))) (pg_tup (by rfl) (pgs_cons (pg_name (i := 4) sc_Placer_begun.nd rfl (Or.inl rfl)) (pgs_cons (pg_name (i := 5) sc_Placer_begun.nd rfl (Or.inl rfl)) pgs_nil))))
    (pss_one (ps_ret (pe_tup (pa_cons (pv 3) (pa_cons (pv 4) (pa_cons (pv 5) pa_nil))))))))), ?_⟩
  refine ⟨_, rfl, p, _, dx, _, .int (n : Nat), rfl, ep, T.cls_Placer, T.no_Placer_places, pl_p, _, _, rfl, rfl, dx, _, ep, by simp, ?_⟩
  have e1 : upd H p (.ins (He.ga K "Placer") dx (putF "places" (.int ((n : Nat) + 1)) [("ahead", .str s'), ("forms", .ref fa), ("places", .int (n : Nat))])) p = some (plO K dx s' fa (n + 1)) := by
    rw [upd_same]
    rfl
  have k1 : Kp p H _ := Kp.at_ (.ins (He.ga K "Placer") dx (putF "places" (.int ((n : Nat) + 1)) [("ahead", .str s'), ("forms", .ref fa), ("places", .int (n : Nat))]))
  have hn1 := num_len (n := n + 1) (by omega)
  refine ⟨_, rfl, p, _, dx, _, .str s', rfl, e1, T.cls_Placer, T.no_Placer_ahead, pl_a, .inl ⟨s', rfl, by rw [sizeLine_eq]; omega, s', rfl, by rw [Str.empty_append, sizeLine_eq]; omega, _, rfl, ?_, ?_⟩⟩
  · rw [Str.empty_append, str_app_len, sizeLine_eq]
    have : (("." : Str)).length = 1 := by decide
    omega
  refine ⟨_, rfl, p, _, dx, _, .int ((n + 1 : Nat) : Int), rfl, e1, T.cls_Placer, T.no_Placer_places, pl_p, .inr ⟨_, rfl, num_small (by omega), _, rfl, ?_, ?_⟩⟩
  · rw [Str.empty_append, str_app_len, str_app_len, sizeLine_eq]
    have : (("." : Str)).length = 1 := by decide
    omega
  rw [Str.empty_append]
  refine ⟨_, rfl, p, dx, _, rfl, e1, pl_n, _, rfl, _, rfl, ?_⟩
  refine ⟨p, v, b, fa, s', n + 1, B, G, t, rfl, ⟨J.S.kp k1 ⟨dx, e1⟩, J.r.mono (J.S.tk k1), J.wf, J.dep, hc, J.len⟩, ?_⟩
  refine fin_mono hf (fun r er h => ?_) (fun er _ h => h.kp k1)
  intro H2 x k2 a2 rr
  obtain ⟨c, z1, z2, rfl, ec, rz1, rz2⟩ := rp2.mp rr
  refine ⟨c, _, rfl, SqT.of ec, rfl, _, _, rfl, _, _, rfl, rfl, ?_⟩
  refine ⟨_, rfl, _, rfl, _, rfl, sz3, fun q hq => ?_⟩
  have s3 := same_new hq (.tup [.str (mkM s' (n + 1)), z1, z2])
  exact h _ _ (k1.trans (k2.trans (Kp.of s3))) ⟨a2.choose, s3 _ _ a2.choose_spec⟩ (rp3.mpr ⟨q, _, _, _, rfl, upd_same, .str _, rz1.mono s3.tk, rz2.mono s3.tk⟩)
theorem ok_Placer_wanted (T : Facts w K mg) (N L : Nat) (hL : 10 ≤ L) (m_begun : Mt P w K mg base (L2.CX P w) L (He.ga K "Placer") "begun" (spBegun K N)) : Mt P w K mg base (L2.CX P w) (L + 1) (He.ga K "Placer") "wanted" (spWanted K N) := by
  have c_walled := ok_walled (P := P) (base := base) T
  obtain ⟨fd, F⟩ := T.f_Placer_wanted
  refine ⟨_, fd, ["self", "term", "bound", "want"], T.m_Placer_wanted, ?_, F.bindsN fun _ _ _ _ _ _ us hl => match us, hl with | [_, _, _, _], _ => rfl⟩
  refine F.ok sc_Placer_wanted (fun vs H Q E h => ?_) (fun cdv A outer s H vs Q E hr h => ?_)
  · obtain ⟨p, v, b, wv, g, fa, s, n, B, G, t, rfl, _⟩ := h
    rfl
  obtain ⟨p, v, b, wv, g, fa, s', n, B, G, t, rfl, J, hc, rg, hg, hf⟩ := h
  obtain ⟨dx, ep⟩ := J.S.at_
  refine ⟨_, (pss_cons (ps_asg (pe_mcl m_begun T.cls_Placer hr (by omega) (passes_call (takes_of rfl rfl rfl rfl) fun _ _ _ _ z => z) (pv 0) (pa_cons (pv 1) (pa_cons (pv 2) pa_nil))) (pg_tup (by rfl) (pgs_cons (pg_name (i := 4) sc_Placer_wanted.nd rfl (Or.inl rfl)) (pgs_cons (pg_name (i := 5) sc_Placer_wanted.nd rfl (Or.inl rfl)) (pgs_cons (pg_name (i := 6) sc_Placer_wanted.nd rfl (Or.inl rfl)) pgs_nil)))))
    (pss_one (ps_ret (pe_cl c_walled hr (by omega) (passes_call (takes_of rfl rfl rfl rfl) fun _ _ _ _ z => z) (pa_cons (pv 4) (pa_cons (pv 5) (pa_cons (pv 6) (pa_cons (pv 3) pa_nil)))))))), ?_⟩
  refine ⟨_, rfl, p, dx, _, rfl, ep, pl_n, _, rfl, _, rfl, ?_⟩
  refine ⟨p, v, b, fa, s', n, B, G, t, rfl, J, hc, ?_⟩
  refine fin_mono hf (fun r er h => ?_) (fun er _ h => h)
  intro H2 x k2 a2 rr
  have hlow := (plc_low J.S.g5 t er J.wf J.S.b5).1
  obtain ⟨c, z0, z1, z2, rfl, ec, rz0, rz1, rz2⟩ := rp3.mp rr
  obtain rfl := rp_str.mp rz0
  refine ⟨c, _, rfl, SqT.of ec, rfl, _, _, rfl, _, _, rfl, _, _, rfl, rfl, ?_⟩
  refine ⟨_, rfl, _, rfl, _, rfl, _, rfl, ?_⟩
  exact walled_spec k2 rz1 rz2 (rg.mono (J.S.tk k2)) (by omega) (by omega) h fun t' q H' y s' ry => q H' y (k2.trans (Kp.of s')) ⟨a2.choose, s' _ _ a2.choose_spec⟩ ry
end
end Wt
namespace Wt
open PySem PySem.Spec PyProof.Rows L2 RZ RT
theorem hd_dw (f : Fm) : (f.hd = .str "deed" → f.dw = f) ∧ (f.hd ≠ .str "deed" → f.dw = .deed .any .any) := by
  cases f <;> first
    | exact ⟨fun _ => rfl, fun h => absurd rfl h⟩
    | exact ⟨fun h => absurd h (by simp only [Fm.hd]; decide), fun _ => rfl⟩
    | exact ⟨fun h => absurd (show V.str "box" = V.str "deed" from h) (by decide), fun _ => rfl⟩
theorem hd_bw (f : Fm) : (f.hd = .str "box" → f.bw = f) ∧ (f.hd ≠ .str "box" → f.bw = .box .any) := by
  cases f <;> first
    | exact ⟨fun _ => rfl, fun h => absurd rfl h⟩
    | exact ⟨fun h => absurd h (by simp only [Fm.hd]; decide), fun _ => rfl⟩
    | exact ⟨fun h => absurd (show V.str "deed" = V.str "box" from h) (by decide), fun _ => rfl⟩
theorem hd_scal (f : Fm) (h : Str) : scal f.hd (.str h) = true := by
  unfold Fm.hd
  split <;> rfl
section
variable {P : Program} {w : World} {K : PySem.W.Frag} {mg : Str → Option Value} {base : Heap}
theorem ok_Placer_wanted_head (T : Facts w K mg) (N L : Nat) (hL : 10 ≤ L) (m_begun : Mt P w K mg base (L2.CX P w) L (He.ga K "Placer") "begun" (spBegun K N)) : Mt P w K mg base (L2.CX P w) (L + 1) (He.ga K "Placer") "wanted_head" (spWH K N) := by
  have c_walled := ok_walled (P := P) (base := base) T
  have c_head_of_form := ok_head_of_form (P := P) (base := base) T
  have c_wide_of := ok_wide_of (P := P) (base := base) T
  obtain ⟨fd, F⟩ := T.f_Placer_wanted_head
  refine ⟨_, fd, ["self", "term", "bound", "head"], T.m_Placer_wanted_head, ?_, F.bindsN fun _ _ _ _ _ _ us hl => match us, hl with | [_, _, _, _], _ => rfl⟩
  refine F.ok sc_Placer_wanted_head (fun vs H Q E h => ?_) (fun cdv A outer s H vs Q E hr h => ?_)
  · obtain ⟨p, v, b, hh, hw, fa, s, n, B, G, t, rfl, _⟩ := h
    rfl
  obtain ⟨p, v, b, hh, hw, fa, s', n, B, G, t, rfl, J, hc, hhw, hf⟩ := h
  obtain ⟨dx, ep⟩ := J.S.at_
  refine ⟨_, (pss_cons (ps_asg (pe_mcl m_begun T.cls_Placer hr (by omega) (passes_call (takes_of rfl rfl rfl rfl) fun _ _ _ _ z => z) (pv 0) (pa_cons (pv 1) (pa_cons (pv 2) pa_nil))) (pg_tup (by rfl) (pgs_cons (pg_name (i := 4) sc_Placer_wanted_head.nd rfl (Or.inl rfl)) (pgs_cons (pg_name (i := 5) sc_Placer_wanted_head.nd rfl (Or.inl rfl)) (pgs_cons (pg_name (i := 6) sc_Placer_wanted_head.nd rfl (Or.inl rfl)) pgs_nil)))))
    (pss_cons (ps_set (i := 7) sc_Placer_wanted_head.nd rfl (Or.inl rfl) (pe_ifExp (pt_cmpR op_eq (pe_cl c_head_of_form hr (by omega) pass0 (pa_cons (pv 6) pa_nil)) (pv 3) (nomark _)) (pv 6) (pe_cl c_wide_of hr (by omega) pass0 (pa_cons (pv 3) pa_nil))))
    (pss_one (ps_ret (pe_tup (pa_cons (pe_cl c_walled hr (by omega) (passes_call (takes_of rfl rfl rfl rfl) fun _ _ _ _ z => z) (pa_cons (pv 4) (pa_cons (pv 5) (pa_cons (pv 6) (pa_cons (pv 7) pa_nil))))) (pa_cons (pv 7) pa_nil))))))), ?_⟩
  refine ⟨_, rfl, p, dx, _, rfl, ep, pl_n, _, rfl, _, rfl, ?_⟩
  refine ⟨p, v, b, fa, s', n, B, G, t, rfl, J, hc, ?_⟩
  refine fin_mono hf (fun r er h => ?_) (fun er _ h => h)
  intro H2 x k2 a2 rr
  have hlow := (plc_low J.S.g5 t er J.wf J.S.b5).1
  obtain ⟨c, z0, z1, z2, rfl, ec, rz0, rz1, rz2⟩ := rp3.mp rr
  obtain rfl := rp_str.mp rz0
  refine ⟨c, _, rfl, SqT.of ec, rfl, _, _, rfl, _, _, rfl, _, _, rfl, rfl, ?_⟩
  -- want
  have h5 : (hw r.2.1).ht ≤ 5 := by
    rcases hhw with ⟨_, rfl⟩ | ⟨_, rfl⟩
    · exact (dw_low hlow).1
    · exact (bw_low hlow).1
  have go : ∀ H3 wv, Same H2 H3 → RpF H3 wv (hw r.2.1) → spWalled K [.str (mkM s' (n + 1)), z1, z2, wv] H3 (fun x3 H4 => H4 = H4 ∧ (2 ≤ sizeLine ∧ ∀ q, H4 q = none → Q (.ref q) (upd H4 q (.tup [x3, wv])))) E := by
    intro H3 wv s3 rw3
    refine walled_spec (k2.trans (Kp.of s3)) (rz1.mono s3.tk) (rz2.mono s3.tk) rw3 (by omega) (by omega) h fun t' q H' y s' ry => ⟨rfl, sz2, fun q0 hq0 => ?_⟩
    have s5 := same_new hq0 (.tup [y, wv])
    have s35 := s3.trans (s'.trans s5)
    exact q _ _ (k2.trans (Kp.of s35)) ⟨a2.choose, s35 _ _ a2.choose_spec⟩ (rp2.mpr ⟨q0, _, _, rfl, upd_same, ry.mono s5.tk, rw3.mono (s'.trans s5).tk⟩)
  have fin : ∀ H3 wv, Same H2 H3 → RpF H3 wv (hw r.2.1) → tRet (tTup (tCons (tCall (spWalled K) [] E (tCons (tVar 4) (tCons (tVar 5) (tCons (tVar 6) (tCons (tVar 7) tNil))))) (tCons (tVar 7) tNil))) { nx := fun x H' => Q V.non H', rt := Q } [some (.ref p), some v, some (.ref b), some (.str hh), some (.str (mkM s' (n + 1))), some z1, some z2, some wv] H3 := by
    intro H3 wv s3 rw3
    refine ⟨_, rfl, _, rfl, _, rfl, _, rfl, ?_⟩
    have z := go H3 wv s3 rw3
    obtain ⟨m, x, d, a, b', f, g, e1, e2, e3, e4, e5, e6, e7, e8, e9⟩ := z
    exact ⟨m, x, d, a, b', f, g, e1, e2, e3, e4, e5, e6, fun e H' s' => ⟨_, rfl, (e7 e H' s').2⟩, fun e hn H' y s' r => ⟨_, rfl, (e8 e hn H' y s' r).2⟩, e9⟩
  refine ⟨_, rfl, z2, r.2.1, rfl, rz2, by omega, fun H3 s3 => ⟨_, rfl, hd_scal _ _, _, rfl, ?_⟩⟩
  by_cases hd : r.2.1.hd = .str hh
  · rw [decide_eq_true hd]
    refine iteT ⟨_, rfl, fin H3 z2 s3 ?_⟩
    have e : hw r.2.1 = r.2.1 := by
      rcases hhw with ⟨rfl, rfl⟩ | ⟨rfl, rfl⟩
      · exact (hd_dw _).1 hd
      · exact (hd_bw _).1 hd
    rw [e]
    exact rz2.mono s3.tk
  · rw [decide_eq_false hd]
    refine iteF ⟨_, rfl, hh, hw r.2.1, rfl, ?_, fun H4 wv s4 rw4 => fin H4 wv (s3.trans s4) rw4⟩
    rcases hhw with ⟨rfl, rfl⟩ | ⟨rfl, rfl⟩
    · exact .inl ⟨rfl, (hd_dw _).2 hd⟩
    · exact .inr ⟨rfl, (hd_bw _).2 hd⟩
end
end Wt
namespace Wt
open PySem PySem.Spec PyProof.Rows L2 RZ RT
theorem PAt.same {K : PySem.W.Frag} {H H' : Hp} {p fa : Addr} {s : Str} {n : Nat} (h : PAt K H p s fa n) (k : Same H H') : PAt K H' p s fa n := ⟨h.choose, k _ _ h.choose_spec⟩
section
variable {P : Program} {w : World} {K : PySem.W.Frag} {mg : Str → Option Value} {base : Heap}
theorem sc_of_do : FnScope ["placer", "term", "bound", "word", "one", "other", "first", "given", "second", "form"] ["placer", "term", "bound"] (defScope s_of_do) := ⟨rfl, rfl, rfl, by decide +kernel, rfl, by decide +kernel, by decide +kernel⟩
theorem ok_of_do (T : Facts w K mg) (N L : Nat) (hL : 10 ≤ L) (m_placed : Mt P w K mg base (L2.CX P w) L (He.ga K "Placer") "placed" (spPlaced K N)) : Cl P w K mg base (L2.CX P w) (L + 1) "of_do" (spWay K N "do") := by
  obtain ⟨fd, F⟩ := T.f_of_do
  refine ⟨_, fd, ["placer", "term", "bound"], T.g_of_do, ?_, F.kp, F.bindsN fun _ _ _ _ _ _ us hl => match us, hl with | [_, _, _], _ => rfl⟩
  refine F.ok sc_of_do (fun vs H Q E h => ?_) (fun cdv A outer s H vs Q E hr h => ?_)
  · obtain ⟨p, v, b, fa, s, n, B, G, t, rfl, _⟩ := h
    rfl
  obtain ⟨p, v, b, fa, s', n, B, G, t, rfl, hw, J, hf⟩ := h
  refine ⟨_, (pss_cons (ps_asg (pv 1) (pg_tup (by rfl) (pgs_cons (pg_name (i := 3) sc_of_do.nd rfl (Or.inl rfl)) (pgs_cons (pg_name (i := 4) sc_of_do.nd rfl (Or.inl rfl)) (pgs_cons (pg_name (i := 5) sc_of_do.nd rfl (Or.inl rfl)) pgs_nil)))))
    (pss_cons (ps_asg (pe_mcl m_placed T.cls_Placer hr (by omega) (passes_call (takes_of rfl rfl rfl rfl) fun _ _ _ _ z => z) (pv 0) (pa_cons (pv 4) (pa_cons (pv 2) pa_nil))) (pg_tup (by rfl) (pgs_cons (pg_name (i := 6) sc_of_do.nd rfl (Or.inl rfl)) (pgs_cons (pg_name (i := 7) sc_of_do.nd rfl (Or.inl rfl)) pgs_nil))))
    (pss_cons (ps_asg (pe_mcl m_placed T.cls_Placer hr (by omega) (passes_call (takes_of rfl rfl rfl rfl) fun _ _ _ _ z => z) (pv 0) (pa_cons (pv 5) (pa_cons (pv 2) pa_nil))) (pg_tup (by rfl) (pgs_cons (pg_name (i := 8) sc_of_do.nd rfl (Or.inl rfl)) (pgs_cons (pg_name (i := 9) sc_of_do.nd rfl (Or.inl rfl)) pgs_nil))))
    (pss_one (ps_ret (pe_tup (pa_cons (pe_tup (pa_cons (pv 3) (pa_cons (pv 6) (pa_cons (pv 8) pa_nil)))) (pa_cons (pv 9) pa_nil)))))))), ?_⟩
  cases t <;> first | (simp only [Tm.wd] at hw; exact absurd hw (by decide)) | skip
  rename_i e f
  obtain ⟨dx, ep⟩ := J.S.at_
  have hJd := J.dep
  have hJc := J.cnt
  have hJl := J.len
  simp only [Tm.dep, Tm.nodes] at hJd hJc hJl
  obtain ⟨a, y1, y2, rfl, ea, r1, r2⟩ := rpw2.mp J.r
  refine ⟨_, rfl, a, _, rfl, SqT.of ea, rfl, _, _, rfl, _, _, rfl, _, _, rfl, rfl, ?_⟩
  rw [plc, fin_bind] at hf
  refine ⟨_, rfl, p, dx, _, rfl, ep, pl_n, _, rfl, _, rfl, ?_⟩
  refine ⟨p, y1, b, fa, s', n, B, G, e, rfl, ⟨J.S, r1, J.wf.1, by omega, by omega, by omega⟩, ?_⟩
  refine fin_mono hf (fun r er h => ?_) (fun er _ h => h)
  intro H2 x k2 a2 rr
  obtain ⟨g1, g2, g3⟩ := plc_low J.S.g5 e er J.wf.1 J.S.b5
  obtain ⟨c, z1, z2, rfl, ec, rz1, rz2⟩ := rp2.mp rr
  refine ⟨c, _, rfl, SqT.of ec, rfl, _, _, rfl, _, _, rfl, rfl, ?_⟩
  rw [fin_bind] at h
  refine ⟨_, rfl, p, a2.choose, _, rfl, a2.choose_spec, pl_n, _, rfl, _, rfl, ?_⟩
  refine ⟨p, y2, b, fa, s', r.2.2, B, G, f, rfl, ⟨J.S.kp k2 a2, r2.mono (J.S.tk k2), J.wf.2, by omega, by omega, by omega⟩, ?_⟩
  refine fin_mono h (fun q eq h => ?_) (fun er _ h => h.kp k2)
  intro H3 x3 k3 a3 rr3
  have t3 := (J.S.kp k2 a2).tk k3
  obtain ⟨c3, u1, u2, rfl, ec3, ru1, ru2⟩ := rp2.mp rr3
  refine ⟨c3, _, rfl, SqT.of ec3, rfl, _, _, rfl, _, _, rfl, rfl, ?_⟩
  refine ⟨_, rfl, _, rfl, _, rfl, sz3, fun q1 hq1 => ?_⟩
  have s4 := same_new hq1 (.tup [.str "do", z1, u1])
  refine ⟨_, rfl, sz2, fun q2 hq2 => ?_⟩
  have s5 := same_new hq2 (.tup [.ref q1, u2])
  have s45 := s4.trans s5
  exact h _ _ (k2.trans (k3.trans (Kp.of s45))) (a3.same s45) (rp2.mpr ⟨q2, _, _, rfl, upd_same, rp3.mpr ⟨q1, _, _, _, rfl, s5 _ _ upd_same, .str _, (rz1.mono t3).mono s45.tk, ru1.mono s45.tk⟩, ru2.mono s45.tk⟩)
theorem sc_of_let : FnScope ["placer", "term", "bound", "word", "name", "one", "other", "first", "given", "second", "form"] ["placer", "term", "bound"] (defScope s_of_let) := ⟨rfl, rfl, rfl, by decide +kernel, rfl, by decide +kernel, by decide +kernel⟩
theorem ok_of_let (T : Facts w K mg) (N L : Nat) (hL : 10 ≤ L) (m_placed : Mt P w K mg base (L2.CX P w) L (He.ga K "Placer") "placed" (spPlaced K N)) : Cl P w K mg base (L2.CX P w) (L + 1) "of_let" (spWay K N "let") := by
  obtain ⟨fd, F⟩ := T.f_of_let
  refine ⟨_, fd, ["placer", "term", "bound"], T.g_of_let, ?_, F.kp, F.bindsN fun _ _ _ _ _ _ us hl => match us, hl with | [_, _, _], _ => rfl⟩
  refine F.ok sc_of_let (fun vs H Q E h => ?_) (fun cdv A outer s H vs Q E hr h => ?_)
  · obtain ⟨p, v, b, fa, s, n, B, G, t, rfl, _⟩ := h
    rfl
  obtain ⟨p, v, b, fa, s', n, B, G, t, rfl, hw, J, hf⟩ := h
  refine ⟨_, (pss_cons (ps_asg (pv 1) (pg_tup (by rfl) (pgs_cons (pg_name (i := 3) sc_of_let.nd rfl (Or.inl rfl)) (pgs_cons (pg_name (i := 4) sc_of_let.nd rfl (Or.inl rfl)) (pgs_cons (pg_name (i := 5) sc_of_let.nd rfl (Or.inl rfl)) (pgs_cons (pg_name (i := 6) sc_of_let.nd rfl (Or.inl rfl)) pgs_nil))))))
    (pss_cons (ps_asg (pe_mcl m_placed T.cls_Placer hr (by omega) (passes_call (takes_of rfl rfl rfl rfl) fun _ _ _ _ z => z) (pv 0) (pa_cons (pv 5) (pa_cons (pv 2) pa_nil))) (pg_tup (by rfl) (pgs_cons (pg_name (i := 7) sc_of_let.nd rfl (Or.inl rfl)) (pgs_cons (pg_name (i := 8) sc_of_let.nd rfl (Or.inl rfl)) pgs_nil))))
    (pss_cons (ps_asg (pe_mcl m_placed T.cls_Placer hr (by omega) (passes_call (takes_of rfl rfl rfl rfl) fun _ _ _ _ z => z) (pv 0) (pa_cons (pv 6) (pa_cons (pe_op op_cat (pv 2) (pe_lst (pa_cons (pe_tup (pa_cons (pv 4) (pa_cons (pv 8) pa_nil))) pa_nil))) pa_nil))) (pg_tup (by rfl) (pgs_cons (pg_name (i := 9) sc_of_let.nd rfl (Or.inl rfl)) (pgs_cons (pg_name (i := 10) sc_of_let.nd rfl (Or.inl rfl)) pgs_nil))))
    (pss_one (ps_ret (pe_tup (pa_cons (pe_tup (pa_cons (pv 3) (pa_cons (pv 4) (pa_cons (pv 7) (pa_cons (pv 9) pa_nil))))) (pa_cons (pv 10) pa_nil)))))))), ?_⟩
  cases t <;> first | (simp only [Tm.wd] at hw; exact absurd hw (by decide)) | skip
  rename_i x e f
  obtain ⟨dx, ep⟩ := J.S.at_
  have hJd := J.dep
  have hJc := J.cnt
  have hJl := J.len
  simp only [Tm.dep, Tm.nodes] at hJd hJc hJl
  obtain ⟨a, y0, y1, y2, rfl, ea, r0, r1, r2⟩ := rpw3.mp J.r
  obtain rfl := rp_str.mp r0
  refine ⟨_, rfl, a, _, rfl, SqT.of ea, rfl, _, _, rfl, _, _, rfl, _, _, rfl, _, _, rfl, rfl, ?_⟩
  rw [plc, fin_bind] at hf
  refine ⟨_, rfl, p, dx, _, rfl, ep, pl_n, _, rfl, _, rfl, ?_⟩
  refine ⟨p, y1, b, fa, s', n, B, G, e, rfl, ⟨J.S, r1, J.wf.2.1, by omega, by omega, by omega⟩, ?_⟩
  refine fin_mono hf (fun r er h => ?_) (fun er _ h => h)
  intro H2 x2 k2 a2 rr
  obtain ⟨g1, g2, g3⟩ := plc_low J.S.g5 e er J.wf.2.1 J.S.b5
  obtain ⟨c, z1, z2, rfl, ec, rz1, rz2⟩ := rp2.mp rr
  refine ⟨c, _, rfl, SqT.of ec, rfl, _, _, rfl, _, _, rfl, rfl, ?_⟩
  rw [fin_bind] at h
  have S2 := J.S.kp k2 a2
  obtain ⟨vs, eb, rb⟩ := S2.bs
  have hlen := rpa_len rb
  rw [List.length_map] at hlen
  refine ⟨_, rfl, p, a2.choose, _, rfl, a2.choose_spec, pl_n, _, rfl, _, rfl, _, rfl, _, rfl, sz2, fun q1 hq1 => ⟨sz1, fun q2 hq2 => ?_⟩⟩
  have s1 := same_new hq1 (.tup [.str x, z2])
  have s2 := same_new hq2 (.lst [.ref q1])
  refine ⟨b, q2, vs, [.ref q1], rfl, rfl, s2 _ _ (s1 _ _ eb), upd_same, by rw [sizeLine_eq, List.length_singleton]; omega, fun q3 hq3 => ?_⟩
  have s3 := same_new hq3 (.lst (vs ++ [.ref q1]))
  have s13 := s1.trans (s2.trans s3)
  have hb' : BAt _ q3 (B ++ [(x, r.2.1)]) := bat_add (s13 _ _ eb) (RpAll.mono s13.tk rb) upd_same (s3 _ _ (s2 _ _ upd_same)) (rz2.mono s13.tk)
  have S3 := (S2.same s13).other hb' (S2.b5.add g1)
  refine ⟨p, y2, q3, fa, s', r.2.2, _, G, f, rfl, ⟨S3, (r2.mono (J.S.tk k2)).mono s13.tk, J.wf.2.2, by omega, by omega, by rw [List.length_append, List.length_singleton]; omega⟩, ?_⟩
  refine fin_mono h (fun q eq h => ?_) (fun er _ h => h.kp (k2.trans (Kp.of s13)))
  intro H3 x3 k3 a3 rr3
  have t3 := s13.tk.trans' (S3.tk k3)
  obtain ⟨c3, u1, u2, rfl, ec3, ru1, ru2⟩ := rp2.mp rr3
  refine ⟨c3, _, rfl, SqT.of ec3, rfl, _, _, rfl, _, _, rfl, rfl, ?_⟩
  refine ⟨_, rfl, _, rfl, _, rfl, _, rfl, sz4, fun q4 hq4 => ?_⟩
  have s4 := same_new hq4 (.tup [.str "let", .str x, z1, u1])
  refine ⟨_, rfl, sz2, fun q5 hq5 => ?_⟩
  have s5 := same_new hq5 (.tup [.ref q4, u2])
  have s45 := s4.trans s5
  exact h _ _ (k2.trans ((Kp.of s13).trans (k3.trans (Kp.of s45)))) (a3.same s45) (rp2.mpr ⟨q5, _, _, rfl, upd_same, rp4.mpr ⟨q4, _, _, _, _, rfl, s5 _ _ upd_same, .str _, .str _, (rz1.mono t3).mono s45.tk, ru1.mono s45.tk⟩, ru2.mono s45.tk⟩)
theorem sc_of_tell : FnScope ["placer", "term", "bound", "word", "form", "one"] ["placer", "term", "bound"] (defScope s_of_tell) := ⟨rfl, rfl, rfl, by decide +kernel, rfl, by decide +kernel, by decide +kernel⟩
theorem ok_of_tell (T : Facts w K mg) (N L : Nat) (hL : 10 ≤ L) (m_wanted : Mt P w K mg base (L2.CX P w) L (He.ga K "Placer") "wanted" (spWanted K N)) : Cl P w K mg base (L2.CX P w) (L + 1) "of_tell" (spWay K N "tell") := by
  obtain ⟨fd, F⟩ := T.f_of_tell
  refine ⟨_, fd, ["placer", "term", "bound"], T.g_of_tell, ?_, F.kp, F.bindsN fun _ _ _ _ _ _ us hl => match us, hl with | [_, _, _], _ => rfl⟩
  refine F.ok sc_of_tell (fun vs H Q E h => ?_) (fun cdv A outer s H vs Q E hr h => ?_)
  · obtain ⟨p, v, b, fa, s, n, B, G, t, rfl, _⟩ := h
    rfl
  obtain ⟨p, v, b, fa, s', n, B, G, t, rfl, hw, J, hf⟩ := h
  refine ⟨_, (pss_cons (ps_asg (pv 1) (pg_tup (by rfl) (pgs_cons (pg_name (i := 3) sc_of_tell.nd rfl (Or.inl rfl)) (pgs_cons (pg_name (i := 4) sc_of_tell.nd rfl (Or.inl rfl)) (pgs_cons (pg_name (i := 5) sc_of_tell.nd rfl (Or.inl rfl)) pgs_nil)))))
    (pss_one (ps_ret (pe_tup (pa_cons (pe_tup (pa_cons (pv 3) (pa_cons (pv 4) (pa_cons (pe_mcl m_wanted T.cls_Placer hr (by omega) (passes_call (takes_of rfl rfl rfl rfl) fun _ _ _ _ z => z) (pv 0) (pa_cons (pv 5) (pa_cons (pv 2) (pa_cons (pv 4) pa_nil)))) pa_nil)))) (pa_cons (pv 4) pa_nil)))))), ?_⟩
  cases t <;> first | (simp only [Tm.wd] at hw; exact absurd hw (by decide)) | skip
  rename_i f e
  obtain ⟨dx, ep⟩ := J.S.at_
  have hJd := J.dep
  have hJc := J.cnt
  have hJl := J.len
  simp only [Tm.dep, Tm.nodes] at hJd hJc hJl
  obtain ⟨a, y1, y2, rfl, ea, r1, r2⟩ := rpw2.mp J.r
  refine ⟨_, rfl, a, _, rfl, SqT.of ea, rfl, _, _, rfl, _, _, rfl, _, _, rfl, rfl, ?_⟩
  refine ⟨_, rfl, _, rfl, _, rfl, p, dx, _, rfl, ep, pl_n, _, rfl, _, rfl, _, rfl, ?_⟩
  refine ⟨p, y2, b, y1, f, fa, s', n, B, G, e, rfl, ⟨J.S, r2, J.wf.2, by omega, by omega, by omega⟩, by omega, r1, J.wf.1, ?_⟩
  refine fin_two hf (fun r t' er et h => ?_) (fun er h => h)
  intro H2 x k2 a2 rx
  refine ⟨sz3, fun q1 hq1 => ?_⟩
  have s1 := same_new hq1 (.tup [.str "tell", y1, x])
  refine ⟨_, rfl, sz2, fun q2 hq2 => ?_⟩
  have s2 := same_new hq2 (.tup [.ref q1, y1])
  have s12 := s1.trans s2
  have t2 := J.S.tk k2
  exact h _ _ (k2.trans (Kp.of s12)) (a2.same s12) (rp2.mpr ⟨q2, _, _, rfl, upd_same, rp3.mpr ⟨q1, _, _, _, rfl, s2 _ _ upd_same, .str _, (r1.mono t2).mono s12.tk, rx.mono s12.tk⟩, (r1.mono t2).mono s12.tk⟩)
theorem sc_of_box : FnScope ["placer", "term", "bound", "word", "form", "one"] ["placer", "term", "bound"] (defScope s_of_box) := ⟨rfl, rfl, rfl, by decide +kernel, rfl, by decide +kernel, by decide +kernel⟩
theorem ok_of_box (T : Facts w K mg) (N L : Nat) (hL : 10 ≤ L) (m_wanted : Mt P w K mg base (L2.CX P w) L (He.ga K "Placer") "wanted" (spWanted K N)) : Cl P w K mg base (L2.CX P w) (L + 1) "of_box" (spWay K N "box") := by
  have c_low := ok_low (P := P) (base := base) T
  obtain ⟨fd, F⟩ := T.f_of_box
  refine ⟨_, fd, ["placer", "term", "bound"], T.g_of_box, ?_, F.kp, F.bindsN fun _ _ _ _ _ _ us hl => match us, hl with | [_, _, _], _ => rfl⟩
  refine F.ok sc_of_box (fun vs H Q E h => ?_) (fun cdv A outer s H vs Q E hr h => ?_)
  · obtain ⟨p, v, b, fa, s, n, B, G, t, rfl, _⟩ := h
    rfl
  obtain ⟨p, v, b, fa, s', n, B, G, t, rfl, hw, J, hf⟩ := h
  refine ⟨_, (pss_cons (ps_asg (pv 1) (pg_tup (by rfl) (pgs_cons (pg_name (i := 3) sc_of_box.nd rfl (Or.inl rfl)) (pgs_cons (pg_name (i := 4) sc_of_box.nd rfl (Or.inl rfl)) (pgs_cons (pg_name (i := 5) sc_of_box.nd rfl (Or.inl rfl)) pgs_nil)))))
    (pss_one (ps_ret (pe_tup (pa_cons (pe_tup (pa_cons (pv 3) (pa_cons (pv 4) (pa_cons (pe_mcl m_wanted T.cls_Placer hr (by omega) (passes_call (takes_of rfl rfl rfl rfl) fun _ _ _ _ z => z) (pv 0) (pa_cons (pv 5) (pa_cons (pv 2) (pa_cons (pv 4) pa_nil)))) pa_nil)))) (pa_cons (pe_cl c_low hr (by omega) (passes_call (takes_of rfl rfl rfl rfl) fun _ _ _ _ z => z) (pa_cons (pe_tup (pa_cons (pe_glob (v := .str "box") rfl T.c_BOX.choose_spec ⟨_, rfl⟩) (pa_cons (pv 4) pa_nil))) pa_nil)) pa_nil)))))), ?_⟩
  cases t <;> first | (simp only [Tm.wd] at hw; exact absurd hw (by decide)) | skip
  rename_i f e
  obtain ⟨dx, ep⟩ := J.S.at_
  have hJd := J.dep
  have hJc := J.cnt
  have hJl := J.len
  simp only [Tm.dep, Tm.nodes] at hJd hJc hJl
  obtain ⟨a, y1, y2, rfl, ea, r1, r2⟩ := rpw2.mp J.r
  refine ⟨_, rfl, a, _, rfl, SqT.of ea, rfl, _, _, rfl, _, _, rfl, _, _, rfl, rfl, ?_⟩
  refine ⟨_, rfl, _, rfl, _, rfl, p, dx, _, rfl, ep, pl_n, _, rfl, _, rfl, _, rfl, ?_⟩
  refine ⟨p, y2, b, y1, f, fa, s', n, B, G, e, rfl, ⟨J.S, r2, J.wf.2, by omega, by omega, by omega⟩, by omega, r1, J.wf.1, ?_⟩
  refine fin_two hf (fun r t' er et h => ?_) (fun er h => h)
  intro H2 x k2 a2 rx
  obtain ⟨h5a, h5b⟩ := fin_low h
  refine ⟨sz3, fun q1 hq1 => ?_⟩
  have s1 := same_new hq1 (.tup [.str "box", y1, x])
  refine ⟨_, rfl, sz2, fun q2 hq2 => ?_⟩
  have s2 := same_new hq2 (.tup [.str "box", y1])
  have s12 := s1.trans s2
  have t2 := J.S.tk k2
  have rf : RpF _ (.ref q2) (.box f) := rpf_box.mpr ⟨q2, _, rfl, upd_same, (r1.mono t2).mono s12.tk⟩
  have k12 := k2.trans (Kp.of s12)
  refine ⟨_, _, rfl, rf, by simp only [Fm.ht]; have := J.wf.1; omega, fun h5 H3 s3 => ⟨sz2, fun q4 hq4 => ?_⟩, fun h5 H3 s3 => h5b h5 _ (k12.trans (Kp.of s3))⟩
  have s4 := same_new hq4 (.tup [.ref q1, .ref q2])
  have s34 := s3.trans s4
  have t14 := s12.tk.trans' s34.tk
  exact h5a h5 _ _ (k12.trans (Kp.of s34)) ((a2.same s12).same s34) (rp2.mpr ⟨q4, _, _, rfl, upd_same, rp3.mpr ⟨q1, _, _, _, rfl, s34 _ _ (s2 _ _ upd_same), .str _, (r1.mono t2).mono t14, rx.mono t14⟩, rf.mono s34.tk⟩)
theorem sc_of_size : FnScope ["placer", "term", "bound"] ["placer", "term", "bound"] (defScope s_of_size) := ⟨rfl, rfl, rfl, by decide +kernel, rfl, by decide +kernel, by decide +kernel⟩
theorem ok_of_size (T : Facts w K mg) (N L : Nat) (hL : 10 ≤ L) (m_wanted : Mt P w K mg base (L2.CX P w) L (He.ga K "Placer") "wanted" (spWanted K N)) : Cl P w K mg base (L2.CX P w) (L + 1) "of_size" (spWay K N "size") := by
  obtain ⟨fd, F⟩ := T.f_of_size
  refine ⟨_, fd, ["placer", "term", "bound"], T.g_of_size, ?_, F.kp, F.bindsN fun _ _ _ _ _ _ us hl => match us, hl with | [_, _, _], _ => rfl⟩
  refine F.ok sc_of_size (fun vs H Q E h => ?_) (fun cdv A outer s H vs Q E hr h => ?_)
  · obtain ⟨p, v, b, fa, s, n, B, G, t, rfl, _⟩ := h
    rfl
  obtain ⟨p, v, b, fa, s', n, B, G, t, rfl, hw, J, hf⟩ := h
  refine ⟨_, (pss_one (ps_ret (pe_tup (pa_cons (pe_tup (pa_cons (pe_ix ix_tup (pv 1) pe_int (fun _ _ => rfl)) (pa_cons (pe_mcl m_wanted T.cls_Placer hr (by omega) (passes_call (takes_of rfl rfl rfl rfl) fun _ _ _ _ z => z) (pv 0) (pa_cons (pe_ix ix_tup (pv 1) pe_int (fun _ _ => rfl)) (pa_cons (pv 2) (pa_cons (pe_glob (v := .str "text") rfl T.c_TEXT.choose_spec ⟨_, rfl⟩) pa_nil)))) pa_nil))) (pa_cons (pe_glob (v := .str "num") rfl T.c_NUM.choose_spec ⟨_, rfl⟩) pa_nil))))), ?_⟩
  cases t <;> first | (simp only [Tm.wd] at hw; exact absurd hw (by decide)) | skip
  rename_i e
  obtain ⟨dx, ep⟩ := J.S.at_
  have hJd := J.dep
  have hJc := J.cnt
  have hJl := J.len
  simp only [Tm.dep, Tm.nodes] at hJd hJc hJl
  obtain ⟨a, y1, rfl, ea, r1⟩ := rpw1.mp J.r
  refine ⟨_, rfl, a, _, 0, .str "size", rfl, rfl, SqT.of ea, at0, _, rfl, p, dx, _, rfl, ep, pl_n, _, rfl, a, _, 1, y1, rfl, rfl, SqT.of ea, at1, _, rfl, ?_⟩
  refine ⟨p, y1, b, .str "text", .text, fa, s', n, B, G, e, rfl, ⟨J.S, r1, J.wf, by omega, by omega, by omega⟩, by omega, .str _, by decide, ?_⟩
  refine fin_two hf (fun r t' er et h => ?_) (fun er h => h)
  intro H2 x k2 a2 rx
  refine ⟨sz2, fun q1 hq1 => ?_⟩
  have s1 := same_new hq1 (.tup [.str "size", x])
  refine ⟨sz2, fun q2 hq2 => ?_⟩
  have s2 := same_new hq2 (.tup [.ref q1, .str "num"])
  have s12 := s1.trans s2
  exact h _ _ (k2.trans (Kp.of s12)) (a2.same s12) (rp2.mpr ⟨q2, _, _, rfl, upd_same, rp2.mpr ⟨q1, _, _, rfl, s2 _ _ upd_same, .str _, rx.mono s12.tk⟩, .str _⟩)
theorem bw_parts {H : Hp} {v : V} {f : Fm} (h : RpF H v f.bw) : ∃ c y, v = .ref c ∧ H c = some (.tup [.str "box", y]) ∧ RpF H y f.bw.arg := by
  cases f <;> exact rpf_box.mp h
theorem dw_parts {H : Hp} {v : V} {f : Fm} (h : RpF H v f.dw) : ∃ c y z, v = .ref c ∧ H c = some (.tup [.str "deed", y, z]) ∧ RpF H y f.dw.arg ∧ RpF H z f.dw.res := by
  cases f <;> exact rpf_deed.mp h
theorem sc_of_read : FnScope ["placer", "term", "bound", "first", "form"] ["placer", "term", "bound"] (defScope s_of_read) := ⟨rfl, rfl, rfl, by decide +kernel, rfl, by decide +kernel, by decide +kernel⟩
theorem ok_of_read (T : Facts w K mg) (N L : Nat) (hL : 10 ≤ L) (m_wanted_head : Mt P w K mg base (L2.CX P w) L (He.ga K "Placer") "wanted_head" (spWH K N)) : Cl P w K mg base (L2.CX P w) (L + 1) "of_read" (spWay K N "read") := by
  obtain ⟨fd, F⟩ := T.f_of_read
  refine ⟨_, fd, ["placer", "term", "bound"], T.g_of_read, ?_, F.kp, F.bindsN fun _ _ _ _ _ _ us hl => match us, hl with | [_, _, _], _ => rfl⟩
  refine F.ok sc_of_read (fun vs H Q E h => ?_) (fun cdv A outer s H vs Q E hr h => ?_)
  · obtain ⟨p, v, b, fa, s, n, B, G, t, rfl, _⟩ := h
    rfl
  obtain ⟨p, v, b, fa, s', n, B, G, t, rfl, hw, J, hf⟩ := h
  refine ⟨_, (pss_cons (ps_asg (pe_mcl m_wanted_head T.cls_Placer hr (by omega) (passes_call (takes_of rfl rfl rfl rfl) fun _ _ _ _ z => z) (pv 0) (pa_cons (pe_ix ix_tup (pv 1) pe_int (fun _ _ => rfl)) (pa_cons (pv 2) (pa_cons (pe_glob (v := .str "box") rfl T.c_BOX.choose_spec ⟨_, rfl⟩) pa_nil)))) (pg_tup (by rfl) (pgs_cons (pg_name (i := 3) sc_of_read.nd rfl (Or.inl rfl)) (pgs_cons (pg_name (i := 4) sc_of_read.nd rfl (Or.inl rfl)) pgs_nil))))
    (pss_one (ps_ret (pe_tup (pa_cons (pe_tup (pa_cons (pe_ix ix_tup (pv 1) pe_int (fun _ _ => rfl)) (pa_cons (pv 3) pa_nil))) (pa_cons (pe_ix ix_tup (pv 4) pe_int (fun _ _ => rfl)) pa_nil)))))), ?_⟩
  cases t <;> first | (simp only [Tm.wd] at hw; exact absurd hw (by decide)) | skip
  rename_i e
  obtain ⟨dx, ep⟩ := J.S.at_
  have hJd := J.dep
  have hJc := J.cnt
  have hJl := J.len
  simp only [Tm.dep, Tm.nodes] at hJd hJc hJl
  obtain ⟨a, y1, rfl, ea, r1⟩ := rpw1.mp J.r
  refine ⟨_, rfl, p, dx, _, rfl, ep, pl_n, _, rfl, a, _, 1, y1, rfl, rfl, SqT.of ea, at1, _, rfl, ?_⟩
  refine ⟨p, y1, b, "box", Fm.bw, fa, s', n, B, G, e, rfl, ⟨J.S, r1, J.wf, by omega, by omega, by omega⟩, by omega, .inr ⟨rfl, rfl⟩, ?_⟩
  refine fin_two hf (fun r t' er et h => ?_) (fun er h => h)
  intro H2 x k2 a2 rx
  obtain ⟨c, z1, z2, rfl, ec, rz1, rz2⟩ := rp2.mp rx
  obtain ⟨c2, y, rfl, ec2, ry⟩ := bw_parts rz2
  refine ⟨c, _, rfl, SqT.of ec, rfl, _, _, rfl, _, _, rfl, rfl, ?_⟩
  have ea2 := k2 _ _ (fun z => by rw [z, ep] at ea; cases ea) ea
  refine ⟨_, rfl, a, _, 0, .str "read", rfl, rfl, SqT.of ea2, at0, _, rfl, sz2, fun q1 hq1 => ?_⟩
  have s1 := same_new hq1 (.tup [.str "read", z1])
  refine ⟨_, rfl, c2, _, 1, y, rfl, rfl, SqT.of (s1 _ _ ec2), at1, sz2, fun q2 hq2 => ?_⟩
  have s2 := same_new hq2 (.tup [.ref q1, y])
  have s12 := s1.trans s2
  exact h _ _ (k2.trans (Kp.of s12)) (a2.same s12) (rp2.mpr ⟨q2, _, _, rfl, upd_same, rp2.mpr ⟨q1, _, _, rfl, s2 _ _ upd_same, .str _, rz1.mono s12.tk⟩, ry.mono s12.tk⟩)
theorem sc_of_sum : FnScope ["placer", "term", "bound", "word", "one", "other", "first"] ["placer", "term", "bound"] (defScope s_of_sum) := ⟨rfl, rfl, rfl, by decide +kernel, rfl, by decide +kernel, by decide +kernel⟩
theorem ok_of_sum_add (T : Facts w K mg) (N L : Nat) (hL : 10 ≤ L) (m_wanted : Mt P w K mg base (L2.CX P w) L (He.ga K "Placer") "wanted" (spWanted K N)) : Cl P w K mg base (L2.CX P w) (L + 1) "of_sum" (spWay K N "add") := by
  obtain ⟨fd, F⟩ := T.f_of_sum
  refine ⟨_, fd, ["placer", "term", "bound"], T.g_of_sum, ?_, F.kp, F.bindsN fun _ _ _ _ _ _ us hl => match us, hl with | [_, _, _], _ => rfl⟩
  refine F.ok sc_of_sum (fun vs H Q E h => ?_) (fun cdv A outer s H vs Q E hr h => ?_)
  · obtain ⟨p, v, b, fa, s, n, B, G, t, rfl, _⟩ := h
    rfl
  obtain ⟨p, v, b, fa, s', n, B, G, t, rfl, hw, J, hf⟩ := h
  refine ⟨_, (pss_cons (ps_asg (pv 1) (pg_tup (by rfl) (pgs_cons (pg_name (i := 3) sc_of_sum.nd rfl (Or.inl rfl)) (pgs_cons (pg_name (i := 4) sc_of_sum.nd rfl (Or.inl rfl)) (pgs_cons (pg_name (i := 5) sc_of_sum.nd rfl (Or.inl rfl)) pgs_nil)))))
    (pss_cons (ps_set (i := 6) sc_of_sum.nd rfl (Or.inl rfl) (pe_mcl m_wanted T.cls_Placer hr (by omega) (passes_call (takes_of rfl rfl rfl rfl) fun _ _ _ _ z => z) (pv 0) (pa_cons (pv 4) (pa_cons (pv 2) (pa_cons (pe_glob (v := .str "num") rfl T.c_NUM.choose_spec ⟨_, rfl⟩) pa_nil)))))
    (pss_one (ps_ret (pe_tup (pa_cons (pe_tup (pa_cons (pv 3) (pa_cons (pv 6) (pa_cons (pe_mcl m_wanted T.cls_Placer hr (by omega) (passes_call (takes_of rfl rfl rfl rfl) fun _ _ _ _ z => z) (pv 0) (pa_cons (pv 5) (pa_cons (pv 2) (pa_cons (pe_glob (v := .str "num") rfl T.c_NUM.choose_spec ⟨_, rfl⟩) pa_nil)))) pa_nil)))) (pa_cons (pe_glob (v := .str "num") rfl T.c_NUM.choose_spec ⟨_, rfl⟩) pa_nil))))))), ?_⟩
  cases t <;> first | (simp only [Tm.wd] at hw; exact absurd hw (by decide)) | skip
  rename_i e f
  obtain ⟨dx, ep⟩ := J.S.at_
  have hJd := J.dep
  have hJc := J.cnt
  have hJl := J.len
  simp only [Tm.dep, Tm.nodes] at hJd hJc hJl
  obtain ⟨a, y1, y2, rfl, ea, r1, r2⟩ := rpw2.mp J.r
  refine ⟨_, rfl, a, _, rfl, SqT.of ea, rfl, _, _, rfl, _, _, rfl, _, _, rfl, rfl, ?_⟩
  refine ⟨_, rfl, p, dx, _, rfl, ep, pl_n, _, rfl, _, rfl, ?_⟩
  refine ⟨p, y1, b, .str "num", .num, fa, s', n, B, G, e, rfl, ⟨J.S, r1, J.wf.1, by omega, by omega, by omega⟩, by omega, .str _, by decide, ?_⟩
  refine fin_two hf (fun r t' er et h => ?_) (fun er h => h)
  intro H2 x k2 a2 rx
  obtain ⟨g1, g2, g3⟩ := plc_low J.S.g5 e er J.wf.1 J.S.b5
  refine ⟨_, rfl, _, rfl, _, rfl, p, a2.choose, _, rfl, a2.choose_spec, pl_n, _, rfl, _, rfl, ?_⟩
  refine ⟨p, y2, b, .str "num", .num, fa, s', r.2.2, B, G, f, rfl, ⟨J.S.kp k2 a2, r2.mono (J.S.tk k2), J.wf.2, by omega, by omega, by omega⟩, by omega, .str _, by decide, ?_⟩
  refine fin_two h (fun q u' eq eu h => ?_) (fun er h => h.kp k2)
  intro H3 x3 k3 a3 rx3
  refine ⟨sz3, fun q1 hq1 => ?_⟩
  have s1 := same_new hq1 (.tup [.str "add", x, x3])
  refine ⟨sz2, fun q2 hq2 => ?_⟩
  have s2 := same_new hq2 (.tup [.ref q1, .str "num"])
  have s12 := s1.trans s2
  have t3 := (J.S.kp k2 a2).tk k3
  exact h _ _ (k2.trans (k3.trans (Kp.of s12))) (a3.same s12) (rp2.mpr ⟨q2, _, _, rfl, upd_same, rp3.mpr ⟨q1, _, _, _, rfl, s2 _ _ upd_same, .str _, (rx.mono t3).mono s12.tk, rx3.mono s12.tk⟩, .str _⟩)
theorem ok_of_sum_sub (T : Facts w K mg) (N L : Nat) (hL : 10 ≤ L) (m_wanted : Mt P w K mg base (L2.CX P w) L (He.ga K "Placer") "wanted" (spWanted K N)) : Cl P w K mg base (L2.CX P w) (L + 1) "of_sum" (spWay K N "sub") := by
  obtain ⟨fd, F⟩ := T.f_of_sum
  refine ⟨_, fd, ["placer", "term", "bound"], T.g_of_sum, ?_, F.kp, F.bindsN fun _ _ _ _ _ _ us hl => match us, hl with | [_, _, _], _ => rfl⟩
  refine F.ok sc_of_sum (fun vs H Q E h => ?_) (fun cdv A outer s H vs Q E hr h => ?_)
  · obtain ⟨p, v, b, fa, s, n, B, G, t, rfl, _⟩ := h
    rfl
  obtain ⟨p, v, b, fa, s', n, B, G, t, rfl, hw, J, hf⟩ := h
  refine ⟨_, (pss_cons (ps_asg (pv 1) (pg_tup (by rfl) (pgs_cons (pg_name (i := 3) sc_of_sum.nd rfl (Or.inl rfl)) (pgs_cons (pg_name (i := 4) sc_of_sum.nd rfl (Or.inl rfl)) (pgs_cons (pg_name (i := 5) sc_of_sum.nd rfl (Or.inl rfl)) pgs_nil)))))
    (pss_cons (ps_set (i := 6) sc_of_sum.nd rfl (Or.inl rfl) (pe_mcl m_wanted T.cls_Placer hr (by omega) (passes_call (takes_of rfl rfl rfl rfl) fun _ _ _ _ z => z) (pv 0) (pa_cons (pv 4) (pa_cons (pv 2) (pa_cons (pe_glob (v := .str "num") rfl T.c_NUM.choose_spec ⟨_, rfl⟩) pa_nil)))))
    (pss_one (ps_ret (pe_tup (pa_cons (pe_tup (pa_cons (pv 3) (pa_cons (pv 6) (pa_cons (pe_mcl m_wanted T.cls_Placer hr (by omega) (passes_call (takes_of rfl rfl rfl rfl) fun _ _ _ _ z => z) (pv 0) (pa_cons (pv 5) (pa_cons (pv 2) (pa_cons (pe_glob (v := .str "num") rfl T.c_NUM.choose_spec ⟨_, rfl⟩) pa_nil)))) pa_nil)))) (pa_cons (pe_glob (v := .str "num") rfl T.c_NUM.choose_spec ⟨_, rfl⟩) pa_nil))))))), ?_⟩
  cases t <;> first | (simp only [Tm.wd] at hw; exact absurd hw (by decide)) | skip
  rename_i e f
  obtain ⟨dx, ep⟩ := J.S.at_
  have hJd := J.dep
  have hJc := J.cnt
  have hJl := J.len
  simp only [Tm.dep, Tm.nodes] at hJd hJc hJl
  obtain ⟨a, y1, y2, rfl, ea, r1, r2⟩ := rpw2.mp J.r
  refine ⟨_, rfl, a, _, rfl, SqT.of ea, rfl, _, _, rfl, _, _, rfl, _, _, rfl, rfl, ?_⟩
  refine ⟨_, rfl, p, dx, _, rfl, ep, pl_n, _, rfl, _, rfl, ?_⟩
  refine ⟨p, y1, b, .str "num", .num, fa, s', n, B, G, e, rfl, ⟨J.S, r1, J.wf.1, by omega, by omega, by omega⟩, by omega, .str _, by decide, ?_⟩
  refine fin_two hf (fun r t' er et h => ?_) (fun er h => h)
  intro H2 x k2 a2 rx
  obtain ⟨g1, g2, g3⟩ := plc_low J.S.g5 e er J.wf.1 J.S.b5
  refine ⟨_, rfl, _, rfl, _, rfl, p, a2.choose, _, rfl, a2.choose_spec, pl_n, _, rfl, _, rfl, ?_⟩
  refine ⟨p, y2, b, .str "num", .num, fa, s', r.2.2, B, G, f, rfl, ⟨J.S.kp k2 a2, r2.mono (J.S.tk k2), J.wf.2, by omega, by omega, by omega⟩, by omega, .str _, by decide, ?_⟩
  refine fin_two h (fun q u' eq eu h => ?_) (fun er h => h.kp k2)
  intro H3 x3 k3 a3 rx3
  refine ⟨sz3, fun q1 hq1 => ?_⟩
  have s1 := same_new hq1 (.tup [.str "sub", x, x3])
  refine ⟨sz2, fun q2 hq2 => ?_⟩
  have s2 := same_new hq2 (.tup [.ref q1, .str "num"])
  have s12 := s1.trans s2
  have t3 := (J.S.kp k2 a2).tk k3
  exact h _ _ (k2.trans (k3.trans (Kp.of s12))) (a3.same s12) (rp2.mpr ⟨q2, _, _, rfl, upd_same, rp3.mpr ⟨q1, _, _, _, rfl, s2 _ _ upd_same, .str _, (rx.mono t3).mono s12.tk, rx3.mono s12.tk⟩, .str _⟩)
theorem sc_of_call : FnScope ["placer", "term", "bound", "word", "called", "handed", "first", "form"] ["placer", "term", "bound"] (defScope s_of_call) := ⟨rfl, rfl, rfl, by decide +kernel, rfl, by decide +kernel, by decide +kernel⟩
theorem ok_of_call (T : Facts w K mg) (N L : Nat) (hL : 10 ≤ L) (m_wanted : Mt P w K mg base (L2.CX P w) L (He.ga K "Placer") "wanted" (spWanted K N)) (m_wanted_head : Mt P w K mg base (L2.CX P w) L (He.ga K "Placer") "wanted_head" (spWH K N)) : Cl P w K mg base (L2.CX P w) (L + 1) "of_call" (spWay K N "call") := by
  obtain ⟨fd, F⟩ := T.f_of_call
  refine ⟨_, fd, ["placer", "term", "bound"], T.g_of_call, ?_, F.kp, F.bindsN fun _ _ _ _ _ _ us hl => match us, hl with | [_, _, _], _ => rfl⟩
  refine F.ok sc_of_call (fun vs H Q E h => ?_) (fun cdv A outer s H vs Q E hr h => ?_)
  · obtain ⟨p, v, b, fa, s, n, B, G, t, rfl, _⟩ := h
    rfl
  obtain ⟨p, v, b, fa, s', n, B, G, t, rfl, hw, J, hf⟩ := h
  refine ⟨_, (pss_cons (ps_asg (pv 1) (pg_tup (by rfl) (pgs_cons (pg_name (i := 3) sc_of_call.nd rfl (Or.inl rfl)) (pgs_cons (pg_name (i := 4) sc_of_call.nd rfl (Or.inl rfl)) (pgs_cons (pg_name (i := 5) sc_of_call.nd rfl (Or.inl rfl)) pgs_nil)))))
    (pss_cons (ps_asg (pe_mcl m_wanted_head T.cls_Placer hr (by omega) (passes_call (takes_of rfl rfl rfl rfl) fun _ _ _ _ z => z) (pv 0) (pa_cons (pv 4) (pa_cons (pv 2) (pa_cons (pe_glob (v := .str "deed") rfl T.c_DEED_forms.choose_spec ⟨_, rfl⟩) pa_nil)))) (pg_tup (by rfl) (pgs_cons (pg_name (i := 6) sc_of_call.nd rfl (Or.inl rfl)) (pgs_cons (pg_name (i := 7) sc_of_call.nd rfl (Or.inl rfl)) pgs_nil))))
    (pss_one (ps_ret (pe_tup (pa_cons (pe_tup (pa_cons (pv 3) (pa_cons (pv 6) (pa_cons (pe_mcl m_wanted T.cls_Placer hr (by omega) (passes_call (takes_of rfl rfl rfl rfl) fun _ _ _ _ z => z) (pv 0) (pa_cons (pv 5) (pa_cons (pv 2) (pa_cons (pe_ix ix_tup (pv 7) pe_int (fun _ _ => rfl)) pa_nil)))) pa_nil)))) (pa_cons (pe_ix ix_tup (pv 7) pe_int (fun _ _ => rfl)) pa_nil))))))), ?_⟩
  cases t <;> first | (simp only [Tm.wd] at hw; exact absurd hw (by decide)) | skip
  rename_i e f
  obtain ⟨dx, ep⟩ := J.S.at_
  have hJd := J.dep
  have hJc := J.cnt
  have hJl := J.len
  simp only [Tm.dep, Tm.nodes] at hJd hJc hJl
  obtain ⟨a, y1, y2, rfl, ea, r1, r2⟩ := rpw2.mp J.r
  refine ⟨_, rfl, a, _, rfl, SqT.of ea, rfl, _, _, rfl, _, _, rfl, _, _, rfl, rfl, ?_⟩
  refine ⟨_, rfl, p, dx, _, rfl, ep, pl_n, _, rfl, _, rfl, ?_⟩
  refine ⟨p, y1, b, "deed", Fm.dw, fa, s', n, B, G, e, rfl, ⟨J.S, r1, J.wf.1, by omega, by omega, by omega⟩, by omega, .inl ⟨rfl, rfl⟩, ?_⟩
  refine fin_two hf (fun r t' er et h => ?_) (fun er h => h)
  intro H2 x k2 a2 rx
  obtain ⟨g1, g2, g3⟩ := plc_low J.S.g5 e er J.wf.1 J.S.b5
  obtain ⟨c, z1, z2, rfl, ec, rz1, rz2⟩ := rp2.mp rx
  obtain ⟨c2, y, y', rfl, ec2, ry, ry'⟩ := dw_parts rz2
  refine ⟨c, _, rfl, SqT.of ec, rfl, _, _, rfl, _, _, rfl, rfl, ?_⟩
  refine ⟨_, rfl, _, rfl, _, rfl, p, a2.choose, _, rfl, a2.choose_spec, pl_n, _, rfl, _, rfl, _, rfl, c2, _, 1, y, rfl, rfl, SqT.of ec2, at1, ?_⟩
  have h5 := (dw_low g1).2.1
  refine ⟨p, y2, b, y, r.2.1.dw.arg, fa, s', r.2.2, B, G, f, rfl, ⟨J.S.kp k2 a2, r2.mono (J.S.tk k2), J.wf.2, by omega, by omega, by omega⟩, by omega, ry, by omega, ?_⟩
  refine fin_two h (fun q u' eq eu h => ?_) (fun er h => h.kp k2)
  intro H3 x3 k3 a3 rx3
  have t3 := (J.S.kp k2 a2).tk k3
  refine ⟨sz3, fun q1 hq1 => ?_⟩
  have s1 := same_new hq1 (.tup [.str "call", z1, x3])
  refine ⟨_, rfl, c2, _, 2, y', rfl, rfl, SqT.of (s1 _ _ (t3 _ _ ec2)), at2, sz2, fun q2 hq2 => ?_⟩
  have s2 := same_new hq2 (.tup [.ref q1, y'])
  have s12 := s1.trans s2
  exact h _ _ (k2.trans (k3.trans (Kp.of s12))) (a3.same s12) (rp2.mpr ⟨q2, _, _, rfl, upd_same, rp3.mpr ⟨q1, _, _, _, rfl, s2 _ _ upd_same, .str _, (rz1.mono t3).mono s12.tk, rx3.mono s12.tk⟩, (ry'.mono t3).mono s12.tk⟩)
theorem sc_of_write : FnScope ["placer", "term", "bound", "word", "one", "other", "first", "form"] ["placer", "term", "bound"] (defScope s_of_write) := ⟨rfl, rfl, rfl, by decide +kernel, rfl, by decide +kernel, by decide +kernel⟩
theorem ok_of_write (T : Facts w K mg) (N L : Nat) (hL : 10 ≤ L) (m_wanted : Mt P w K mg base (L2.CX P w) L (He.ga K "Placer") "wanted" (spWanted K N)) (m_wanted_head : Mt P w K mg base (L2.CX P w) L (He.ga K "Placer") "wanted_head" (spWH K N)) : Cl P w K mg base (L2.CX P w) (L + 1) "of_write" (spWay K N "write") := by
  obtain ⟨fd, F⟩ := T.f_of_write
  refine ⟨_, fd, ["placer", "term", "bound"], T.g_of_write, ?_, F.kp, F.bindsN fun _ _ _ _ _ _ us hl => match us, hl with | [_, _, _], _ => rfl⟩
  refine F.ok sc_of_write (fun vs H Q E h => ?_) (fun cdv A outer s H vs Q E hr h => ?_)
  · obtain ⟨p, v, b, fa, s, n, B, G, t, rfl, _⟩ := h
    rfl
  obtain ⟨p, v, b, fa, s', n, B, G, t, rfl, hw, J, hf⟩ := h
  refine ⟨_, (pss_cons (ps_asg (pv 1) (pg_tup (by rfl) (pgs_cons (pg_name (i := 3) sc_of_write.nd rfl (Or.inl rfl)) (pgs_cons (pg_name (i := 4) sc_of_write.nd rfl (Or.inl rfl)) (pgs_cons (pg_name (i := 5) sc_of_write.nd rfl (Or.inl rfl)) pgs_nil)))))
    (pss_cons (ps_asg (pe_mcl m_wanted_head T.cls_Placer hr (by omega) (passes_call (takes_of rfl rfl rfl rfl) fun _ _ _ _ z => z) (pv 0) (pa_cons (pv 4) (pa_cons (pv 2) (pa_cons (pe_glob (v := .str "box") rfl T.c_BOX.choose_spec ⟨_, rfl⟩) pa_nil)))) (pg_tup (by rfl) (pgs_cons (pg_name (i := 6) sc_of_write.nd rfl (Or.inl rfl)) (pgs_cons (pg_name (i := 7) sc_of_write.nd rfl (Or.inl rfl)) pgs_nil))))
    (pss_one (ps_ret (pe_tup (pa_cons (pe_tup (pa_cons (pv 3) (pa_cons (pv 6) (pa_cons (pe_mcl m_wanted T.cls_Placer hr (by omega) (passes_call (takes_of rfl rfl rfl rfl) fun _ _ _ _ z => z) (pv 0) (pa_cons (pv 5) (pa_cons (pv 2) (pa_cons (pe_ix ix_tup (pv 7) pe_int (fun _ _ => rfl)) pa_nil)))) pa_nil)))) (pa_cons (pe_glob (v := .str "num") rfl T.c_NUM.choose_spec ⟨_, rfl⟩) pa_nil))))))), ?_⟩
  cases t <;> first | (simp only [Tm.wd] at hw; exact absurd hw (by decide)) | skip
  rename_i e f
  obtain ⟨dx, ep⟩ := J.S.at_
  have hJd := J.dep
  have hJc := J.cnt
  have hJl := J.len
  simp only [Tm.dep, Tm.nodes] at hJd hJc hJl
  obtain ⟨a, y1, y2, rfl, ea, r1, r2⟩ := rpw2.mp J.r
  refine ⟨_, rfl, a, _, rfl, SqT.of ea, rfl, _, _, rfl, _, _, rfl, _, _, rfl, rfl, ?_⟩
  refine ⟨_, rfl, p, dx, _, rfl, ep, pl_n, _, rfl, _, rfl, ?_⟩
  refine ⟨p, y1, b, "box", Fm.bw, fa, s', n, B, G, e, rfl, ⟨J.S, r1, J.wf.1, by omega, by omega, by omega⟩, by omega, .inr ⟨rfl, rfl⟩, ?_⟩
  refine fin_two hf (fun r t' er et h => ?_) (fun er h => h)
  intro H2 x k2 a2 rx
  obtain ⟨g1, g2, g3⟩ := plc_low J.S.g5 e er J.wf.1 J.S.b5
  obtain ⟨c, z1, z2, rfl, ec, rz1, rz2⟩ := rp2.mp rx
  obtain ⟨c2, y, rfl, ec2, ry⟩ := bw_parts rz2
  refine ⟨c, _, rfl, SqT.of ec, rfl, _, _, rfl, _, _, rfl, rfl, ?_⟩
  refine ⟨_, rfl, _, rfl, _, rfl, p, a2.choose, _, rfl, a2.choose_spec, pl_n, _, rfl, _, rfl, _, rfl, c2, _, 1, y, rfl, rfl, SqT.of ec2, at1, ?_⟩
  have h5 := (bw_low g1).2
  refine ⟨p, y2, b, y, r.2.1.bw.arg, fa, s', r.2.2, B, G, f, rfl, ⟨J.S.kp k2 a2, r2.mono (J.S.tk k2), J.wf.2, by omega, by omega, by omega⟩, by omega, ry, by omega, ?_⟩
  refine fin_two h (fun q u' eq eu h => ?_) (fun er h => h.kp k2)
  intro H3 x3 k3 a3 rx3
  have t3 := (J.S.kp k2 a2).tk k3
  refine ⟨sz3, fun q1 hq1 => ?_⟩
  have s1 := same_new hq1 (.tup [.str "write", z1, x3])
  refine ⟨sz2, fun q2 hq2 => ?_⟩
  have s2 := same_new hq2 (.tup [.ref q1, .str "num"])
  have s12 := s1.trans s2
  exact h _ _ (k2.trans (k3.trans (Kp.of s12))) (a3.same s12) (rp2.mpr ⟨q2, _, _, rfl, upd_same, rp3.mpr ⟨q1, _, _, _, rfl, s2 _ _ upd_same, .str _, (rz1.mono t3).mono s12.tk, rx3.mono s12.tk⟩, .str _⟩)
theorem sc_of_same : FnScope ["placer", "term", "bound", "word", "one", "other", "first", "form", "second"] ["placer", "term", "bound"] (defScope s_of_same) := ⟨rfl, rfl, rfl, by decide +kernel, rfl, by decide +kernel, by decide +kernel⟩
theorem ok_of_same (T : Facts w K mg) (N L : Nat) (hL : 10 ≤ L) (m_wanted_head : Mt P w K mg base (L2.CX P w) L (He.ga K "Placer") "wanted_head" (spWH K N)) : Cl P w K mg base (L2.CX P w) (L + 1) "of_same" (spWay K N "same") := by
  obtain ⟨fd, F⟩ := T.f_of_same
  refine ⟨_, fd, ["placer", "term", "bound"], T.g_of_same, ?_, F.kp, F.bindsN fun _ _ _ _ _ _ us hl => match us, hl with | [_, _, _], _ => rfl⟩
  refine F.ok sc_of_same (fun vs H Q E h => ?_) (fun cdv A outer s H vs Q E hr h => ?_)
  · obtain ⟨p, v, b, fa, s, n, B, G, t, rfl, _⟩ := h
    rfl
  obtain ⟨p, v, b, fa, s', n, B, G, t, rfl, hw, J, hf⟩ := h
  refine ⟨_, (pss_cons (ps_asg (pv 1) (pg_tup (by rfl) (pgs_cons (pg_name (i := 3) sc_of_same.nd rfl (Or.inl rfl)) (pgs_cons (pg_name (i := 4) sc_of_same.nd rfl (Or.inl rfl)) (pgs_cons (pg_name (i := 5) sc_of_same.nd rfl (Or.inl rfl)) pgs_nil)))))
    (pss_cons (ps_asg (pe_mcl m_wanted_head T.cls_Placer hr (by omega) (passes_call (takes_of rfl rfl rfl rfl) fun _ _ _ _ z => z) (pv 0) (pa_cons (pv 4) (pa_cons (pv 2) (pa_cons (pe_glob (v := .str "box") rfl T.c_BOX.choose_spec ⟨_, rfl⟩) pa_nil)))) (pg_tup (by rfl) (pgs_cons (pg_name (i := 6) sc_of_same.nd rfl (Or.inl rfl)) (pgs_cons (pg_name (i := 7) sc_of_same.nd rfl (Or.inl rfl)) pgs_nil))))
    (pss_cons (ps_asg (pe_mcl m_wanted_head T.cls_Placer hr (by omega) (passes_call (takes_of rfl rfl rfl rfl) fun _ _ _ _ z => z) (pv 0) (pa_cons (pv 5) (pa_cons (pv 2) (pa_cons (pe_glob (v := .str "box") rfl T.c_BOX.choose_spec ⟨_, rfl⟩) pa_nil)))) (pg_tup (by rfl) (pgs_cons (pg_name (i := 8) sc_of_same.nd rfl (Or.inl rfl)) (pgs_cons (pg_name (i := 7) sc_of_same.nd rfl (Or.inl rfl)) pgs_nil))))
    (pss_one (ps_ret (pe_tup (pa_cons (pe_tup (pa_cons (pv 3) (pa_cons (pv 6) (pa_cons (pv 8) pa_nil)))) (pa_cons (pe_glob (v := .str "num") rfl T.c_NUM.choose_spec ⟨_, rfl⟩) pa_nil)))))))), ?_⟩
  cases t <;> first | (simp only [Tm.wd] at hw; exact absurd hw (by decide)) | skip
  rename_i e f
  obtain ⟨dx, ep⟩ := J.S.at_
  have hJd := J.dep
  have hJc := J.cnt
  have hJl := J.len
  simp only [Tm.dep, Tm.nodes] at hJd hJc hJl
  obtain ⟨a, y1, y2, rfl, ea, r1, r2⟩ := rpw2.mp J.r
  refine ⟨_, rfl, a, _, rfl, SqT.of ea, rfl, _, _, rfl, _, _, rfl, _, _, rfl, rfl, ?_⟩
  refine ⟨_, rfl, p, dx, _, rfl, ep, pl_n, _, rfl, _, rfl, ?_⟩
  refine ⟨p, y1, b, "box", Fm.bw, fa, s', n, B, G, e, rfl, ⟨J.S, r1, J.wf.1, by omega, by omega, by omega⟩, by omega, .inr ⟨rfl, rfl⟩, ?_⟩
  refine fin_two hf (fun r t' er et h => ?_) (fun er h => h)
  intro H2 x k2 a2 rx
  obtain ⟨g1, g2, g3⟩ := plc_low J.S.g5 e er J.wf.1 J.S.b5
  obtain ⟨c, z1, z2, rfl, ec, rz1, rz2⟩ := rp2.mp rx
  refine ⟨c, _, rfl, SqT.of ec, rfl, _, _, rfl, _, _, rfl, rfl, ?_⟩
  refine ⟨_, rfl, p, a2.choose, _, rfl, a2.choose_spec, pl_n, _, rfl, _, rfl, ?_⟩
  refine ⟨p, y2, b, "box", Fm.bw, fa, s', r.2.2, B, G, f, rfl, ⟨J.S.kp k2 a2, r2.mono (J.S.tk k2), J.wf.2, by omega, by omega, by omega⟩, by omega, .inr ⟨rfl, rfl⟩, ?_⟩
  refine fin_two h (fun q u' eq eu h => ?_) (fun er h => h.kp k2)
  intro H3 x3 k3 a3 rx3
  have t3 := (J.S.kp k2 a2).tk k3
  obtain ⟨c3, u1, u2, rfl, ec3, ru1, ru2⟩ := rp2.mp rx3
  refine ⟨c3, _, rfl, SqT.of ec3, rfl, _, _, rfl, _, _, rfl, rfl, ?_⟩
  refine ⟨_, rfl, _, rfl, _, rfl, sz3, fun q1 hq1 => ?_⟩
  have s1 := same_new hq1 (.tup [.str "same", z1, u1])
  refine ⟨sz2, fun q2 hq2 => ?_⟩
  have s2 := same_new hq2 (.tup [.ref q1, .str "num"])
  have s12 := s1.trans s2
  exact h _ _ (k2.trans (k3.trans (Kp.of s12))) (a3.same s12) (rp2.mpr ⟨q2, _, _, rfl, upd_same, rp3.mpr ⟨q1, _, _, _, rfl, s2 _ _ upd_same, .str _, (rz1.mono t3).mono s12.tk, ru1.mono s12.tk⟩, .str _⟩)
end
end Wt
/-! A comprehension whose items may raise, in a def that lets the exception out. -/
namespace Wt
open PySem PySem.Spec PyProof.Rows L2 PySem.HandSPX
/-- in the air of a block, the block's own names at C -/
def XB (X : Cx) (W : WX) (C : Addr) (u : Value) (s' : Shared) : Prop :=
  ∃ (a : Addr) (B : Heap) (sI : Shared) (pins : List (Addr × Obj)) (σ : L2.St) (H : Hp) (cls : Value) (d : Option Addr), u = .ref a ∧ Inv X pins σ H sI ∧ (∀ b o, sI.heap.get? b = some o → b ∉ frs X.stack → B.get? b = some o) ∧ sI.heap.UpToSlots s'.heap ∧
    FlyingZ B X.stack a (Zc cls d) s'.heap ∧ H a = none ∧ s'.os = sI.os ∧ AllBare s'.gens ∧ W cls d σ H ∧ B.get? C = none ∧ sI.heap.get? C = none ∧ C ∉ frs X.stack ∧ ∃ m, s'.heap.Ns C m
section
variable {X : Cx} {pins : List (Addr × Obj)} {σ : L2.St} {H : Hp} {s s' : Shared} {W : WX} {E : XK} {C : Addr}
theorem xb_of_call (I : Inv X pins σ H s) (fC : FpOk X pins H C) (nC : C ∉ frs X.stack) (hm : ∃ m, s.heap.Ns C m) (hW : ∀ cls d H', E cls d H' → W cls d σ H') {u : Value} (c : CX X.prog X.w X.stack H s E u s') : XB X W C u s' := by
  obtain ⟨a, B, H', cls, d, rfl, fl, hok, ub, na, os, ag, hE⟩ := c
  obtain ⟨m, oC, es, ep, hoC, hrC⟩ := hm
  have hCB : B.get? C = some oC := ub.keep C oC hoC fC.1 nC
  have hCs : s'.heap.get? C = some oC := fl.1 C oC hCB
  have nC' : H' C = none := ub.free C oC hoC fC.1
  obtain ⟨B', b1, b2⟩ := restrict B fun b => decide (b ≠ C)
  have bk : ∀ b, b ≠ C → B'.get? b = B.get? b := fun b hb => b1 b (decide_eq_true hb)
  have bC : B'.get? C = none := b2 C (by simp)
  have sub : ∀ b o, B'.get? b = some o → B.get? b = some o ∧ b ≠ C := fun b o e => by
    by_cases hb : b = C
    · rw [hb, bC] at e; cases e
    · rw [bk b hb] at e; exact ⟨e, hb⟩
  obtain ⟨G, g1, g2⟩ := restrict s'.heap fun b => (B'.get? b).isSome || decide (b ∈ frs X.stack)
  have st : B.StaysIn s'.heap := fl.1
  have gB : ∀ b o, B'.get? b = some o → G.get? b = some o := fun b o e => by
    rw [g1 b (by simp [e])]
    exact st b o (sub b o e).1
  have gF : ∀ b, b ∈ frs X.stack → G.get? b = s'.heap.get? b := fun b hb => g1 b (by simp [hb])
  have og : ∀ b o, G.get? b = some o → s'.heap.get? b = some o ∧ ((B'.get? b).isSome = true ∨ b ∈ frs X.stack) := fun b o e => by
    cases q : ((B'.get? b).isSome || decide (b ∈ frs X.stack)) with
    | false => rw [g2 b q] at e; cases e
    | true =>
      rw [g1 b q] at e
      exact ⟨e, by simpa [Bool.or_eq_true] using q⟩
  have hok' : HOk X.prog X.w H' B' := fun b o q => (hok b o q).stay (fun c u hc r => by
    have hcC : c ≠ C := fun z => by
      subst z
      rcases hc with hc | hc
      · rw [hc, q] at nC'; cases nC'
      · rw [hc] at nC'; cases nC'
    rw [bk c hcC]; exact r) (fun _ r => r) fun _ _ r => r
  have flB : FlyingZ B' X.stack a (Zc cls d) s'.heap := by
    obtain ⟨f1, f2, f3, oe, vs, T, oT, ts, he, hz, hd, h1, hnT, hTe, hT, hdT, h3⟩ := fl
    have na' : ∀ b, B.get? b = none → B'.get? b = none := fun b hb => by
      by_cases hbC : b = C
      · rw [hbC]; exact bC
      · rw [bk b hbC]; exact hb
    refine ⟨fun b o e => f1 b o (sub b o e).1, na' a f2, funFrames_none f3 fun L hL => ?_, oe, vs, T, oT, ts, he, hz, hd, h1, na' T hnT, hTe, hT, hdT, h3⟩
    obtain ⟨hn, _⟩ := f3.mem hL
    exact na' L hn
  refine ⟨a, B', { s with heap := G, gens := s'.gens, drawn := s'.drawn, toks := s'.toks }, pins, σ, H', cls, d, rfl, ?_, fun b o e hb => ?_, Heap.UpToSlots.of_keeps fun b o e => (og b o e).1, flB, na, os, ag, hW _ _ _ hE, bC, ?_, nC, ⟨m, oC, es, ep, hCs, hrC⟩⟩
  · have cC : ∀ b, b ∉ [C] → b ≠ C := fun b hb z => hb (by rw [z]; exact List.mem_singleton.mpr rfl)
    refine I.call (ch := [C]) ⟨fun b o e n hb hc => gB b o ?_, fun b o e n hb hc => ?_, fun b o e n hc => ub.free b o e n, fun b o e hc => ?_, ub.tups, ub.frzs, ub.tbls⟩ (hok'.kept gB) ag (fun b hb => ?_)
    · rw [bk b (cC b hc)]
      exact ub.keep b o e n hb
    · obtain ⟨sl, q⟩ := ub.slot b o e hb
      exact ⟨sl, by rw [gF b hb]; exact q⟩
    · by_cases hb : b ∈ frs X.stack
      · obtain ⟨sl, q⟩ := ub.slot b o e hb
        exact ⟨_, by rw [gF b hb]; exact q⟩
      · obtain ⟨o', q⟩ := ub.there b o e hb
        exact ⟨o', gB b o' (by rw [bk b (cC b hc)]; exact q)⟩
    · rw [List.mem_singleton.mp hb]
      exact ⟨fC.2.2.2.1, fC.2.1, fC.2.2.2.2.1, fC.2.2.2.2.2⟩
  · obtain ⟨e', h⟩ := og b o e
    rcases h with h | h
    · obtain ⟨o', q⟩ := Option.isSome_iff_exists.mp h
      have z := st b o' (sub b o' q).1
      rw [e'] at z; cases z
      exact q
    · exact absurd h hb
  · show G.get? C = none
    exact g2 C (by simp [bC, nC])
/-- a note in a further frame, whatever flight was told -/
theorem note_other {M : Model} {A : Around} {E1 : Value → Shared → Prop} {env : Env} {outer : List Env} {L f e : Addr} {base : Heap} {Z : Obj → Prop} {s : Shared} {Q : Unit → Shared → Prop} (hZ : Steady Z) (hfr : A.frames = some (env :: outer)) (hf : env.frame = some L) (hne : f ≠ L) (hh : HeldZ base (env :: outer) e Z f s.heap)
    (hQ : ∀ h', HeldZ base (env :: outer) e Z L h' → s.heap.UpToSlots h' → Q () { s with heap := h' }) : wpAny M A (noteFrame (.ref e) env) Q E1 s := by
  obtain ⟨hkb, hen, hl, oe, vs, T, oT, ts, he, hz, hd, h1, hnT, hTe, hT, hdT, h3⟩ := hh
  unfold noteFrame
  simp only [hf]
  refine wpAny_bind (wpAny_field he hd h1 ?_)
  rw [if_pos (show (Value.ref T != Value.none) = true from by simp)]
  refine wpAny_bind (wpAny_field hT hdT h3 ?_)
  have hne' : ((f : Nat) : Int) ≠ ((L : Nat) : Int) := fun z => hne (Int.ofNat.inj z)
  rw [if_neg (show ¬ ((rawInt f == rawInt L) = true) from fun z => by simp [rawInt] at z; exact hne' z)]
  refine wpAny_bind (wpAny_setField hT hdT (Array.getElem?_eq_some_iff.mp h3).1 ?_)
  have other : ∀ b, b ≠ T → (s.heap.update T (Obj.mapFields (·.setIfInBounds 3 Value.none))).get? b = s.heap.get? b := fun b hb => Heap.get?_update_other _ _ (Ne.symm hb)
  have noRec : ∀ b o, s.heap.get? b = some o → (∀ vs, o.data ≠ .fields vs) → b ≠ T := fun b o hb hnf q => by
    rw [q, hT] at hb; injection hb with hb; subst hb; exact hnf ts hdT
  refine wpAny_entryZ hZ hfr (hl.of_keeps fun b o hb hnf => ⟨o, (other b (noRec b o hb hnf)).trans hb, rfl⟩) hf ((other e (Ne.symm hTe)).trans he)
    (fun b o hbo => (other b fun q => by rw [q, hnT] at hbo; cases hbo).trans (hkb b o hbo)) hen hd (Array.getElem?_eq_some_iff.mp h1).1 hz fun h' hN => ?_
  obtain ⟨x1, x2, x3, x4⟩ := hN
  exact hQ h' ⟨x1, hen, x2, x3⟩ fun b o hb hnf => x4 b o ((other b (noRec b o hb hnf)).trans hb) hnf
theorem leave_any (hs : X.stack = X.env :: X.outer) (hf : X.env.frame = some X.env.locals) (hex : X.ex = []) {E₁ : Value → Shared → Prop} {a : Addr} {B : Heap} {sI : Shared} {cls : Value} {d : Option Addr} {fr : Option Addr} (I : Inv X pins σ H sI)
    (nb : ∀ b o, sI.heap.get? b = some o → b ∉ frs X.stack → B.get? b = some o) (up : sI.heap.UpToSlots s'.heap) (st : B.StaysIn s'.heap) (an : B.get? a = none) (ff : s'.heap.FunFrames B (X.env :: X.outer)) (tr : TracedZ s'.heap B a (Zc cls d) (fr.elim Value.none fun f => rawInt f))
    (na : H a = none) (os : s'.os = sI.os) (ag : AllBare s'.gens) (w : E cls d H) : wpAny (model X.prog X.w) X.A (leaving X.env (.ref a)) (fun _ s'' => CX X.prog X.w X.outer X.H_0 X.s_0 E (.ref a) s'') E₁ s' := by
  have sky : ∀ sk : Sky B X.stack a (Zc cls d) X.env.locals s'.heap, wpAny (model X.prog X.w) X.A (leaving X.env (.ref a)) (fun _ s'' => CX X.prog X.w X.outer X.H_0 X.s_0 E (.ref a) s'') E₁ s' := fun sk =>
    XE.leave (W := fun cls d _ H => E cls d H) (E := E) hs hf hex (fun _ _ _ _ h => h) ⟨a, B, sI, pins, σ, H, cls, d, rfl, I, nb, up, sk, na, os, ag, w⟩
  cases fr with
  | none => exact sky (.inr (.inl ⟨st, an, by rw [hs]; exact ff, tr⟩))
  | some f =>
    by_cases hfl : f = X.env.locals
    · subst hfl
      exact sky (.inr (.inr ⟨st, an, by rw [hs]; exact ff, tr⟩))
    have hfr : X.A.frames = some (X.env :: X.outer) := by rw [I.ok.frames, hs]
    unfold leaving
    refine wpAny_bind (note_other Zc.steady hfr hf hfl ⟨st, an, ff, tr⟩ fun h1 hh up1 => ?_)
    refine landsZ hh fun h2 fl up2 => ?_
    have nst : ∀ b o, X.s_0.heap.get? b = some o → b ∉ X.fs → b ∉ frs X.stack := fun b o e hb hm => by
      rcases List.mem_cons.mp (I.stkSub b hm) with z | z
      · have h1 := Heap.lt_size e
        have h2 := I.ok.above
        rw [z] at h1
        exact absurd (Nat.lt_of_lt_of_le h1 h2) (Nat.lt_irrefl _)
      · exact hb z
    have hex' : ∀ b, b ∉ X.ex := fun b hb => by rw [hex] at hb; cases hb
    have up12 : s'.heap.UpToSlots h2 := up1.trans up2
    have fl2 : FlyingZ B X.outer a (Zc cls d) h2 := by
      obtain ⟨f1, f2, ⟨_, _, f3⟩, f4⟩ := fl
      exact ⟨f1, f2, f3, f4⟩
    refine ⟨a, B, H, cls, d, rfl, fl2, I.inGround nb, ⟨fun b o e n hb => nb b o (I.base.keep b o e n hb (hex' b)) (nst b o e hb), fun b o e hb => ?_, fun b o e n => I.base.free b o e n (hex' b), fun b o e hb => ?_, I.base.tups, I.base.frzs, I.base.tbls⟩,
      na, os.trans I.os, ag, w⟩
    · obtain ⟨_, o₀, e₀, hnf⟩ := I.ok.funs.mem hb
      rw [e] at e₀; cases e₀
      obtain ⟨sl, e1⟩ := I.base.slot b o e (I.ok.frf b hb) hb (hex' b)
      obtain ⟨sl2, e2⟩ := up b _ e1 hnf
      obtain ⟨sl3, e3⟩ := up12 b _ e2 hnf
      exact ⟨sl3, e3⟩
    · obtain ⟨o', e1⟩ := I.base.there b o e (hex' b)
      exact ⟨o', nb b o' e1 (nst b o e hb)⟩
theorem ff_but {h h' base : Heap} : ∀ {l : List Env}, (∀ b ∈ frs l, h'.get? b = h.get? b) → h.FunFrames base l → h'.FunFrames base l
  | [], _, _ => trivial
  | env :: l, k, hh => by
    obtain ⟨hk, ⟨L, o, hf, hn, ho, hd⟩, hr⟩ := hh
    exact ⟨hk, ⟨L, o, hf, hn, (k L (List.mem_filterMap.mpr ⟨env, List.mem_cons_self, hf⟩)).trans ho, hd⟩, ff_but (fun b hb => k b (by
      obtain ⟨e, he, q⟩ := List.mem_filterMap.mp hb
      exact List.mem_filterMap.mpr ⟨e, List.mem_cons_of_mem _ he, q⟩)) hr⟩
/-- noted in the def's frame, the block's names let go, passed on: it leaves the def -/
theorem xb_out {C : Addr} {ce : Env} {use : Option (Value → Sem Unit)} {Qf : Value → Shared → Prop} {acc : Value} (hs : X.stack = X.env :: X.outer) (hf : X.env.frame = some X.env.locals) (hcf : ce.frame = X.env.frame) (hex : X.ex = []) {E₁ : Value → Shared → Prop}
    (hx : X.xe = fun e s' => wpAny (model X.prog X.w) X.A (leaving X.env e) (fun _ s'' => CX X.prog X.w X.outer X.H_0 X.s_0 E e s'') E₁ s') {u : Value} (x : XB X (fun cls d _ H => E cls d H) C u s') :
    notedBy (model X.prog X.w) X.A ce (fun e s'' => compPost (model X.prog X.w) X.A X.xe use Qf acc C (.error e) s'') u s' := by
  obtain ⟨a, B, sI, pins, σ, H, cls, d, rfl, I, nb, up, fl, na, os, ag, w, bC, iC, nC, m, hm⟩ := x
  have hfr : X.A.frames = some (X.env :: X.outer) := by rw [I.ok.frames, hs]
  have en : noteFrame (.ref a) ce = noteFrame (.ref a) X.env := by
    unfold noteFrame PySem.frameOf
    rw [hcf]
  unfold notedBy
  rw [en]
  rw [hs] at fl
  have aC : a ≠ C := fun z => by
    obtain ⟨oe, vs, he, _, hd⟩ := fl.there
    obtain ⟨o, es, ep, ho, hr⟩ := hm
    rw [z, ho] at he
    cases he
    obtain ⟨h2, _⟩ := hr
    rw [h2] at hd
    cases hd
  refine looks_onZ Zc.steady hfr hf fl fun h1 hh up1 => ?_
  obtain ⟨k1, k2, k3, k4⟩ := hh
  have key : ∃ m, h1.Ns C m ∧ ∀ h', Heap.SameBut C h1 h' → ∀ cenv : Env, cenv.locals = C → wpAny (model X.prog X.w) X.A (PySem.passOn "comprehension.variables-let-go" (.ref a) cenv : Sem Value) (fun _ _ => False) X.xe { s' with heap := h' } := by
    obtain ⟨o, es, ep, ho, hr⟩ := hm
    have hdC : ∀ vs, o.data ≠ .fields vs := fun vs z => by
      obtain ⟨h2, _⟩ := hr
      rw [h2] at z
      cases z
    obtain ⟨sl, hC1⟩ := up1 C o ho hdC
    refine ⟨m, ⟨_, es, ep, hC1, hr⟩, fun h' sb cenv _ => ?_⟩
    obtain ⟨oe, vs, T, oT, ts, he, hz, hd, h1', hnT, hTe, hT, hdT, h3⟩ := k4
    have aC' : a ≠ C := aC
    have TC : T ≠ C := fun z => by
      rw [z, hC1] at hT
      cases hT
      exact hdC _ hdT
    have st' : B.StaysIn h' := fun b o' e => (sb.2 b (fun z => by rw [z, bC] at e; cases e)).trans (k1 b o' e)
    have nL : ∀ b ∈ frs (X.env :: X.outer), b ≠ C := fun b hb z => nC (by rw [hs]; rw [← z]; exact hb)
    have ff' : h'.FunFrames B (X.env :: X.outer) := ff_but (fun b hb => sb.2 b (nL b hb)) k3
    have tr' : TracedZ h' B a (Zc cls d) (rawInt X.env.locals) := ⟨oe, vs, T, oT, ts, (sb.2 a aC').trans he, hz, hd, h1', hnT, hTe, (sb.2 T TC).trans hT, hdT, h3⟩
    unfold PySem.passOn
    refine wpAny_bind (wpAny_field ((sb.2 a aC').trans he) hd h1' ?_)
    rw [if_neg (show ¬ ((Value.ref T == Value.none) = true) from by simp)]
    refine wpAny_bind (setFlight_anyZ (s := { s' with heap := h' }) (fr := cenv.frame) st' ff' tr' fun h2 g1 g2 g3 g4 => wpAny_throw ?_)
    rw [hx]
    have iC' : ∀ b o', sI.heap.get? b = some o' → b ≠ C := fun b o' e z => by rw [z, iC] at e; cases e
    exact leave_any (s' := { s' with heap := h2 }) (fr := cenv.frame) hs hf hex I nb (fun b o' e n => by
      obtain ⟨s1, e1⟩ := up b o' e n
      obtain ⟨s2, e2⟩ := up1 b _ e1 n
      obtain ⟨s3, e3⟩ := g4 b _ ((sb.2 b (iC' b o' e)).trans e2) n
      exact ⟨s3, e3⟩) g1 k2 g2 g3 na os ag w
  cases use <;> exact key
end
end Wt
namespace Wt
open PySem PySem.Spec PyProof.Rows L2
section
variable {X : Cx}
theorem lc_coreX {pins : List (Addr × Obj)} {s : Shared} {σ : L2.St} {H : Hp} {Q : VK} {elt tg iter : Expr} {ifs : List Expr} {scope : Scope} {own : List (Str × Nat)} {pos pos' : Pos} {wi : TI} {g : TG} {tt : TT} {te : TE} {use : Option (Value → Sem Unit)} {Qf : Value → Shared → Prop} {E₀ : XK} {E₁ : Value → Shared → Prop}
    (hst : X.stack = X.env :: X.outer) (hfm : X.env.frame = some X.env.locals) (hex : X.ex = []) (hxe : X.xe = fun e s' => wpAny (model X.prog X.w) X.A (leaving X.env e) (fun _ s'' => CX X.prog X.w X.outer X.H_0 X.s_0 E₀ e s'') E₁ s')
    (hc : X.calm = true) (hN : X.N.Nodup) (I : Inv X pins σ H s) (hi : PI X tg iter wi) (ok : BlkOk X.N X.env.scope scope own)
    (hg : ∀ (s : Shared) (H : Hp) (C : Addr) (cl : List (Str × Addr)) (fp : List Addr), PG (X.blk s H scope (compEnvC scope cl C X.env) fp) tg g) (ht : ∀ (s : Shared) (H : Hp) (C : Addr) (cl : List (Str × Addr)) (fp : List Addr), PTs (X.blk s H scope (compEnvC scope cl C X.env) fp) ifs tt)
    (he : ∀ (s : Shared) (H : Hp) (C : Addr) (cl : List (Str × Addr)) (fp : List Addr), Passes (L2.CX X.prog X.w) ((X.blk s H scope (compEnvC scope cl C X.env) fp).wish (XB X (fun cls d _ H => E₀ cls d H) C)) E₀ → PE ((X.blk s H scope (compEnvC scope cl C X.env) fp).wish (XB X (fun cls d _ H => E₀ cls d H) C)) elt te) (hs : ∀ x, foldedSetIterable iter X.env x = pure x)
    (h : tLc wi g tt te (own.map (·.2)) σ H Q)
    (hRR : ∀ D C s' m H', Inv X pins σ H' s' → Q (.ref D) H' → s'.heap.Ns C m → FpOk X pins H' C → compPost (model X.prog X.w) X.A X.xe use Qf (.ref D) C (.ok .next) s') :
    wpAny (model X.prog X.w) X.A (comprehension (.ListComp elt [⟨tg, iter, ifs, 0⟩] scope pos) scope X.env pos' (newList []) false (eval iter X.env) use) Qf X.xe s := by
  have hfree : ∀ y ∈ scope.names, y.2 = .free → ∃ c, X.env.cells.lookup y.1 = some c := fun y hy e => by
    rcases ok.free y hy e with k | k
    · exact I.ok.has _ (.inl k)
    · exact I.ok.has _ (.inr k)
  refine wpAny_comprehension_free (use := use) rfl hs (closure_ok hfree) ok.kind (fun y hy e => by rw [ok.uniq y hy, e])
    (thn (hi.run pins s σ H _ I h) fun xv s1 hx => thn hx fun itv s2 h2 => ?_)
  obtain ⟨it, fp, tn, J, H2, e, I2, T, st2, f2, q⟩ := h2
  subst e
  refine wpAny_newObj_type (newEnv_comp ?_) (by show 0 ≤ sizeLine; decide)
  generalize hD : s2.heap.objs.size = D
  have hDn : H2 D = none := I2.hok.fresh (Nat.le_of_eq hD)
  obtain ⟨W, ⟨m0, w0⟩, turn⟩ := q D hDn
  -- the new list
  generalize hs3 : ({ s2 with heap := s2.heap.push { cls := .type "list", data := .seq ([] : List Value).toArray } } : Shared) = s3
  have I3 : Inv X pins σ (upd H2 D (.lst [])) s3 := by
    rw [← hs3]
    refine I2.laid (t' := s2.toks) (fun b o e => Heap.get?_push_of_some _ e) (Nat.le_of_eq hD) ⟨Nat.zero_le _, [], 0, .nil, ?_⟩
    rw [← hD]
    exact Heap.get?_push_size _ rfl
  have h3 : s3.heap = s2.heap.push { cls := .type "list", data := .seq ([] : List Value).toArray } := by rw [← hs3]
  have sz : ∀ b ∈ fp, b < s2.heap.objs.size := fun b hb => by
    obtain ⟨o, e, _⟩ := T.obj _ _ st2 b hb
    exact Heap.lt_size e
  have f3 : ∀ b ∈ fp, FpOk X pins (upd H2 D (.lst [])) b ∧ b < s3.heap.objs.size := fun b hb => by
    have hlt := sz b hb
    refine ⟨⟨?_, (f2 b hb).2⟩, by rw [h3, Heap.size_push]; exact Nat.lt_succ_of_lt hlt⟩
    rw [upd_ne (by rw [← hD]; exact Nat.ne_of_lt hlt)]
    exact (f2 b hb).1
  have st3 : tn 0 s3.heap := T.keep _ _ _ st2 fun b _ o e => by rw [h3]; exact Heap.get?_push_of_some _ e
  have I4 := block_start I3 ok hN f3
  have pg := hg s3 (upd H2 D (.lst [])) s3.heap.objs.size (cellsFrom (s3.heap.objs.size + 1) scope.names (cloFrom X.env.cells scope.names [])) fp
  have pt := ht s3 (upd H2 D (.lst [])) s3.heap.objs.size (cellsFrom (s3.heap.objs.size + 1) scope.names (cloFrom X.env.cells scope.names [])) fp
  have pe := he s3 (upd H2 D (.lst [])) s3.heap.objs.size (cellsFrom (s3.heap.objs.size + 1) scope.names (cloFrom X.env.cells scope.names [])) fp (fun pins' σ' H' s e s' I6 c => by
    have I6 := I6.unwish
    have I7 : Inv X pins σ H' s := I3.call' (ch := fp) I6.os I6.base I6.hok I6.bare fun b hb => ⟨(f3 b hb).1.2.2.2.1, (f3 b hb).1.2.1, (f3 b hb).1.2.2.2.2.1, (f3 b hb).1.2.2.2.2.2⟩
    have nC : H' s3.heap.objs.size = none := I6.free
    obtain ⟨m, hn, _⟩ := I6.loc
    refine xb_of_call (W := fun cls d _ H => E₀ cls d H) I7 (I3.fpOk (Nat.le_refl _) nC) (fun hm => ?_) ⟨m, hn⟩ (fun _ _ _ h => h) c
    obtain ⟨_, o, ho, _⟩ := I3.stack.mem hm
    exact absurd (Heap.lt_size ho) (Nat.lt_irrefl _))
  have nout : ∀ (C : Addr) (ce : Env), ce.frame = X.env.frame → ∀ e s', XB X (fun cls d _ H => E₀ cls d H) C e s' → notedBy (model X.prog X.w) X.A ce (fun e s'' => compPost (model X.prog X.w) X.A X.xe use Qf (.ref D) C (.error e) s'') e s' := fun C ce hcf e s' x => xb_out hst hfm hcf hex hxe x
  show codeAny _ _ (.compStart (.ListComp elt [⟨tg, iter, ifs, 0⟩] scope pos) 0 (.ref it) (.ref D) (compEnvC scope (cellsFrom (s3.heap.objs.size + 1) scope.names (cloFrom X.env.cells scope.names [])) s3.heap.objs.size X.env)) (compPost (model X.prog X.w) X.A X.xe use Qf (.ref D) s3.heap.objs.size) { s3 with heap := pushCells (s3.heap.push { cls := .type "dict", data := .dict #[] }) scope.names }
  have nfp : ∀ b ∈ fp, (upd H2 D (.lst [])) b = none := fun b hb => (f3 b hb).1.1
  generalize hce : compEnvC scope (cellsFrom (s3.heap.objs.size + 1) scope.names (cloFrom X.env.cells scope.names [])) s3.heap.objs.size X.env = ce at I4 pg pt pe ⊢
  have cL : ce.locals = s3.heap.objs.size := by subst hce; rfl
  have cF : ce.frame = X.env.frame := by subst hce; rfl
  generalize hH3 : upd H2 D (.lst []) = H3 at I3 I4 pg pt pe w0 nfp f3
  generalize hs4 : ({ s3 with heap := pushCells (s3.heap.push { cls := .type "dict", data := .dict #[] }) scope.names } : Shared) = s4 at I4 ⊢
  have st4 : tn 0 s4.heap := T.keep _ _ _ st3 fun b _ o e => by rw [← hs4]; exact pushCells_keeps _ _ _ _ (Heap.get?_push_of_some _ e)
  have stat : ∀ {σ' : L2.St} {H' : Hp} {s' : Shared}, Inv (X.blk s3 H3 scope ce fp) [] σ' H' s' → (∀ b ∈ fp, H' b = none) → ∀ b ∈ fp, FpOk (X.blk s3 H3 scope ce fp) [] H' b := fun {σ' H' s'} I' hn b hb =>
    ⟨hn b hb, (I'.ok.exf b hb).1, I'.ok.exfs b hb, .inl hb, fun x c e => (I'.ok.exf b hb).2 x c e, fun p hp => absurd (show p ∈ ([] : List (Addr × Obj)) ++ [] from hp) (by simp)⟩
  have loop : codeAny (model X.prog X.w) X.A (.compLoop (.ListComp elt [⟨tg, iter, ifs, 0⟩] scope pos) 0 (.ref it) (.ref D) ce) (compPost (model X.prog X.w) X.A X.xe use Qf (.ref D) s3.heap.objs.size) s4 := by
    refine compLoop_any (fun n s' => ∃ i H', Inv (X.blk s3 H3 scope ce fp) [] (wipe σ (own.map (·.2))) H' s' ∧ tn i s'.heap ∧ (∀ b ∈ fp, H' b = none) ∧ W i n H') ?_ m0 ⟨0, H3, I4, st4, nfp, w0⟩
    rintro n s5 ⟨i, H5, I5, st5, n5, w5⟩
    rcases turn i n H5 w5 with ⟨stop, qq⟩ | ⟨go, Nx, hNx, step⟩
    · have td := T.done (X.blk s3 H3 scope ce fp) rfl rfl rfl hc i [] s5 _ H5 (fun _ _ => False) I5 (stat I5 n5) st5 stop
      refine thnF td fun r s6 ⟨hr, I6⟩ => ?_
      subst hr
      -- back in the def's context
      have I7 : Inv X pins σ H5 s6 := I3.call' (ch := fp) I6.os I6.base I6.hok I6.bare fun b hb => ⟨(f3 b hb).1.2.2.2.1, (f3 b hb).1.2.1, (f3 b hb).1.2.2.2.2.1, (f3 b hb).1.2.2.2.2.2⟩
      have nC : H5 s3.heap.objs.size = none := by
        have z : H5 ce.locals = none := I6.free
        rw [cL] at z
        exact z
      obtain ⟨m, hn, _⟩ := I6.loc
      have hn : s6.heap.Ns ce.locals m := hn
      rw [cL] at hn
      exact hRR D s3.heap.objs.size s6 m H5 I7 qq hn (I3.fpOk (Nat.le_refl _) nC)
    · have ti := T.item (X.blk s3 H3 scope ce fp) rfl rfl rfl hc i [] s5 _ H5 (fun _ _ => False) I5 (stat I5 n5) st5 go
      refine thnF ti fun r s6 ⟨u, hr, h6⟩ => ?_
      subst hr
      refine thnF h6 fun _ s7 ⟨x, H7, I7, r7, y7, st7, n7⟩ => ?_
      have I7' := I7.pinned (stat I7 n7) (T.obj _ _ st7)
      refine thnF (pg.run _ s7 _ H7 x u _ I7' r7 (step x H7 y7)) fun _ s8 ⟨σ8, H8, I8, hw8, q8⟩ => ?_
      refine thnF (pt.run _ s8 σ8 H8 _ I8 q8) fun b s9 ⟨H9, I9, q9⟩ => ?_
      -- the turn's end
      have fin : ∀ {s' : Shared} {H' : Hp}, Inv (X.blk s3 H3 scope ce fp) ([] ++ pinsAt fp s7.heap) σ8 H' s' → Nx H' → ∃ m, m < n ∧ ∃ i H', Inv (X.blk s3 H3 scope ce fp) [] (wipe σ (own.map (·.2))) H' s' ∧ tn i s'.heap ∧ (∀ b ∈ fp, H' b = none) ∧ W i m H' := fun {s' H'} I' nx => by
        obtain ⟨m', hm, w'⟩ := hNx H' nx
        have pin' : ∀ b ∈ fp, ∀ o, s7.heap.get? b = some o → s'.heap.get? b = some o ∧ H' b = none := fun b hb o e =>
          let z := I'.pin (b, o) (List.mem_append_right _ (List.mem_append_right _ (mem_pinsAt hb e)))
          ⟨z.1, z.2.1⟩
        have hl : (wipe σ (own.map (·.2))).length = σ8.length := by rw [← hw8, wipe_length]
        refine ⟨m', hm, i + 1, H', (I'.unpinned (pins := [])).weak hl (fun j v e => ?_), T.keep _ _ _ st7 fun b hb o e => (pin' b hb o e).1, fun b hb => ?_, w'⟩
        · rw [← hw8] at e
          exact (wipe_some e).1
        · obtain ⟨o, e, _⟩ := T.obj _ _ st7 b hb
          exact (pin' b hb o e).2
      cases b with
      | false =>
        simp only [Bool.false_eq_true, if_false] at q9 ⊢
        exact fin I9 q9
      | true =>
        simp only [if_true] at q9 ⊢
        refine wpAny_mono (pe.run _ s9 σ8 H9 _ (I9.wish _) q9) (fun z s10 hz => ?_) (fun e s' x => nout s3.heap.objs.size ce cF e s' x)
        obtain ⟨yv, H10, I10, r10, acc, hD10, hz10, nx⟩ := hz
        have I10 := I10.unwish
        exact app_ok (X := X.blk s3 H3 scope ce fp) I10 hD10 hz10 r10 fun s11 I11 => fin I11 nx
  exact codeAny_compStart_list loop (T.self X.A 0 _ _ _ st4 loop)
theorem pe_lcX {elt tg iter : Expr} {scope : Scope} {own : List (Str × Nat)} {pos : Pos} {wi : TI} {g : TG} {te : TE} {E₀ : XK} {E₁ : Value → Shared → Prop} (hc : X.calm = true)
    (hst : X.stack = X.env :: X.outer) (hfm : X.env.frame = some X.env.locals) (hex : X.ex = []) (hxe : X.xe = fun e s' => wpAny (model X.prog X.w) X.A (leaving X.env e) (fun _ s'' => CX X.prog X.w X.outer X.H_0 X.s_0 E₀ e s'') E₁ s')
    (hN : X.N.Nodup) (hi : PI X tg iter wi) (ok : BlkOk X.N X.env.scope scope own)
    (hg : ∀ (s : Shared) (H : Hp) (C : Addr) (cl : List (Str × Addr)) (fp : List Addr), PG (X.blk s H scope (compEnvC scope cl C X.env) fp) tg g)
    (he : ∀ (s : Shared) (H : Hp) (C : Addr) (cl : List (Str × Addr)) (fp : List Addr), Passes (L2.CX X.prog X.w) ((X.blk s H scope (compEnvC scope cl C X.env) fp).wish (XB X (fun cls d _ H => E₀ cls d H) C)) E₀ → PE ((X.blk s H scope (compEnvC scope cl C X.env) fp).wish (XB X (fun cls d _ H => E₀ cls d H) C)) elt te) (hs : ∀ x, foldedSetIterable iter X.env x = pure x := by intro _; rfl) :
    PE X (.ListComp elt [⟨tg, iter, [], 0⟩] scope pos) (tLc wi g tYes te (own.map (·.2))) := by
  refine ⟨fun pins s σ H Q I h => ?_⟩
  rw [eval_ListComp]
  refine lc_coreX hst hfm hex hxe hc hN I hi ok hg (fun _ _ _ _ _ => pts_nil) he hs h fun D C s' m H' I' q hn f => ⟨m, hn, fun h'' sb => ?_⟩
  obtain ⟨f0, f1, f2, f3, f4, f5⟩ := f
  exact ⟨.ref D, H', I'.turned (t' := s'.toks) (fun b o hb e => (sb.2 b hb).trans e) f0 f1 f3 f4 f5, rfl, q⟩
theorem ps_setLcX {i : Nat} {y : Str} {py : Pos} {elt tg iter : Expr} {scope : Scope} {own : List (Str × Nat)} {pos spos : Pos} {wi : TI} {g : TG} {te : TE} {E₀ : XK} {E₁ : Value → Shared → Prop} (hc : X.calm = true)
    (hst : X.stack = X.env :: X.outer) (hfm : X.env.frame = some X.env.locals) (hex : X.ex = []) (hxe : X.xe = fun e s' => wpAny (model X.prog X.w) X.A (leaving X.env e) (fun _ s'' => CX X.prog X.w X.outer X.H_0 X.s_0 E₀ e s'') E₁ s') (hN : X.N.Nodup) (hy : X.N[i]? = some y) (hyl : X.env.scope.names.lookup y = some .local)
    (hsw : swapsWith (.ListComp elt [⟨tg, iter, [], 0⟩] scope pos) (some (.Name y py)) spos.line X.env = pure true) (hi : PI X tg iter wi) (ok : BlkOk X.N X.env.scope scope own)
    (hg : ∀ (s : Shared) (H : Hp) (C : Addr) (cl : List (Str × Addr)) (fp : List Addr), PG (X.blk s H scope (compEnvC scope cl C X.env) fp) tg g)
    (he : ∀ (s : Shared) (H : Hp) (C : Addr) (cl : List (Str × Addr)) (fp : List Addr), Passes (L2.CX X.prog X.w) ((X.blk s H scope (compEnvC scope cl C X.env) fp).wish (XB X (fun cls d _ H => E₀ cls d H) C)) E₀ → PE ((X.blk s H scope (compEnvC scope cl C X.env) fp).wish (XB X (fun cls d _ H => E₀ cls d H) C)) elt te) (hs : ∀ x, foldedSetIterable iter X.env x = pure x := by intro _; rfl) :
    PS X (.Assign [.Name y py] (.ListComp elt [⟨tg, iter, [], 0⟩] scope pos) spos) (tAsg (tLc wi g tYes te (own.map (·.2))) (gName i)) := by
  refine ⟨fun pins s σ H D I h => ?_⟩
  rw [exec_Assign_Name_used _ _ _ _ hsw]
  refine wpAny_bind (wpAny_standAt (wpAny_bind ?_))
  show wpAny _ X.A (do let _ ← comprehension (.ListComp elt [⟨tg, iter, [], 0⟩] scope pos) scope X.env (firstIterPos [⟨tg, iter, [], 0⟩] pos) (newList []) false (eval iter X.env) (some (assign (.Name y py) X.env))) _ _ s
  have h : tLc wi g tYes te (own.map (·.2)) σ H (fun x H1 => gName i x σ H1 D.nx) := h
  refine wpAny_bind (thn (lc_coreX (Qf := fun _ s' => SP X pins D .next s') hst hfm hex hxe hc hN I hi ok hg (fun _ _ _ _ _ => pts_nil) he hs h fun L C s' m H' I' q hn f => ?_) fun _ s' hq => wpAny_pure (wpAny_pure hq))
  show wpAny _ _ (assign (.Name y py) X.env (.ref L)) _ _ _
  refine wpAny_assign_Name (store_ok2 (v := V.ref L) I' hN hy (.inl hyl) rfl (fun s2 I2 ⟨a, sb, ha⟩ => ?_) (.inr hyl))
  obtain ⟨f0, f1, f2, f3, f4, f5⟩ := f
  have haC : C ≠ a := by
    rcases ha with z | z
    · rw [z]; exact f1
    · exact fun e => f4 y a z e.symm
  refine ⟨m, hn.sameBut sb haC, fun h3 sb3 => ?_⟩
  exact ⟨_, H', I2.turned (t' := s2.toks) (fun b o hb e => (sb3.2 b hb).trans e) f0 f1 f3 f4 f5, q⟩
end
end Wt
namespace Wt
open PySem PySem.Spec PyProof.Rows L2 RZ RT
theorem wipe_set {σ : L2.St} {i : Nat} {x : Option V} : ∀ {vs : List Nat}, i ∈ vs → wipe (σ.set i x) vs = wipe σ vs
  | v :: vs, h => by
    unfold wipe
    by_cases e : i = v
    · subst e
      by_cases hm : i ∈ vs
      · rw [wipe_set hm]
      · have key : ∀ (vs : List Nat), i ∉ vs → wipe (σ.set i x) vs = (wipe σ vs).set i x := by
          intro vs
          induction vs with
          | nil => intro _; rfl
          | cons w ws ih =>
            intro hn
            unfold wipe
            rw [ih (fun z => hn (List.mem_cons_of_mem _ z)), List.set_comm]
            exact fun z => hn (by rw [z]; exact List.mem_cons_self)
        rw [key vs hm, List.set_set]
    · rw [wipe_set ((List.mem_cons.mp h).resolve_left e)]
theorem wipe_wipe {σ : L2.St} {us : List Nat} : ∀ {vs : List Nat}, (∀ i ∈ us, i ∈ vs) → wipe (wipe σ us) vs = wipe σ vs := by
  intro vs h
  induction us with
  | nil => rfl
  | cons u us ih =>
    show wipe ((wipe σ us).set u none) vs = _
    rw [wipe_set (h u List.mem_cons_self), ih fun i hi => h i (List.mem_cons_of_mem _ hi)]
theorem wipe3 {σ : L2.St} {i j k : Nat} {x y z : Option V} {vs : List Nat} (h1 : i ∈ vs) (h2 : j ∈ vs) (h3 : k ∈ vs) : wipe ((((wipe σ vs).set i x).set j y).set k z) vs = wipe σ vs := by
  rw [wipe_set h3, wipe_set h2, wipe_set h1, wipe_wipe fun _ h => h]
theorem pass_no {P : Program} {w : World} {X : Cx} : Passes (L2.CX P w) X (fun _ _ _ => False) := fun _ _ _ _ _ _ _ h => by
  obtain ⟨_, _, _, _, _, _, _, _, _, _, _, _, h⟩ := h
  exact h.elim
theorem Kp.upd2 {p D : Addr} {H H' : Hp} {o : HO} (h : Kp p H H') (hD : H D = none) : Kp p H (upd H' D o) := fun b u n e => by
  rw [upd_ne (ne_of_none e hD)]
  exact h b u n e
theorem walled_near {m : Str} {t : Tm} {f w : Fm} (h : Fm.near f w = true) : ∃ t', walledM m t f w = .ok t' := by
  unfold walledM
  by_cases e : f = w
  · rw [if_pos e]; exact ⟨_, rfl⟩
  · rw [if_neg e, if_pos h]; exact ⟨_, rfl⟩
/-- a list whose items are told one by one -/
theorem lc_list_rel {K : PySem.W.Frag} {a : Addr} {xs : List V} {g : TG} {te : TE} {vs : List Nat} {σ : L2.St} {H1 : Hp} {D : Addr} {Qd : Hp → Prop} (R : Nat → V → Hp → Prop) (hR : ∀ i y H H', Tk H H' → R i y H → R i y H') (hD : H1 D = none) (hT : SqL K H1 a xs) (hz : xs.length ≤ 1000)
    (hs : ∀ (i : Nat) x H' (Nx : VK), i < xs.length → xs[i]? = some x → Same H1 H' → (∀ y H3, Same H' H3 → R i y H3 → Nx y H3) → g x (wipe σ vs) H' fun σ2 H2 => wipe σ2 vs = wipe σ vs ∧ te σ2 H2 Nx)
    (hd : ∀ H' ys, Same H1 H' → H' D = some (.lst ys) → ys.length = xs.length → (∀ (j : Nat) y, ys[j]? = some y → R j y H') → Qd H') :
    ∃ W : Nat → Nat → Hp → Prop, (∃ m, W 0 m (upd H1 D (.lst []))) ∧ ∀ i m H, W i m H →
      ((Itl K a).stop i H ∧ Qd H) ∨ ((Itl K a).go i H ∧ ∃ Nx : Hp → Prop, (∀ H', Nx H' → ∃ m', m' < m ∧ W (i + 1) m' H') ∧ ∀ x H', (Itl K a).yld i H x H' → g x (wipe σ vs) H' fun σ2 H2 => wipe σ2 vs = wipe σ vs ∧ tYes σ2 H2 fun b H3 =>
        if b = true then te σ2 H3 fun y H4 => ∃ acc, H4 D = some (.lst acc) ∧ acc.length < sizeLine ∧ Nx (upd H4 D (.lst (acc ++ [y]))) else Nx H3) :=
  lc_rel rel_same (J := Itl K a) (n := xs.length) R hR hD (Same.refl _) hz (fun H' s => ⟨xs, s.seq hT, Nat.le_refl _⟩) (fun i H' hi s => ⟨xs, xs[i], s.seq hT, List.getElem?_eq_getElem hi⟩)
    (fun i x H' H'' _ yl => by rw [yl.1]; exact Same.refl _)
    (fun i x H' H'' Nx hi s yl k => by
      obtain ⟨e, yl⟩ := yl
      subst e
      exact hs i x _ Nx hi (yl xs (s.seq hT)) s k) hd
section
variable {P : Program} {w : World} {K : PySem.W.Frag} {mg : Str → Option Value} {base : Heap}
theorem sc_of_if : FnScope ["placer", "term", "bound", "word", "asked", "one", "other", "first", "ends", "form", "second", "third", "end", "mark", "placed", "given"] ["placer", "term", "bound"] (defScope s_of_if) := ⟨rfl, rfl, rfl, by decide +kernel, rfl, by decide +kernel, by decide +kernel⟩
theorem ok_of_if (T : Facts w K mg) (N L : Nat) (hL : 10 ≤ L) (m_wanted : Mt P w K mg base (L2.CX P w) L (He.ga K "Placer") "wanted" (spWanted K N)) (m_begun : Mt P w K mg base (L2.CX P w) L (He.ga K "Placer") "begun" (spBegun K N)) : Cl P w K mg base (L2.CX P w) (L + 1) "of_if" (spWay K N "if") := by
  have c_walled := ok_walled (P := P) (base := base) T
  have c_near_forms := ok_near_forms (P := P) (base := base) T 7
  have c_met_forms := ok_met_forms (P := P) (base := base) T 7
  obtain ⟨fd, F⟩ := T.f_of_if
  refine ⟨_, fd, ["placer", "term", "bound"], T.g_of_if, ?_, F.kp, F.bindsN fun _ _ _ _ _ _ us hl => match us, hl with | [_, _, _], _ => rfl⟩
  refine F.ok sc_of_if (fun vs H Q E h => ?_) (fun cdv A outer s H vs Q E hr h => ?_)
  · obtain ⟨p, v, b, fa, s, n, B, G, t, rfl, _⟩ := h
    rfl
  obtain ⟨p, v, b, fa, s', n, B, G, t, rfl, hw, J, hf⟩ := h
  refine ⟨_, (pss_cons (ps_asg (pv 1) (pg_tup (by rfl) (pgs_cons (pg_name (i := 3) sc_of_if.nd rfl (Or.inl rfl)) (pgs_cons (pg_name (i := 4) sc_of_if.nd rfl (Or.inl rfl)) (pgs_cons (pg_name (i := 5) sc_of_if.nd rfl (Or.inl rfl)) (pgs_cons (pg_name (i := 6) sc_of_if.nd rfl (Or.inl rfl)) pgs_nil))))))
    (pss_cons (ps_set (i := 7) sc_of_if.nd rfl (Or.inl rfl) (pe_mcl m_wanted T.cls_Placer hr (by omega) (passes_call (takes_of rfl rfl rfl rfl) fun _ _ _ _ z => z) (pv 0) (pa_cons (pv 4) (pa_cons (pv 2) (pa_cons (pe_glob (v := .str "num") rfl T.c_NUM.choose_spec ⟨_, rfl⟩) pa_nil)))))
    (pss_cons (ps_setLcX (i := 8) (own := [("end", 12)]) (g := (gName 12)) rfl rfl rfl rfl rfl sc_of_if.nd rfl rfl (sw_true rfl rfl rfl (by decide +kernel)) (pi_tup (pe_tup (pa_cons (pv 5) (pa_cons (pv 6) pa_nil)))) (blkOk_by (own := [("end", 12)]) (N := ["placer", "term", "bound", "word", "asked", "one", "other", "first", "ends", "form", "second", "third", "end", "mark", "placed", "given"]) (sc := defScope s_of_if) (by decide +kernel)) (fun _ _ _ _ _ => pg_name (i := 12) sc_of_if.nd rfl (Or.inl rfl)) (fun _ _ _ _ _ hp => (pe_mcl m_begun T.cls_Placer hr (by omega) hp (pv 0) (pa_cons (pv 12) (pa_cons (pv 2) pa_nil)))))
    (pss_cons (ps_if (pt_not (pt_val (pe_cl c_near_forms hr (by omega) pass0 (pa_cons (pe_ix ix_tup (pe_ix ix_list (pv 8) pe_int (fun _ _ => rfl)) pe_int (fun _ _ => rfl)) (pa_cons (pe_ix ix_tup (pe_ix ix_list (pv 8) pe_int (fun _ _ => rfl)) pe_int (fun _ _ => rfl)) pa_nil))))) (pss_one (ps_raise rfl (takes_of rfl rfl rfl rfl) (pmk_NotLet T hr (by omega) (by rfl) (pa_cons (pe_ix ix_tup (pe_ix ix_list (pv 8) pe_int (fun _ _ => rfl)) pe_int (fun _ _ => rfl)) pa_nil) (fun k h => by obtain ⟨v, e, p, xs, i, y, e1, e2, e3, e4, p2, xs2, i2, y2, f1, f2, f3, f4, q⟩ := h; exact ⟨v, e, p, xs, i, y, e1, e2, e3, e4, p2, xs2, i2, y2, f1, f2, f3, f4, k _ _ q⟩)))) pss_nil)
    (pss_cons (ps_set (i := 9) sc_of_if.nd rfl (Or.inr rfl) (pe_cl c_met_forms hr (by omega) pass0 (pa_cons (pe_ix ix_tup (pe_ix ix_list (pv 8) pe_int (fun _ _ => rfl)) pe_int (fun _ _ => rfl)) (pa_cons (pe_ix ix_tup (pe_ix ix_list (pv 8) pe_int (fun _ _ => rfl)) pe_int (fun _ _ => rfl)) pa_nil))))
    (pss_cons (ps_asg (pe_lc (own := [("mark", 13), ("placed", 14), ("given", 15)]) (g := (gTup K 3 (gCons (gName 13) (gCons (gName 14) (gCons (gName 15) gNil))))) (tt := tYes) rfl sc_of_if.nd (pi_list (pv 8)) (blkOk_by (own := [("mark", 13), ("placed", 14), ("given", 15)]) (N := ["placer", "term", "bound", "word", "asked", "one", "other", "first", "ends", "form", "second", "third", "end", "mark", "placed", "given"]) (sc := defScope s_of_if) (by decide +kernel)) (fun _ _ _ _ _ => (pg_tup (by rfl) (pgs_cons (pg_name (i := 13) sc_of_if.nd rfl (Or.inl rfl)) (pgs_cons (pg_name (i := 14) sc_of_if.nd rfl (Or.inl rfl)) (pgs_cons (pg_name (i := 15) sc_of_if.nd rfl (Or.inl rfl)) pgs_nil))))) (fun _ _ _ _ _ => pts_nil) (fun _ _ _ _ _ => (pe_cl c_walled hr (by omega) pass_no (pa_cons (pv 13) (pa_cons (pv 14) (pa_cons (pv 15) (pa_cons (pv 9) pa_nil))))))) (pg_unl (by rfl) (pgs_cons (pg_name (i := 10) sc_of_if.nd rfl (Or.inl rfl)) (pgs_cons (pg_name (i := 11) sc_of_if.nd rfl (Or.inl rfl)) pgs_nil))))
    (pss_one (ps_ret (pe_tup (pa_cons (pe_tup (pa_cons (pv 3) (pa_cons (pv 7) (pa_cons (pv 10) (pa_cons (pv 11) pa_nil))))) (pa_cons (pv 9) pa_nil))))))))))), ?_⟩
  cases t <;> first | (simp only [Tm.wd] at hw; exact absurd hw (by decide)) | skip
  rename_i c e f
  obtain ⟨dx, ep⟩ := J.S.at_
  have hJd := J.dep
  have hJc := J.cnt
  have hJl := J.len
  simp only [Tm.dep, Tm.nodes] at hJd hJc hJl
  obtain ⟨a, y0, y1, y2, rfl, ea, r0, r1, r2⟩ := rpw3.mp J.r
  refine ⟨_, rfl, a, _, rfl, SqT.of ea, rfl, _, _, rfl, _, _, rfl, _, _, rfl, _, _, rfl, rfl, ?_⟩
  refine ⟨_, rfl, p, dx, _, rfl, ep, pl_n, _, rfl, _, rfl, ?_⟩
  refine ⟨p, y0, b, .str "num", .num, fa, s', n, B, G, c, rfl, ⟨J.S, r0, J.wf.1, by omega, by omega, by omega⟩, by omega, .str _, by decide, ?_⟩
  refine fin_two hf (fun r t' er et h => ?_) (fun er h => h)
  intro H2 x k2 a2 rx
  obtain ⟨g1, g2, g3⟩ := plc_low J.S.g5 c er J.wf.1 J.S.b5
  have S2 := J.S.kp k2 a2
  have r1' := r1.mono (J.S.tk k2)
  have r2' := r2.mono (J.S.tk k2)
  refine ⟨_, rfl, _, rfl, sz2, fun q1 hq1 => ⟨q1, rfl, ⟨_, SqT.of upd_same⟩, fun D hD => ?_⟩⟩
  have s1 := same_new hq1 (.tup [y1, y2])
  have eq1 : (upd H2 q1 (.tup [y1, y2])) q1 = some (.tup [y1, y2]) := upd_same
  generalize hH3 : upd H2 q1 (.tup [y1, y2]) = H3 at s1 hD eq1 ⊢
  have k3 : Kp p H2 H3 := Kp.of s1
  have S3 := S2.same s1
  have r1'' := r1'.mono s1.tk
  have r2'' := r2'.mono s1.tk
  have hpD : D ≠ p := fun z => by
    obtain ⟨dy, e1⟩ := S3.at_
    rw [← z, hD] at e1
    cases e1
  rw [fin_bind] at h
  let G1 : Hp → Prop := fun H' => ∃ q x1, plc G s' B (r.2.2 + 1) e = .ok q ∧ Kp p H3 H' ∧ PAt K H' p s' fa q.2.2 ∧ H' D = some (.lst [x1]) ∧ Rp H' x1 (.tuple [.str (mkM s' (r.2.2 + 1)), q.1.d, q.2.1.d]) ∧
    Fin ((plc G s' B (q.2.2 + 1) f).bind fun u => if Fm.near q.2.1 u.2.1 = true then (walledM (mkM s' (r.2.2 + 1)) q.1 q.2.1 (Fm.met q.2.1 u.2.1)).bind fun e' => (walledM (mkM s' (q.2.2 + 1)) u.1 u.2.1 (Fm.met q.2.1 u.2.1)).bind fun f' => .ok (.ifT t' e' f', Fm.met q.2.1 u.2.1, u.2.2) else .error (.lt (mkM s' (q.2.2 + 1)))) (Good K p H s' fa Q) (ErrS K p H E)
  let G2 : Hp → Prop := fun H' => ∃ q x1 u x2, plc G s' B (r.2.2 + 1) e = .ok q ∧ plc G s' B (q.2.2 + 1) f = .ok u ∧ Kp p H3 H' ∧ PAt K H' p s' fa u.2.2 ∧ H' D = some (.lst [x1, x2]) ∧ Rp H' x1 (.tuple [.str (mkM s' (r.2.2 + 1)), q.1.d, q.2.1.d]) ∧ Rp H' x2 (.tuple [.str (mkM s' (q.2.2 + 1)), u.1.d, u.2.1.d]) ∧
    Fin (if Fm.near q.2.1 u.2.1 = true then (walledM (mkM s' (r.2.2 + 1)) q.1 q.2.1 (Fm.met q.2.1 u.2.1)).bind fun e' => (walledM (mkM s' (q.2.2 + 1)) u.1 u.2.1 (Fm.met q.2.1 u.2.1)).bind fun f' => .ok (.ifT t' e' f', Fm.met q.2.1 u.2.1, u.2.2) else .error (.lt (mkM s' (q.2.2 + 1)))) (Good K p H s' fa Q) (ErrS K p H E)
  refine ⟨fun i m H' => (i = 0 ∧ m = 2 ∧ H' = upd H3 D (.lst [])) ∨ (i = 1 ∧ m = 1 ∧ G1 H') ∨ (i = 2 ∧ m = 0 ∧ G2 H'), ⟨2, .inl ⟨rfl, rfl, rfl⟩⟩, ?_⟩
  rintro i m H' (⟨rfl, rfl, rfl⟩ | ⟨rfl, rfl, q, x1, eq, k4, a4, eD, rx1, h⟩ | ⟨rfl, rfl, q, x1, u, x2, eq, eu, k4, a4, eD, rx1, rx2, h⟩)
  · have s4 := same_new hD (.lst [])
    refine .inr ⟨⟨[y1, y2], y1, SqT.of (s4 _ _ eq1), rfl⟩, G1, fun H' g => ⟨1, by omega, .inr (.inl ⟨rfl, rfl, g⟩)⟩, fun y H'' yl => ?_⟩
    obtain ⟨rfl, hy⟩ := yl
    have hy := hy [y1, y2] (SqT.of (s4 _ _ eq1))
    cases hy
    refine ⟨rfl, ?_⟩
    have S4 := S3.same s4
    refine ⟨_, rfl, p, S4.at_.choose, _, rfl, S4.at_.choose_spec, pl_n, _, rfl, _, rfl, ?_⟩
    refine ⟨p, y1, b, fa, s', r.2.2, B, G, e, rfl, ⟨S4, r1''.mono s4.tk, J.wf.2.1, by omega, by omega, by omega⟩, by omega, ?_⟩
    refine fin_mono h (fun q eq h => ?_) (fun er _ h => h.kp (k2.trans (k3.trans (Kp.of s4))))
    intro H5 x5 k5 a5 rx5
    have eD5 : H5 D = some (.lst []) := k5 _ _ hpD upd_same
    refine ⟨[], eD5, by decide, q, x5, eq, ((Kp.of s4).trans k5).upd2 hD, ?_, upd_same, rx5.mono (tk_put eD5), h⟩
    exact ⟨a5.choose, by rw [upd_ne (Ne.symm hpD)]; exact a5.choose_spec⟩
  · obtain ⟨e1, e2, e3⟩ := plc_low J.S.g5 e eq J.wf.2.1 J.S.b5
    have t4 := S3.tk k4
    refine .inr ⟨⟨[y1, y2], y2, SqT.of (t4 _ _ eq1), rfl⟩, G2, fun H' g => ⟨0, by omega, .inr (.inr ⟨rfl, rfl, g⟩)⟩, fun y H'' yl => ?_⟩
    obtain ⟨rfl, hy⟩ := yl
    have hy := hy [y1, y2] (SqT.of (t4 _ _ eq1))
    cases hy
    refine ⟨rfl, ?_⟩
    have S4 := S3.kp k4 a4
    refine ⟨_, rfl, p, S4.at_.choose, _, rfl, S4.at_.choose_spec, pl_n, _, rfl, _, rfl, ?_⟩
    refine ⟨p, y2, b, fa, s', q.2.2, B, G, f, rfl, ⟨S4, r2''.mono t4, J.wf.2.2, by omega, by omega, by omega⟩, by omega, ?_⟩
    rw [fin_bind] at h
    refine fin_mono h (fun u eu h => ?_) (fun er _ h => h.kp (k2.trans (k3.trans k4)))
    intro H5 x5 k5 a5 rx5
    have eD5 : H5 D = some (.lst [x1]) := k5 _ _ hpD eD
    refine ⟨[x1], eD5, (show 1 < sizeLine by decide), q, x1, u, x5, eq, eu, (k4.trans k5).upd2 hD, ?_, upd_same, (rx1.mono (S4.tk k5)).mono (tk_put eD5), rx5.mono (tk_put eD5), h⟩
    exact ⟨a5.choose, by rw [upd_ne (Ne.symm hpD)]; exact a5.choose_spec⟩
  · obtain ⟨e1, e2, e3⟩ := plc_low J.S.g5 e eq J.wf.2.1 J.S.b5
    obtain ⟨f1, f2, f3⟩ := plc_low J.S.g5 f eu J.wf.2.2 J.S.b5
    have t4 := S3.tk k4
    refine .inl ⟨⟨[y1, y2], SqT.of (t4 _ _ eq1), Nat.le_refl _⟩, ?_⟩
    have k24 : Kp p H H' := k2.trans (k3.trans k4)
    obtain ⟨b1, z0, z1, z2, rfl, eb1, rz0, rz1, rz2⟩ := rp3.mp rx1
    obtain rfl := rp_str.mp rz0
    obtain ⟨b2, u0, u1, u2, rfl, eb2, ru0, ru1, ru2⟩ := rp3.mp rx2
    obtain rfl := rp_str.mp ru0
    refine ⟨_, rfl, D, _, 0, .ref b1, rfl, rfl, SqL.of eD, at0, b1, _, 2, z2, rfl, rfl, SqT.of eb1, at2, ?_⟩
    refine ⟨_, rfl, D, _, 1, .ref b2, rfl, rfl, SqL.of eD, at1, b2, _, 2, u2, rfl, rfl, SqT.of eb2, at2, ?_⟩
    refine ⟨z2, u2, q.2.1, u.2.1, rfl, rz2, ru2, by omega, by omega, by omega, fun H5 s5 => ⟨_, rfl, ?_⟩⟩
    cases hn : Fm.near q.2.1 u.2.1 with
    | false =>
      rw [if_neg (by rw [hn]; exact Bool.false_ne_true)] at h
      refine iteT ⟨_, rfl, D, _, 1, .ref b2, rfl, rfl, SqL.of (s5 _ _ eD), at1, b2, _, 0, .str (mkM s' (q.2.2 + 1)), rfl, rfl, SqT.of (s5 _ _ eb2), at0, _, rfl, fun d H6 s6 ed => ?_⟩
      exact h d H6 (k24.trans (Kp.of (s5.trans s6))) ed
    | true =>
      rw [if_pos hn] at h
      refine iteF ⟨_, rfl, D, _, 0, .ref b1, rfl, rfl, SqL.of (s5 _ _ eD), at0, b1, _, 2, z2, rfl, rfl, SqT.of (s5 _ _ eb1), at2, ?_⟩
      refine ⟨_, rfl, D, _, 1, .ref b2, rfl, rfl, SqL.of (s5 _ _ eD), at1, b2, _, 2, u2, rfl, rfl, SqT.of (s5 _ _ eb2), at2, ?_⟩
      refine ⟨z2, u2, q.2.1, u.2.1, rfl, rz2.mono s5.tk, ru2.mono s5.tk, hn, by omega, by omega, by omega, fun H6 fm s6 rfm => ?_⟩
      obtain ⟨n1, n2⟩ := Fm.near_met q.2.1 u.2.1 hn
      have hmt := Fm.met_ht q.2.1 u.2.1
      obtain ⟨e', he'⟩ := walled_near (m := mkM s' (r.2.2 + 1)) (t := q.1) n1
      obtain ⟨f', hf'⟩ := walled_near (m := mkM s' (q.2.2 + 1)) (t := u.1) n2
      rw [he', hf'] at h
      have s56 := s5.trans s6
      refine ⟨_, rfl, D, rfl, ⟨_, SqL.of (s56 _ _ eD)⟩, fun D2 hD2 => ?_⟩
      refine lc_list_rel (fun i y H => ∀ d, ([e'.d, f'.d] : List PyData)[i]? = some d → Rp H y d) (fun i y H H' k h d hd => (h d hd).mono k) hD2 (SqL.of (s56 _ _ eD)) (show 2 ≤ 1000 by decide) (fun i y H7 Nx hi hy s7 k => ?_) (fun H7 ys s7 eD7 hl hr7 => ?_)
      · have s57 := s56.trans s7
        match i, hi, hy with
        | 0, _, hy =>
          cases hy
          generalize hτ : wipe _ (List.map (fun x => x.2) [(("mark" : Str), 13), (("placed" : Str), 14), (("given" : Str), 15)]) = τ
          obtain rfl : τ = [some (.ref p), some (.ref a), some (.ref b), some (.str "if"), some y0, some y1, some y2, some x, some (.ref D), some fm, none, none, none, none, none, none] := hτ.symm.trans rfl
          refine ⟨b1, _, rfl, SqT.of (s57 _ _ eb1), rfl, _, _, rfl, _, _, rfl, _, _, rfl, rfl, rfl, _, rfl, _, rfl, _, rfl, _, rfl, ?_⟩
          show spWalled K [.str (mkM s' (r.2.2 + 1)), z1, z2, fm] H7 Nx (fun _ _ _ => False)
          refine walled_spec (H := H7) (good := fun t => t = e') (Kp.refl p H7) (rz1.mono s57.tk) (rz2.mono s57.tk) (rfm.mono s7.tk) (by omega) (by omega) (by rw [he']; exact rfl) fun t' ht H8 y8 s8 r8 => ?_
          subst ht
          exact k y8 H8 s8 fun d hd => by cases hd; exact r8
        | 1, _, hy =>
          cases hy
          generalize hτ : wipe _ (List.map (fun x => x.2) [(("mark" : Str), 13), (("placed" : Str), 14), (("given" : Str), 15)]) = τ
          obtain rfl : τ = [some (.ref p), some (.ref a), some (.ref b), some (.str "if"), some y0, some y1, some y2, some x, some (.ref D), some fm, none, none, none, none, none, none] := hτ.symm.trans rfl
          refine ⟨b2, _, rfl, SqT.of (s57 _ _ eb2), rfl, _, _, rfl, _, _, rfl, _, _, rfl, rfl, rfl, _, rfl, _, rfl, _, rfl, _, rfl, ?_⟩
          show spWalled K [.str (mkM s' (q.2.2 + 1)), u1, u2, fm] H7 Nx (fun _ _ _ => False)
          refine walled_spec (H := H7) (good := fun t => t = f') (Kp.refl p H7) (ru1.mono s57.tk) (ru2.mono s57.tk) (rfm.mono s7.tk) (by omega) (by omega) (by rw [hf']; exact rfl) fun t' ht H8 y8 s8 r8 => ?_
          subst ht
          exact k y8 H8 s8 fun d hd => by cases hd; exact r8
        | i + 2, hi, _ => exact absurd hi (by simp)
      · match ys, hl, hr7, eD7 with
        | [w1, w2], _, hr7, eD7 =>
          have rw1 := hr7 0 w1 rfl _ rfl
          have rw2 := hr7 1 w2 rfl _ rfl
          refine ⟨D2, _, rfl, SqL.of eD7, rfl, _, _, rfl, _, _, rfl, rfl, ?_⟩
          refine ⟨_, rfl, _, rfl, _, rfl, _, rfl, sz4, fun q8 hq8 => ?_⟩
          have s8 := same_new hq8 (.tup [.str "if", x, w1, w2])
          refine ⟨_, rfl, sz2, fun q9 hq9 => ?_⟩
          have s9 := same_new hq9 (.tup [.ref q8, fm])
          have s89 := s8.trans s9
          have s79 := s7.trans s89
          have s59 := s56.trans s79
          have tx := (k3.trans k4)
          exact h _ _ (k24.trans (Kp.of s59)) (a4.same s59) (rp2.mpr ⟨q9, _, _, rfl, upd_same, rp4.mpr ⟨q8, _, _, _, _, rfl, s9 _ _ upd_same, .str _, (rx.mono (S2.tk tx)).mono s59.tk, rw1.mono s89.tk, rw2.mono s89.tk⟩, rfm.mono s79.tk⟩)
end
end Wt
/-! The program places as the mirror does. -/
namespace Wt
open PySem PySem.Spec PyProof.Rows L2 RZ RT
theorem tm_head {H : Hp} {v : V} {t : Tm} (r : RpT H v t) (hw : t.wf) : ∃ (a : Addr) (xs : List V), v = .ref a ∧ H a = some (.tup (.str t.wd :: xs)) := by
  cases t with
  | wall => exact hw.elim
  | number i' =>
    obtain ⟨p, x0, rfl, e, _⟩ := rpw1.mp r
    exact ⟨p, _, rfl, e⟩
  | text z' =>
    obtain ⟨p, x0, rfl, e, _⟩ := rpw1.mp r
    exact ⟨p, _, rfl, e⟩
  | name z' =>
    obtain ⟨p, x0, rfl, e, _⟩ := rpw1.mp r
    exact ⟨p, _, rfl, e⟩
  | deed x' A' e' =>
    obtain ⟨p, x0, x1, x2, rfl, e, _⟩ := rpw3.mp r
    exact ⟨p, _, rfl, e⟩
  | call e' f' =>
    obtain ⟨p, x0, x1, rfl, e, _⟩ := rpw2.mp r
    exact ⟨p, _, rfl, e⟩
  | letT x' e' f' =>
    obtain ⟨p, x0, x1, x2, rfl, e, _⟩ := rpw3.mp r
    exact ⟨p, _, rfl, e⟩
  | tell A' e' =>
    obtain ⟨p, x0, x1, rfl, e, _⟩ := rpw2.mp r
    exact ⟨p, _, rfl, e⟩
  | ifT c' e' f' =>
    obtain ⟨p, x0, x1, x2, rfl, e, _⟩ := rpw3.mp r
    exact ⟨p, _, rfl, e⟩
  | add e' f' =>
    obtain ⟨p, x0, x1, rfl, e, _⟩ := rpw2.mp r
    exact ⟨p, _, rfl, e⟩
  | sub e' f' =>
    obtain ⟨p, x0, x1, rfl, e, _⟩ := rpw2.mp r
    exact ⟨p, _, rfl, e⟩
  | size e' =>
    obtain ⟨p, x0, rfl, e, _⟩ := rpw1.mp r
    exact ⟨p, _, rfl, e⟩
  | box A' e' =>
    obtain ⟨p, x0, x1, rfl, e, _⟩ := rpw2.mp r
    exact ⟨p, _, rfl, e⟩
  | read e' =>
    obtain ⟨p, x0, rfl, e, _⟩ := rpw1.mp r
    exact ⟨p, _, rfl, e⟩
  | write e' f' =>
    obtain ⟨p, x0, x1, rfl, e, _⟩ := rpw2.mp r
    exact ⟨p, _, rfl, e⟩
  | same e' f' =>
    obtain ⟨p, x0, x1, rfl, e, _⟩ := rpw2.mp r
    exact ⟨p, _, rfl, e⟩
  | doT e' f' =>
    obtain ⟨p, x0, x1, rfl, e, _⟩ := rpw2.mp r
    exact ⟨p, _, rfl, e⟩
section
variable {P : Program} {w : World} {K : PySem.W.Frag} {mg : Str → Option Value} {base : Heap}
theorem way_of (T : Facts w K mg) (N L0 : Nat) (h10 : 10 ≤ L0) (m_placed : Mt P w K mg base (L2.CX P w) L0 (He.ga K "Placer") "placed" (spPlaced K N)) {t : Tm} (hw : t.wf) :
    ∃ (f : Addr) (fd : FuncData) (ps : List Str), KDct K w (He.ga K "WAYS") t.wd (.ref f) ∧ FnOk P w K mg base (L2.CX P w) (L0 + 3) f fd ps (spWay K N t.wd) ∧ PySem.W.keepIn K (.ref f) = true ∧ Binds K fd ps [] := by
  have mp := m_placed.mono (k := L0 + 2) (by omega)
  have mb1 := ok_Placer_begun T N L0 m_placed
  have mb := mb1.mono (k := L0 + 2) (by omega)
  have mw := ok_Placer_wanted T N (L0 + 1) (by omega) mb1
  have mh := ok_Placer_wanted_head T N (L0 + 1) (by omega) mb1
  have go : ∀ {x wd : Str} {f : Addr}, mg x = some (.ref f) → Cl P w K mg base (L2.CX P w) (L0 + 3) x (spWay K N wd) → (∃ u, PySem.W.nsIn K (He.ga K "WAYS") wd = some (some u) ∧ RelV (.ref f) u) →
      ∃ (f : Addr) (fd : FuncData) (ps : List Str), KDct K w (He.ga K "WAYS") wd (.ref f) ∧ FnOk P w K mg base (L2.CX P w) (L0 + 3) f fd ps (spWay K N wd) ∧ PySem.W.keepIn K (.ref f) = true ∧ Binds K fd ps [] := by
    intro x wd f hx c hu
    obtain ⟨f', fd, ps, e1, e2, e3, e4⟩ := c.ex
    rw [hx] at e1
    cases e1
    exact ⟨f, fd, ps, kdct_of T.d_WAYS.choose_spec.choose_spec hu, e2, e3, e4⟩
  cases t with
  | wall => exact hw.elim
  | number _ => exact go T.g_of_number ((ok_of_number T N).mono (by omega)) T.y_number
  | text _ => exact go T.g_of_text ((ok_of_text T N).mono (by omega)) T.y_text
  | name _ => exact go T.g_of_name ((ok_of_name T N).mono (by omega)) T.y_name
  | deed _ _ _ => exact go T.g_of_deed ((ok_of_deed T N (L0 + 2) (by omega) mp).mono (by omega)) T.y_deed
  | call _ _ => exact go T.g_of_call ((ok_of_call T N (L0 + 2) (by omega) mw mh).mono (by omega)) T.y_call
  | letT _ _ _ => exact go T.g_of_let ((ok_of_let T N (L0 + 2) (by omega) mp).mono (by omega)) T.y_let
  | tell _ _ => exact go T.g_of_tell ((ok_of_tell T N (L0 + 2) (by omega) mw).mono (by omega)) T.y_tell
  | ifT _ _ _ => exact go T.g_of_if ((ok_of_if T N (L0 + 2) (by omega) mw mb).mono (by omega)) T.y_if
  | add _ _ => exact go T.g_of_sum ((ok_of_sum_add T N (L0 + 2) (by omega) mw).mono (by omega)) T.y_add
  | sub _ _ => exact go T.g_of_sum ((ok_of_sum_sub T N (L0 + 2) (by omega) mw).mono (by omega)) T.y_sub
  | size _ => exact go T.g_of_size ((ok_of_size T N (L0 + 2) (by omega) mw).mono (by omega)) T.y_size
  | box _ _ => exact go T.g_of_box ((ok_of_box T N (L0 + 2) (by omega) mw).mono (by omega)) T.y_box
  | read _ => exact go T.g_of_read ((ok_of_read T N (L0 + 2) (by omega) mh).mono (by omega)) T.y_read
  | write _ _ => exact go T.g_of_write ((ok_of_write T N (L0 + 2) (by omega) mw mh).mono (by omega)) T.y_write
  | same _ _ => exact go T.g_of_same ((ok_of_same T N (L0 + 2) (by omega) mh).mono (by omega)) T.y_same
  | doT _ _ => exact go T.g_of_do ((ok_of_do T N (L0 + 2) (by omega) mp).mono (by omega)) T.y_do
theorem sc_Placer_placed : FnScope ["self", "term", "bound"] ["self", "term", "bound"] (defScope s_Placer_placed) := ⟨rfl, rfl, rfl, by decide +kernel, rfl, by decide +kernel, by decide +kernel⟩
theorem ok_Placer_placed (T : Facts w K mg) : ∀ N, Mt P w K mg base (L2.CX P w) (4 * N + 12) (He.ga K "Placer") "placed" (spPlaced K N)
  | 0 => by
    obtain ⟨fd, F⟩ := T.f_Placer_placed
    exact ⟨_, fd, ["self", "term", "bound"], T.m_Placer_placed, ⟨fun vs H Q E ⟨_, _, _, _, _, _, _, _, _, _, J, _⟩ => absurd J.dep (Nat.not_lt_zero _), fun A outer s H args us vs Q E _ _ _ _ h => by obtain ⟨_, _, _, _, _, _, _, _, _, _, J, _⟩ := h; exact absurd J.dep (Nat.not_lt_zero _)⟩, F.bindsN fun _ _ _ _ _ _ us hl => match us, hl with | [_, _, _], _ => rfl⟩
  | N + 1 => by
    have m_placed := ok_Placer_placed T N
    obtain ⟨fd, F⟩ := T.f_Placer_placed
    refine ⟨_, fd, ["self", "term", "bound"], T.m_Placer_placed, ?_, F.bindsN fun _ _ _ _ _ _ us hl => match us, hl with | [_, _, _], _ => rfl⟩
    show FnOk P w K mg base (L2.CX P w) (4 * N + 15 + 1) _ _ _ _
    refine F.ok sc_Placer_placed (fun vs H Q E h => ?_) (fun cdv A outer s H vs Q E hr h => ?_)
    · obtain ⟨p, v, b, fa, s, n, B, G, t, rfl, _⟩ := h
      rfl
    obtain ⟨p, v, b, fa, s', n, B, G, t, rfl, J, hf⟩ := h
    refine ⟨_, (pss_one (ps_ret (pe_callV (pe_ix ix_kdict (pe_glob (v := .ref (He.ga K "WAYS")) rfl T.g_WAYS rfl) (pe_ix ix_tup (pv 1) pe_int (fun _ _ => rfl)) (fun _ _ => rfl)) hr (passes_call (takes_of rfl rfl rfl rfl) fun _ _ _ _ z => z) (pa_cons (pv 0) (pa_cons (pv 1) (pa_cons (pv 2) pa_nil)))))), ?_⟩
    obtain ⟨a, xs, rfl, ea⟩ := tm_head J.r J.wf
    obtain ⟨f, fd', ps, k1, k2, k3, k4⟩ := way_of (P := P) (base := base) T N (4 * N + 12) (by omega) m_placed J.wf
    exact ⟨_, rfl, a, _, 0, .str t.wd, rfl, rfl, SqT.of ea, at0, _, _, .ref f, rfl, rfl, k1, f, fd', ps, 4 * N + 15, _, rfl, k2, k3, k4, Nat.le_refl _, _, rfl, _, rfl, _, rfl, p, _, b, fa, s', n, B, G, t, rfl, rfl, J, hf⟩
end
end Wt
/-! dict.update; a placer is made; a program places. -/
namespace Wt
open PySem PySem.Spec PyProof.Rows L2 RZ RT
def rUpdD : V → List V → Hp → VK → Prop := fun x xs H Q => ∃ a b kvs more, x = .ref a ∧ xs = [.ref b] ∧ a ≠ b ∧ H a = some (.dK kvs) ∧ H b = some (.dK more) ∧ kvs.length + more.length ≤ 1000 ∧ Q .non (upd H a (.dK (mergeK kvs more)))
theorem mt_update {X : Cx} : MtM X "dict.update" rUpdD := by
  intro pins s σ H x xs v us Q I rx rxs h
  obtain ⟨a, b, kvs, more, rfl, rfl, hab, ea, eb, hz, q⟩ := h
  cases rx
  obtain ⟨u, rfl, ru⟩ := Vals.one rxs
  cases ru
  obtain ⟨z1, hd, vs, rel, dd⟩ := dk_of I.hok ea
  obtain ⟨z2, hd2, ws, rel2, dd2⟩ := dk_of I.hok eb
  have l1 := rel.length
  have l2 := rel2.length
  refine call_meetsIn PySem.F.slot_dict_update dd.typeIs PySem.F.entry_dict_update (PySem.F.args_dict_update_2 _ _) (meets_dict_update (mixKind X.prog X.w) a b hab hd2) ⟨vs, ws, dd, dd2, by rw [sizeLine_eq]; omega, fun h' dd' _ hs => ?_⟩
  have he : ∃ q, h'.get? a = some q := let ⟨q, _, _, hq, _⟩ := dd'; ⟨q, hq⟩
  have hl : (mergeK kvs more).length ≤ sizeLine := by have := length_mergeK more kvs; rw [sizeLine_eq]; omega
  exact ⟨.non, _, d_write I (by rw [ea]; exact True.intro) hs he (dk_new hl hd (KV.merge rel2 rel) dd'), rfl, q⟩
/-! ### dicts from names to forms -/
abbrev FD : Type := List (Str × Fm)
def putP (fs : FD) (x : Str) (f : Fm) : FD := if (fs.any fun p => decide (p.1 = x)) = true then fs.map (fun p => if p.1 = x then (p.1, f) else p) else fs ++ [(x, f)]
def mergeP (fs ms : FD) : FD := ms.foldl (fun acc p => putP acc p.1 p.2) fs
def lookP (fs : FD) (x : Str) : Option Fm := (fs.find? fun p => decide (p.1 = x)).map (·.2)
/-- as such a dict stands -/
inductive DR (H : Hp) : List (Key × V) → FD → Prop
  | nil : DR H [] []
  | cons {x : Str} {v : V} {f : Fm} {kvs : List (Key × V)} {fs : FD} : RpF H v f → DR H kvs fs → DR H ((.inr x, v) :: kvs) ((x, f) :: fs)
theorem DR.mono {H H' : Hp} (k : Tk H H') {kvs : List (Key × V)} {fs : FD} (h : DR H kvs fs) : DR H' kvs fs := by
  induction h with
  | nil => exact .nil
  | cons r _ ih => exact .cons (r.mono k) ih
theorem DR.len {H : Hp} {kvs : List (Key × V)} {fs : FD} (h : DR H kvs fs) : kvs.length = fs.length := by
  induction h with
  | nil => rfl
  | cons _ _ ih => rw [List.length_cons, List.length_cons, ih]
theorem key_dec (x y : Str) : decide ((Sum.inr x : Key) = .inr y) = decide (x = y) := by
  by_cases h : x = y
  · subst h; simp
  · rw [decide_eq_false h, decide_eq_false (fun e => h (Sum.inr.inj e))]
theorem DR.look {H : Hp} {kvs : List (Key × V)} {fs : FD} (h : DR H kvs fs) (x : Str) : (match lookP fs x with
    | some f => ∃ v, valV kvs (.inr x) = some v ∧ RpF H v f
    | none => valV kvs (.inr x) = none) := by
  induction h with
  | nil => exact rfl
  | @cons y v f kvs fs r _ ih =>
    unfold lookP valV at ih ⊢
    rw [List.find?_cons, List.find?_cons]
    rw [key_dec]
    by_cases e : y = x
    · rw [decide_eq_true e]
      exact ⟨v, rfl, r⟩
    · rw [decide_eq_false e]
      exact ih
theorem DR.app {H : Hp} {kvs : List (Key × V)} {fs : FD} {x : Str} {v : V} {f : Fm} (h : DR H kvs fs) (r : RpF H v f) : DR H (kvs ++ [(.inr x, v)]) (fs ++ [(x, f)]) := by
  induction h with
  | nil => exact .cons r .nil
  | cons r' _ ih => exact .cons r' ih
theorem DR.any {H : Hp} {kvs : List (Key × V)} {fs : FD} (h : DR H kvs fs) (x : Str) : (kvs.any fun kv => decide (kv.1 = .inr x)) = fs.any fun p => decide (p.1 = x) := by
  induction h with
  | nil => rfl
  | cons _ _ ih => rw [List.any_cons, List.any_cons, ih, key_dec]
theorem DR.put {H : Hp} {kvs : List (Key × V)} {fs : FD} {x : Str} {v : V} {f : Fm} (h : DR H kvs fs) (r : RpF H v f) : DR H (putK kvs (.inr x) v) (putP fs x f) := by
  unfold putK putP
  rw [h.any x]
  split
  · have key : ∀ {kvs : List (Key × V)} {fs : FD}, DR H kvs fs → DR H (kvs.map (fun kv => if kv.1 = .inr x then (kv.1, v) else kv)) (fs.map (fun p => if p.1 = x then (p.1, f) else p)) := by
      intro kvs fs h
      induction h with
      | nil => exact .nil
      | @cons y w g kvs fs r' _ ih =>
        rw [List.map_cons, List.map_cons]
        by_cases e : y = x
        · subst e
          rw [if_pos rfl, if_pos rfl]
          exact .cons r ih
        · rw [if_neg (fun z => e (Sum.inr.inj z)), if_neg e]
          exact .cons r' ih
    exact key h
  · exact h.app r
theorem DR.merge {H : Hp} {more : List (Key × V)} {ms : FD} (hm : DR H more ms) : ∀ {kvs : List (Key × V)} {fs : FD}, DR H kvs fs → DR H (mergeK kvs more) (mergeP fs ms) := by
  induction hm with
  | nil => exact fun h => h
  | cons r _ ih => exact fun h => ih (h.put r)
theorem DR.g {H : Hp} {fa : Addr} {kvs : List (Key × V)} {fs : FD} (h : DR H kvs fs) (e : H fa = some (.dK kvs)) : GAt H fa (lookP fs) := ⟨kvs, e, h.look⟩
theorem putP_low {fs : FD} {x : Str} {f : Fm} (h : ∀ q ∈ fs, q.2.ht ≤ 5) (hf : f.ht ≤ 5) : ∀ q ∈ putP fs x f, q.2.ht ≤ 5 := by
  intro q hq
  unfold putP at hq
  split at hq
  · obtain ⟨p, hp, rfl⟩ := List.mem_map.mp hq
    split
    · exact hf
    · exact h p hp
  · rcases List.mem_append.mp hq with hq | hq
    · exact h q hq
    · rw [List.mem_singleton.mp hq]; exact hf
theorem mergeP_low : ∀ {ms fs : FD}, (∀ q ∈ fs, q.2.ht ≤ 5) → (∀ q ∈ ms, q.2.ht ≤ 5) → ∀ q ∈ mergeP fs ms, q.2.ht ≤ 5
  | [], _, h, _ => h
  | p :: ms, fs, h, hm => mergeP_low (ms := ms) (putP_low h (hm p List.mem_cons_self)) fun q hq => hm q (List.mem_cons_of_mem _ hq)
theorem lookP_low {fs : FD} (h : ∀ q ∈ fs, q.2.ht ≤ 5) : G5 (lookP fs) := fun x f e => by
  unfold lookP at e
  obtain ⟨p, hp, rfl⟩ := Option.map_eq_some_iff.mp e
  exact h p (List.mem_of_find?_eq_some hp)
theorem putP_len (fs : FD) (x : Str) (f : Fm) : (putP fs x f).length ≤ fs.length + 1 := by
  unfold putP
  split
  · rw [List.length_map]; omega
  · rw [List.length_append, List.length_singleton]; omega
theorem mergeP_len : ∀ (ms fs : FD), (mergeP fs ms).length ≤ fs.length + ms.length
  | [], _ => Nat.le_refl _
  | p :: ms, fs => by
    have h1 := mergeP_len ms (putP fs p.1 p.2)
    have h2 := putP_len fs p.1 p.2
    show (mergeP (putP fs p.1 p.2) ms).length ≤ _
    rw [List.length_cons]
    omega
/-! ### a placer is made -/
def spPlInit (K : PySem.W.Frag) : Sp := fun vs H Q _ => ∃ x s fa dx, vs = [.ref x, .str s, .ref fa] ∧ H x = some (.ins (He.ga K "Placer") dx []) ∧ ∀ H', Kp x H H' → PAt K H' x s fa 0 → Q .non H'
section
variable {P : Program} {w : World} {K : PySem.W.Frag} {mg : Str → Option Value} {base : Heap}
theorem sc_Placer_init : FnScope ["self", "ahead", "forms"] ["self", "ahead", "forms"] (defScope s_Placer_init) := ⟨rfl, rfl, rfl, by decide +kernel, rfl, by decide +kernel, by decide +kernel⟩
theorem ok_Placer_init (T : Facts w K mg) : ∃ fd, FnOk P w K mg base CX0 1 (He.ma K (He.ga K "Placer") "__init__") fd ["self", "ahead", "forms"] (spPlInit K) ∧ Binds K fd ["self", "ahead", "forms"] [] := by
  obtain ⟨fd, F⟩ := T.f_Placer_init
  refine ⟨fd, F.ok sc_Placer_init (fun vs H Q E h => ?_) (fun cdv A outer s H vs Q E hr h => ?_), F.bindsN fun _ _ _ _ _ _ us hl => match us, hl with | [_, _, _], _ => rfl⟩
  · obtain ⟨x, s, fa, dx, rfl, _⟩ := h
    rfl
  obtain ⟨x, s', fa, dx, rfl, ex, q⟩ := h
  refine ⟨_, PSs.nox (pss_cons (ps_fld (pv 0) (pv 1) rfl)
    (pss_cons (ps_fld (pv 0) (pv 2) rfl)
    (pss_one (ps_fld (pv 0) pe_int rfl)))), ?_⟩
  refine ⟨_, rfl, _, rfl, x, _, dx, _, rfl, ex, T.cls_Placer, T.no_Placer_ahead, by simp, ?_⟩
  refine ⟨_, rfl, _, rfl, x, _, dx, _, rfl, upd_same, T.cls_Placer, T.no_Placer_forms, by simp [putF], ?_⟩
  refine ⟨_, rfl, x, _, dx, _, rfl, upd_same, T.cls_Placer, T.no_Placer_places, ?_, ?_⟩
  · rw [show (putF ("forms" : Str) (V.ref fa) (putF ("ahead" : Str) (V.str s') [])).length = 2 by rfl]
    decide
  · refine q _ ((Kp.at_ _).trans ((Kp.at_ _).trans (Kp.at_ _))) ⟨dx, ?_⟩
    rw [upd_same]
    rfl
end
end Wt
/-! A program places a term. -/
namespace Wt
open PySem PySem.Spec PyProof.Rows L2 RZ RT
/-- the ways out, nothing told changed -/
def ErrZ (K : PySem.W.Frag) (H : Hp) (E : XK) : Er → Prop
  | .name x => ∀ d H', Same H H' → H' d = some (.xd [("name", .str x)]) → E (.ref (He.ga K "NoName")) (some d) H'
  | .lt m => ∀ d H', Same H H' → H' d = some (.xd [("mark", .str m)]) → E (.ref (He.ga K "NotLet")) (some d) H'
  | .high => ∀ H', Same H H' → E (.ref (He.ga K "TooHigh")) none H'
theorem same_kp {p : Addr} {H H1 H2 : Hp} (s : Same H H1) (k : Kp p H1 H2) (hp : H p = none) : Same H H2 := fun b u e => k b u (ne_of_none e hp) (s b u e)
theorem errZ_S {K : PySem.W.Frag} {p : Addr} {H H1 : Hp} {E : XK} {e : Er} (h : ErrZ K H E e) (s : Same H H1) (hp : H p = none) : ErrS K p H1 E e := by
  cases e with
  | name x => exact fun d H' k ed => h d H' (same_kp s k hp) ed
  | lt m => exact fun d H' k ed => h d H' (same_kp s k hp) ed
  | high => exact fun H' k => h H' (same_kp s k hp)
def PgAt (K : PySem.W.Frag) (H : Hp) (pr : Addr) (fs : FD) : Prop := ∃ dx oh tm fa kvs, H pr = some (.ins (He.ga K "Program") dx [("own_halls", oh), ("forms", .ref fa), ("terms", tm)]) ∧ H fa = some (.dK kvs) ∧ DR H kvs fs
theorem PgAt.same {K : PySem.W.Frag} {H H' : Hp} {pr : Addr} {fs : FD} (h : PgAt K H pr fs) (s : Same H H') : PgAt K H' pr fs := by
  obtain ⟨dx, oh, tm, fa, kvs, h1, h2, h3⟩ := h
  exact ⟨dx, oh, tm, fa, kvs, s _ _ h1, s _ _ h2, h3.mono s.tk⟩
/-- what is kept: None, or a dict -/
def KeptAt (H : Hp) (v : V) (ms : Option FD) : Prop := match ms with
  | none => v = .non
  | some ms => ∃ k more, v = .ref k ∧ H k = some (.dK more) ∧ DR H more ms
def lookM (fs : FD) (ms : Option FD) : Str → Option Fm := lookP (mergeP fs (ms.getD []))
def spPlace (K : PySem.W.Frag) : Sp := fun vs H Q E => ∃ pr v s kv fs ms t, vs = [.ref pr, v, .str s, kv] ∧ PgAt K H pr fs ∧ KeptAt H kv ms ∧ RpT H v t ∧ t.wf ∧ t.dep < 25 ∧ t.nodes ≤ 1000 ∧ s.length ≤ 20 ∧ fs.length ≤ 100 ∧ (∀ ml, ms = some ml → ml.length ≤ 100) ∧ (∀ q ∈ fs, q.2.ht ≤ 5) ∧ (∀ ml, ms = some ml → ∀ q ∈ ml, q.2.ht ≤ 5) ∧
  Fin (plc (lookM fs ms) s [] 0 t) (fun r => ∀ H' x, Same H H' → Rp H' x (.tuple [r.1.d, r.2.1.d]) → Q x H') (ErrZ K H E)
theorem pg_f {a b c : V} : List.lookup ("forms" : Str) [("own_halls", a), ("forms", b), ("terms", c)] = some b := by
  have h : (("forms" : Str) == ("own_halls" : Str)) = false := by decide
  simp [List.lookup, h]
section
variable {P : Program} {w : World} {K : PySem.W.Frag} {mg : Str → Option Value} {base : Heap}
theorem sc_Program_place : FnScope ["self", "term", "mark", "kept", "forms"] ["self", "term", "mark", "kept"] (defScope s_Program_place) := ⟨rfl, rfl, rfl, by decide +kernel, rfl, by decide +kernel, by decide +kernel⟩
theorem ok_Program_place (T : Facts w K mg) : ∃ fd, FnOk P w K mg base (L2.CX P w) 114 (He.ma K (He.ga K "Program") "place") fd ["self", "term", "mark", "kept"] (spPlace K) ∧ FunD K "place" "Program.place" (defArgs s_Program_place) (defBody s_Program_place) (defScope s_Program_place) [] [("mark", .str "0"), ("kept", .non)] (He.ma K (He.ga K "Program") "place") fd := by
  have c_want_term := ok_want_term (P := P) (base := base) T
  have m_placed := ok_Placer_placed (P := P) (base := base) T 25
  obtain ⟨fdi, plf, plb⟩ := ok_Placer_init (P := P) (base := base) T
  obtain ⟨fd, F⟩ := T.f_Program_place
  refine ⟨fd, F.ok sc_Program_place (fun vs H Q E h => ?_) (fun cdv A outer s H vs Q E hr h => ?_), F⟩
  · obtain ⟨pr, v, s, kv, fs, ms, t, rfl, _⟩ := h
    rfl
  obtain ⟨pr, v, s', kv, fs, ms, t, rfl, hpg, hk, rt, hw, hd, hn, hs, hfl, hml, hf5, hm5, hf⟩ := h
  refine ⟨_, (pss_cons (ps_expr (pe_cl c_want_term hr (by omega) pass0 (pa_cons (pv 1) pa_nil)))
    (pss_cons (ps_set (i := 4) sc_Program_place.nd rfl (Or.inl rfl) (pe_callTy call_dictD (by rfl) T.z_dict (by decide +kernel) (pa_cons (pe_fld (pv 0) rfl) pa_nil)))
    (pss_cons (ps_if (pt_cmpR op_notN (pv 3) pe_non (nomark _)) (pss_one (ps_expr (pe_bm PySem.F.plainAttrs_dict PySem.F.slot_dict_update PySem.F.type_dict_update mt_update (pv 4) (pa_cons (pv 3) pa_nil)))) pss_nil)
    (pss_one (ps_ret (pe_mcl m_placed T.cls_Placer hr (by omega) (passes_call (takes_of rfl rfl rfl rfl) fun _ _ _ _ z => z) (pe_make T.mk_Placer plf (hr.mono (by decide)) (by rfl) T.g_Placer plb .nil pass0 (pa_cons (pv 2) (pa_cons (pv 4) pa_nil))) (pa_cons (pv 1) (pa_cons (pe_lst pa_nil) pa_nil)))))))), ?_⟩
  obtain ⟨dx, oh, tm, fa, kvs, e1, e2, hdr⟩ := hpg
  refine ⟨_, rfl, v, t, rfl, rt, hw, by omega, fun H1 s1 => ?_⟩
  refine ⟨_, rfl, pr, _, dx, _, .ref fa, rfl, s1 _ _ e1, T.cls_Program, T.no_Program_forms, pg_f, fa, kvs, rfl, .inl (s1 _ _ e2), fun q1 hq1 => ?_⟩
  have s2 := same_new hq1 (.dK kvs)
  have s12 := s1.trans s2
  -- the dict of forms, with what is kept
  have fin : ∀ H3 kvs3, Same H H3 → H3 q1 = some (.dK kvs3) → DR H3 kvs3 (mergeP fs (ms.getD [])) → tRet (tMeth (He.ga K "Placer") "placed" (spPlaced K 25) [] E (tMake (He.ga K "Placer") (spPlInit K) [] E (tCons (tVar 2) (tCons (tVar 4) tNil))) (tCons (tVar 1) (tCons (tLst tNil) tNil))) { nx := fun x H' => Q V.non H', rt := Q } [some (.ref pr), some v, some (.str s'), some kv, some (.ref q1)] H3 := by
    intro H3 kvs3 s3 e3 h3
    refine ⟨_, rfl, _, rfl, fun x dy hx hdy hne => ?_⟩
    have ex : (upd (upd H3 dy (.own x)) x (.ins (He.ga K "Placer") dy [])) x = some (.ins (He.ga K "Placer") dy []) := upd_same
    have s4 : Same H3 (upd (upd H3 dy (.own x)) x (.ins (He.ga K "Placer") dy [])) := (same_new hdy (.own x)).upd2 hx
    refine ⟨x, s', q1, dy, rfl, ex, fun H5 k5 a5 => ⟨rfl, ?_⟩⟩
    have s5 : Same H3 H5 := same_kp s4 k5 hx
    obtain ⟨dz, ez⟩ := a5
    refine ⟨x, dz, _, rfl, ez, pl_n, _, rfl, sz0, fun b hb => ?_⟩
    have s6 := same_new hb (.lst [])
    have s36 := s5.trans s6
    have low : ∀ q ∈ mergeP fs (ms.getD []), q.2.ht ≤ 5 := mergeP_low hf5 (by
      cases ms with
      | none => exact fun q hq => absurd hq (by simp)
      | some ml => exact hm5 ml rfl)
    have S : PlS K (upd H5 b (.lst [])) x b q1 s' 0 [] (lookM fs ms) := ⟨⟨dz, s6 _ _ ez⟩, (h3.mono s36.tk).g (s36 _ _ e3), ⟨[], upd_same, .nil⟩, lookP_low low, B5.nil, hs⟩
    refine ⟨x, v, b, q1, s', 0, [], lookM fs ms, t, rfl, ⟨S, rt.mono (s3.trans s36).tk, hw, hd, by omega, by rw [List.length_nil]; omega⟩, ?_⟩
    have hx0 : H x = none := by
      cases hh : H x with
      | none => rfl
      | some o => exact absurd (s3 _ _ hh) (by rw [hx]; simp)
    refine fin_mono hf (fun r _ h => ?_) (fun er _ h => errZ_S h (s3.trans s36) hx0)
    exact fun H' y k _ r => h H' y (same_kp (s3.trans s36) k hx0) r
  cases ms with
  | none =>
    obtain rfl : kv = .non := hk
    refine ⟨_, rfl, rfl, _, rfl, iteF ?_⟩
    exact fin _ kvs s12 upd_same (hdr.mono s12.tk)
  | some ml =>
    obtain ⟨k, more, rfl, ek, hmr⟩ := hk
    have ek2 := s12 _ _ ek
    have hne : q1 ≠ k := fun z => by
      have := s1 _ _ ek
      rw [← z, hq1] at this
      cases this
    refine ⟨_, rfl, rfl, _, rfl, iteT ?_⟩
    have l1 := hdr.len
    have l2 := hmr.len
    have l3 := hml ml rfl
    refine ⟨_, rfl, .inr (.inr (.inl ⟨rfl, .inl ⟨_, upd_same⟩⟩)), _, rfl, q1, k, kvs, more, rfl, rfl, hne, upd_same, ek2, by omega, ?_⟩
    have s3 : Same H (upd (upd H1 q1 (.dK kvs)) q1 (.dK (mergeK kvs more))) := fun b u e => by
      have hb : b ≠ q1 := ne_of_none (s1 _ _ e) hq1
      rw [upd_ne hb]
      exact s12 _ _ e
    exact fin _ _ s3 upd_same (DR.merge (hmr.mono s3.tk) (hdr.mono s3.tk))
end
end Wt
/-! A program is made. -/
namespace Wt
open PySem PySem.Spec PyProof.Rows L2 RZ RT
def hprs (hs : List Hl) : FD := hs.map fun h => (h.x, h.f)
def formsOf (hs : List Hl) : FD := mergeP [] (hprs hs)
theorem formsOf_take {hs : List Hl} {i : Nat} {h : Hl} (e : hs[i]? = some h) : formsOf (hs.take (i + 1)) = putP (formsOf (hs.take i)) h.x h.f := by
  unfold formsOf hprs mergeP
  rw [List.take_add_one, e, List.map_append, List.foldl_append]
  rfl
theorem formsOf_low {hs : List Hl} (h : ∀ x ∈ hs, x.ok) : ∀ q ∈ formsOf hs, q.2.ht ≤ 5 := mergeP_low (by simp) (fun q hq => by
  obtain ⟨x, hx, rfl⟩ := List.mem_map.mp hq
  exact (h x hx).2.1)
theorem formsOf_len (hs : List Hl) : (formsOf hs).length ≤ hs.length := by
  have := mergeP_len (hprs hs) []
  rw [show (hprs hs).length = hs.length from List.length_map ..] at this
  show (mergeP [] (hprs hs)).length ≤ hs.length
  simpa using this
/-- the hall is placed -/
def HallGood (G : Str → Option Fm) (h : Hl) : Prop := Fin (plc G h.x [] 1 h.t) (fun r => Fin (walledM (mkM h.x 1) r.1 r.2.1 h.f) (fun _ => True) (fun _ => False)) (fun _ => False)
/-- the program that came out -/
def spPrInit (K : PySem.W.Frag) : Sp := fun vs H Q _ => ∃ x L dx xs hs, vs = [.ref x, .ref L] ∧ H x = some (.ins (He.ga K "Program") dx []) ∧ H L = some (.lst xs) ∧ Hls H xs hs ∧ (∀ h ∈ hs, h.ok) ∧ (∀ h ∈ hs, h.t.nodes ≤ 1000) ∧ (hs.map Hl.x).Nodup ∧ hs.length ≤ 12 ∧
  (∀ h ∈ hs, HallGood (lookP (formsOf hs)) h) ∧ ∀ H', Kp x H H' → PgAt K H' x (formsOf hs) → Q .non H'
theorem tk_at {H : Hp} {D : Addr} {kvs : List (Key × V)} {o : HO} (e : H D = some (.dK kvs)) : Tk H (upd H D o) := fun a xs h => by
  by_cases z : a = D
  · subst z
    rw [e] at h
    cases h
  · rw [upd_ne z]
    exact h
/-- any dict comprehension, by what stands ahead of each turn -/
theorem dc_inv {J : It} {n : Nat} {g : TG} {tt : TT} {tk tv : TE} {vs : List Nat} {σ : L2.St} {H1 : Hp} {D : Addr} {Qd : Hp → Prop} (Pv : Nat → Hp → Prop) (h0 : Pv 0 (upd H1 D (.dK []))) (stop : ∀ H, Pv n H → J.stop n H) (go : ∀ i H, i < n → Pv i H → J.go i H)
    (hs : ∀ i x H H', i < n → Pv i H → J.yld i H x H' → g x (wipe σ vs) H' fun σ2 H2 => wipe σ2 vs = wipe σ vs ∧ tt σ2 H2 fun b H3 =>
      if b = true then tk σ2 H3 fun y H4 => tv σ2 H4 fun z H5 => ∃ kvs k, y = kV k ∧ H5 D = some (.dK kvs) ∧ kvs.length < sizeLine ∧ Pv (i + 1) (upd H5 D (.dK (putK kvs k z))) else Pv (i + 1) H3) (hd : ∀ H, Pv n H → Qd H) :
    ∃ W : Nat → Nat → Hp → Prop, (∃ m, W 0 m (upd H1 D (.dK []))) ∧ ∀ i m H, W i m H →
      (J.stop i H ∧ Qd H) ∨ (J.go i H ∧ ∃ Nx : Hp → Prop, (∀ H', Nx H' → ∃ m', m' < m ∧ W (i + 1) m' H') ∧ ∀ x H', J.yld i H x H' → g x (wipe σ vs) H' fun σ2 H2 => wipe σ2 vs = wipe σ vs ∧ tt σ2 H2 fun b H3 =>
        if b = true then tk σ2 H3 fun y H4 => tv σ2 H4 fun z H5 => ∃ kvs k, y = kV k ∧ H5 D = some (.dK kvs) ∧ kvs.length < sizeLine ∧ Nx (upd H5 D (.dK (putK kvs k z))) else Nx H3) := by
  refine ⟨fun i m H => m = n - i ∧ i ≤ n ∧ Pv i H, ⟨n, rfl, Nat.zero_le _, h0⟩, ?_⟩
  rintro i m H ⟨rfl, hi, p⟩
  by_cases hlt : i < n
  · exact .inr ⟨go i H hlt p, Pv (i + 1), fun H' p' => ⟨n - (i + 1), by omega, rfl, hlt, p'⟩, fun x H' y => hs i x H H' hlt p y⟩
  · have e : i = n := by omega
    subst e
    exact .inl ⟨stop H p, hd H p⟩
section
variable {P : Program} {w : World} {K : PySem.W.Frag} {mg : Str → Option Value} {base : Heap}
theorem sc_Program_init : FnScope ["self", "halls", "name", "form", "term"] ["self", "halls"] (defScope s_Program_init) := ⟨rfl, rfl, rfl, by decide +kernel, rfl, by decide +kernel, by decide +kernel⟩
set_option maxHeartbeats 8000000 in
theorem ok_Program_init (T : Facts w K mg) : ∃ fd, FnOk P w K mg base CX0 180 (He.ma K (He.ga K "Program") "__init__") fd ["self", "halls"] (spPrInit K) ∧ Binds K fd ["self", "halls"] [] := by
  have c_want_halls := ok_want_halls (P := P) (base := base) T
  have m_wanted := ok_Placer_wanted (P := P) (base := base) T 41 _ (by decide) (ok_Placer_begun T 41 _ (ok_Placer_placed T 41))
  obtain ⟨fdi, plf, plb⟩ := ok_Placer_init (P := P) (base := base) T
  obtain ⟨fd, F⟩ := T.f_Program_init
  refine ⟨fd, F.ok sc_Program_init (fun vs H Q E h => ?_) (fun cdv A outer s H vs Q E hr h => ?_), F.bindsN fun _ _ _ _ _ _ us hl => match us, hl with | [_, _], _ => rfl⟩
  · obtain ⟨x, L, dx, xs, hs, rfl, _⟩ := h
    rfl
  obtain ⟨x, L, dx, xs, hs, rfl, ex, eL, hx, hok, hnd, hdis, h12, hgd, q⟩ := h
  have hlen := hx.len
  refine ⟨_, PSs.nox (pss_cons (ps_expr (pe_cl c_want_halls hr (by omega) pass0 (pa_cons (pv 1) pa_nil)))
    (pss_cons (ps_fld (pv 0) (pe_callTy call_list_of (by rfl) T.z_list (by decide +kernel) (pa_cons (pv 1) pa_nil)) rfl)
    (pss_cons (ps_fld (pv 0) (pe_dc (own := [("name", 2), ("form", 3), ("term", 4)]) (g := (gTup K 3 (gCons (gName 2) (gCons (gName 3) (gCons (gName 4) gNil))))) (tt := tYes) rfl sc_Program_init.nd (pi_list (pv 1)) (blkOk_by (own := [("name", 2), ("form", 3), ("term", 4)]) (N := ["self", "halls", "name", "form", "term"]) (sc := defScope s_Program_init) (by decide +kernel)) (fun _ _ _ _ _ => (pg_tup (by rfl) (pgs_cons (pg_name (i := 2) sc_Program_init.nd rfl (Or.inl rfl)) (pgs_cons (pg_name (i := 3) sc_Program_init.nd rfl (Or.inl rfl)) (pgs_cons (pg_name (i := 4) sc_Program_init.nd rfl (Or.inl rfl)) pgs_nil))))) (fun _ _ _ _ _ => pts_nil) (fun _ _ _ _ _ => (pv 2)) (fun _ _ _ _ _ => (pv 3))) rfl)
    (pss_one (ps_fld (pv 0) (pe_dc (own := [("name", 2), ("form", 3), ("term", 4)]) (g := (gTup K 3 (gCons (gName 2) (gCons (gName 3) (gCons (gName 4) gNil))))) (tt := tYes) rfl sc_Program_init.nd (pi_list (pv 1)) (blkOk_by (own := [("name", 2), ("form", 3), ("term", 4)]) (N := ["self", "halls", "name", "form", "term"]) (sc := defScope s_Program_init) (by decide +kernel)) (fun _ _ _ _ _ => (pg_tup (by rfl) (pgs_cons (pg_name (i := 2) sc_Program_init.nd rfl (Or.inl rfl)) (pgs_cons (pg_name (i := 3) sc_Program_init.nd rfl (Or.inl rfl)) (pgs_cons (pg_name (i := 4) sc_Program_init.nd rfl (Or.inl rfl)) pgs_nil))))) (fun _ _ _ _ _ => pts_nil) (fun _ _ _ _ _ => (pv 2)) (fun _ _ _ _ _ => (pe_mcl m_wanted T.cls_Placer hr (by omega) pass_no (pe_make T.mk_Placer plf (hr.mono (by decide)) (by rfl) T.g_Placer plb .nil pass0 (pa_cons (pv 2) (pa_cons (pe_fld (pv 0) rfl : PE _ _ (tFld K _ _)) pa_nil))) (pa_cons (pv 4) (pa_cons (pe_lst pa_nil) (pa_cons (pv 3) pa_nil)))))) rfl))))), ?_⟩
  refine ⟨_, rfl, L, xs, hs, rfl, eL, hx, hok, hdis, h12, fun H1 s1 => ?_⟩
  refine ⟨_, rfl, L, xs, rfl, .inl (SqL.of (s1 _ _ eL)), fun oh hoh => ?_⟩
  have s2 := s1.trans (same_new hoh (.lst xs))
  refine ⟨_, rfl, x, _, dx, _, rfl, s2 _ _ ex, T.cls_Program, T.no_Program_own_halls, by simp, ?_⟩
  have k2 : Kp x H (upd (upd H1 oh (.lst xs)) x (.ins (He.ga K "Program") dx (putF "own_halls" (.ref oh) []))) := (Kp.of s2).trans (Kp.at_ _)
  have eL2 := k2 L (HO.lst xs) (fun z => by rw [z] at eL; rw [ex] at eL; cases eL) eL
  have ex2 : (upd (upd H1 oh (.lst xs)) x (.ins (He.ga K "Program") dx (putF "own_halls" (.ref oh) []))) x = some (.ins (He.ga K "Program") dx (putF "own_halls" (.ref oh) [])) := upd_same
  generalize upd (upd H1 oh (.lst xs)) x (.ins (He.ga K "Program") dx (putF "own_halls" (.ref oh) [])) = H2 at *
  refine ⟨_, rfl, L, rfl, ⟨xs, SqL.of eL2⟩, fun D hD => ?_⟩
  have tk2 : Tk H H2 := k2.tk (NoTup.ins ex)
  refine dc_inv (n := xs.length) (fun i H' => Same H2 H' ∧ ∃ kvs, H' D = some (.dK kvs) ∧ DR H' kvs (formsOf (hs.take i))) ⟨same_new hD (.dK []), [], upd_same, .nil⟩ (fun H' p => ⟨xs, SqL.of (p.1 _ _ eL2), Nat.le_refl _⟩) (fun i H' hi p => ⟨xs, xs[i], SqL.of (p.1 _ _ eL2), List.getElem?_eq_getElem hi⟩) (fun i v H' H'' hi p y => ?_) (fun H3 p => ?_)
  · obtain ⟨sp, kvs, eD, hdr⟩ := p
    obtain ⟨rfl, y⟩ := y
    have hxi := y xs (SqL.of (sp _ _ eL2))
    obtain ⟨h, hh, rh⟩ := hx.get hxi
    obtain ⟨a, y1, y2, rfl, ea, rf, rt⟩ := rp_hl.mp (rh.mono (tk2.trans' sp.tk))
    generalize hτ : wipe _ (List.map _ _) = τ
    obtain rfl : τ = [some (.ref x), some (.ref L), none, none, none] := hτ.symm.trans rfl
    refine ⟨a, _, rfl, SqT.of ea, rfl, _, [y1, y2], rfl, y1, [y2], rfl, y2, [], rfl, rfl, rfl, ?_⟩
    have l1 := hdr.len
    have l2 := formsOf_len (hs.take i)
    rw [List.length_take] at l2
    refine ⟨_, rfl, _, rfl, kvs, .inr h.x, rfl, eD, by rw [sizeLine_eq]; omega, sp.upd2 hD, _, upd_same, ?_⟩
    rw [formsOf_take hh]
    exact (hdr.put rf).mono (tk_at eD)
  obtain ⟨s3, kvs, eD, hdr⟩ := p
  rw [List.take_of_length_le (by omega)] at hdr
  refine ⟨_, rfl, x, _, dx, _, rfl, s3 _ _ ex2, T.cls_Program, T.no_Program_forms, by simp [putF], ?_⟩
  generalize ho : HO.ins (He.ga K "Program") dx (putF "forms" (.ref D) (putF "own_halls" (.ref oh) [])) = o4
  have k4 : Kp x H2 (upd H3 x o4) := (Kp.of s3).trans (Kp.at_ _)
  have k34 : Kp x H3 (upd H3 x o4) := Kp.at_ _
  have tk34 : Tk H3 (upd H3 x o4) := k34.tk (NoTup.ins (s3 x _ ex2))
  have ex4 : (upd H3 x o4) x = some o4 := upd_same
  have eL4 := k4 L (.lst xs) (fun z => by rw [z] at eL; rw [ex] at eL; cases eL) eL2
  have eD4 : (upd H3 x o4) D = some (.dK kvs) := k34 _ _ (fun z => by rw [z] at hD; rw [ex2] at hD; cases hD) eD
  have hdr4 := hdr.mono tk34
  have tk4 : Tk H (upd H3 x o4) := tk2.trans' (s3.tk.trans' tk34)
  have k04 : Kp x H (upd H3 x o4) := k2.trans k4
  generalize upd H3 x o4 = H4 at *
  refine ⟨_, rfl, L, rfl, ⟨xs, SqL.of eL4⟩, fun D2 hD2 => ?_⟩
  refine dc_inv (n := xs.length) (fun i H' => Same H4 H' ∧ ∃ kvs, H' D2 = some (.dK kvs) ∧ kvs.length ≤ i) ⟨same_new hD2 (.dK []), [], upd_same, Nat.le_refl _⟩ (fun H' p => ⟨xs, SqL.of (p.1 _ _ eL4), Nat.le_refl _⟩) (fun i H' hi p => ⟨xs, xs[i], SqL.of (p.1 _ _ eL4), List.getElem?_eq_getElem hi⟩) (fun i v H' H'' hi p y => ?_) (fun H5 p => ?_)
  · obtain ⟨sp, kv2, e2, hl2⟩ := p
    obtain ⟨rfl, y⟩ := y
    have hxi := y xs (SqL.of (sp _ _ eL4))
    obtain ⟨h, hh, rh⟩ := hx.get hxi
    have hm : h ∈ hs := List.mem_of_getElem? hh
    obtain ⟨a, y1, y2, rfl, ea, rf, rt⟩ := rp_hl.mp (rh.mono (tk4.trans' sp.tk))
    generalize hτ : wipe _ (List.map _ _) = τ
    obtain rfl : τ = [some (.ref x), some (.ref L), none, none, none] := hτ.symm.trans rfl
    refine ⟨a, _, rfl, SqT.of ea, rfl, _, [y1, y2], rfl, y1, [y2], rfl, y2, [], rfl, rfl, rfl, ?_⟩
    subst ho
    refine ⟨_, rfl, _, rfl, _, rfl, x, _, dx, _, .ref D, rfl, sp _ _ ex4, T.cls_Program, T.no_Program_forms, by rw [lookup_putF, if_pos rfl], fun q1 dy hq1 hdy hne => ?_⟩
    have ex6 : (upd (upd H'' dy (.own q1)) q1 (.ins (He.ga K "Placer") dy [])) q1 = some (.ins (He.ga K "Placer") dy []) := upd_same
    have s6 : Same H'' (upd (upd H'' dy (.own q1)) q1 (.ins (He.ga K "Placer") dy [])) := (same_new hdy (.own q1)).upd2 hq1
    refine ⟨q1, h.x, D, dy, rfl, ex6, fun H7 k7 a7 => ⟨rfl, ?_⟩⟩
    have s7 : Same H'' H7 := same_kp s6 k7 hq1
    obtain ⟨dz, ez⟩ := a7
    refine ⟨q1, dz, _, rfl, ez, pl_n, _, rfl, sz0, fun b hb => ?_⟩
    have s8 := s7.trans (same_new hb (.lst []))
    have s48 := sp.trans s8
    obtain ⟨o1, o2, o3, _, o5, o6⟩ := hok h hm
    have S : PlS K (upd H7 b (.lst [])) q1 b D h.x 0 [] (lookP (formsOf hs)) := ⟨⟨dz, (same_new hb _) _ _ ez⟩, (hdr4.mono s48.tk).g (s48 _ _ eD4), ⟨[], upd_same, .nil⟩, lookP_low (formsOf_low hok), B5.nil, by have := o1.2.2; omega⟩
    have hn := hnd h hm
    refine ⟨_, rfl, q1, y2, b, y1, h.f, D, h.x, 0, [], lookP (formsOf hs), h.t, rfl, ⟨S, rt.mono s8.tk, o5, by omega, by omega, by rw [List.length_nil]; omega⟩, by omega, rf.mono s8.tk, o2, ?_⟩
    refine fin_mono (hgd h hm) (fun r _ hr => fin_mono hr (fun t' _ _ H9 z k9 _ _ => ?_) fun _ _ h => h.elim) fun _ _ h => h.elim
    have s9 : Same H'' H9 := same_kp s8 k9 hq1
    refine ⟨kv2, .inr h.x, rfl, s9 _ _ e2, by rw [sizeLine_eq]; omega, (sp.trans s9).upd2 hD2, _, upd_same, ?_⟩
    have := length_putK kv2 (.inr h.x) z
    omega
  obtain ⟨s5, kv2, e2, _⟩ := p
  subst ho
  refine ⟨_, rfl, x, _, dx, _, rfl, s5 _ _ ex4, T.cls_Program, T.no_Program_terms, (show 3 ≤ 1000 by decide), ?_⟩
  refine q _ (k04.trans ((Kp.of s5).trans (Kp.at_ _))) ?_
  have hxD : D ≠ x := fun z => by
    rw [z] at eD4; rw [ex4] at eD4; cases eD4
  refine ⟨dx, _, _, D, kvs, upd_same, by rw [upd_ne hxD]; exact s5 _ _ eD4, (hdr4.mono s5.tk).mono ((Kp.at_ _).tk (NoTup.ins (s5 x _ ex4)))⟩
end
end Wt
/-! The law places: what is low, what form a name has, what is fenced. -/
namespace Wt
open PySem PySem.Spec PyProof.Rows L2 RZ RT
/-- an error, as the law tells it -/
def Er.d : Er → PyData
  | .name x => .tuple [.str "name", .str x]
  | .lt m => .tuple [.str "let", .str m]
  | .high => .tuple [.str "high", .none]
def okD (d : PyData) (f : Fm) : PyData := .tuple [d, f.d, .none]
def noD (e : Er) : PyData := .tuple [.none, .none, e.d]
def spLLow : Sp := fun vs H Q _ => ∃ x v d f, vs = [x, v] ∧ Rp H x d ∧ RpF H v f ∧ f.ht ≤ 6 ∧ (f.ht ≤ 5 → ∀ H' y, Same H H' → Rp H' y (okD d f) → Q y H') ∧ (5 < f.ht → ∀ H' y, Same H H' → Rp H' y (noD .high) → Q y H')
def spFenced : Sp := fun vs H Q _ => ∃ c m x a b t f g, vs = [.ref c, b] ∧ H c = some (.tup [.str m, x, a, .non]) ∧ Rp H x (Tm.d t) ∧ RpF H a f ∧ RpF H b g ∧ f.ht ≤ 6 ∧ g.ht ≤ 6 ∧
  Fin (walledM m t f g) (fun t' => ∀ H' y, Same H H' → Rp H' y (.tuple [t'.d, .none]) → Q y H') (fun e => ∀ H' y, Same H H' → Rp H' y (.tuple [.none, e.d]) → Q y H')
def spFencedNo : Sp := fun vs H Q _ => ∃ c m x a b z e, vs = [.ref c, b] ∧ H c = some (.tup [.str m, x, a, z]) ∧ Rp H z (Er.d e) ∧ ∀ H' y, Same H H' → Rp H' y (.tuple [.none, e.d]) → Q y H'
def stK (s : Str) (fa : Addr) (n : Nat) : List (Key × V) := [(.inr "ahead", .str s), (.inr "count", .int (n : Nat)), (.inr "forms", .ref fa)]
def SAt (H : Hp) (p : Addr) (s : Str) (fa : Addr) (n : Nat) : Prop := H p = some (.dK (stK s fa n))
/-- the law's state at p, its forms at fa, what is bound at b -/
structure LS (H : Hp) (p b fa : Addr) (s : Str) (n : Nat) (B : Bd) (G : Str → Option Fm) : Prop where
  at_ : SAt H p s fa n
  gs : GAt H fa G
  bs : BAt H b B
  g5 : G5 G
  b5 : B5 B
  s20 : s.length ≤ 20
  fne : fa ≠ p
section
variable {H H' : Hp} {p b b' fa : Addr} {s : Str} {n m : Nat} {B B' : Bd} {G : Str → Option Fm}
theorem LS.noT (h : LS H p b fa s n B G) : NoTup H p := NoTup.dK h.at_
theorem LS.bne (h : LS H p b fa s n B G) : b ≠ p := fun z => by
  have e := h.at_
  obtain ⟨kvs, e2, _⟩ := h.bs
  unfold SAt at e
  rw [z, e] at e2
  cases e2
theorem LS.kp (h : LS H p b fa s n B G) (k : Kp p H H') (a : SAt H' p s fa m) : LS H' p b fa s m B G :=
  ⟨a, h.gs.kp k h.noT h.fne, h.bs.kp k h.noT h.bne, h.g5, h.b5, h.s20, h.fne⟩
theorem LS.same (h : LS H p b fa s n B G) (k : Same H H') : LS H' p b fa s n B G := h.kp (Kp.of k) (k _ _ h.at_)
theorem LS.tk (h : LS H p b fa s n B G) (k : Kp p H H') : Tk H H' := k.tk h.noT
theorem LS.other (h : LS H p b fa s n B G) (hb : BAt H b' B') (h5 : B5 B') : LS H p b' fa s n B' G := ⟨h.at_, h.gs, hb, h.g5, h5, h.s20, h.fne⟩
end
theorem st_a {s : Str} {fa : Addr} {n : Nat} : valV (stK s fa n) (.inr "ahead") = some (.str s) := by
  unfold stK valV
  simp
theorem st_c {s : Str} {fa : Addr} {n : Nat} : valV (stK s fa n) (.inr "count") = some (.int (n : Nat)) := by
  have h : ¬ ("ahead" : Str) = "count" := by decide
  unfold stK valV
  simp [h]
theorem st_f {s : Str} {fa : Addr} {n : Nat} : valV (stK s fa n) (.inr "forms") = some (.ref fa) := by
  have h : ¬ ("ahead" : Str) = "forms" := by decide
  have h2 : ¬ ("count" : Str) = "forms" := by decide
  unfold stK valV
  simp [h, h2]
theorem st_p {s : Str} {fa : Addr} {n : Nat} : putK (stK s fa n) (.inr "count") (.int ((n : Nat) + 1)) = stK s fa (n + 1) := by
  have h : ¬ ("ahead" : Str) = "count" := by decide
  have h2 : ¬ ("forms" : Str) = "count" := by decide
  unfold stK putK
  simp [h, h2]
def spLFormOf : Sp := fun vs H Q _ => ∃ p x b fa s n B G, vs = [.ref p, .str x, .ref b] ∧ LS H p b fa s n B G ∧ B.length ≤ 900 ∧ FormOf H B G x Q (∀ H', Same H H' → Q .non H')
theorem _root_.L2.FnOk.or {P : Program} {w : World} {K : PySem.W.Frag} {mg : Str → Option Value} {base : Heap} {CX : CXT} {k : Nat} {f : Addr} {fd : FuncData} {ps : List Str} {sp sp' : Sp} (a : FnOk P w K mg base CX k f fd ps sp) (b : FnOk P w K mg base CX k f fd ps sp') :
    FnOk P w K mg base CX k f fd ps (fun vs H Q E => sp vs H Q E ∨ sp' vs H Q E) :=
  ⟨fun vs H Q E q => q.elim (a.len vs H Q E) (b.len vs H Q E), fun A outer s H args us vs Q E hr he hb hv hs => hs.elim (a.run A outer s H args us vs Q E hr he hb hv) (b.run A outer s H args us vs Q E hr he hb hv)⟩
section
variable {P : Program} {w : World} {K : PySem.W.Frag} {mg : Str → Option Value} {base : Heap}
theorem sc_law_low : FnScope ["_law_placed", "_law_form_here"] ["_law_placed", "_law_form_here"] (defScope s_law_low) := ⟨rfl, rfl, rfl, by decide +kernel, rfl, by decide +kernel, by decide +kernel⟩
theorem ok__law_low (T : Facts w K mg) : Cl P w K mg base CX0 8 "_law_low" spLLow := by
  have c_law_height := ok__law_height (P := P) (base := base) T 7
  obtain ⟨fd, F⟩ := T.f_law_low
  refine ⟨_, fd, ["_law_placed", "_law_form_here"], T.g_law_low, ?_, F.kp, F.bindsN fun _ _ _ _ _ _ us hl => match us, hl with | [_, _], _ => rfl⟩
  refine F.ok sc_law_low (fun vs H Q E h => ?_) (fun cdv A outer s H vs Q E hr h => ?_)
  · obtain ⟨x, v, d, f, rfl, _⟩ := h
    rfl
  obtain ⟨x, v, d, f, rfl, rx, rv, hf, q1, q2⟩ := h
  refine ⟨_, PSs.nox (pss_one (ps_ret (pe_ifExp (pt_cmpR op_gt (pe_cl c_law_height hr (by omega) pass0 (pa_cons (pv 1) pa_nil)) pe_int (nomark _)) (pe_tup (pa_cons pe_non (pa_cons pe_non (pa_cons (pe_tup (pa_cons pe_str (pa_cons pe_non pa_nil))) pa_nil)))) (pe_tup (pa_cons (pv 0) (pa_cons (pv 1) (pa_cons pe_non pa_nil))))))), ?_⟩
  refine ⟨_, rfl, v, f, rfl, rv, by omega, fun H1 s1 => ?_⟩
  by_cases h5 : f.ht ≤ 5
  · refine ⟨_, _, rfl, rfl, _, rfl, ?_⟩
    rw [decide_eq_false (by omega)]
    refine iteF ⟨_, rfl, _, rfl, sz3, fun p hp => ?_⟩
    have s2 := s1.trans (same_new hp (.tup [x, v, .non]))
    exact q1 h5 _ _ s2 (rp3.mpr ⟨p, _, _, _, rfl, upd_same, rx.mono s2.tk, rv.mono s2.tk, .non⟩)
  · refine ⟨_, _, rfl, rfl, _, rfl, ?_⟩
    rw [decide_eq_true (by omega)]
    refine iteT ⟨sz2, fun p hp => ⟨sz3, fun p2 hp2 => ?_⟩⟩
    have s2 := same_new hp (.tup [.str "high", .non])
    have s3 := same_new hp2 (.tup [.non, .non, .ref p])
    exact q2 (by omega) _ _ (s1.trans (s2.trans s3)) (rp3.mpr ⟨p2, _, _, _, rfl, upd_same, .non, .non, rp2.mpr ⟨p, _, _, rfl, s3 _ _ upd_same, .str _, .non⟩⟩)
theorem sc_law_fenced : FnScope ["_law_begun_here", "_law_aim", "_law_sign", "_law_placed", "_law_form_here", "_law_wrong"] ["_law_begun_here", "_law_aim"] (defScope s_law_fenced) := ⟨rfl, rfl, rfl, by decide +kernel, rfl, by decide +kernel, by decide +kernel⟩
theorem fn__law_fenced (T : Facts w K mg) {fd : FuncData} (F : FnP K "_law_fenced" "_law_fenced" s_law_fenced (He.ga K "_law_fenced") fd) : FnOk P w K mg base CX0 10 (He.ga K "_law_fenced") fd ["_law_begun_here", "_law_aim"] spFenced := by
  have c_law_is_near := ok__law_is_near (P := P) (base := base) T 7
  refine F.ok sc_law_fenced (fun vs H Q E h => ?_) (fun cdv A outer s H vs Q E hr h => ?_)
  · obtain ⟨c, m, x, a, b, t, f, g, rfl, _⟩ := h
    rfl
  obtain ⟨c, m, x, a, b, t, f, g, rfl, ec, rx, ra, rb, hf, hg, q⟩ := h
  have hu64 := hr.units
  refine ⟨_, PSs.nox (pss_cons (ps_asg (pv 0) (pg_tup (by rfl) (pgs_cons (pg_name (i := 2) sc_law_fenced.nd rfl (Or.inl rfl)) (pgs_cons (pg_name (i := 3) sc_law_fenced.nd rfl (Or.inl rfl)) (pgs_cons (pg_name (i := 4) sc_law_fenced.nd rfl (Or.inl rfl)) (pgs_cons (pg_name (i := 5) sc_law_fenced.nd rfl (Or.inl rfl)) pgs_nil))))))
    (pss_cons (ps_if (pt_cmpR op_notN (pv 5) pe_non (nomark _)) (pss_one (ps_ret (pe_tup (pa_cons pe_non (pa_cons (pv 5) pa_nil))))) pss_nil)
    (pss_cons (ps_if (pt_cmpR (op_eqD hu64) (pv 4) (pv 1) (nomark _)) (pss_one (ps_ret (pe_tup (pa_cons (pv 3) (pa_cons pe_non pa_nil))))) pss_nil)
    (pss_cons (ps_if (pt_not (pt_val (pe_cl c_law_is_near hr (by omega) pass0 (pa_cons (pv 4) (pa_cons (pv 1) pa_nil))))) (pss_one (ps_ret (pe_tup (pa_cons pe_non (pa_cons (pe_tup (pa_cons pe_str (pa_cons (pv 2) pa_nil))) pa_nil))))) pss_nil)
    (pss_one (ps_ret (pe_tup (pa_cons (pe_tup (pa_cons pe_str (pa_cons (pv 2) (pa_cons (pv 4) (pa_cons (pv 1) (pa_cons (pv 3) pa_nil)))))) (pa_cons pe_non pa_nil))))))))), ?_⟩
  refine ⟨_, rfl, c, _, rfl, SqT.of ec, rfl, _, _, rfl, _, _, rfl, _, _, rfl, _, _, rfl, rfl, ?_⟩
  refine ⟨_, rfl, rfl, _, rfl, iteF ?_⟩
  refine ⟨_, rfl, _, rfl, f.d, g.d, ra.dp, rb.dp, Fm.shaped (by omega), Fm.shaped (by omega), _, rfl, ?_⟩
  rw [Fm.eqv_d]
  unfold walledM at q
  by_cases he : f = g
  · rw [if_pos he] at q
    rw [decide_eq_true he]
    refine iteT ⟨_, rfl, sz2, fun p hp => ?_⟩
    have s2 := same_new hp (.tup [x, .non])
    exact q _ _ s2 (rp2.mpr ⟨p, _, _, rfl, upd_same, rx.mono s2.tk, .non⟩)
  rw [decide_eq_false he]
  rw [if_neg he] at q
  refine iteF ⟨_, rfl, _, rfl, a, b, f, g, rfl, ra, rb, by omega, by omega, by omega, fun H1 h1 => ⟨_, rfl, ?_⟩⟩
  cases hn : Fm.near f g with
  | false =>
    rw [if_neg (by rw [hn]; exact Bool.false_ne_true)] at q
    refine iteT ⟨_, rfl, sz2, fun p hp => ⟨sz2, fun p2 hp2 => ?_⟩⟩
    have s2 := same_new hp (.tup [.str "let", .str m])
    have s3 := same_new hp2 (.tup [.non, .ref p])
    exact q _ _ (h1.trans (s2.trans s3)) (rp2.mpr ⟨p2, _, _, rfl, upd_same, .non, rp2.mpr ⟨p, _, _, rfl, s3 _ _ upd_same, .str _, .str _⟩⟩)
  | true =>
    rw [if_pos hn] at q
    refine iteF ⟨_, rfl, _, rfl, _, rfl, _, rfl, sz5, fun p hp => ⟨sz2, fun p2 hp2 => ?_⟩⟩
    have s2 := same_new hp (.tup [.str "wall", .str m, a, b, x])
    have s3 := same_new hp2 (.tup [.ref p, .non])
    have s13 := h1.trans (s2.trans s3)
    exact q _ _ s13 (rp2.mpr ⟨p2, _, _, rfl, upd_same, rp5.mpr ⟨p, _, _, _, _, _, rfl, s3 _ _ upd_same, .str _, .str _, ra.mono s13.tk, rb.mono s13.tk, rx.mono s13.tk⟩, .non⟩)
theorem fn__law_fencedNo (T : Facts w K mg) {fd : FuncData} (F : FnP K "_law_fenced" "_law_fenced" s_law_fenced (He.ga K "_law_fenced") fd) : FnOk P w K mg base CX0 10 (He.ga K "_law_fenced") fd ["_law_begun_here", "_law_aim"] spFencedNo := by
  have c_law_is_near := ok__law_is_near (P := P) (base := base) T 7
  refine F.ok sc_law_fenced (fun vs H Q E h => ?_) (fun cdv A outer s H vs Q E hr h => ?_)
  · obtain ⟨c, m, x, a, b, z, e, rfl, _⟩ := h
    rfl
  obtain ⟨c, m, x, a, b, z, e, rfl, ec, rz, q⟩ := h
  have hu64 := hr.units
  refine ⟨_, PSs.nox (pss_cons (ps_asg (pv 0) (pg_tup (by rfl) (pgs_cons (pg_name (i := 2) sc_law_fenced.nd rfl (Or.inl rfl)) (pgs_cons (pg_name (i := 3) sc_law_fenced.nd rfl (Or.inl rfl)) (pgs_cons (pg_name (i := 4) sc_law_fenced.nd rfl (Or.inl rfl)) (pgs_cons (pg_name (i := 5) sc_law_fenced.nd rfl (Or.inl rfl)) pgs_nil))))))
    (pss_cons (ps_if (pt_cmpR op_notN (pv 5) pe_non (nomark _)) (pss_one (ps_ret (pe_tup (pa_cons pe_non (pa_cons (pv 5) pa_nil))))) pss_nil)
    (pss_cons (ps_if (pt_cmpR (op_eqD hu64) (pv 4) (pv 1) (nomark _)) (pss_one (ps_ret (pe_tup (pa_cons (pv 3) (pa_cons pe_non pa_nil))))) pss_nil)
    (pss_cons (ps_if (pt_not (pt_val (pe_cl c_law_is_near hr (by omega) pass0 (pa_cons (pv 4) (pa_cons (pv 1) pa_nil))))) (pss_one (ps_ret (pe_tup (pa_cons pe_non (pa_cons (pe_tup (pa_cons pe_str (pa_cons (pv 2) pa_nil))) pa_nil))))) pss_nil)
    (pss_one (ps_ret (pe_tup (pa_cons (pe_tup (pa_cons pe_str (pa_cons (pv 2) (pa_cons (pv 4) (pa_cons (pv 1) (pa_cons (pv 3) pa_nil)))))) (pa_cons pe_non pa_nil))))))))), ?_⟩
  refine ⟨_, rfl, c, _, rfl, SqT.of ec, rfl, _, _, rfl, _, _, rfl, _, _, rfl, _, _, rfl, rfl, ?_⟩
  have hz : ∃ a xs, z = .ref a ∧ H a = some (.tup xs) := by
    cases e with
    | name x => obtain ⟨a, y1, y2, rfl, ea, _⟩ := rp2.mp rz; exact ⟨a, _, rfl, ea⟩
    | lt x => obtain ⟨a, y1, y2, rfl, ea, _⟩ := rp2.mp rz; exact ⟨a, _, rfl, ea⟩
    | high => obtain ⟨a, y1, y2, rfl, ea, _⟩ := rp2.mp rz; exact ⟨a, _, rfl, ea⟩
  obtain ⟨za, zs, rfl, ez⟩ := hz
  refine ⟨_, rfl, rfl, _, rfl, iteT ⟨_, rfl, sz2, fun p hp => ?_⟩⟩
  have s2 := same_new hp (.tup [.non, .ref za])
  exact q _ _ s2 (rp2.mpr ⟨p, _, _, rfl, upd_same, .non, rz.mono s2.tk⟩)
theorem ok__law_fenced (T : Facts w K mg) : Cl P w K mg base CX0 10 "_law_fenced" (fun vs H Q E => spFenced vs H Q E ∨ spFencedNo vs H Q E) := by
  obtain ⟨fd, F⟩ := T.f_law_fenced
  exact ⟨_, fd, ["_law_begun_here", "_law_aim"], T.g_law_fenced, (fn__law_fenced T F).or (fn__law_fencedNo T F), F.kp, F.bindsN fun _ _ _ _ _ _ us hl => match us, hl with | [_, _], _ => rfl⟩
theorem sc_law_form_of : FnScope ["_law_state", "_law_name_here", "_law_bound", "_law_own", "_law_form_here"] ["_law_state", "_law_name_here", "_law_bound"] (defScope s_law_form_of) := ⟨rfl, rfl, rfl, by decide +kernel, rfl, by decide +kernel, by decide +kernel⟩
theorem ok__law_form_of (T : Facts w K mg) : Cl P w K mg base CX0 5 "_law_form_of" spLFormOf := by
  obtain ⟨fd, F⟩ := T.f_law_form_of
  refine ⟨_, fd, ["_law_state", "_law_name_here", "_law_bound"], T.g_law_form_of, ?_, F.kp, F.bindsN fun _ _ _ _ _ _ us hl => match us, hl with | [_, _, _], _ => rfl⟩
  refine F.ok sc_law_form_of (fun vs H Q E h => ?_) (fun cdv A outer s H vs Q E hr h => ?_)
  · obtain ⟨p, x, b, fa, s, n, B, G, rfl, _⟩ := h
    rfl
  obtain ⟨p, x, b, fa, s', n, B, G, rfl, S, hB9, q⟩ := h
  have hu := r1 hr
  obtain ⟨vs, eb, rb⟩ := S.bs
  have ep := S.at_
  obtain ⟨kvs, ef, hG⟩ := S.gs
  have hlen := rpa_len rb
  rw [List.length_map] at hlen
  refine ⟨_, PSs.nox (pss_cons (ps_for PassesOwn.never rfl (pi_list (pe_revL (pv 2))) (pg_tup (by rfl) (pgs_cons (pg_name (i := 3) sc_law_form_of.nd rfl (Or.inl rfl)) (pgs_cons (pg_name (i := 4) sc_law_form_of.nd rfl (Or.inl rfl)) pgs_nil))) (pss_one (ps_if (pt_cmpR op_eq (pv 3) (pv 1) (nomark _)) (pss_one (ps_ret (pv 4))) pss_nil)))
    (pss_one (ps_ret (pe_dget1 hu (pe_dget hu (pv 0) pe_str (fun _ _ => rfl)) (pv 1) ⟨rfl, rfl, rfl, rfl⟩)))), ?_⟩
  refine ⟨_, rfl, b, vs, rfl, SqL.of eb, fun c hc => ⟨c, rfl, ⟨_, SqL.of upd_same⟩, ?_⟩⟩
  have s0 := same_new hc (.lst vs.reverse)
  have ec : (upd H c (.lst vs.reverse)) c = some (.lst vs.reverse) := upd_same
  generalize upd H c (.lst vs.reverse) = H0 at *
  refine for_inv (n := vs.reverse.length) (fun i σ H' => (∃ u v, σ = [some (.ref p), some (.str x), some (.ref b), u, v]) ∧ H' = H0 ∧ ∀ j, j < i → ∀ q', B.reverse[j]? = some q' → q'.1 ≠ x) ⟨⟨_, _, rfl⟩, rfl, fun j hj => absurd hj (Nat.not_lt_zero _)⟩ (fun σ H' p => ⟨_, SqL.of (p.2.1 ▸ ec), Nat.le_refl _⟩)
    (fun i σ H' hi hp => ⟨_, vs.reverse[i], SqL.of (hp.2.1 ▸ ec), List.getElem?_eq_getElem hi⟩) (fun i v σ H' H'' hi hp y => ?_) (fun σ H' hp => ?_)
  · obtain ⟨⟨u0, v0, rfl⟩, rfl, hn⟩ := hp
    obtain ⟨rfl, hy⟩ := y
    have hv := hy _ (SqL.of ec)
    obtain ⟨d, hd, rd⟩ := rpa_rev rb hv
    rw [← List.map_reverse, List.getElem?_map] at hd
    obtain ⟨⟨xn, fn⟩, hq, rfl⟩ := Option.map_eq_some_iff.mp hd
    obtain ⟨a, v1, v2, rfl, ea, r1', r2'⟩ := rp2.mp (rd.mono s0.tk)
    obtain rfl := rp_str.mp r1'
    refine ⟨a, _, rfl, SqT.of ea, rfl, _, [v2], rfl, v2, [], rfl, rfl, ?_⟩
    refine ⟨_, rfl, _, rfl, rfl, _, rfl, ?_⟩
    rw [decide_str]
    by_cases hx : xn = x
    · rw [decide_eq_true hx]
      exact iteT ⟨_, rfl, formOf_bound q hq hx hn _ _ s0 r2'⟩
    · rw [decide_eq_false hx]
      refine iteF ⟨⟨_, _, rfl⟩, rfl, fun j hj q' e => ?_⟩
      by_cases hji : j < i
      · exact hn j hji q' e
      · have : j = i := by omega
        subst this
        rw [hq] at e
        cases e
        exact hx
  · obtain ⟨⟨u0, v0, rfl⟩, rfl, hn⟩ := hp
    have q2 := formOf_free q fun j q' e => hn j (by
      obtain ⟨hj, _⟩ := List.getElem?_eq_some_iff.mp e
      rw [List.length_reverse] at hj ⊢
      omega) q' e
    have hx := hG x
    have ep0 := s0 _ _ ep
    have ef0 := s0 _ _ ef
    have hgs : DGet H' p (.str "forms") (some (.ref fa)) := by
      have := DGet.k (k := .inr "forms") ep0
      rw [st_f] at this
      exact this
    have hgd : DGet H' fa (.str x) (valV kvs (.inr x)) := DGet.k (k := .inr x) ef0
    refine ⟨_, rfl, p, .ref fa, rfl, hgs, fa, rfl, .inl ⟨_, .inl ef0⟩, _, rfl, valV kvs (.inr x), hgd, ?_⟩
    cases hg : G x with
    | none =>
      simp only [hg] at hx q2
      rw [hx]
      exact q2 _ s0
    | some f =>
      simp only [hg] at hx q2
      obtain ⟨v, ev, rv⟩ := hx
      rw [ev]
      exact q2 _ v s0 (rv.mono s0.tk)
end
end Wt
/-! The law places: begun, aimed, headed. -/
namespace Wt
open PySem PySem.Spec PyProof.Rows L2 RZ RT
structure LJob (H : Hp) (p b fa : Addr) (s : Str) (n : Nat) (B : Bd) (G : Str → Option Fm) (v : V) (t : Tm) (N : Nat) : Prop where
  S : LS H p b fa s n B G
  r : RpT H v t
  wf : t.wf
  dep : t.dep < N
  cnt : n + t.nodes ≤ 100000
  len : B.length + t.dep ≤ 900
def LGood (p : Addr) (H : Hp) (s : Str) (fa : Addr) (Q : VK) (r : Tm × Fm × Nat) : Prop := ∀ H' x, Kp p H H' → SAt H' p s fa r.2.2 → Rp H' x (okD r.1.d r.2.1) → Q x H'
def LBad (p : Addr) (H : Hp) (Q : VK) (e : Er) : Prop := ∀ H' x, Kp p H H' → Rp H' x (noD e) → Q x H'
def spLP (N : Nat) : Sp := fun vs H Q _ => ∃ p v b fa s n B G t, vs = [.ref p, v, .ref b] ∧ LJob H p b fa s n B G v t N ∧ Fin (plc G s B n t) (LGood p H s fa Q) (LBad p H Q)
def spLBegun (N : Nat) : Sp := fun vs H Q _ => ∃ p v b fa s n B G t, vs = [.ref p, v, .ref b] ∧ LJob H p b fa s n B G v t N ∧ n + 1 + t.nodes ≤ 100000 ∧
  Fin (plc G s B (n + 1) t) (fun r => ∀ H' x, Kp p H H' → SAt H' p s fa r.2.2 → Rp H' x (.tuple [.str (mkM s (n + 1)), r.1.d, r.2.1.d, .none]) → Q x H') (fun e => ∀ H' x, Kp p H H' → Rp H' x (.tuple [.str (mkM s (n + 1)), .none, .none, e.d]) → Q x H')
def LBad2 (p : Addr) (H : Hp) (Q : VK) (e : Er) : Prop := ∀ H' x, Kp p H H' → Rp H' x (.tuple [.none, e.d]) → Q x H'
def LBad3 (p : Addr) (H : Hp) (Q : VK) (e : Er) : Prop := ∀ H' x d, Kp p H H' → Rp H' x (.tuple [.none, d, e.d]) → Q x H'
def spLAimed (N : Nat) : Sp := fun vs H Q _ => ∃ p v b wv g fa s n B G t, vs = [.ref p, v, .ref b, wv] ∧ LJob H p b fa s n B G v t N ∧ n + 1 + t.nodes ≤ 100000 ∧ RpF H wv g ∧ g.ht ≤ 5 ∧
  Fin (plc G s B (n + 1) t) (fun r => Fin (walledM (mkM s (n + 1)) r.1 r.2.1 g) (fun t' => ∀ H' x, Kp p H H' → SAt H' p s fa r.2.2 → Rp H' x (.tuple [t'.d, .none]) → Q x H') (LBad2 p H Q)) (LBad2 p H Q)
def spLHead (N : Nat) : Sp := fun vs H Q _ => ∃ (p : Addr) (v : V) (b : Addr) (h : Str) (hw : Fm → Fm) (fa : Addr) (s : Str) (n : Nat) (B : Bd) (G : Str → Option Fm) (t : Tm), vs = [.ref p, v, .ref b, .str h] ∧ LJob H p b fa s n B G v t N ∧ n + 1 + t.nodes ≤ 100000 ∧ (h = "deed" ∧ hw = Fm.dw ∨ h = "box" ∧ hw = Fm.bw) ∧
  Fin (plc G s B (n + 1) t) (fun r => Fin (walledM (mkM s (n + 1)) r.1 r.2.1 (hw r.2.1)) (fun t' => ∀ H' x, Kp p H H' → SAt H' p s fa r.2.2 → Rp H' x (.tuple [t'.d, (hw r.2.1).d, .none]) → Q x H') (LBad3 p H Q)) (LBad3 p H Q)
theorem er_ref {H : Hp} {z : V} {e : Er} (rz : Rp H z e.d) : ∃ a xs, z = .ref a ∧ H a = some (.tup xs) := by
  cases e with
  | name x => obtain ⟨a, y1, y2, rfl, ea, _⟩ := rp2.mp rz; exact ⟨a, _, rfl, ea⟩
  | lt x => obtain ⟨a, y1, y2, rfl, ea, _⟩ := rp2.mp rz; exact ⟨a, _, rfl, ea⟩
  | high => obtain ⟨a, y1, y2, rfl, ea, _⟩ := rp2.mp rz; exact ⟨a, _, rfl, ea⟩
theorem SAt.same {H H' : Hp} {p fa : Addr} {s : Str} {n : Nat} (h : SAt H p s fa n) (k : Same H H') : SAt H' p s fa n := k _ _ h
theorem hd_plain {f : Fm} (h : f.plain = true) {hh : Str} (h2 : hh = "deed" ∨ hh = "box") : f.hd ≠ .str hh := by
  rcases h2 with rfl | rfl <;> cases f <;> first | exact Bool.noConfusion h | (intro e; unfold Fm.hd at e; simp at e; done) | (simp only [Fm.hd]; decide)
theorem hd_word {f : Fm} {hh : Str} (h : f.plain = false) (e : f.word = hh) : f.hd = .str hh := by
  subst e
  cases f <;> first | exact Bool.noConfusion h | rfl
theorem hd_word_ne {f : Fm} {hh : Str} (h : f.plain = false) (e : f.word ≠ hh) : f.hd ≠ .str hh := by
  cases f <;> first | exact Bool.noConfusion h | exact fun z => e (V.str.inj z)
section
variable {P : Program} {w : World} {K : PySem.W.Frag} {mg : Str → Option Value} {base : Heap}
theorem sc_law_begun : FnScope ["_law_state", "_law_piece", "_law_bound", "_law_sign"] ["_law_state", "_law_piece", "_law_bound"] (defScope s_law_begun) := ⟨rfl, rfl, rfl, by decide +kernel, rfl, by decide +kernel, by decide +kernel⟩
theorem ok__law_begun (T : Facts w K mg) (N L : Nat) (c_law_place : Cl P w K mg base CX0 L "_law_place" (spLP N)) : Cl P w K mg base CX0 (L + 1) "_law_begun" (spLBegun N) := by
  obtain ⟨fd, F⟩ := T.f_law_begun
  refine ⟨_, fd, ["_law_state", "_law_piece", "_law_bound"], T.g_law_begun, ?_, F.kp, F.bindsN fun _ _ _ _ _ _ us hl => match us, hl with | [_, _, _], _ => rfl⟩
  refine F.ok sc_law_begun (fun vs H Q E h => ?_) (fun cdv A outer s H vs Q E hr h => ?_)
  · obtain ⟨p, v, b, fa, s, n, B, G, t, rfl, _⟩ := h
    rfl
  obtain ⟨p, v, b, fa, s', n, B, G, t, rfl, J, hc, hf⟩ := h
  have hu := r1 hr
  have h20 := J.S.s20
  have ep := J.S.at_
  refine ⟨_, PSs.nox (pss_cons (ps_dput hu (pv 0) pe_str (pe_op op_add (pe_dget hu (pv 0) pe_str (fun _ _ => rfl)) pe_int) rfl)
    (pss_cons (ps_set (i := 3) sc_law_begun.nd rfl (Or.inl rfl) (pe_op op_add_str (pe_op op_add_str (pe_dget hu (pv 0) pe_str (fun _ _ => rfl)) pe_str) (pe_callTy call_str_int (by rfl) T.z_str (by decide +kernel) (pa_cons (pe_dget hu (pv 0) pe_str (fun _ _ => rfl)) pa_nil))))
    (pss_one (ps_ret (pe_op op_catA (pe_tup (pa_cons (pv 3) pa_nil)) (pe_cl c_law_place hr (by omega) pass0 (pa_cons (pv 0) (pa_cons (pv 1) (pa_cons (pv 2) pa_nil))))))))), ?_⟩
  have gc : DGet H p (.str "count") (some (.int (n : Nat))) := by
    have := DGet.k (k := .inr "count") ep
    rw [st_c] at this
    exact this
  have k1 : Kp p H (upd H p (.dK (stK s' fa (n + 1)))) := Kp.at_ _
  have e1 : SAt (upd H p (.dK (stK s' fa (n + 1)))) p s' fa (n + 1) := upd_same
  have dp : DPut H p (.str "count") (.int ((n : Nat) + 1)) (upd H p (.dK (stK s' fa (n + 1)))) := by
    have := DPut.k (k := .inr "count") (v := .int ((n : Nat) + 1)) ep (by show 3 < sizeLine; decide)
    rw [st_p] at this
    exact this
  refine ⟨_, rfl, p, _, rfl, gc, _, _, rfl, rfl, _, rfl, p, _, rfl, dp, ?_⟩
  generalize upd H p (.dK (stK s' fa (n + 1))) = H1 at *
  have hn1 := num_len (n := n + 1) (by omega)
  have ga : DGet H1 p (.str "ahead") (some (.str s')) := by
    have := DGet.k (k := .inr "ahead") e1
    rw [st_a] at this
    exact this
  have gc1 : DGet H1 p (.str "count") (some (.int ((n + 1 : Nat) : Int))) := by
    have := DGet.k (k := .inr "count") e1
    rw [st_c] at this
    exact this
  have hd1 : (("." : Str)).length = 1 := by decide
  refine ⟨_, rfl, p, _, rfl, ga, _, _, rfl, rfl, by rw [sizeLine_eq]; omega, _, rfl, p, .int ((n + 1 : Nat) : Int), rfl, gc1, _, rfl, num_small (by omega), _, _, rfl, rfl, by rw [str_app_len, sizeLine_eq]; omega, ?_⟩
  refine ⟨_, rfl, sz1, fun q0 hq0 => ?_⟩
  have s2 := same_new hq0 (.tup [.str (mkM s' (n + 1))])
  have k2 := k1.trans (Kp.of s2)
  have tk2 := J.S.tk k2
  refine ⟨_, rfl, _, rfl, _, rfl, p, v, b, fa, s', n + 1, B, G, t, rfl, ⟨J.S.kp k2 (e1.same s2), J.r.mono tk2, J.wf, J.dep, hc, J.len⟩, ?_⟩
  refine fin_mono hf (fun r er h => ?_) (fun er _ h => ?_)
  · intro H2 x k3 a3 rr
    obtain ⟨c, z1, z2, z3, rfl, ec, rz1, rz2, rz3⟩ := rp3.mp rr
    have e3 := k3 q0 _ (fun z => by rw [z] at hq0; rw [e1] at hq0; cases hq0) upd_same
    refine cat_use e3 ec (show 4 ≤ 1000 by decide) fun q H' s4 e4 => ?_
    exact h H' _ (k2.trans (k3.trans (Kp.of s4))) (a3.same s4) (rp4.mpr ⟨q, _, _, _, _, rfl, e4, .str _, rz1.mono s4.tk, rz2.mono s4.tk, rz3.mono s4.tk⟩)
  · intro H2 x k3 rr
    obtain ⟨c, z1, z2, z3, rfl, ec, rz1, rz2, rz3⟩ := rp3.mp rr
    have e3 := k3 q0 _ (fun z => by rw [z] at hq0; rw [e1] at hq0; cases hq0) upd_same
    refine cat_use e3 ec (show 4 ≤ 1000 by decide) fun q H' s4 e4 => ?_
    exact h H' _ (k2.trans (k3.trans (Kp.of s4))) (rp4.mpr ⟨q, _, _, _, _, rfl, e4, .str _, rz1.mono s4.tk, rz2.mono s4.tk, rz3.mono s4.tk⟩)
theorem sc_law_aimed : FnScope ["_law_state", "_law_piece", "_law_bound", "_law_aim"] ["_law_state", "_law_piece", "_law_bound", "_law_aim"] (defScope s_law_aimed) := ⟨rfl, rfl, rfl, by decide +kernel, rfl, by decide +kernel, by decide +kernel⟩
theorem ok__law_aimed (T : Facts w K mg) (N L : Nat) (hL : 10 ≤ L) (c_law_begun : Cl P w K mg base CX0 L "_law_begun" (spLBegun N)) : Cl P w K mg base CX0 (L + 1) "_law_aimed" (spLAimed N) := by
  have c_law_fenced := ok__law_fenced (P := P) (base := base) T
  obtain ⟨fd, F⟩ := T.f_law_aimed
  refine ⟨_, fd, ["_law_state", "_law_piece", "_law_bound", "_law_aim"], T.g_law_aimed, ?_, F.kp, F.bindsN fun _ _ _ _ _ _ us hl => match us, hl with | [_, _, _, _], _ => rfl⟩
  refine F.ok sc_law_aimed (fun vs H Q E h => ?_) (fun cdv A outer s H vs Q E hr h => ?_)
  · obtain ⟨p, v, b, wv, g, fa, s, n, B, G, t, rfl, _⟩ := h
    rfl
  obtain ⟨p, v, b, wv, g, fa, s', n, B, G, t, rfl, J, hc, rg, hg, hf⟩ := h
  refine ⟨_, PSs.nox (pss_one (ps_ret (pe_cl c_law_fenced hr (by omega) pass0 (pa_cons (pe_cl c_law_begun hr (by omega) pass0 (pa_cons (pv 0) (pa_cons (pv 1) (pa_cons (pv 2) pa_nil)))) (pa_cons (pv 3) pa_nil))))), ?_⟩
  refine ⟨_, rfl, _, rfl, _, rfl, p, v, b, fa, s', n, B, G, t, rfl, J, hc, ?_⟩
  refine fin_mono hf (fun r er h => ?_) (fun er _ h => ?_)
  · intro H2 x k2 a2 rr
    have hlow := (plc_low J.S.g5 t er J.wf J.S.b5).1
    obtain ⟨c, z0, z1, z2, z3, rfl, ec, rz0, rz1, rz2, rz3⟩ := rp4.mp rr
    obtain rfl := rp_str.mp rz0
    obtain rfl := rp_non.mp rz3
    refine ⟨_, rfl, .inl ⟨c, _, z1, z2, wv, r.1, r.2.1, g, rfl, ec, rz1, rz2, rg.mono (J.S.tk k2), by omega, by omega, ?_⟩⟩
    refine fin_mono h (fun t' _ h => ?_) (fun e _ h => ?_)
    · exact fun H' y s3 ry => h H' y (k2.trans (Kp.of s3)) (a2.same s3) ry
    · exact fun H' y s3 ry => h H' y (k2.trans (Kp.of s3)) ry
  · intro H2 x k2 rr
    obtain ⟨c, z0, z1, z2, z3, rfl, ec, rz0, rz1, rz2, rz3⟩ := rp4.mp rr
    obtain rfl := rp_str.mp rz0
    exact ⟨_, rfl, .inr ⟨c, _, z1, z2, wv, z3, er, rfl, ec, rz3, fun H' y s3 ry => h H' y (k2.trans (Kp.of s3)) ry⟩⟩
theorem sc_law_headed : FnScope ["_law_state", "_law_piece", "_law_bound", "_law_sort", "_law_begun_here", "_law_form_here", "_law_aim", "_law_placed", "_law_wrong"] ["_law_state", "_law_piece", "_law_bound", "_law_sort"] (defScope s_law_headed) := ⟨rfl, rfl, rfl, by decide +kernel, rfl, by decide +kernel, by decide +kernel⟩
theorem ok__law_headed (T : Facts w K mg) (N L : Nat) (hL : 10 ≤ L) (c_law_begun : Cl P w K mg base CX0 L "_law_begun" (spLBegun N)) : Cl P w K mg base CX0 (L + 1) "_law_headed" (spLHead N) := by
  have c_law_fenced := ok__law_fenced (P := P) (base := base) T
  obtain ⟨fd, F⟩ := T.f_law_headed
  refine ⟨_, fd, ["_law_state", "_law_piece", "_law_bound", "_law_sort"], T.g_law_headed, ?_, F.kp, F.bindsN fun _ _ _ _ _ _ us hl => match us, hl with | [_, _, _, _], _ => rfl⟩
  refine F.ok sc_law_headed (fun vs H Q E h => ?_) (fun cdv A outer s H vs Q E hr h => ?_)
  · obtain ⟨p, v, b, hh, hw, fa, s, n, B, G, t, rfl, _⟩ := h
    rfl
  obtain ⟨p, v, b, hh, hw, fa, s', n, B, G, t, rfl, J, hc, hhw, hf⟩ := h
  have hu := r1 hr
  refine ⟨_, PSs.nox (pss_cons (ps_set (i := 4) sc_law_headed.nd rfl (Or.inl rfl) (pe_cl c_law_begun hr (by omega) pass0 (pa_cons (pv 0) (pa_cons (pv 1) (pa_cons (pv 2) pa_nil)))))
    (pss_cons (ps_set (i := 5) sc_law_headed.nd rfl (Or.inl rfl) (pe_ix ix_tup (pv 4) pe_int (fun _ _ => rfl)))
    (pss_cons (ps_if (pt_cmpR op_notN (pe_ix ix_tup (pv 4) pe_int (fun _ _ => rfl)) pe_non (nomark _)) (pss_one (ps_ret (pe_tup (pa_cons pe_non (pa_cons pe_non (pa_cons (pe_ix ix_tup (pv 4) pe_int (fun _ _ => rfl)) pa_nil)))))) pss_nil)
    (pss_cons (ps_set (i := 6) sc_law_headed.nd rfl (Or.inl rfl) (pv 5))
    (pss_cons (ps_if (PW.pt (pw_or (pt_val (pe_callB call_isB (by rfl) T.z_isinstance (by decide +kernel) (pa_cons (pv 5) (pa_cons (pe_bltn (v := .ty "str") (by rfl) T.z_str (by decide +kernel) rfl) pa_nil)))) (pw_or1 (pt_cmpR op_ne (pe_ix ix_tup (pv 5) pe_int (fun _ _ => rfl)) (pv 3) (nomark _))))) (pss_one (ps_set (i := 6) sc_law_headed.nd rfl (Or.inl rfl) (pe_dget hu (pe_disp (pps_cons pe_str (pe_tup (pa_cons pe_str (pa_cons pe_str (pa_cons pe_str pa_nil)))) (pps_cons pe_str (pe_tup (pa_cons pe_str (pa_cons pe_str pa_nil))) pps_nil)) rfl rfl (List.cons_ne_nil _ _) (by decide)) (pv 3) (fun _ _ => rfl)))) pss_nil)
    (pss_cons (ps_asg (pe_cl c_law_fenced hr (by omega) pass0 (pa_cons (pv 4) (pa_cons (pv 6) pa_nil))) (pg_tup (by rfl) (pgs_cons (pg_name (i := 7) sc_law_headed.nd rfl (Or.inl rfl)) (pgs_cons (pg_name (i := 8) sc_law_headed.nd rfl (Or.inl rfl)) pgs_nil))))
    (pss_one (ps_ret (pe_tup (pa_cons (pv 7) (pa_cons (pv 6) (pa_cons (pv 8) pa_nil)))))))))))), ?_⟩
  refine ⟨_, rfl, _, rfl, _, rfl, p, v, b, fa, s', n, B, G, t, rfl, J, hc, ?_⟩
  refine fin_mono hf (fun r er h => ?_) (fun er _ h => ?_)
  rotate_left
  · intro H2 x k2 rr
    obtain ⟨c, z0, z1, z2, z3, rfl, ec, rz0, rz1, rz2, rz3⟩ := rp4.mp rr
    obtain rfl := rp_str.mp rz0
    obtain ⟨za, zs, rfl, ez⟩ := er_ref rz3
    refine ⟨_, rfl, c, _, 2, _, rfl, rfl, SqT.of ec, at2, _, rfl, c, _, 3, _, rfl, rfl, SqT.of ec, at3, ?_⟩
    refine ⟨rfl, _, rfl, iteT ⟨_, rfl, c, _, 3, _, rfl, rfl, SqT.of ec, at3, sz3, fun q hq => ?_⟩⟩
    have s3 := same_new hq (.tup [.non, .non, .ref za])
    exact h _ _ _ (k2.trans (Kp.of s3)) (rp3.mpr ⟨q, _, _, _, rfl, upd_same, .non, .non, rz3.mono s3.tk⟩)
  intro H2 x k2 a2 rr
  have hlow := (plc_low J.S.g5 t er J.wf J.S.b5).1
  obtain ⟨c, z0, z1, z2, z3, rfl, ec, rz0, rz1, rz2, rz3⟩ := rp4.mp rr
  obtain rfl := rp_str.mp rz0
  obtain rfl := rp_non.mp rz3
  have h5 : (hw r.2.1).ht ≤ 5 := by
    rcases hhw with ⟨_, rfl⟩ | ⟨_, rfl⟩
    · exact (dw_low hlow).1
    · exact (bw_low hlow).1
  refine ⟨_, rfl, c, _, 2, _, rfl, rfl, SqT.of ec, at2, _, rfl, c, _, 3, _, rfl, rfl, SqT.of ec, at3, rfl, _, rfl, iteF ⟨_, rfl, ?_⟩⟩
  have fin : ∀ H3 wv, Same H2 H3 → RpF H3 wv (hw r.2.1) → tSeq (tAsg (tCall (fun vs H Q E => spFenced vs H Q E ∨ spFencedNo vs H Q E) [] E0 (tCons (tVar 4) (tCons (tVar 6) tNil))) (gTup K 2 (gCons (gName 7) (gCons (gName 8) gNil)))) (tRet (tTup (tCons (tVar 7) (tCons (tVar 6) (tCons (tVar 8) tNil))))) { nx := fun x H' => Q V.non H', rt := Q } [some (.ref p), some v, some (.ref b), some (.str hh), some (.ref c), some z2, some wv, none, none] H3 := by
    intro H3 wv s3 rw3
    refine ⟨_, rfl, _, rfl, .inl ⟨c, _, z1, z2, wv, r.1, r.2.1, hw r.2.1, rfl, s3 _ _ ec, rz1.mono s3.tk, rz2.mono s3.tk, rw3, by omega, by omega, ?_⟩⟩
    refine fin_mono h (fun t' _ h => ?_) (fun e _ h => ?_)
    · intro H4 y s4 ry
      obtain ⟨c4, y1, y2, rfl, ec4, ry1, ry2⟩ := rp2.mp ry
      obtain rfl := rp_non.mp ry2
      refine ⟨c4, _, rfl, SqT.of ec4, rfl, _, _, rfl, _, _, rfl, rfl, _, rfl, _, rfl, _, rfl, sz3, fun q hq => ?_⟩
      have s5 := same_new hq (.tup [y1, wv, .non])
      have s35 := s3.trans (s4.trans s5)
      exact h _ _ (k2.trans (Kp.of s35)) (a2.same s35) (rp3.mpr ⟨q, _, _, _, rfl, upd_same, ry1.mono s5.tk, rw3.mono (s4.trans s5).tk, .non⟩)
    · intro H4 y s4 ry
      obtain ⟨c4, y1, y2, rfl, ec4, ry1, ry2⟩ := rp2.mp ry
      obtain rfl := rp_non.mp ry1
      refine ⟨c4, _, rfl, SqT.of ec4, rfl, _, _, rfl, _, _, rfl, rfl, _, rfl, _, rfl, _, rfl, sz3, fun q hq => ?_⟩
      have s5 := same_new hq (.tup [.non, wv, y2])
      have s35 := s3.trans (s4.trans s5)
      exact h _ _ _ (k2.trans (Kp.of s35)) (rp3.mpr ⟨q, _, _, _, rfl, upd_same, .non, rw3.mono (s4.trans s5).tk, ry2.mono s5.tk⟩)
  have wide : r.2.1.hd ≠ .str hh → tAsg (tDGet (tDisp [(tC (.str "deed"), tTup (tCons (tC (.str "deed")) (tCons (tC (.str "any")) (tCons (tC (.str "any")) tNil)))), (tC (.str "box"), tTup (tCons (tC (.str "box")) (tCons (tC (.str "any")) tNil)))]) (tVar 3)) (gName 6)
      { nx := tSeq (tAsg (tCall (fun vs H Q E => spFenced vs H Q E ∨ spFencedNo vs H Q E) [] E0 (tCons (tVar 4) (tCons (tVar 6) tNil))) (gTup K 2 (gCons (gName 7) (gCons (gName 8) gNil)))) (tRet (tTup (tCons (tVar 7) (tCons (tVar 6) (tCons (tVar 8) tNil))))) { nx := fun x H' => Q V.non H', rt := Q }, rt := Q } [some (.ref p), some v, some (.ref b), some (.str hh), some (.ref c), some z2, some z2, none, none] H2 := by
    intro hne q0 hq0
    refine ⟨sz3, fun q1 hq1 => ⟨sz2, fun q2 hq2 => ?_⟩⟩
    have s1 := same_new hq0 (.dK [])
    have s2 := same_new hq1 (.tup [.str "deed", .str "any", .str "any"])
    have s3 := same_new hq2 (.tup [.str "box", .str "any"])
    have e0 := s3 q0 _ (s2 q0 _ (upd_same (o := HO.dK [])))
    have e1 := s3 q1 _ (upd_same (o := HO.tup [.str "deed", .str "any", .str "any"]))
    refine ⟨e0, [(.inr "deed", .ref q1), (.inr "box", .ref q2)], rfl, (show 2 ≤ 15 by decide), ?_⟩
    have e2 := upd_same (H := upd (upd H2 q0 (.dK [])) q1 (.tup [.str "deed", .str "any", .str "any"])) (a := q2) (o := HO.tup [.str "box", .str "any"])
    have tk : Tk H2 (upd (upd (upd H2 q0 (.dK [])) q1 (.tup [.str "deed", .str "any", .str "any"])) q2 (.tup [.str "box", .str "any"])) := (s1.trans (s2.trans s3)).tk
    have ss := s1.trans (s2.trans s3)
    generalize upd (upd (upd H2 q0 (.dK [])) q1 (.tup [.str "deed", .str "any", .str "any"])) q2 (.tup [.str "box", .str "any"]) = H3 at *
    have ss4 := ss.upd2 hq0 (o := .dK (mergeK [] [(.inr "deed", .ref q1), (.inr "box", .ref q2)]))
    have t4 := tk_at (o := .dK (mergeK [] [(.inr "deed", .ref q1), (.inr "box", .ref q2)])) e0
    have e4 : (upd H3 q0 (.dK (mergeK [] [(.inr "deed", .ref q1), (.inr "box", .ref q2)]))) q0 = some (.dK (mergeK [] [(.inr "deed", .ref q1), (.inr "box", .ref q2)])) := upd_same
    have e14 := t4 _ _ e1
    have e24 := t4 _ _ e2
    generalize upd H3 q0 (.dK (mergeK [] [(.inr "deed", .ref q1), (.inr "box", .ref q2)])) = H4 at *
    have n1 : ¬ ("deed" : Str) = "box" := by decide
    rcases hhw with ⟨rfl, rfl⟩ | ⟨rfl, rfl⟩
    · have g : DGet H4 q0 (.str "deed") (some (.ref q1)) := by
        have h1 : valV (mergeK [] [(.inr "deed", .ref q1), (.inr "box", .ref q2)]) (.inr "deed") = some (.ref q1) := by simp [mergeK, putK, valV, n1]
        have := DGet.k (k := .inr "deed") e4
        rw [h1] at this
        exact this
      refine ⟨_, rfl, q0, _, rfl, g, fin H4 _ ss4 ?_⟩
      rw [(hd_dw _).2 hne]
      exact rpf_deed.mpr ⟨q1, _, _, rfl, e14, .str _, .str _⟩
    · have g : DGet H4 q0 (.str "box") (some (.ref q2)) := by
        have h1 : valV (mergeK [] [(.inr "deed", .ref q1), (.inr "box", .ref q2)]) (.inr "box") = some (.ref q2) := by simp [mergeK, putK, valV, n1]
        have := DGet.k (k := .inr "box") e4
        rw [h1] at this
        exact this
      refine ⟨_, rfl, q0, _, rfl, g, fin H4 _ ss4 ?_⟩
      rw [(hd_bw _).2 hne]
      exact rpf_box.mpr ⟨q2, _, rfl, e24, .str _⟩
  by_cases hp : r.2.1.plain = true
  · have hne : r.2.1.hd ≠ .str hh := hd_plain hp (hhw.imp And.left And.left)
    obtain rfl := rpf_plain rz2 hp
    exact ⟨_, rfl, _, _, true, rfl, .ss _, _, rfl, iteT (iteT (wide hne))⟩
  obtain ⟨fa2, xs2, rfl, ef, _⟩ := rpf_parts rz2 (by simpa using hp)
  refine ⟨_, rfl, _, _, false, rfl, .ts ef, _, rfl, iteF ?_⟩
  refine ⟨_, rfl, fa2, _, 0, _, rfl, rfl, SqT.of ef, at0, _, rfl, rfl, _, rfl, ?_⟩
  rw [decide_str]
  by_cases hd : r.2.1.word = hh
  · rw [decide_eq_true hd]
    refine iteF (fin H2 _ (Same.refl _) ?_)
    have e : hw r.2.1 = r.2.1 := by
      rcases hhw with ⟨rfl, rfl⟩ | ⟨rfl, rfl⟩
      · exact (hd_dw _).1 (hd_word (by simpa using hp) hd)
      · exact (hd_bw _).1 (hd_word (by simpa using hp) hd)
    rw [e]
    exact rz2
  · rw [decide_eq_false hd]
    exact iteT (wide (hd_word_ne (by simpa using hp) hd))
end
end Wt
/-! The law places: loose terms. -/
namespace Wt
open PySem PySem.Spec PyProof.Rows L2 RZ RT
/-- terms of some sorts -/
def spLW (N : Nat) (ws : List Str) : Sp := fun vs H Q _ => ∃ p v b fa s n B G t, vs = [.ref p, v, .ref b] ∧ t.wd ∈ ws ∧ LJob H p b fa s n B G v t (N + 1) ∧ Fin (plc G s B n t) (LGood p H s fa Q) (LBad p H Q)
theorem LBad.kp {p : Addr} {H H1 : Hp} {Q : VK} {e : Er} (h : LBad p H Q e) (k : Kp p H H1) : LBad p H1 Q e := fun H' x k2 r => h H' x (k.trans k2) r
section
variable {P : Program} {w : World} {K : PySem.W.Frag} {mg : Str → Option Value} {base : Heap}
theorem sc_law_place_loose : FnScope ["_law_state", "_law_piece", "_law_bound", "_law_word", "_law_placed", "_law_form_here", "_law_wrong", "_law_first", "_law_given", "_law_more", "_law_second"] ["_law_state", "_law_piece", "_law_bound"] (defScope s_law_place_loose) := ⟨rfl, rfl, rfl, by decide +kernel, rfl, by decide +kernel, by decide +kernel⟩
theorem ok__law_place_loose (T : Facts w K mg) (N L : Nat) (hL : 10 ≤ L) (c_law_place : Cl P w K mg base CX0 L "_law_place" (spLP N)) : Cl P w K mg base CX0 (L + 1) "_law_place_loose" (spLW N ["deed", "let", "do"]) := by
  have c_law_low := ok__law_low (P := P) (base := base) T
  obtain ⟨fd, F⟩ := T.f_law_place_loose
  refine ⟨_, fd, ["_law_state", "_law_piece", "_law_bound"], T.g_law_place_loose, ?_, F.kp, F.bindsN fun _ _ _ _ _ _ us hl => match us, hl with | [_, _, _], _ => rfl⟩
  refine F.ok sc_law_place_loose (fun vs H Q E h => ?_) (fun cdv A outer s H vs Q E hr h => ?_)
  · obtain ⟨p, v, b, fa, s, n, B, G, t, rfl, _⟩ := h
    rfl
  obtain ⟨p, v, b, fa, s', n, B, G, t, rfl, hw, J, hf⟩ := h
  refine ⟨_, PSs.nox (pss_cons (ps_set (i := 3) sc_law_place_loose.nd rfl (Or.inl rfl) (pe_ix ix_tup (pv 1) pe_int (fun _ _ => rfl)))
    (pss_cons (ps_if (pt_cmpR op_eq (pv 3) pe_str (nomark _)) (pss_cons (ps_asg (pe_cl c_law_place hr (by omega) pass0 (pa_cons (pv 0) (pa_cons (pe_ix ix_tup (pv 1) pe_int (fun _ _ => rfl)) (pa_cons (pe_op op_cat (pv 2) (pe_lst (pa_cons (pe_slice sl_tupA (pv 1) (po_some pe_int) (po_some pe_int)) pa_nil))) pa_nil)))) (pg_tup (by rfl) (pgs_cons (pg_name (i := 4) sc_law_place_loose.nd rfl (Or.inl rfl)) (pgs_cons (pg_name (i := 5) sc_law_place_loose.nd rfl (Or.inl rfl)) (pgs_cons (pg_name (i := 6) sc_law_place_loose.nd rfl (Or.inl rfl)) pgs_nil)))))
    (pss_cons (ps_if (pt_cmpR op_notN (pv 6) pe_non (nomark _)) (pss_one (ps_ret (pe_tup (pa_cons pe_non (pa_cons pe_non (pa_cons (pv 6) pa_nil)))))) pss_nil)
    (pss_one (ps_ret (pe_cl c_law_low hr (by omega) pass0 (pa_cons (pe_op op_catA (pe_slice sl_tupA (pv 1) po_none (po_some pe_int)) (pe_tup (pa_cons (pv 4) pa_nil))) (pa_cons (pe_tup (pa_cons pe_str (pa_cons (pe_ix ix_tup (pv 1) pe_int (fun _ _ => rfl)) (pa_cons (pv 5) pa_nil)))) pa_nil))))))) pss_nil)
    (pss_cons (ps_asg (pe_cl c_law_place hr (by omega) pass0 (pa_cons (pv 0) (pa_cons (pe_ix ix_tup (pv 1) (pe_un un_neg pe_int) (fun _ _ => rfl)) (pa_cons (pv 2) pa_nil)))) (pg_tup (by rfl) (pgs_cons (pg_name (i := 7) sc_law_place_loose.nd rfl (Or.inl rfl)) (pgs_cons (pg_name (i := 8) sc_law_place_loose.nd rfl (Or.inl rfl)) (pgs_cons (pg_name (i := 6) sc_law_place_loose.nd rfl (Or.inl rfl)) pgs_nil)))))
    (pss_cons (ps_if (pt_cmpR op_notN (pv 6) pe_non (nomark _)) (pss_one (ps_ret (pe_tup (pa_cons pe_non (pa_cons pe_non (pa_cons (pv 6) pa_nil)))))) pss_nil)
    (pss_cons (ps_set (i := 9) sc_law_place_loose.nd rfl (Or.inl rfl) (pe_ifExp (pt_cmpR op_eq (pv 3) pe_str (nomark _)) (pe_lst (pa_cons (pe_tup (pa_cons (pe_ix ix_tup (pv 1) pe_int (fun _ _ => rfl)) (pa_cons (pv 8) pa_nil))) pa_nil)) (pe_lst pa_nil)))
    (pss_cons (ps_asg (pe_cl c_law_place hr (by omega) pass0 (pa_cons (pv 0) (pa_cons (pe_ix ix_tup (pv 1) (pe_un un_neg pe_int) (fun _ _ => rfl)) (pa_cons (pe_op op_cat (pv 2) (pv 9)) pa_nil)))) (pg_tup (by rfl) (pgs_cons (pg_name (i := 10) sc_law_place_loose.nd rfl (Or.inl rfl)) (pgs_cons (pg_name (i := 5) sc_law_place_loose.nd rfl (Or.inl rfl)) (pgs_cons (pg_name (i := 6) sc_law_place_loose.nd rfl (Or.inl rfl)) pgs_nil)))))
    (pss_one (ps_ret (pe_ifExp (pt_cmpR op_isN (pv 6) pe_non (nomark _)) (pe_tup (pa_cons (pe_op op_catA (pe_slice sl_tupA (pv 1) po_none (po_some (pe_un un_neg pe_int))) (pe_tup (pa_cons (pv 7) (pa_cons (pv 10) pa_nil)))) (pa_cons (pv 5) (pa_cons pe_non pa_nil)))) (pe_tup (pa_cons pe_non (pa_cons pe_non (pa_cons (pv 6) pa_nil))))))))))))), ?_⟩
  have hJd := J.dep
  have hJc := J.cnt
  have hJl := J.len
  have hS := J.S
  have hwf := J.wf
  have hr' := J.r
  obtain ⟨vs, eb, rb⟩ := hS.bs
  have hlen := rpa_len rb
  rw [List.length_map] at hlen
  cases t <;> first | exact absurd hw (by simp only [Tm.wd]; decide) | skip
  · rename_i x A0 e
    simp only [Tm.dep, Tm.nodes] at hJd hJc hJl
    obtain ⟨a, y0, y1, y2, rfl, ea, r0, r1, r2⟩ := rpw3.mp hr'
    obtain rfl := rp_str.mp r0
    refine ⟨_, rfl, a, _, 0, _, rfl, rfl, SqT.of ea, at0, _, rfl, rfl, _, rfl, iteT ?_⟩
    refine ⟨_, rfl, _, rfl, a, _, 3, _, rfl, rfl, SqT.of ea, at3, _, rfl, _, rfl, 1, rfl, 3, rfl, sl_use ea (by rfl) fun q1 H1 s1 e1 => ⟨sz1, fun q2 hq2 => ?_⟩⟩
    have s2 := same_new hq2 (.lst [.ref q1])
    refine ⟨b, q2, vs, [.ref q1], rfl, rfl, s2 _ _ (s1 _ _ eb), upd_same, by rw [sizeLine_eq, List.length_singleton]; omega, fun q3 hq3 => ?_⟩
    have s3 := same_new hq3 (.lst (vs ++ [.ref q1]))
    have s13 := s1.trans (s2.trans s3)
    have hb' : BAt _ q3 (B ++ [(x, A0)]) := bat_add (s13 _ _ eb) (RpAll.mono s13.tk rb) upd_same (s3 _ _ (s2 _ _ e1)) (r1.mono s13.tk)
    have S3 := (hS.same s13).other hb' (hS.b5.add hwf.2.1)
    rw [plc, fin_bind] at hf
    refine ⟨p, y2, q3, fa, s', n, _, G, e, rfl, ⟨S3, r2.mono s13.tk, hwf.2.2, by omega, by omega, by rw [List.length_append, List.length_singleton]; omega⟩, ?_⟩
    refine fin_mono hf (fun r er h => ?_) (fun er _ h => ?_)
    · intro H4 xr k4 a4 rr
      have h6 : (Fm.deed A0 r.2.1).ht ≤ 6 := by
        have := (plc_low hS.g5 e er hwf.2.2 (hS.b5.add hwf.2.1)).1
        have := hwf.2.1
        simp only [Fm.ht]
        omega
      have k14 := (Kp.of s13).trans k4
      have t4 := hS.tk k14
      obtain ⟨c, z1, z2, z3, rfl, ec, rz1, rz2, rz3⟩ := rp3.mp rr
      obtain rfl := rp_non.mp rz3
      refine ⟨c, _, rfl, SqT.of ec, rfl, _, _, rfl, _, _, rfl, _, _, rfl, rfl, ?_⟩
      refine ⟨_, rfl, rfl, _, rfl, iteF ⟨_, rfl, 3, rfl, sl_use (t4 _ _ ea) (by rfl) fun q5 H5 s5 e5 => ⟨_, rfl, sz1, fun q6 hq6 => cat_use (xs := [.str "deed", .str x, y1]) (ys := [z1]) ((same_new hq6 _) _ _ e5) upd_same (show 4 ≤ 1000 by decide) fun q7 H7 s7 e7 => ?_⟩⟩⟩
      have s57 := s5.trans ((same_new hq6 (.tup [z1])).trans s7)
      refine ⟨_, rfl, a, _, 2, _, rfl, rfl, SqT.of ((s57.tk) _ _ (t4 _ _ ea)), at2, _, rfl, sz3, fun q8 hq8 => ?_⟩
      have s8 := same_new hq8 (.tup [.str "deed", y1, z2])
      have s58 := s57.trans s8
      have tt := t4.trans' s58.tk
      obtain ⟨h5a, h5b⟩ := fin_low h
      have k8 := k14.trans (Kp.of s58)
      refine ⟨.ref q7, .ref q8, (Tm.deed x A0 r.1).d, .deed A0 r.2.1, rfl, rp4.mpr ⟨q7, _, _, _, _, rfl, s8 _ _ e7, .str _, .str _, r1.mono tt, rz1.mono s58.tk⟩, rpf_deed.mpr ⟨q8, _, _, rfl, upd_same, r1.mono tt, rz2.mono s58.tk⟩, h6, fun h5 H9 y s9 ry => ?_, fun h5 H9 y s9 ry => ?_⟩
      · exact h5a h5 _ _ (k8.trans (Kp.of s9)) (a4.same (s58.trans s9)) ry
      · exact h5b h5 _ _ (k8.trans (Kp.of s9)) ry
    · intro H4 xr k4 rr
      obtain ⟨c9, z1, z2, z3, rfl, ec9, rz1, rz2, rz3⟩ := rp3.mp rr
      obtain ⟨za, zs, rfl, ez⟩ := er_ref rz3
      refine ⟨c9, _, rfl, SqT.of ec9, rfl, _, _, rfl, _, _, rfl, _, _, rfl, rfl, ?_⟩
      refine ⟨_, rfl, rfl, _, rfl, iteT ⟨_, rfl, sz3, fun q9 hq9 => ?_⟩⟩
      have s9 := same_new hq9 (.tup [.non, .non, .ref za])
      exact h _ _ ((Kp.of s13).trans (k4.trans (Kp.of s9))) (rp3.mpr ⟨q9, _, _, _, rfl, upd_same, .non, .non, rz3.mono s9.tk⟩)
  · rename_i x e f
    simp only [Tm.dep, Tm.nodes] at hJd hJc hJl
    obtain ⟨a, y0, y1, y2, rfl, ea, r0, r1, r2⟩ := rpw3.mp hr'
    obtain rfl := rp_str.mp r0
    refine ⟨_, rfl, a, _, 0, _, rfl, rfl, SqT.of ea, at0, _, rfl, rfl, _, rfl, iteF ?_⟩
    refine ⟨_, rfl, _, rfl, 2, rfl, a, _, -2, _, rfl, rfl, SqT.of ea, rfl, _, rfl, ?_⟩
    rw [plc, fin_bind] at hf
    refine ⟨p, y1, b, fa, s', n, B, G, e, rfl, ⟨hS, r1, hwf.2.1, by omega, by omega, by omega⟩, ?_⟩
    refine fin_mono hf (fun r er h => ?_) (fun er _ h => ?_)
    rotate_left
    · intro H4 xr k4 rr
      obtain ⟨c9, z1, z2, z3, rfl, ec9, rz1, rz2, rz3⟩ := rp3.mp rr
      obtain ⟨za, zs, rfl, ez⟩ := er_ref rz3
      refine ⟨c9, _, rfl, SqT.of ec9, rfl, _, _, rfl, _, _, rfl, _, _, rfl, rfl, ?_⟩
      refine ⟨_, rfl, rfl, _, rfl, iteT ⟨_, rfl, sz3, fun q9 hq9 => ?_⟩⟩
      have s9 := same_new hq9 (.tup [.non, .non, .ref za])
      exact h _ _ (k4.trans (Kp.of s9)) (rp3.mpr ⟨q9, _, _, _, rfl, upd_same, .non, .non, rz3.mono s9.tk⟩)
    · intro H2 xr k2 a2 rr
      obtain ⟨g1, g2, g3⟩ := plc_low hS.g5 e er hwf.2.1 hS.b5
      have t2 := hS.tk k2
      have S2 := hS.kp k2 a2
      obtain ⟨vs2, eb2, rb2⟩ := S2.bs
      have hlen2 := rpa_len rb2
      rw [List.length_map] at hlen2
      obtain ⟨c, z1, z2, z3, rfl, ec, rz1, rz2, rz3⟩ := rp3.mp rr
      obtain rfl := rp_non.mp rz3
      refine ⟨c, _, rfl, SqT.of ec, rfl, _, _, rfl, _, _, rfl, _, _, rfl, rfl, ?_⟩
      refine ⟨_, rfl, rfl, _, rfl, iteF ?_⟩
      rw [fin_bind] at h
      refine ⟨_, rfl, rfl, _, rfl, iteT ⟨_, rfl, a, _, 1, _, rfl, rfl, SqT.of (t2 _ _ ea), at1, _, rfl, sz2, fun q1 hq1 => ⟨sz1, fun q2 hq2 => ?_⟩⟩⟩
      have s1 := same_new hq1 (.tup [.str x, z2])
      have s2 := same_new hq2 (.lst [.ref q1])
      refine ⟨_, rfl, _, rfl, 1, rfl, a, _, -1, _, rfl, rfl, SqT.of (s2 _ _ (s1 _ _ (t2 _ _ ea))), rfl, _, rfl, _, rfl, b, q2, vs2, [.ref q1], rfl, rfl, s2 _ _ (s1 _ _ eb2), upd_same, by rw [sizeLine_eq, List.length_singleton]; omega, fun q3 hq3 => ?_⟩
      have s3 := same_new hq3 (.lst (vs2 ++ [.ref q1]))
      have s13 := s1.trans (s2.trans s3)
      have hb' : BAt _ q3 (B ++ [(x, r.2.1)]) := bat_add (s13 _ _ eb2) (RpAll.mono s13.tk rb2) upd_same (s3 _ _ (s2 _ _ upd_same)) (rz2.mono s13.tk)
      have S3 := (S2.same s13).other hb' (S2.b5.add g1)
      have t3 := t2.trans' s13.tk
      refine ⟨p, y2, q3, fa, s', r.2.2, (B ++ [(x, r.2.1)]), G, f, rfl, ⟨S3, r2.mono t3, hwf.2.2, by omega, by omega, by rw [List.length_append, List.length_singleton]; omega⟩, ?_⟩
      have k13 := k2.trans (Kp.of s13)
      refine fin_mono h (fun q eq h => ?_) (fun er _ h => ?_)
      · intro H5 x5 k5 a5 rr5
        have t5 := S3.tk k5
        obtain ⟨c5, u1, u2, u3, rfl, ec5, ru1, ru2, ru3⟩ := rp3.mp rr5
        obtain rfl := rp_non.mp ru3
        refine ⟨c5, _, rfl, SqT.of ec5, rfl, _, _, rfl, _, _, rfl, _, _, rfl, rfl, ?_⟩
        refine ⟨_, rfl, rfl, _, rfl, iteT ⟨_, rfl, 2, rfl, -2, rfl, sl_use (t5 _ _ (t3 _ _ ea)) (by rfl) fun q5 H6 s5 e5 => ⟨_, rfl, _, rfl, sz2, fun q6 hq6 => cat_use (xs := [.str "let", .str x]) (ys := [z1, u1]) ((same_new hq6 _) _ _ e5) upd_same (show 4 ≤ 1000 by decide) fun q7 H7 s7 e7 => ⟨_, rfl, sz3, fun q8 hq8 => ?_⟩⟩⟩⟩
        have s57 := s5.trans ((same_new hq6 (.tup [z1, u1])).trans s7)
        have s8 := same_new hq8 (.tup [.ref q7, u2, .non])
        have s58 := s57.trans s8
        have t17 := s13.tk.trans' (t5.trans' s58.tk)
        exact h _ _ (k13.trans (k5.trans (Kp.of s58))) (a5.same s58) (rp3.mpr ⟨q8, _, _, _, rfl, upd_same, rp4.mpr ⟨q7, _, _, _, _, rfl, s8 _ _ e7, .str _, .str _, rz1.mono t17, ru1.mono s58.tk⟩, ru2.mono s58.tk, .non⟩)
      · intro H5 x5 k5 rr5
        obtain ⟨c9, u1, u2, u3, rfl, ec9, ru1, ru2, ru3⟩ := rp3.mp rr5
        obtain ⟨za, zs, rfl, ez⟩ := er_ref ru3
        refine ⟨c9, _, rfl, SqT.of ec9, rfl, _, _, rfl, _, _, rfl, _, _, rfl, rfl, ?_⟩
        refine ⟨_, rfl, rfl, _, rfl, iteF ⟨_, rfl, sz3, fun q9 hq9 => ?_⟩⟩
        have s9 := same_new hq9 (.tup [.non, .non, .ref za])
        exact h _ _ (k13.trans (k5.trans (Kp.of s9))) (rp3.mpr ⟨q9, _, _, _, rfl, upd_same, .non, .non, ru3.mono s9.tk⟩)
  · rename_i e f
    simp only [Tm.dep, Tm.nodes] at hJd hJc hJl
    obtain ⟨a, y1, y2, rfl, ea, r1, r2⟩ := rpw2.mp hr'
    refine ⟨_, rfl, a, _, 0, _, rfl, rfl, SqT.of ea, at0, _, rfl, rfl, _, rfl, iteF ?_⟩
    refine ⟨_, rfl, _, rfl, 2, rfl, a, _, -2, _, rfl, rfl, SqT.of ea, rfl, _, rfl, ?_⟩
    rw [plc, fin_bind] at hf
    refine ⟨p, y1, b, fa, s', n, B, G, e, rfl, ⟨hS, r1, hwf.1, by omega, by omega, by omega⟩, ?_⟩
    refine fin_mono hf (fun r er h => ?_) (fun er _ h => ?_)
    rotate_left
    · intro H4 xr k4 rr
      obtain ⟨c9, z1, z2, z3, rfl, ec9, rz1, rz2, rz3⟩ := rp3.mp rr
      obtain ⟨za, zs, rfl, ez⟩ := er_ref rz3
      refine ⟨c9, _, rfl, SqT.of ec9, rfl, _, _, rfl, _, _, rfl, _, _, rfl, rfl, ?_⟩
      refine ⟨_, rfl, rfl, _, rfl, iteT ⟨_, rfl, sz3, fun q9 hq9 => ?_⟩⟩
      have s9 := same_new hq9 (.tup [.non, .non, .ref za])
      exact h _ _ (k4.trans (Kp.of s9)) (rp3.mpr ⟨q9, _, _, _, rfl, upd_same, .non, .non, rz3.mono s9.tk⟩)
    · intro H2 xr k2 a2 rr
      obtain ⟨g1, g2, g3⟩ := plc_low hS.g5 e er hwf.1 hS.b5
      have t2 := hS.tk k2
      have S2 := hS.kp k2 a2
      obtain ⟨vs2, eb2, rb2⟩ := S2.bs
      have hlen2 := rpa_len rb2
      rw [List.length_map] at hlen2
      obtain ⟨c, z1, z2, z3, rfl, ec, rz1, rz2, rz3⟩ := rp3.mp rr
      obtain rfl := rp_non.mp rz3
      refine ⟨c, _, rfl, SqT.of ec, rfl, _, _, rfl, _, _, rfl, _, _, rfl, rfl, ?_⟩
      refine ⟨_, rfl, rfl, _, rfl, iteF ?_⟩
      rw [fin_bind] at h
      refine ⟨_, rfl, rfl, _, rfl, iteF ⟨sz0, fun q2 hq2 => ?_⟩⟩
      have s2 := same_new hq2 (.lst [])
      refine ⟨_, rfl, _, rfl, 1, rfl, a, _, -1, _, rfl, rfl, SqT.of (s2 _ _ (t2 _ _ ea)), rfl, _, rfl, _, rfl, b, q2, vs2, [], rfl, rfl, s2 _ _ eb2, upd_same, by rw [sizeLine_eq, List.length_nil]; omega, fun q3 hq3 => ?_⟩
      have s3 := same_new hq3 (.lst (vs2 ++ []))
      have s13 := s2.trans s3
      have hb' : BAt _ q3 B := ⟨vs2, by rw [List.append_nil]; exact upd_same, RpAll.mono s13.tk rb2⟩
      have S3 := (S2.same s13).other hb' S2.b5
      have t3 := t2.trans' s13.tk
      refine ⟨p, y2, q3, fa, s', r.2.2, B, G, f, rfl, ⟨S3, r2.mono t3, hwf.2, by omega, by omega, by omega⟩, ?_⟩
      have k13 := k2.trans (Kp.of s13)
      refine fin_mono h (fun q eq h => ?_) (fun er _ h => ?_)
      · intro H5 x5 k5 a5 rr5
        have t5 := S3.tk k5
        obtain ⟨c5, u1, u2, u3, rfl, ec5, ru1, ru2, ru3⟩ := rp3.mp rr5
        obtain rfl := rp_non.mp ru3
        refine ⟨c5, _, rfl, SqT.of ec5, rfl, _, _, rfl, _, _, rfl, _, _, rfl, rfl, ?_⟩
        refine ⟨_, rfl, rfl, _, rfl, iteT ⟨_, rfl, 2, rfl, -2, rfl, sl_use (t5 _ _ (t3 _ _ ea)) (by rfl) fun q5 H6 s5 e5 => ⟨_, rfl, _, rfl, sz2, fun q6 hq6 => cat_use (xs := [.str "do"]) (ys := [z1, u1]) ((same_new hq6 _) _ _ e5) upd_same (show 3 ≤ 1000 by decide) fun q7 H7 s7 e7 => ⟨_, rfl, sz3, fun q8 hq8 => ?_⟩⟩⟩⟩
        have s57 := s5.trans ((same_new hq6 (.tup [z1, u1])).trans s7)
        have s8 := same_new hq8 (.tup [.ref q7, u2, .non])
        have s58 := s57.trans s8
        have t17 := s13.tk.trans' (t5.trans' s58.tk)
        exact h _ _ (k13.trans (k5.trans (Kp.of s58))) (a5.same s58) (rp3.mpr ⟨q8, _, _, _, rfl, upd_same, rp3.mpr ⟨q7, _, _, _, rfl, s8 _ _ e7, .str _, rz1.mono t17, ru1.mono s58.tk⟩, ru2.mono s58.tk, .non⟩)
      · intro H5 x5 k5 rr5
        obtain ⟨c9, u1, u2, u3, rfl, ec9, ru1, ru2, ru3⟩ := rp3.mp rr5
        obtain ⟨za, zs, rfl, ez⟩ := er_ref ru3
        refine ⟨c9, _, rfl, SqT.of ec9, rfl, _, _, rfl, _, _, rfl, _, _, rfl, rfl, ?_⟩
        refine ⟨_, rfl, rfl, _, rfl, iteF ⟨_, rfl, sz3, fun q9 hq9 => ?_⟩⟩
        have s9 := same_new hq9 (.tup [.non, .non, .ref za])
        exact h _ _ (k13.trans (k5.trans (Kp.of s9))) (rp3.mpr ⟨q9, _, _, _, rfl, upd_same, .non, .non, ru3.mono s9.tk⟩)
end
end Wt
/-! The law places: headed terms. -/
namespace Wt
open PySem PySem.Spec PyProof.Rows L2 RZ RT
section
variable {P : Program} {w : World} {K : PySem.W.Frag} {mg : Str → Option Value} {base : Heap}
theorem sc_law_place_headed : FnScope ["_law_state", "_law_piece", "_law_bound", "_law_word", "_law_first", "_law_form_here", "_law_wrong", "_law_second", "_law_given"] ["_law_state", "_law_piece", "_law_bound"] (defScope s_law_place_headed) := ⟨rfl, rfl, rfl, by decide +kernel, rfl, by decide +kernel, by decide +kernel⟩
theorem ok__law_place_headed (T : Facts w K mg) (N L : Nat) (hL : 10 ≤ L) (c_law_headed : Cl P w K mg base CX0 L "_law_headed" (spLHead N)) (c_law_aimed : Cl P w K mg base CX0 L "_law_aimed" (spLAimed N)) : Cl P w K mg base CX0 (L + 1) "_law_place_headed" (spLW N ["call", "read", "write", "same"]) := by
  obtain ⟨fd, F⟩ := T.f_law_place_headed
  refine ⟨_, fd, ["_law_state", "_law_piece", "_law_bound"], T.g_law_place_headed, ?_, F.kp, F.bindsN fun _ _ _ _ _ _ us hl => match us, hl with | [_, _, _], _ => rfl⟩
  refine F.ok sc_law_place_headed (fun vs H Q E h => ?_) (fun cdv A outer s H vs Q E hr h => ?_)
  · obtain ⟨p, v, b, fa, s, n, B, G, t, rfl, _⟩ := h
    rfl
  obtain ⟨p, v, b, fa, s', n, B, G, t, rfl, hw, J, hf⟩ := h
  refine ⟨_, PSs.nox (pss_cons (ps_set (i := 3) sc_law_place_headed.nd rfl (Or.inl rfl) (pe_ix ix_tup (pv 1) pe_int (fun _ _ => rfl)))
    (pss_cons (ps_asg (pe_cl c_law_headed hr (by omega) pass0 (pa_cons (pv 0) (pa_cons (pe_ix ix_tup (pv 1) pe_int (fun _ _ => rfl)) (pa_cons (pv 2) (pa_cons (pe_ifExp (pt_cmpR op_eq (pv 3) pe_str (nomark _)) pe_str pe_str) pa_nil))))) (pg_tup (by rfl) (pgs_cons (pg_name (i := 4) sc_law_place_headed.nd rfl (Or.inl rfl)) (pgs_cons (pg_name (i := 5) sc_law_place_headed.nd rfl (Or.inl rfl)) (pgs_cons (pg_name (i := 6) sc_law_place_headed.nd rfl (Or.inl rfl)) pgs_nil)))))
    (pss_cons (ps_if (pt_cmpR op_notN (pv 6) pe_non (nomark _)) (pss_one (ps_ret (pe_tup (pa_cons pe_non (pa_cons pe_non (pa_cons (pv 6) pa_nil)))))) pss_nil)
    (pss_cons (ps_if (pt_cmpR op_eq (pv 3) pe_str (nomark _)) (pss_one (ps_ret (pe_tup (pa_cons (pe_tup (pa_cons (pv 3) (pa_cons (pv 4) pa_nil))) (pa_cons (pe_ix ix_tup (pv 5) pe_int (fun _ _ => rfl)) (pa_cons pe_non pa_nil)))))) pss_nil)
    (pss_cons (ps_if (pt_cmpR op_eq (pv 3) pe_str (nomark _)) (pss_one (ps_asg (pe_cl c_law_headed hr (by omega) pass0 (pa_cons (pv 0) (pa_cons (pe_ix ix_tup (pv 1) pe_int (fun _ _ => rfl)) (pa_cons (pv 2) (pa_cons pe_str pa_nil))))) (pg_tup (by rfl) (pgs_cons (pg_name (i := 7) sc_law_place_headed.nd rfl (Or.inl rfl)) (pgs_cons (pg_name (i := 8) sc_law_place_headed.nd rfl (Or.inl rfl)) (pgs_cons (pg_name (i := 6) sc_law_place_headed.nd rfl (Or.inl rfl)) pgs_nil)))))) (pss_one (ps_asg (pe_cl c_law_aimed hr (by omega) pass0 (pa_cons (pv 0) (pa_cons (pe_ix ix_tup (pv 1) pe_int (fun _ _ => rfl)) (pa_cons (pv 2) (pa_cons (pe_ix ix_tup (pv 5) pe_int (fun _ _ => rfl)) pa_nil))))) (pg_tup (by rfl) (pgs_cons (pg_name (i := 7) sc_law_place_headed.nd rfl (Or.inl rfl)) (pgs_cons (pg_name (i := 6) sc_law_place_headed.nd rfl (Or.inl rfl)) pgs_nil))))))
    (pss_cons (ps_if (pt_cmpR op_notN (pv 6) pe_non (nomark _)) (pss_one (ps_ret (pe_tup (pa_cons pe_non (pa_cons pe_non (pa_cons (pv 6) pa_nil)))))) pss_nil)
    (pss_one (ps_ret (pe_tup (pa_cons (pe_tup (pa_cons (pv 3) (pa_cons (pv 4) (pa_cons (pv 7) pa_nil)))) (pa_cons (pe_ifExp (pt_cmpR op_eq (pv 3) pe_str (nomark _)) (pe_ix ix_tup (pv 5) pe_int (fun _ _ => rfl)) pe_str) (pa_cons pe_non pa_nil)))))))))))), ?_⟩
  have hJd := J.dep
  have hJc := J.cnt
  have hJl := J.len
  have hS := J.S
  have hwf := J.wf
  have hr' := J.r
  cases t <;> first | exact absurd hw (by simp only [Tm.wd]; decide) | skip
  · rename_i e f
    simp only [Tm.dep, Tm.nodes] at hJd hJc hJl
    obtain ⟨a, y1, y2, rfl, ea, r1, r2⟩ := rpw2.mp hr'
    refine ⟨_, rfl, a, _, 0, _, rfl, rfl, SqT.of ea, at0, _, rfl, _, rfl, a, _, 1, _, rfl, rfl, SqT.of ea, at1, _, rfl, _, rfl, rfl, _, rfl, iteT ?_⟩
    refine ⟨p, y1, b, _, Fm.dw, fa, s', n, B, G, e, rfl, ⟨hS, r1, hwf.1, by omega, by omega, by omega⟩, by omega, .inl ⟨rfl, rfl⟩, ?_⟩
    rw [plc] at hf
    refine fin_two hf (fun r f' er ew h => ?_) (fun er h => ?_)
    rotate_left
    · intro H4 xr d4 k4 rr
      obtain ⟨c9, z1, z2, z3, rfl, ec9, rz1, rz2, rz3⟩ := rp3.mp rr
      obtain ⟨za, zs, rfl, ez⟩ := er_ref rz3
      refine ⟨c9, _, rfl, SqT.of ec9, rfl, _, _, rfl, _, _, rfl, _, _, rfl, rfl, ?_⟩
      refine ⟨_, rfl, rfl, _, rfl, iteT ⟨_, rfl, sz3, fun q9 hq9 => ?_⟩⟩
      have s9 := same_new hq9 (.tup [.non, .non, .ref za])
      exact h _ _ (k4.trans (Kp.of s9)) (rp3.mpr ⟨q9, _, _, _, rfl, upd_same, .non, .non, rz3.mono s9.tk⟩)
    intro H2 xr k2 a2 rr
    obtain ⟨g1, g2, g3⟩ := plc_low hS.g5 e er hwf.1 hS.b5
    have t2 := hS.tk k2
    have S2 := hS.kp k2 a2
    obtain ⟨c, z1, z2, z3, rfl, ec, rz1, rz2, rz3⟩ := rp3.mp rr
    obtain rfl := rp_non.mp rz3
    refine ⟨c, _, rfl, SqT.of ec, rfl, _, _, rfl, _, _, rfl, _, _, rfl, rfl, ?_⟩
    refine ⟨_, rfl, rfl, _, rfl, iteF ?_⟩
    obtain ⟨hc, u1, u2, rfl, eh, ru1, ru2⟩ := dw_parts rz2
    refine ⟨_, rfl, rfl, _, rfl, iteF ?_⟩
    refine ⟨_, rfl, rfl, _, rfl, iteF ⟨_, rfl, _, rfl, a, _, 2, _, rfl, rfl, SqT.of (t2 _ _ ea), at2, _, rfl, _, rfl, hc, _, 1, _, rfl, rfl, SqT.of eh, at1, ?_⟩⟩
    refine ⟨p, y2, b, u1, r.2.1.dw.arg, fa, s', r.2.2, B, G, f, rfl, ⟨S2, r2.mono t2, hwf.2, by omega, by omega, by omega⟩, by omega, ru1, by have := (dw_low g1).2.1; omega, ?_⟩
    refine fin_two h (fun q g' eq eg h => ?_) (fun er h => ?_)
    rotate_left
    · intro H5 x5 k5 rr5
      obtain ⟨c9, w1, w3, rfl, ec9, rw1, rw3⟩ := rp2.mp rr5
      obtain ⟨za, zs, rfl, ez⟩ := er_ref rw3
      refine ⟨c9, _, rfl, SqT.of ec9, rfl, _, _, rfl, _, _, rfl, rfl, ?_⟩
      refine ⟨_, rfl, rfl, _, rfl, iteT ⟨_, rfl, sz3, fun q9 hq9 => ?_⟩⟩
      have s9 := same_new hq9 (.tup [.non, .non, .ref za])
      exact h _ _ (k2.trans (k5.trans (Kp.of s9))) (rp3.mpr ⟨q9, _, _, _, rfl, upd_same, .non, .non, rw3.mono s9.tk⟩)
    intro H5 x5 k5 a5 rr5
    have t5 := S2.tk k5
    obtain ⟨c9, w1, w3, rfl, ec9, rw1, rw3⟩ := rp2.mp rr5
    obtain rfl := rp_non.mp rw3
    refine ⟨c9, _, rfl, SqT.of ec9, rfl, _, _, rfl, _, _, rfl, rfl, ?_⟩
    refine ⟨_, rfl, rfl, _, rfl, iteF ⟨_, rfl, _, rfl, _, rfl, sz3, fun q1 hq1 => ?_⟩⟩
    have s1 := same_new hq1 (.tup [.str "call", z1, w1])
    refine ⟨_, rfl, rfl, _, rfl, iteT ⟨_, rfl, hc, _, 2, _, rfl, rfl, SqT.of (s1 _ _ (t5 _ _ eh)), at2, sz3, fun q2 hq2 => ?_⟩⟩
    have s2 := same_new hq2 (.tup [.ref q1, u2, .non])
    have s12 := s1.trans s2
    have t35 := t5.trans' s12.tk
    exact h _ _ (k2.trans (k5.trans (Kp.of s12))) (a5.same s12) (rp3.mpr ⟨q2, _, _, _, rfl, upd_same, rp3.mpr ⟨q1, _, _, _, rfl, s2 _ _ upd_same, .str _, rz1.mono t35, rw1.mono s12.tk⟩, ru2.mono t35, .non⟩)
  · rename_i e
    simp only [Tm.dep, Tm.nodes] at hJd hJc hJl
    obtain ⟨a, y1, rfl, ea, r1⟩ := rpw1.mp hr'
    refine ⟨_, rfl, a, _, 0, _, rfl, rfl, SqT.of ea, at0, _, rfl, _, rfl, a, _, 1, _, rfl, rfl, SqT.of ea, at1, _, rfl, _, rfl, rfl, _, rfl, iteF ?_⟩
    refine ⟨p, y1, b, _, Fm.bw, fa, s', n, B, G, e, rfl, ⟨hS, r1, hwf, by omega, by omega, by omega⟩, by omega, .inr ⟨rfl, rfl⟩, ?_⟩
    rw [plc] at hf
    refine fin_two hf (fun r f' er ew h => ?_) (fun er h => ?_)
    rotate_left
    · intro H4 xr d4 k4 rr
      obtain ⟨c9, z1, z2, z3, rfl, ec9, rz1, rz2, rz3⟩ := rp3.mp rr
      obtain ⟨za, zs, rfl, ez⟩ := er_ref rz3
      refine ⟨c9, _, rfl, SqT.of ec9, rfl, _, _, rfl, _, _, rfl, _, _, rfl, rfl, ?_⟩
      refine ⟨_, rfl, rfl, _, rfl, iteT ⟨_, rfl, sz3, fun q9 hq9 => ?_⟩⟩
      have s9 := same_new hq9 (.tup [.non, .non, .ref za])
      exact h _ _ (k4.trans (Kp.of s9)) (rp3.mpr ⟨q9, _, _, _, rfl, upd_same, .non, .non, rz3.mono s9.tk⟩)
    intro H2 xr k2 a2 rr
    obtain ⟨g1, g2, g3⟩ := plc_low hS.g5 e er hwf hS.b5
    have t2 := hS.tk k2
    have S2 := hS.kp k2 a2
    obtain ⟨c, z1, z2, z3, rfl, ec, rz1, rz2, rz3⟩ := rp3.mp rr
    obtain rfl := rp_non.mp rz3
    refine ⟨c, _, rfl, SqT.of ec, rfl, _, _, rfl, _, _, rfl, _, _, rfl, rfl, ?_⟩
    refine ⟨_, rfl, rfl, _, rfl, iteF ?_⟩
    obtain ⟨hc, u1, rfl, eh, ru1⟩ := bw_parts rz2
    refine ⟨_, rfl, rfl, _, rfl, iteT ⟨_, rfl, _, rfl, sz2, fun q1 hq1 => ⟨_, rfl, hc, _, 1, _, rfl, rfl, SqT.of ((same_new hq1 _) _ _ eh), at1, sz3, fun q2 hq2 => ?_⟩⟩⟩
    have s1 := same_new hq1 (.tup [.str "read", z1])
    have s2 := same_new hq2 (.tup [.ref q1, u1, .non])
    have s12 := s1.trans s2
    exact h _ _ (k2.trans (Kp.of s12)) (a2.same s12) (rp3.mpr ⟨q2, _, _, _, rfl, upd_same, rp2.mpr ⟨q1, _, _, rfl, s2 _ _ upd_same, .str _, rz1.mono s12.tk⟩, ru1.mono s12.tk, .non⟩)
  · rename_i e f
    simp only [Tm.dep, Tm.nodes] at hJd hJc hJl
    obtain ⟨a, y1, y2, rfl, ea, r1, r2⟩ := rpw2.mp hr'
    refine ⟨_, rfl, a, _, 0, _, rfl, rfl, SqT.of ea, at0, _, rfl, _, rfl, a, _, 1, _, rfl, rfl, SqT.of ea, at1, _, rfl, _, rfl, rfl, _, rfl, iteF ?_⟩
    refine ⟨p, y1, b, _, Fm.bw, fa, s', n, B, G, e, rfl, ⟨hS, r1, hwf.1, by omega, by omega, by omega⟩, by omega, .inr ⟨rfl, rfl⟩, ?_⟩
    rw [plc] at hf
    refine fin_two hf (fun r f' er ew h => ?_) (fun er h => ?_)
    rotate_left
    · intro H4 xr d4 k4 rr
      obtain ⟨c9, z1, z2, z3, rfl, ec9, rz1, rz2, rz3⟩ := rp3.mp rr
      obtain ⟨za, zs, rfl, ez⟩ := er_ref rz3
      refine ⟨c9, _, rfl, SqT.of ec9, rfl, _, _, rfl, _, _, rfl, _, _, rfl, rfl, ?_⟩
      refine ⟨_, rfl, rfl, _, rfl, iteT ⟨_, rfl, sz3, fun q9 hq9 => ?_⟩⟩
      have s9 := same_new hq9 (.tup [.non, .non, .ref za])
      exact h _ _ (k4.trans (Kp.of s9)) (rp3.mpr ⟨q9, _, _, _, rfl, upd_same, .non, .non, rz3.mono s9.tk⟩)
    intro H2 xr k2 a2 rr
    obtain ⟨g1, g2, g3⟩ := plc_low hS.g5 e er hwf.1 hS.b5
    have t2 := hS.tk k2
    have S2 := hS.kp k2 a2
    obtain ⟨c, z1, z2, z3, rfl, ec, rz1, rz2, rz3⟩ := rp3.mp rr
    obtain rfl := rp_non.mp rz3
    refine ⟨c, _, rfl, SqT.of ec, rfl, _, _, rfl, _, _, rfl, _, _, rfl, rfl, ?_⟩
    refine ⟨_, rfl, rfl, _, rfl, iteF ?_⟩
    obtain ⟨hc, u1, rfl, eh, ru1⟩ := bw_parts rz2
    refine ⟨_, rfl, rfl, _, rfl, iteF ?_⟩
    refine ⟨_, rfl, rfl, _, rfl, iteF ⟨_, rfl, _, rfl, a, _, 2, _, rfl, rfl, SqT.of (t2 _ _ ea), at2, _, rfl, _, rfl, hc, _, 1, _, rfl, rfl, SqT.of eh, at1, ?_⟩⟩
    refine ⟨p, y2, b, u1, r.2.1.bw.arg, fa, s', r.2.2, B, G, f, rfl, ⟨S2, r2.mono t2, hwf.2, by omega, by omega, by omega⟩, by omega, ru1, by have := (bw_low g1).2; omega, ?_⟩
    refine fin_two h (fun q g' eq eg h => ?_) (fun er h => ?_)
    rotate_left
    · intro H5 x5 k5 rr5
      obtain ⟨c9, w1, w3, rfl, ec9, rw1, rw3⟩ := rp2.mp rr5
      obtain ⟨za, zs, rfl, ez⟩ := er_ref rw3
      refine ⟨c9, _, rfl, SqT.of ec9, rfl, _, _, rfl, _, _, rfl, rfl, ?_⟩
      refine ⟨_, rfl, rfl, _, rfl, iteT ⟨_, rfl, sz3, fun q9 hq9 => ?_⟩⟩
      have s9 := same_new hq9 (.tup [.non, .non, .ref za])
      exact h _ _ (k2.trans (k5.trans (Kp.of s9))) (rp3.mpr ⟨q9, _, _, _, rfl, upd_same, .non, .non, rw3.mono s9.tk⟩)
    intro H5 x5 k5 a5 rr5
    have t5 := S2.tk k5
    obtain ⟨c9, w1, w3, rfl, ec9, rw1, rw3⟩ := rp2.mp rr5
    obtain rfl := rp_non.mp rw3
    refine ⟨c9, _, rfl, SqT.of ec9, rfl, _, _, rfl, _, _, rfl, rfl, ?_⟩
    refine ⟨_, rfl, rfl, _, rfl, iteF ⟨_, rfl, _, rfl, _, rfl, sz3, fun q1 hq1 => ?_⟩⟩
    have s1 := same_new hq1 (.tup [.str "write", z1, w1])
    refine ⟨_, rfl, rfl, _, rfl, iteF ⟨sz3, fun q2 hq2 => ?_⟩⟩
    have s2 := same_new hq2 (.tup [.ref q1, .str "num", .non])
    have s12 := s1.trans s2
    have t35 := t5.trans' s12.tk
    exact h _ _ (k2.trans (k5.trans (Kp.of s12))) (a5.same s12) (rp3.mpr ⟨q2, _, _, _, rfl, upd_same, rp3.mpr ⟨q1, _, _, _, rfl, s2 _ _ upd_same, .str _, rz1.mono t35, rw1.mono s12.tk⟩, .str _, .non⟩)
  · rename_i e f
    simp only [Tm.dep, Tm.nodes] at hJd hJc hJl
    obtain ⟨a, y1, y2, rfl, ea, r1, r2⟩ := rpw2.mp hr'
    refine ⟨_, rfl, a, _, 0, _, rfl, rfl, SqT.of ea, at0, _, rfl, _, rfl, a, _, 1, _, rfl, rfl, SqT.of ea, at1, _, rfl, _, rfl, rfl, _, rfl, iteF ?_⟩
    refine ⟨p, y1, b, _, Fm.bw, fa, s', n, B, G, e, rfl, ⟨hS, r1, hwf.1, by omega, by omega, by omega⟩, by omega, .inr ⟨rfl, rfl⟩, ?_⟩
    rw [plc] at hf
    refine fin_two hf (fun r f' er ew h => ?_) (fun er h => ?_)
    rotate_left
    · intro H4 xr d4 k4 rr
      obtain ⟨c9, z1, z2, z3, rfl, ec9, rz1, rz2, rz3⟩ := rp3.mp rr
      obtain ⟨za, zs, rfl, ez⟩ := er_ref rz3
      refine ⟨c9, _, rfl, SqT.of ec9, rfl, _, _, rfl, _, _, rfl, _, _, rfl, rfl, ?_⟩
      refine ⟨_, rfl, rfl, _, rfl, iteT ⟨_, rfl, sz3, fun q9 hq9 => ?_⟩⟩
      have s9 := same_new hq9 (.tup [.non, .non, .ref za])
      exact h _ _ (k4.trans (Kp.of s9)) (rp3.mpr ⟨q9, _, _, _, rfl, upd_same, .non, .non, rz3.mono s9.tk⟩)
    intro H2 xr k2 a2 rr
    obtain ⟨g1, g2, g3⟩ := plc_low hS.g5 e er hwf.1 hS.b5
    have t2 := hS.tk k2
    have S2 := hS.kp k2 a2
    obtain ⟨c, z1, z2, z3, rfl, ec, rz1, rz2, rz3⟩ := rp3.mp rr
    obtain rfl := rp_non.mp rz3
    refine ⟨c, _, rfl, SqT.of ec, rfl, _, _, rfl, _, _, rfl, _, _, rfl, rfl, ?_⟩
    refine ⟨_, rfl, rfl, _, rfl, iteF ?_⟩
    obtain ⟨hc, u1, rfl, eh, ru1⟩ := bw_parts rz2
    refine ⟨_, rfl, rfl, _, rfl, iteF ?_⟩
    refine ⟨_, rfl, rfl, _, rfl, iteT ⟨_, rfl, _, rfl, a, _, 2, _, rfl, rfl, SqT.of (t2 _ _ ea), at2, _, rfl, ?_⟩⟩
    refine ⟨p, y2, b, _, Fm.bw, fa, s', r.2.2, B, G, f, rfl, ⟨S2, r2.mono t2, hwf.2, by omega, by omega, by omega⟩, by omega, .inr ⟨rfl, rfl⟩, ?_⟩
    refine fin_two h (fun q g' eq eg h => ?_) (fun er h => ?_)
    rotate_left
    · intro H5 x5 d5 k5 rr5
      obtain ⟨c9, w1, w2, w3, rfl, ec9, rw1, rw2, rw3⟩ := rp3.mp rr5
      obtain ⟨za, zs, rfl, ez⟩ := er_ref rw3
      refine ⟨c9, _, rfl, SqT.of ec9, rfl, _, _, rfl, _, _, rfl, _, _, rfl, rfl, ?_⟩
      refine ⟨_, rfl, rfl, _, rfl, iteT ⟨_, rfl, sz3, fun q9 hq9 => ?_⟩⟩
      have s9 := same_new hq9 (.tup [.non, .non, .ref za])
      exact h _ _ (k2.trans (k5.trans (Kp.of s9))) (rp3.mpr ⟨q9, _, _, _, rfl, upd_same, .non, .non, rw3.mono s9.tk⟩)
    intro H5 x5 k5 a5 rr5
    have t5 := S2.tk k5
    obtain ⟨c9, w1, w2, w3, rfl, ec9, rw1, rw2, rw3⟩ := rp3.mp rr5
    obtain rfl := rp_non.mp rw3
    refine ⟨c9, _, rfl, SqT.of ec9, rfl, _, _, rfl, _, _, rfl, _, _, rfl, rfl, ?_⟩
    refine ⟨_, rfl, rfl, _, rfl, iteF ⟨_, rfl, _, rfl, _, rfl, sz3, fun q1 hq1 => ?_⟩⟩
    have s1 := same_new hq1 (.tup [.str "same", z1, w1])
    refine ⟨_, rfl, rfl, _, rfl, iteF ⟨sz3, fun q2 hq2 => ?_⟩⟩
    have s2 := same_new hq2 (.tup [.ref q1, .str "num", .non])
    have s12 := s1.trans s2
    have t35 := t5.trans' s12.tk
    exact h _ _ (k2.trans (k5.trans (Kp.of s12))) (a5.same s12) (rp3.mpr ⟨q2, _, _, _, rfl, upd_same, rp3.mpr ⟨q1, _, _, _, rfl, s2 _ _ upd_same, .str _, rz1.mono t35, rw1.mono s12.tk⟩, .str _, .non⟩)
end
end Wt
/-! The law places: a choice. -/
namespace Wt
open PySem PySem.Spec PyProof.Rows L2 RZ RT
section
variable {P : Program} {w : World} {K : PySem.W.Frag} {mg : Str → Option Value} {base : Heap}
theorem sc_law_place_choice : FnScope ["_law_state", "_law_piece", "_law_bound", "_law_first", "_law_wrong", "_law_left", "_law_right", "_law_form_here"] ["_law_state", "_law_piece", "_law_bound"] (defScope s_law_place_choice) := ⟨rfl, rfl, rfl, by decide +kernel, rfl, by decide +kernel, by decide +kernel⟩
theorem ok__law_place_choice (T : Facts w K mg) (N L : Nat) (hL : 10 ≤ L) (c_law_begun : Cl P w K mg base CX0 L "_law_begun" (spLBegun N)) (c_law_aimed : Cl P w K mg base CX0 L "_law_aimed" (spLAimed N)) : Cl P w K mg base CX0 (L + 1) "_law_place_choice" (spLW N ["if"]) := by
  have c_law_is_near := ok__law_is_near (P := P) (base := base) T 7
  have c_law_joint := ok__law_joint (P := P) (base := base) T 7
  have c_law_fenced := ok__law_fenced (P := P) (base := base) T
  obtain ⟨fd, F⟩ := T.f_law_place_choice
  refine ⟨_, fd, ["_law_state", "_law_piece", "_law_bound"], T.g_law_place_choice, ?_, F.kp, F.bindsN fun _ _ _ _ _ _ us hl => match us, hl with | [_, _, _], _ => rfl⟩
  refine F.ok sc_law_place_choice (fun vs H Q E h => ?_) (fun cdv A outer s H vs Q E hr h => ?_)
  · obtain ⟨p, v, b, fa, s, n, B, G, t, rfl, _⟩ := h
    rfl
  obtain ⟨p, v, b, fa, s', n, B, G, t, rfl, hw, J, hf⟩ := h
  refine ⟨_, PSs.nox (pss_cons (ps_asg (pe_cl c_law_aimed hr (by omega) pass0 (pa_cons (pv 0) (pa_cons (pe_ix ix_tup (pv 1) pe_int (fun _ _ => rfl)) (pa_cons (pv 2) (pa_cons pe_str pa_nil))))) (pg_tup (by rfl) (pgs_cons (pg_name (i := 3) sc_law_place_choice.nd rfl (Or.inl rfl)) (pgs_cons (pg_name (i := 4) sc_law_place_choice.nd rfl (Or.inl rfl)) pgs_nil))))
    (pss_cons (ps_if (pt_cmpR op_notN (pv 4) pe_non (nomark _)) (pss_one (ps_ret (pe_tup (pa_cons pe_non (pa_cons pe_non (pa_cons (pv 4) pa_nil)))))) pss_nil)
    (pss_cons (ps_set (i := 5) sc_law_place_choice.nd rfl (Or.inl rfl) (pe_cl c_law_begun hr (by omega) pass0 (pa_cons (pv 0) (pa_cons (pe_ix ix_tup (pv 1) pe_int (fun _ _ => rfl)) (pa_cons (pv 2) pa_nil)))))
    (pss_cons (ps_if (pt_cmpR op_notN (pe_ix ix_tup (pv 5) pe_int (fun _ _ => rfl)) pe_non (nomark _)) (pss_one (ps_ret (pe_tup (pa_cons pe_non (pa_cons pe_non (pa_cons (pe_ix ix_tup (pv 5) pe_int (fun _ _ => rfl)) pa_nil)))))) pss_nil)
    (pss_cons (ps_set (i := 6) sc_law_place_choice.nd rfl (Or.inl rfl) (pe_cl c_law_begun hr (by omega) pass0 (pa_cons (pv 0) (pa_cons (pe_ix ix_tup (pv 1) pe_int (fun _ _ => rfl)) (pa_cons (pv 2) pa_nil)))))
    (pss_cons (ps_if (pt_cmpR op_notN (pe_ix ix_tup (pv 6) pe_int (fun _ _ => rfl)) pe_non (nomark _)) (pss_one (ps_ret (pe_tup (pa_cons pe_non (pa_cons pe_non (pa_cons (pe_ix ix_tup (pv 6) pe_int (fun _ _ => rfl)) pa_nil)))))) pss_nil)
    (pss_cons (ps_if (pt_not (pt_val (pe_cl c_law_is_near hr (by omega) pass0 (pa_cons (pe_ix ix_tup (pv 5) pe_int (fun _ _ => rfl)) (pa_cons (pe_ix ix_tup (pv 6) pe_int (fun _ _ => rfl)) pa_nil))))) (pss_one (ps_ret (pe_tup (pa_cons pe_non (pa_cons pe_non (pa_cons (pe_tup (pa_cons pe_str (pa_cons (pe_ix ix_tup (pv 6) pe_int (fun _ _ => rfl)) pa_nil))) pa_nil)))))) pss_nil)
    (pss_cons (ps_set (i := 7) sc_law_place_choice.nd rfl (Or.inl rfl) (pe_cl c_law_joint hr (by omega) pass0 (pa_cons (pe_ix ix_tup (pv 5) pe_int (fun _ _ => rfl)) (pa_cons (pe_ix ix_tup (pv 6) pe_int (fun _ _ => rfl)) pa_nil))))
    (pss_one (ps_ret (pe_tup (pa_cons (pe_tup (pa_cons pe_str (pa_cons (pv 3) (pa_cons (pe_ix ix_tup (pe_cl c_law_fenced hr (by omega) pass0 (pa_cons (pv 5) (pa_cons (pv 7) pa_nil))) pe_int (fun _ _ => rfl)) (pa_cons (pe_ix ix_tup (pe_cl c_law_fenced hr (by omega) pass0 (pa_cons (pv 6) (pa_cons (pv 7) pa_nil))) pe_int (fun _ _ => rfl)) pa_nil))))) (pa_cons (pv 7) (pa_cons pe_non pa_nil)))))))))))))), ?_⟩
  have hJd := J.dep
  have hJc := J.cnt
  have hJl := J.len
  have hS := J.S
  have hwf := J.wf
  have hr' := J.r
  cases t <;> first | exact absurd hw (by simp only [Tm.wd]; decide) | skip
  rename_i c e f
  simp only [Tm.dep, Tm.nodes] at hJd hJc hJl
  obtain ⟨a, y0, y1, y2, rfl, ea, r0, r1, r2⟩ := rpw3.mp hr'
  rw [plc] at hf
  refine ⟨_, rfl, _, rfl, a, _, 1, _, rfl, rfl, SqT.of ea, at1, _, rfl, ?_⟩
  refine ⟨p, y0, b, .str "num", .num, fa, s', n, B, G, c, rfl, ⟨hS, r0, hwf.1, by omega, by omega, by omega⟩, by omega, .str _, by decide, ?_⟩
  refine fin_two hf (fun r t' er et h => ?_) (fun er h => ?_)
  rotate_left
  · intro H5 x5 k5 rr5
    obtain ⟨c9, w1, w3, rfl, ec9, rw1, rw3⟩ := rp2.mp rr5
    obtain ⟨za, zs, rfl, ez⟩ := er_ref rw3
    refine ⟨c9, _, rfl, SqT.of ec9, rfl, _, _, rfl, _, _, rfl, rfl, ?_⟩
    refine ⟨_, rfl, rfl, _, rfl, iteT ⟨_, rfl, sz3, fun q9 hq9 => ?_⟩⟩
    have s9 := same_new hq9 (.tup [.non, .non, .ref za])
    exact h _ _ (k5.trans (Kp.of s9)) (rp3.mpr ⟨q9, _, _, _, rfl, upd_same, .non, .non, rw3.mono s9.tk⟩)
  intro H2 x2 k2 a2 rr2
  obtain ⟨c9, w1, w3, rfl, ec9, rw1, rw3⟩ := rp2.mp rr2
  obtain rfl := rp_non.mp rw3
  refine ⟨c9, _, rfl, SqT.of ec9, rfl, _, _, rfl, _, _, rfl, rfl, ?_⟩
  refine ⟨_, rfl, rfl, _, rfl, iteF ?_⟩
  obtain ⟨g1, g2, g3⟩ := plc_low hS.g5 c er hwf.1 hS.b5
  have t2 := hS.tk k2
  have S2 := hS.kp k2 a2
  rw [fin_bind] at h
  refine ⟨_, rfl, _, rfl, a, _, 2, _, rfl, rfl, SqT.of (t2 _ _ ea), at2, _, rfl, ?_⟩
  refine ⟨p, y1, b, fa, s', r.2.2, B, G, e, rfl, ⟨S2, r1.mono t2, hwf.2.1, by omega, by omega, by omega⟩, by omega, ?_⟩
  refine fin_mono h (fun q eq h => ?_) (fun er _ h => ?_)
  rotate_left
  · intro H5 x5 k5 rr5
    obtain ⟨c9, z0, z1, z2, z3, rfl, ec9, rz0, rz1, rz2, rz3⟩ := rp4.mp rr5
    obtain ⟨za, zs, rfl, ez⟩ := er_ref rz3
    refine ⟨_, rfl, c9, _, 3, _, rfl, rfl, SqT.of ec9, at3, rfl, _, rfl, iteT ⟨_, rfl, c9, _, 3, _, rfl, rfl, SqT.of ec9, at3, sz3, fun q9 hq9 => ?_⟩⟩
    have s9 := same_new hq9 (.tup [.non, .non, .ref za])
    exact h _ _ (k2.trans (k5.trans (Kp.of s9))) (rp3.mpr ⟨q9, _, _, _, rfl, upd_same, .non, .non, rz3.mono s9.tk⟩)
  intro H3 x3 k3 a3 rr3
  obtain ⟨b1, z0, z1, z2, z3, rfl, eb1, rz0, rz1, rz2, rz3⟩ := rp4.mp rr3
  obtain rfl := rp_str.mp rz0
  obtain rfl := rp_non.mp rz3
  refine ⟨_, rfl, b1, _, 3, _, rfl, rfl, SqT.of eb1, at3, rfl, _, rfl, iteF ?_⟩
  obtain ⟨e1, e2, e3⟩ := plc_low hS.g5 e eq hwf.2.1 hS.b5
  have t3 := S2.tk k3
  have S3 := S2.kp k3 a3
  rw [fin_bind] at h
  refine ⟨_, rfl, _, rfl, a, _, 3, _, rfl, rfl, SqT.of (t3 _ _ (t2 _ _ ea)), at3, _, rfl, ?_⟩
  refine ⟨p, y2, b, fa, s', q.2.2, B, G, f, rfl, ⟨S3, (r2.mono t2).mono t3, hwf.2.2, by omega, by omega, by omega⟩, by omega, ?_⟩
  refine fin_mono h (fun u eu h => ?_) (fun er _ h => ?_)
  rotate_left
  · intro H5 x5 k5 rr5
    obtain ⟨c9, z0, z1', z2', z3, rfl, ec9, rz0, rz1', rz2', rz3⟩ := rp4.mp rr5
    obtain ⟨za, zs, rfl, ez⟩ := er_ref rz3
    refine ⟨_, rfl, c9, _, 3, _, rfl, rfl, SqT.of ec9, at3, rfl, _, rfl, iteT ⟨_, rfl, c9, _, 3, _, rfl, rfl, SqT.of ec9, at3, sz3, fun q9 hq9 => ?_⟩⟩
    have s9 := same_new hq9 (.tup [.non, .non, .ref za])
    exact h _ _ (k2.trans (k3.trans (k5.trans (Kp.of s9)))) (rp3.mpr ⟨q9, _, _, _, rfl, upd_same, .non, .non, rz3.mono s9.tk⟩)
  intro H4 x4 k4 a4 rr4
  obtain ⟨b2, u0, u1, u2, u3, rfl, eb2, ru0, ru1, ru2, ru3⟩ := rp4.mp rr4
  obtain rfl := rp_str.mp ru0
  obtain rfl := rp_non.mp ru3
  refine ⟨_, rfl, b2, _, 3, _, rfl, rfl, SqT.of eb2, at3, rfl, _, rfl, iteF ?_⟩
  obtain ⟨f1, f2, f3⟩ := plc_low hS.g5 f eu hwf.2.2 hS.b5
  have t4 := S3.tk k4
  have k24 := k2.trans (k3.trans k4)
  refine ⟨_, rfl, b1, _, 2, z2, rfl, rfl, SqT.of (t4 _ _ eb1), at2, _, rfl, b2, _, 2, u2, rfl, rfl, SqT.of eb2, at2, ?_⟩
  refine ⟨z2, u2, q.2.1, u.2.1, rfl, rz2.mono t4, ru2, by omega, by omega, by omega, fun H5 s5 => ⟨_, rfl, ?_⟩⟩
  cases hn : Fm.near q.2.1 u.2.1 with
  | false =>
    rw [if_neg (by rw [hn]; exact Bool.false_ne_true)] at h
    refine iteT ⟨_, rfl, b2, _, 0, _, rfl, rfl, SqT.of (s5 _ _ eb2), at0, sz2, fun q1 hq1 => ⟨sz3, fun q2 hq2 => ?_⟩⟩
    have s6 := same_new hq1 (.tup [.str "let", .str (mkM s' (q.2.2 + 1))])
    have s7 := same_new hq2 (.tup [.non, .non, .ref q1])
    exact h _ _ (k24.trans (Kp.of (s5.trans (s6.trans s7)))) (rp3.mpr ⟨q2, _, _, _, rfl, upd_same, .non, .non, rp2.mpr ⟨q1, _, _, rfl, s7 _ _ upd_same, .str _, .str _⟩⟩)
  | true =>
    rw [if_pos hn] at h
    refine iteF ⟨_, rfl, b1, _, 2, z2, rfl, rfl, SqT.of (s5 _ _ (t4 _ _ eb1)), at2, _, rfl, b2, _, 2, u2, rfl, rfl, SqT.of (s5 _ _ eb2), at2, ?_⟩
    refine ⟨z2, u2, q.2.1, u.2.1, rfl, (rz2.mono t4).mono s5.tk, ru2.mono s5.tk, hn, by omega, by omega, by omega, fun H6 fm s6 rfm => ?_⟩
    obtain ⟨n1, n2⟩ := Fm.near_met q.2.1 u.2.1 hn
    have hmt := Fm.met_ht q.2.1 u.2.1
    obtain ⟨e', he'⟩ := walled_near (m := mkM s' (r.2.2 + 1)) (t := q.1) n1
    obtain ⟨f', hf'⟩ := walled_near (m := mkM s' (q.2.2 + 1)) (t := u.1) n2
    rw [he', hf'] at h
    have s56 := s5.trans s6
    have t46 := t4.trans' s56.tk
    refine ⟨_, rfl, _, rfl, _, rfl, .inl ⟨b1, _, z1, z2, fm, q.1, q.2.1, Fm.met q.2.1 u.2.1, rfl, t46 _ _ eb1, rz1.mono t46, rz2.mono t46, rfm, by omega, by omega, ?_⟩⟩
    rw [he']
    intro H7 y7 s7 ry7
    obtain ⟨c7, g1, g2, rfl, ec7, rg1, rg2⟩ := rp2.mp ry7
    refine ⟨c7, _, 0, _, rfl, rfl, SqT.of ec7, at0, ?_⟩
    have s57 := s56.trans s7
    refine ⟨_, rfl, _, rfl, .inl ⟨b2, _, u1, u2, fm, u.1, u.2.1, Fm.met q.2.1 u.2.1, rfl, s57 _ _ eb2, ru1.mono s57.tk, ru2.mono s57.tk, rfm.mono s7.tk, by omega, by omega, ?_⟩⟩
    rw [hf']
    intro H8 y8 s8 ry8
    obtain ⟨c8, j1, j2, rfl, ec8, rj1, rj2⟩ := rp2.mp ry8
    refine ⟨c8, _, 0, _, rfl, rfl, SqT.of ec8, at0, sz4, fun q1 hq1 => ⟨_, rfl, sz3, fun q2 hq2 => ?_⟩⟩
    have s9 := same_new hq1 (.tup [.str "if", w1, g1, j1])
    have s10 := same_new hq2 (.tup [.ref q1, fm, .non])
    have s910 := s9.trans s10
    have s810 := s8.trans s910
    have s510 := s57.trans s810
    exact h _ _ (k24.trans (Kp.of s510)) (a4.same s510) (rp3.mpr ⟨q2, _, _, _, rfl, upd_same, rp4.mpr ⟨q1, _, _, _, _, rfl, s10 _ _ upd_same, .str _, rw1.mono (t3.trans' (t4.trans' s510.tk)), rg1.mono s810.tk, rj1.mono s910.tk⟩, rfm.mono (s7.trans s810).tk, .non⟩)
end
end Wt
set_option maxHeartbeats 8000000
/-! The law places. -/
namespace Wt
open PySem PySem.Spec PyProof.Rows L2 RZ RT
theorem LJob.same {H H' : Hp} {p b fa : Addr} {s : Str} {n : Nat} {B : Bd} {G : Str → Option Fm} {v : V} {t : Tm} {N : Nat} (J : LJob H p b fa s n B G v t N) (k : Same H H') : LJob H' p b fa s n B G v t N := ⟨J.S.same k, J.r.mono k.tk, J.wf, J.dep, J.cnt, J.len⟩
theorem LGood.same {p fa : Addr} {H H1 : Hp} {s : Str} {Q : VK} {r : Tm × Fm × Nat} (h : LGood p H s fa Q r) (k : Same H H1) : LGood p H1 s fa Q r := fun H' x k2 => h H' x ((Kp.of k).trans k2)
theorem LBad.same {p : Addr} {H H1 : Hp} {Q : VK} {e : Er} (h : LBad p H Q e) (k : Same H H1) : LBad p H1 Q e := fun H' x k2 => h H' x ((Kp.of k).trans k2)
theorem fin_same {p fa : Addr} {H H1 : Hp} {s : Str} {Q : VK} {A : Except Er (Tm × Fm × Nat)} (h : Fin A (LGood p H s fa Q) (LBad p H Q)) (k : Same H H1) : Fin A (LGood p H1 s fa Q) (LBad p H1 Q) := fin_mono h (fun _ _ h => h.same k) fun _ _ h => h.same k
/-- several parts, one by one, all wanted to be of one form -/
def seqM (G : Str → Option Fm) (s : Str) (B : Bd) (g : Fm) : Nat → List Tm → Except Er (List Tm × Nat)
  | n, [] => .ok ([], n)
  | n, e :: es => (plc G s B (n + 1) e).bind fun r => (walledM (mkM s (n + 1)) r.1 r.2.1 g).bind fun e' => (seqM G s B g r.2.2 es).bind fun q => .ok (e' :: q.1, q.2)
theorem fin_seq1 {G : Str → Option Fm} {s : Str} {B : Bd} {g : Fm} {n : Nat} {e : Tm} {good : Tm × Fm × Nat → Prop} {bad : Er → Prop} {k : Tm → Tm} (h : Fin ((plc G s B (n + 1) e).bind fun r => (walledM (mkM s (n + 1)) r.1 r.2.1 g).bind fun e' => .ok (k e', .num, r.2.2)) good bad) :
    Fin (seqM G s B g n [e]) (fun q => ∃ e', q.1 = [e'] ∧ good (k e', .num, q.2)) bad := by
  simp only [seqM, fin_bind] at h ⊢
  refine fin_mono h (fun r _ h => ?_) fun _ _ h => h
  refine fin_mono h (fun e' _ h => ?_) fun _ _ h => h
  exact ⟨e', rfl, h⟩
theorem fin_seq2 {G : Str → Option Fm} {s : Str} {B : Bd} {g : Fm} {n : Nat} {e f : Tm} {good : Tm × Fm × Nat → Prop} {bad : Er → Prop} {k : Tm → Tm → Tm} (h : Fin ((plc G s B (n + 1) e).bind fun r => (walledM (mkM s (n + 1)) r.1 r.2.1 g).bind fun e' =>
      (plc G s B (r.2.2 + 1) f).bind fun q => (walledM (mkM s (r.2.2 + 1)) q.1 q.2.1 g).bind fun f' => .ok (k e' f', .num, q.2.2)) good bad) :
    Fin (seqM G s B g n [e, f]) (fun q => ∃ e' f', q.1 = [e', f'] ∧ good (k e' f', .num, q.2)) bad := by
  simp only [seqM, fin_bind] at h ⊢
  refine fin_mono h (fun r _ h => ?_) fun _ _ h => h
  refine fin_mono h (fun e' _ h => ?_) fun _ _ h => h
  refine fin_mono h (fun r _ h => ?_) fun _ _ h => h
  refine fin_mono h (fun f' _ h => ?_) fun _ _ h => h
  exact ⟨e', f', rfl, h⟩
theorem tk_putL {H : Hp} {D : Addr} {xs : List V} {o : HO} (e : H D = some (.lst xs)) : Tk H (upd H D o) := fun a ys h => by
  by_cases z : a = D
  · subst z
    rw [e] at h
    cases h
  · rw [upd_ne z]
    exact h
def sumN : List Tm → Nat
  | [] => 0
  | e :: es => e.nodes + sumN es
theorem rpa_app {H : Hp} {y : V} {d : PyData} (r : Rp H y d) : ∀ {ys : List V} {ds : List PyData}, RpAll H ys ds → RpAll H (ys ++ [y]) (ds ++ [d])
  | [], [], _ => .cons r .nil
  | _ :: _, _ :: _, .cons r' t => .cons r' (rpa_app r t)
section
variable {P : Program} {w : World} {K : PySem.W.Frag} {mg : Str → Option Value} {base : Heap}
theorem sc_law_place : FnScope ["_law_state", "_law_piece", "_law_bound", "_law_word", "_law_form_here", "_law_placed", "_law_wrong", "_law_parts", "_law_part"] ["_law_state", "_law_piece", "_law_bound"] (defScope s_law_place) := ⟨rfl, rfl, rfl, by decide +kernel, rfl, by decide +kernel, by decide +kernel⟩
theorem ok__law_place (T : Facts w K mg) : ∀ N, Cl P w K mg base CX0 (4 * N + 12) "_law_place" (spLP N)
  | 0 => by
    obtain ⟨fd, F⟩ := T.f_law_place
    exact ⟨_, fd, ["_law_state", "_law_piece", "_law_bound"], T.g_law_place, ⟨fun vs H Q E ⟨_, _, _, _, _, _, _, _, _, _, J, _⟩ => absurd J.dep (Nat.not_lt_zero _), fun A outer s H args us vs Q E _ _ _ _ h => by obtain ⟨_, _, _, _, _, _, _, _, _, _, J, _⟩ := h; exact absurd J.dep (Nat.not_lt_zero _)⟩, F.kp, F.bindsN fun _ _ _ _ _ _ us hl => match us, hl with | [_, _, _], _ => rfl⟩
  | N + 1 => by
    have c_law_low := ok__law_low (P := P) (base := base) T
    have c_law_form_of := ok__law_form_of (P := P) (base := base) T
    have c0 := ok__law_place T N
    have c_law_begun := ok__law_begun T N _ c0
    have c_law_aimed := ok__law_aimed T N _ (by omega) c_law_begun
    have c_law_headed := ok__law_headed T N _ (by omega) c_law_begun
    have c_law_place_loose := ok__law_place_loose T N _ (by omega) c0
    have c_law_place_headed := ok__law_place_headed T N _ (by omega) c_law_headed c_law_aimed
    have c_law_place_choice := ok__law_place_choice T N _ (by omega) (c_law_begun.mono (Nat.le_succ _)) c_law_aimed
    obtain ⟨fd, F⟩ := T.f_law_place
    refine ⟨_, fd, ["_law_state", "_law_piece", "_law_bound"], T.g_law_place, ?_, F.kp, F.bindsN fun _ _ _ _ _ _ us hl => match us, hl with | [_, _, _], _ => rfl⟩
    show FnOk P w K mg base CX0 (4 * N + 15 + 1) _ _ _ _
    refine F.ok sc_law_place (fun vs H Q E h => ?_) (fun cdv A outer s H vs Q E hr h => ?_)
    · obtain ⟨p, v, b, fa, s, n, B, G, t, rfl, _⟩ := h
      rfl
    obtain ⟨p, v, b, fa, s', n, B, G, t, rfl, J, hf⟩ := h
    have hu64 := hr.units
    have hu := r1 hr
    refine ⟨_, PSs.nox (pss_cons (ps_set (i := 3) sc_law_place.nd rfl (Or.inl rfl) (pe_ix ix_tup (pv 1) pe_int (fun _ _ => rfl)))
    (pss_cons (ps_if (pt_cmpR op_in_seq (pv 3) (pe_tup (pa_cons pe_str (pa_cons pe_str pa_nil))) (by rfl)) (pss_one (ps_ret (pe_tup (pa_cons (pv 1) (pa_cons (pe_ifExp (pt_cmpR op_eq (pv 3) pe_str (nomark _)) pe_str pe_str) (pa_cons pe_non pa_nil)))))) pss_nil)
    (pss_cons (ps_if (pt_cmpR op_eq (pv 3) pe_str (nomark _)) (pss_cons (ps_set (i := 4) sc_law_place.nd rfl (Or.inl rfl) (pe_cl c_law_form_of hr (by omega) pass0 (pa_cons (pv 0) (pa_cons (pe_ix ix_tup (pv 1) pe_int (fun _ _ => rfl)) (pa_cons (pv 2) pa_nil)))))
    (pss_one (ps_ret (pe_ifExp (pt_cmpR op_isN (pv 4) pe_non (nomark _)) (pe_tup (pa_cons pe_non (pa_cons pe_non (pa_cons (pe_tup (pa_cons pe_str (pa_cons (pe_ix ix_tup (pv 1) pe_int (fun _ _ => rfl)) pa_nil))) pa_nil)))) (pe_tup (pa_cons (pv 1) (pa_cons (pv 4) (pa_cons pe_non pa_nil)))))))) pss_nil)
    (pss_cons (ps_if (pt_cmpR op_in_seq (pv 3) (pe_tup (pa_cons pe_str (pa_cons pe_str (pa_cons pe_str pa_nil)))) (by rfl)) (pss_one (ps_ret (pe_cl c_law_place_loose hr (by omega) pass0 (pa_cons (pv 0) (pa_cons (pv 1) (pa_cons (pv 2) pa_nil)))))) pss_nil)
    (pss_cons (ps_if (pt_cmpR op_in_seq (pv 3) (pe_tup (pa_cons pe_str (pa_cons pe_str (pa_cons pe_str (pa_cons pe_str pa_nil))))) (by rfl)) (pss_one (ps_ret (pe_cl c_law_place_headed hr (by omega) pass0 (pa_cons (pv 0) (pa_cons (pv 1) (pa_cons (pv 2) pa_nil)))))) pss_nil)
    (pss_cons (ps_if (pt_cmpR op_eq (pv 3) pe_str (nomark _)) (pss_one (ps_ret (pe_cl c_law_place_choice hr (by omega) pass0 (pa_cons (pv 0) (pa_cons (pv 1) (pa_cons (pv 2) pa_nil)))))) pss_nil)
    (pss_cons (ps_if (pt_cmpR op_in_seq (pv 3) (pe_tup (pa_cons pe_str (pa_cons pe_str pa_nil))) (by rfl)) (pss_cons (ps_asg (pe_cl c_law_aimed hr (by omega) pass0 (pa_cons (pv 0) (pa_cons (pe_ix ix_tup (pv 1) pe_int (fun _ _ => rfl)) (pa_cons (pv 2) (pa_cons (pe_ix ix_tup (pv 1) pe_int (fun _ _ => rfl)) pa_nil))))) (pg_tup (by rfl) (pgs_cons (pg_name (i := 5) sc_law_place.nd rfl (Or.inl rfl)) (pgs_cons (pg_name (i := 6) sc_law_place.nd rfl (Or.inl rfl)) pgs_nil))))
    (pss_cons (ps_if (pt_cmpR op_notN (pv 6) pe_non (nomark _)) (pss_one (ps_ret (pe_tup (pa_cons pe_non (pa_cons pe_non (pa_cons (pv 6) pa_nil)))))) pss_nil)
    (pss_one (ps_ret (pe_cl c_law_low hr (by omega) pass0 (pa_cons (pe_tup (pa_cons (pv 3) (pa_cons (pe_ix ix_tup (pv 1) pe_int (fun _ _ => rfl)) (pa_cons (pv 5) pa_nil)))) (pa_cons (pe_ifExp (pt_cmpR op_eq (pv 3) pe_str (nomark _)) (pe_ix ix_tup (pv 1) pe_int (fun _ _ => rfl)) (pe_tup (pa_cons pe_str (pa_cons (pe_ix ix_tup (pv 1) pe_int (fun _ _ => rfl)) pa_nil)))) pa_nil))))))) pss_nil)
    (pss_cons (ps_set (i := 7) sc_law_place.nd rfl (Or.inl rfl) (pe_lst (pa_cons (pv 3) pa_nil)))
    (pss_cons (ps_for PassesOwn.never rfl (pi_tup (pe_slice sl_tupA (pv 1) (po_some pe_int) po_none)) (pg_name (i := 8) sc_law_place.nd rfl (Or.inl rfl)) (pss_cons (ps_asg (pe_cl c_law_aimed hr (by omega) pass0 (pa_cons (pv 0) (pa_cons (pv 8) (pa_cons (pv 2) (pa_cons (pe_ifExp (pt_cmpR op_eq (pv 3) pe_str (nomark _)) pe_str pe_str) pa_nil))))) (pg_tup (by rfl) (pgs_cons (pg_name (i := 5) sc_law_place.nd rfl (Or.inl rfl)) (pgs_cons (pg_name (i := 6) sc_law_place.nd rfl (Or.inl rfl)) pgs_nil))))
    (pss_cons (ps_if (pt_cmpR op_notN (pv 6) pe_non (nomark _)) (pss_one (ps_ret (pe_tup (pa_cons pe_non (pa_cons pe_non (pa_cons (pv 6) pa_nil)))))) pss_nil)
    (pss_one (ps_expr (pe_bm PySem.F.plainAttrs_list PySem.F.slot_list_append PySem.F.type_list_append mt_append (pv 7) (pa_cons (pv 5) pa_nil)))))))
    (pss_one (ps_ret (pe_tup (pa_cons (pe_callTy call_tuple_of (by rfl) T.z_tuple (by decide +kernel) (pa_cons (pv 7) pa_nil)) (pa_cons pe_str (pa_cons pe_non pa_nil))))))))))))))), ?_⟩
    obtain ⟨a, xs, rfl, ea⟩ := tm_head J.r J.wf
    refine ⟨_, rfl, a, _, 0, .str t.wd, rfl, rfl, SqT.of ea, at0, ?_⟩
    have hsz : 3 ≤ sizeLine := sz3
    cases t <;> first | exact (show False from J.wf).elim | skip
    · rename_i i
      refine ⟨_, rfl, sz2, fun q0 hq0 => ⟨q0, _, rfl, .inr (SqT.of upd_same), rfl, rfl, _, rfl, iteT ?_⟩⟩
      replace J := J.same (same_new hq0 (.tup [.str "number", .str "text"]))
      replace hf := fin_same hf (same_new hq0 (.tup [.str "number", .str "text"]))
      replace ea := (same_new hq0 (.tup [.str "number", .str "text"])) _ _ ea
      generalize upd _ q0 _ = H0 at *
      refine ⟨_, rfl, _, rfl, rfl, _, rfl, iteT ⟨sz3, fun q7 hq7 => ?_⟩⟩
      have s7 := same_new hq7 (.tup [.ref a, .str "num", .non])
      have hS := J.S
      exact hf _ _ (Kp.of s7) (J.S.at_.same s7) (rp3.mpr ⟨q7, _, _, _, rfl, upd_same, J.r.mono s7.tk, .str _, .non⟩)
    · rename_i x
      refine ⟨_, rfl, sz2, fun q0 hq0 => ⟨q0, _, rfl, .inr (SqT.of upd_same), rfl, rfl, _, rfl, iteT ?_⟩⟩
      replace J := J.same (same_new hq0 (.tup [.str "number", .str "text"]))
      replace hf := fin_same hf (same_new hq0 (.tup [.str "number", .str "text"]))
      replace ea := (same_new hq0 (.tup [.str "number", .str "text"])) _ _ ea
      generalize upd _ q0 _ = H0 at *
      refine ⟨_, rfl, _, rfl, rfl, _, rfl, iteF ⟨sz3, fun q7 hq7 => ?_⟩⟩
      have s7 := same_new hq7 (.tup [.ref a, .str "text", .non])
      have hS := J.S
      exact hf _ _ (Kp.of s7) (J.S.at_.same s7) (rp3.mpr ⟨q7, _, _, _, rfl, upd_same, J.r.mono s7.tk, .str _, .non⟩)
    · rename_i x
      refine ⟨_, rfl, sz2, fun q0 hq0 => ⟨q0, _, rfl, .inr (SqT.of upd_same), rfl, rfl, _, rfl, iteF ?_⟩⟩
      replace J := J.same (same_new hq0 (.tup [.str "number", .str "text"]))
      replace hf := fin_same hf (same_new hq0 (.tup [.str "number", .str "text"]))
      replace ea := (same_new hq0 (.tup [.str "number", .str "text"])) _ _ ea
      generalize upd _ q0 _ = H0 at *
      obtain ⟨a2, y1, e0, ea2, r1⟩ := rpw1.mp J.r
      cases e0
      obtain rfl := rp_str.mp r1
      refine ⟨_, rfl, rfl, _, rfl, iteT ⟨_, rfl, _, rfl, a, _, 1, _, rfl, rfl, SqT.of ea2, at1, _, rfl, ?_⟩⟩
      refine ⟨p, x, b, fa, s', n, B, G, rfl, J.S, by have := J.len; omega, ?_⟩
      have yes : ∀ f, Fin (.ok (.name x, f, n) : Except Er (Tm × Fm × Nat)) (LGood p H0 s' fa Q) (LBad p H0 Q) → ∀ H' y, Same H0 H' → RpF H' y f → (tRet (tIf (tTest (tOp (fun x y H Q => y = V.non ∧ Q (V.bl (decide (x = V.non))) H) (tVar 4) (tC V.non))) (tTup (tCons (tC V.non) (tCons (tC V.non) (tCons (tTup (tCons (tC (V.str "name")) (tCons (tOp (rIxT K) (tVar 1) (tC (V.int 1))) tNil))) tNil)))) (tTup (tCons (tVar 1) (tCons (tVar 4) (tCons (tC V.non) tNil))))) { nx := fun x H' => Q V.non H', rt := Q } [some (.ref p), some (.ref a), some (.ref b), some (.str "name"), some y, none, none, none, none] H') := by
        intro f hf H' y s7 ry
        have hy : decide (y = V.non) = false := by
          cases f <;> first | (obtain rfl := rp_str.mp ry; rfl) | (obtain ⟨_, _, _, rfl, _⟩ := rpf_deed.mp ry; rfl) | (obtain ⟨_, _, rfl, _⟩ := rpf_box.mp ry; rfl)
        refine ⟨_, rfl, rfl, _, rfl, ?_⟩
        rw [hy]
        refine iteF ⟨_, rfl, _, rfl, sz3, fun q8 hq8 => ?_⟩
        have s8 := same_new hq8 (.tup [.ref a, y, .non])
        exact hf _ _ (Kp.of (s7.trans s8)) (J.S.at_.same (s7.trans s8)) (rp3.mpr ⟨q8, _, _, _, rfl, upd_same, J.r.mono (s7.trans s8).tk, ry.mono s8.tk, .non⟩)
      unfold FormOf
      rw [plc] at hf
      cases hb : lookB B x with
      | some f =>
        rw [hb] at hf
        exact yes f hf
      | none =>
        rw [hb] at hf
        cases hg : G x with
        | some f =>
          simp only [hg] at hf ⊢
          exact yes f hf
        | none =>
          simp only [hg] at hf ⊢
          intro H' s7
          refine ⟨_, rfl, rfl, _, rfl, iteT ⟨_, rfl, a, _, 1, _, rfl, rfl, SqT.of (s7 _ _ ea2), at1, sz2, fun q8 hq8 => ⟨sz3, fun q9 hq9 => ?_⟩⟩⟩
          have s8 := same_new hq8 (.tup [.str "name", .str x])
          have s9 := same_new hq9 (.tup [.non, .non, .ref q8])
          exact hf _ _ (Kp.of (s7.trans (s8.trans s9))) (rp3.mpr ⟨q9, _, _, _, rfl, upd_same, .non, .non, rp2.mpr ⟨q8, _, _, rfl, s9 _ _ upd_same, .str _, .str _⟩⟩)
    · skip
      refine ⟨_, rfl, sz2, fun q0 hq0 => ⟨q0, _, rfl, .inr (SqT.of upd_same), rfl, rfl, _, rfl, iteF ?_⟩⟩
      replace J := J.same (same_new hq0 (.tup [.str "number", .str "text"]))
      replace hf := fin_same hf (same_new hq0 (.tup [.str "number", .str "text"]))
      replace ea := (same_new hq0 (.tup [.str "number", .str "text"])) _ _ ea
      generalize upd _ q0 _ = H0 at *
      refine ⟨_, rfl, rfl, _, rfl, iteF ?_⟩
      refine ⟨_, rfl, sz3, fun q2 hq2 => ⟨q2, _, rfl, .inr (SqT.of upd_same), rfl, rfl, _, rfl, iteT ?_⟩⟩
      replace J := J.same (same_new hq2 (.tup [.str "deed", .str "let", .str "do"]))
      replace hf := fin_same hf (same_new hq2 (.tup [.str "deed", .str "let", .str "do"]))
      replace ea := (same_new hq2 (.tup [.str "deed", .str "let", .str "do"])) _ _ ea
      generalize upd _ q2 _ = H2 at *
      refine ⟨_, rfl, _, rfl, _, rfl, p, .ref a, b, fa, s', n, B, G, _, rfl, by simp only [Tm.wd]; decide, J, hf⟩
    · skip
      refine ⟨_, rfl, sz2, fun q0 hq0 => ⟨q0, _, rfl, .inr (SqT.of upd_same), rfl, rfl, _, rfl, iteF ?_⟩⟩
      replace J := J.same (same_new hq0 (.tup [.str "number", .str "text"]))
      replace hf := fin_same hf (same_new hq0 (.tup [.str "number", .str "text"]))
      replace ea := (same_new hq0 (.tup [.str "number", .str "text"])) _ _ ea
      generalize upd _ q0 _ = H0 at *
      refine ⟨_, rfl, rfl, _, rfl, iteF ?_⟩
      refine ⟨_, rfl, sz3, fun q2 hq2 => ⟨q2, _, rfl, .inr (SqT.of upd_same), rfl, rfl, _, rfl, iteF ?_⟩⟩
      replace J := J.same (same_new hq2 (.tup [.str "deed", .str "let", .str "do"]))
      replace hf := fin_same hf (same_new hq2 (.tup [.str "deed", .str "let", .str "do"]))
      replace ea := (same_new hq2 (.tup [.str "deed", .str "let", .str "do"])) _ _ ea
      generalize upd _ q2 _ = H2 at *
      refine ⟨_, rfl, sz4, fun q3 hq3 => ⟨q3, _, rfl, .inr (SqT.of upd_same), rfl, rfl, _, rfl, iteT ?_⟩⟩
      replace J := J.same (same_new hq3 (.tup [.str "call", .str "read", .str "write", .str "same"]))
      replace hf := fin_same hf (same_new hq3 (.tup [.str "call", .str "read", .str "write", .str "same"]))
      replace ea := (same_new hq3 (.tup [.str "call", .str "read", .str "write", .str "same"])) _ _ ea
      generalize upd _ q3 _ = H3 at *
      refine ⟨_, rfl, _, rfl, _, rfl, p, .ref a, b, fa, s', n, B, G, _, rfl, by simp only [Tm.wd]; decide, J, hf⟩
    · skip
      refine ⟨_, rfl, sz2, fun q0 hq0 => ⟨q0, _, rfl, .inr (SqT.of upd_same), rfl, rfl, _, rfl, iteF ?_⟩⟩
      replace J := J.same (same_new hq0 (.tup [.str "number", .str "text"]))
      replace hf := fin_same hf (same_new hq0 (.tup [.str "number", .str "text"]))
      replace ea := (same_new hq0 (.tup [.str "number", .str "text"])) _ _ ea
      generalize upd _ q0 _ = H0 at *
      refine ⟨_, rfl, rfl, _, rfl, iteF ?_⟩
      refine ⟨_, rfl, sz3, fun q2 hq2 => ⟨q2, _, rfl, .inr (SqT.of upd_same), rfl, rfl, _, rfl, iteT ?_⟩⟩
      replace J := J.same (same_new hq2 (.tup [.str "deed", .str "let", .str "do"]))
      replace hf := fin_same hf (same_new hq2 (.tup [.str "deed", .str "let", .str "do"]))
      replace ea := (same_new hq2 (.tup [.str "deed", .str "let", .str "do"])) _ _ ea
      generalize upd _ q2 _ = H2 at *
      refine ⟨_, rfl, _, rfl, _, rfl, p, .ref a, b, fa, s', n, B, G, _, rfl, by simp only [Tm.wd]; decide, J, hf⟩
    · rename_i A0 e
      refine ⟨_, rfl, sz2, fun q0 hq0 => ⟨q0, _, rfl, .inr (SqT.of upd_same), rfl, rfl, _, rfl, iteF ?_⟩⟩
      replace J := J.same (same_new hq0 (.tup [.str "number", .str "text"]))
      replace hf := fin_same hf (same_new hq0 (.tup [.str "number", .str "text"]))
      replace ea := (same_new hq0 (.tup [.str "number", .str "text"])) _ _ ea
      generalize upd _ q0 _ = H0 at *
      refine ⟨_, rfl, rfl, _, rfl, iteF ?_⟩
      refine ⟨_, rfl, sz3, fun q2 hq2 => ⟨q2, _, rfl, .inr (SqT.of upd_same), rfl, rfl, _, rfl, iteF ?_⟩⟩
      replace J := J.same (same_new hq2 (.tup [.str "deed", .str "let", .str "do"]))
      replace hf := fin_same hf (same_new hq2 (.tup [.str "deed", .str "let", .str "do"]))
      replace ea := (same_new hq2 (.tup [.str "deed", .str "let", .str "do"])) _ _ ea
      generalize upd _ q2 _ = H2 at *
      refine ⟨_, rfl, sz4, fun q3 hq3 => ⟨q3, _, rfl, .inr (SqT.of upd_same), rfl, rfl, _, rfl, iteF ?_⟩⟩
      replace J := J.same (same_new hq3 (.tup [.str "call", .str "read", .str "write", .str "same"]))
      replace hf := fin_same hf (same_new hq3 (.tup [.str "call", .str "read", .str "write", .str "same"]))
      replace ea := (same_new hq3 (.tup [.str "call", .str "read", .str "write", .str "same"])) _ _ ea
      generalize upd _ q3 _ = H3 at *
      refine ⟨_, rfl, rfl, _, rfl, iteF ?_⟩
      refine ⟨_, rfl, sz2, fun q5 hq5 => ⟨q5, _, rfl, .inr (SqT.of upd_same), rfl, rfl, _, rfl, iteT ?_⟩⟩
      replace J := J.same (same_new hq5 (.tup [.str "tell", .str "box"]))
      replace hf := fin_same hf (same_new hq5 (.tup [.str "tell", .str "box"]))
      replace ea := (same_new hq5 (.tup [.str "tell", .str "box"])) _ _ ea
      generalize upd _ q5 _ = H5 at *
      refine ?_
      obtain ⟨a2, y1, y2, e0, ea2, r1, r2⟩ := rpw2.mp J.r
      cases e0
      have hJd := J.dep
      have hJc := J.cnt
      have hJl := J.len
      have hwf := J.wf
      have hS := J.S
      simp only [Tm.dep, Tm.nodes] at hJd hJc hJl
      rw [plc] at hf
      refine ⟨_, rfl, _, rfl, a, _, 2, _, rfl, rfl, SqT.of ea2, at2, _, rfl, _, rfl, a, _, 1, _, rfl, rfl, SqT.of ea2, at1, ?_⟩
      refine ⟨p, y2, b, y1, A0, fa, s', n, B, G, e, rfl, ⟨hS, r2, hwf.2, by omega, by omega, by omega⟩, by omega, r1, hwf.1, ?_⟩
      refine fin_two hf (fun r f' er ew h => ?_) (fun er h => ?_)
      rotate_left
      · intro H8 x8 k8 rr8
        obtain ⟨c9, w1, w3, rfl, ec9, rw1, rw3⟩ := rp2.mp rr8
        obtain ⟨za, zs, rfl, ez⟩ := er_ref rw3
        refine ⟨c9, _, rfl, SqT.of ec9, rfl, _, _, rfl, _, _, rfl, rfl, ?_⟩
        refine ⟨_, rfl, rfl, _, rfl, iteT ⟨_, rfl, sz3, fun q9 hq9 => ?_⟩⟩
        have s9 := same_new hq9 (.tup [.non, .non, .ref za])
        exact h _ _ (k8.trans (Kp.of s9)) (rp3.mpr ⟨q9, _, _, _, rfl, upd_same, .non, .non, rw3.mono s9.tk⟩)
      intro H8 x8 k8 a8 rr8
      have t8 := hS.tk k8
      obtain ⟨c9, w1, w3, rfl, ec9, rw1, rw3⟩ := rp2.mp rr8
      obtain rfl := rp_non.mp rw3
      refine ⟨c9, _, rfl, SqT.of ec9, rfl, _, _, rfl, _, _, rfl, rfl, ?_⟩
      refine ⟨_, rfl, rfl, _, rfl, iteF ⟨_, rfl, _, rfl, a, _, 1, _, rfl, rfl, SqT.of (t8 _ _ ea2), at1, _, rfl, sz3, fun q9 hq9 => ?_⟩⟩
      have s9 := same_new hq9 (.tup [.str "tell", y1, w1])
      have t9 := t8.trans' s9.tk
      refine ⟨_, rfl, rfl, _, rfl, iteT ⟨_, rfl, a, _, 1, _, rfl, rfl, SqT.of (t9 _ _ ea2), at1, ?_⟩⟩
      have h5 : A0.ht ≤ 5 := hwf.1
      refine ⟨.ref q9, y1, (Tm.tell A0 f').d, A0, rfl, rp3.mpr ⟨q9, _, _, _, rfl, upd_same, .str _, r1.mono t9, rw1.mono s9.tk⟩, r1.mono t9, by omega, fun _ H' y s10 ry => ?_, fun h6 => absurd h5 (by omega)⟩
      exact h _ _ (k8.trans (Kp.of (s9.trans s10))) (a8.same (s9.trans s10)) ry
    · skip
      refine ⟨_, rfl, sz2, fun q0 hq0 => ⟨q0, _, rfl, .inr (SqT.of upd_same), rfl, rfl, _, rfl, iteF ?_⟩⟩
      replace J := J.same (same_new hq0 (.tup [.str "number", .str "text"]))
      replace hf := fin_same hf (same_new hq0 (.tup [.str "number", .str "text"]))
      replace ea := (same_new hq0 (.tup [.str "number", .str "text"])) _ _ ea
      generalize upd _ q0 _ = H0 at *
      refine ⟨_, rfl, rfl, _, rfl, iteF ?_⟩
      refine ⟨_, rfl, sz3, fun q2 hq2 => ⟨q2, _, rfl, .inr (SqT.of upd_same), rfl, rfl, _, rfl, iteF ?_⟩⟩
      replace J := J.same (same_new hq2 (.tup [.str "deed", .str "let", .str "do"]))
      replace hf := fin_same hf (same_new hq2 (.tup [.str "deed", .str "let", .str "do"]))
      replace ea := (same_new hq2 (.tup [.str "deed", .str "let", .str "do"])) _ _ ea
      generalize upd _ q2 _ = H2 at *
      refine ⟨_, rfl, sz4, fun q3 hq3 => ⟨q3, _, rfl, .inr (SqT.of upd_same), rfl, rfl, _, rfl, iteF ?_⟩⟩
      replace J := J.same (same_new hq3 (.tup [.str "call", .str "read", .str "write", .str "same"]))
      replace hf := fin_same hf (same_new hq3 (.tup [.str "call", .str "read", .str "write", .str "same"]))
      replace ea := (same_new hq3 (.tup [.str "call", .str "read", .str "write", .str "same"])) _ _ ea
      generalize upd _ q3 _ = H3 at *
      refine ⟨_, rfl, rfl, _, rfl, iteT ⟨_, rfl, _, rfl, _, rfl, p, .ref a, b, fa, s', n, B, G, _, rfl, by simp only [Tm.wd]; decide, J, hf⟩⟩
    · rename_i e f
      refine ⟨_, rfl, sz2, fun q0 hq0 => ⟨q0, _, rfl, .inr (SqT.of upd_same), rfl, rfl, _, rfl, iteF ?_⟩⟩
      replace J := J.same (same_new hq0 (.tup [.str "number", .str "text"]))
      replace hf := fin_same hf (same_new hq0 (.tup [.str "number", .str "text"]))
      replace ea := (same_new hq0 (.tup [.str "number", .str "text"])) _ _ ea
      generalize upd _ q0 _ = H0 at *
      refine ⟨_, rfl, rfl, _, rfl, iteF ?_⟩
      refine ⟨_, rfl, sz3, fun q2 hq2 => ⟨q2, _, rfl, .inr (SqT.of upd_same), rfl, rfl, _, rfl, iteF ?_⟩⟩
      replace J := J.same (same_new hq2 (.tup [.str "deed", .str "let", .str "do"]))
      replace hf := fin_same hf (same_new hq2 (.tup [.str "deed", .str "let", .str "do"]))
      replace ea := (same_new hq2 (.tup [.str "deed", .str "let", .str "do"])) _ _ ea
      generalize upd _ q2 _ = H2 at *
      refine ⟨_, rfl, sz4, fun q3 hq3 => ⟨q3, _, rfl, .inr (SqT.of upd_same), rfl, rfl, _, rfl, iteF ?_⟩⟩
      replace J := J.same (same_new hq3 (.tup [.str "call", .str "read", .str "write", .str "same"]))
      replace hf := fin_same hf (same_new hq3 (.tup [.str "call", .str "read", .str "write", .str "same"]))
      replace ea := (same_new hq3 (.tup [.str "call", .str "read", .str "write", .str "same"])) _ _ ea
      generalize upd _ q3 _ = H3 at *
      refine ⟨_, rfl, rfl, _, rfl, iteF ?_⟩
      refine ⟨_, rfl, sz2, fun q5 hq5 => ⟨q5, _, rfl, .inr (SqT.of upd_same), rfl, rfl, _, rfl, iteF ?_⟩⟩
      replace J := J.same (same_new hq5 (.tup [.str "tell", .str "box"]))
      replace hf := fin_same hf (same_new hq5 (.tup [.str "tell", .str "box"]))
      replace ea := (same_new hq5 (.tup [.str "tell", .str "box"])) _ _ ea
      generalize upd _ q5 _ = H5 at *
      obtain ⟨a2, y1, y2, e0, ea2, r1, r2⟩ := rpw2.mp J.r
      cases e0
      have hJd := J.dep
      have hJc := J.cnt
      have hJl := J.len
      have hwf := J.wf
      have hS := J.S
      simp only [Tm.dep, Tm.nodes] at hJd hJc hJl
      rw [plc] at hf
      have hf2 := fin_seq2 (k := Tm.add) hf
      have parts : ∀ (i : Nat) y, [y1, y2][i]? = some y → ∃ e1, [e, f][i]? = some e1 ∧ RpT H5 y e1 ∧ e1.wf ∧ e1.dep < N ∧ B.length + e1.dep ≤ 900 ∧ [e, f].drop i = e1 :: [e, f].drop (i + 1) := by
        intro i y hy
        match i, hy with
        | 0, hy => cases hy; exact ⟨e, rfl, r1, hwf.1, by omega, by omega, rfl⟩
        | 1, hy => cases hy; exact ⟨f, rfl, r2, hwf.2, by omega, by omega, rfl⟩
        | _ + 2, hy => cases hy
      refine ⟨_, rfl, sz1, fun D hD => ?_⟩
      have sD := same_new hD (.lst [.str "add"])
      have hpD : D ≠ p := fun z => by have e1 := hS.at_; unfold SAt at e1; rw [← z, hD] at e1; cases e1
      refine ⟨_, rfl, 1, rfl, sl_lo (sD _ _ ea2) (by rfl) fun c1 H6 s6 e6 => ⟨c1, rfl, ⟨_, SqT.of e6⟩, ?_⟩⟩
      have s56 := sD.trans s6
      refine for_inv (n := 2) (fun i σ H' => (∃ u v z, σ = [some (.ref p), some (.ref a), some (.ref b), some (.str "add"), none, u, v, some (.ref D), z]) ∧ ∃ (m : Nat) (ts : List Tm) (zs : List V), Kp p H5 H' ∧ SAt H' p s' fa m ∧ H' c1 = some (.tup [y1, y2]) ∧ H' D = some (.lst (.str "add" :: zs)) ∧ RpAll H' zs (ts.map Tm.d) ∧ zs.length ≤ i ∧ m + 1 + sumN ([e, f].drop i) ≤ 100000 ∧
        Fin (seqM G s' B .num m ([e, f].drop i)) (fun q => ∃ e' f', ts ++ q.1 = [e', f'] ∧ LGood p H5 s' fa Q (.add e' f', .num, q.2)) (LBad p H5 Q))
        ⟨⟨_, _, _, rfl⟩, n, [], [], Kp.of s56, hS.at_.same s56, e6, s6 _ _ upd_same, .nil, Nat.le_refl _, by show n + 1 + sumN [e, f] ≤ 100000; simp only [sumN]; omega, hf2⟩
        (fun σ H' hp => ?_) (fun i σ H' hi hp => ?_) (fun i v σ H' H'' hi hp y => ?_) (fun σ H' hp => ?_)
      · obtain ⟨_, m, ts, zs, k, _, ec, _⟩ := hp
        exact ⟨_, SqT.of ec, Nat.le_refl _⟩
      · obtain ⟨_, m, ts, zs, k, _, ec, _⟩ := hp
        exact ⟨_, [y1, y2][i]'hi, SqT.of ec, List.getElem?_eq_getElem hi⟩
      · obtain ⟨⟨u, v0, z, rfl⟩, m, ts, zs, k, at1', ec, eD, rz, hzl, hm, hF⟩ := hp
        obtain ⟨rfl, hy⟩ := y
        have hv := hy _ (SqT.of ec)
        obtain ⟨e1, h1, rr1, w1, d1, l1, dr⟩ := parts i v hv
        rw [dr] at hm hF
        rw [sumN] at hm
        have S7 := hS.kp k at1'
        refine ⟨_, rfl, _, rfl, _, rfl, _, rfl, rfl, _, rfl, iteF ?_⟩
        refine ⟨p, v, b, .str "num", .num, fa, s', m, B, G, e1, rfl, ⟨S7, rr1.mono (hS.tk k), w1, d1, by omega, l1⟩, by omega, .str _, by decide, ?_⟩
        rw [seqM] at hF
        refine fin_two hF (fun r f' er ew h => ?_) (fun er h => ?_)
        rotate_left
        · intro H8 x8 k8 rr8
          obtain ⟨c9, w1, w3, rfl, ec9, rw1, rw3⟩ := rp2.mp rr8
          obtain ⟨za, zs, rfl, ez⟩ := er_ref rw3
          refine ⟨c9, _, rfl, SqT.of ec9, rfl, _, _, rfl, _, _, rfl, rfl, ?_⟩
          refine ⟨_, rfl, rfl, _, rfl, iteT ⟨_, rfl, sz3, fun q9 hq9 => ?_⟩⟩
          have s9 := same_new hq9 (.tup [.non, .non, .ref za])
          exact h _ _ (k.trans (k8.trans (Kp.of s9))) (rp3.mpr ⟨q9, _, _, _, rfl, upd_same, .non, .non, rw3.mono s9.tk⟩)
        intro H8 x8 k8 a8 rr8
        have t8 := S7.tk k8
        obtain ⟨c9, w2, w3, rfl, ec9, rw1, rw3⟩ := rp2.mp rr8
        obtain rfl := rp_non.mp rw3
        refine ⟨c9, _, rfl, SqT.of ec9, rfl, _, _, rfl, _, _, rfl, rfl, ?_⟩
        have eD8 := k8 _ _ hpD eD
        refine ⟨_, rfl, rfl, _, rfl, iteF ⟨_, rfl, .inl ⟨rfl, _, SqL.of eD8⟩, _, rfl, D, _, _, rfl, rfl, eD8, by rw [List.length_cons, sizeLine_eq]; omega, ?_⟩⟩
        have tD := tk_putL (o := .lst (.str "add" :: zs ++ [w2])) eD8
        rw [fin_bind] at h
        have g3 := (plc_low hS.g5 e1 er w1 hS.b5).2.2
        refine ⟨⟨_, _, _, rfl⟩, r.2.2, ts ++ [f'], zs ++ [w2], ?_, by unfold SAt; rw [upd_ne (Ne.symm hpD)]; exact a8, tD _ _ (t8 _ _ ec), upd_same, ?_, by rw [List.length_append, List.length_singleton]; omega, by omega, ?_⟩
        · intro b0 u0 n0 e0
          have := (k.trans k8) b0 u0 n0 e0
          rw [upd_ne (ne_of_none e0 hD)]
          exact this
        · rw [List.map_append]
          exact rpa_app (rw1.mono tD) (RpAll.mono (t8.trans' tD) rz)
        · refine fin_mono h (fun q _ h => ?_) fun _ _ h => h
          obtain ⟨x1, x2, e0, h⟩ := h
          exact ⟨x1, x2, by rw [List.append_assoc]; exact e0, h⟩
      · obtain ⟨⟨u, v0, z, rfl⟩, m, ts, zs, k, at1', ec, eD, rz, hzl, hm, hF⟩ := hp
        obtain ⟨x1, x2, e0, hG⟩ := (show ∃ e' f', ts ++ [] = [e', f'] ∧ LGood p H5 s' fa Q (.add e' f', .num, m) from hF)
        rw [List.append_nil] at e0
        subst e0
        have hzs := rpa_len rz
        refine ⟨_, rfl, D, _, rfl, .inl ⟨SqL.of eD, fun q7 hq7 => ⟨sz3, fun q8 hq8 => ?_⟩⟩⟩
        have s7 := same_new hq7 (.tup (.str "add" :: zs))
        have s8 := same_new hq8 (.tup [.ref q7, .str "num", .non])
        exact hG _ _ (k.trans (Kp.of (s7.trans s8))) (at1'.same (s7.trans s8)) (rp3.mpr ⟨q8, _, _, _, rfl, upd_same, rp_tup.mpr ⟨q7, _, rfl, s8 _ _ upd_same, .cons (.str _) (RpAll.mono (s7.trans s8).tk rz)⟩, .str _, .non⟩)
    · rename_i e f
      refine ⟨_, rfl, sz2, fun q0 hq0 => ⟨q0, _, rfl, .inr (SqT.of upd_same), rfl, rfl, _, rfl, iteF ?_⟩⟩
      replace J := J.same (same_new hq0 (.tup [.str "number", .str "text"]))
      replace hf := fin_same hf (same_new hq0 (.tup [.str "number", .str "text"]))
      replace ea := (same_new hq0 (.tup [.str "number", .str "text"])) _ _ ea
      generalize upd _ q0 _ = H0 at *
      refine ⟨_, rfl, rfl, _, rfl, iteF ?_⟩
      refine ⟨_, rfl, sz3, fun q2 hq2 => ⟨q2, _, rfl, .inr (SqT.of upd_same), rfl, rfl, _, rfl, iteF ?_⟩⟩
      replace J := J.same (same_new hq2 (.tup [.str "deed", .str "let", .str "do"]))
      replace hf := fin_same hf (same_new hq2 (.tup [.str "deed", .str "let", .str "do"]))
      replace ea := (same_new hq2 (.tup [.str "deed", .str "let", .str "do"])) _ _ ea
      generalize upd _ q2 _ = H2 at *
      refine ⟨_, rfl, sz4, fun q3 hq3 => ⟨q3, _, rfl, .inr (SqT.of upd_same), rfl, rfl, _, rfl, iteF ?_⟩⟩
      replace J := J.same (same_new hq3 (.tup [.str "call", .str "read", .str "write", .str "same"]))
      replace hf := fin_same hf (same_new hq3 (.tup [.str "call", .str "read", .str "write", .str "same"]))
      replace ea := (same_new hq3 (.tup [.str "call", .str "read", .str "write", .str "same"])) _ _ ea
      generalize upd _ q3 _ = H3 at *
      refine ⟨_, rfl, rfl, _, rfl, iteF ?_⟩
      refine ⟨_, rfl, sz2, fun q5 hq5 => ⟨q5, _, rfl, .inr (SqT.of upd_same), rfl, rfl, _, rfl, iteF ?_⟩⟩
      replace J := J.same (same_new hq5 (.tup [.str "tell", .str "box"]))
      replace hf := fin_same hf (same_new hq5 (.tup [.str "tell", .str "box"]))
      replace ea := (same_new hq5 (.tup [.str "tell", .str "box"])) _ _ ea
      generalize upd _ q5 _ = H5 at *
      obtain ⟨a2, y1, y2, e0, ea2, r1, r2⟩ := rpw2.mp J.r
      cases e0
      have hJd := J.dep
      have hJc := J.cnt
      have hJl := J.len
      have hwf := J.wf
      have hS := J.S
      simp only [Tm.dep, Tm.nodes] at hJd hJc hJl
      rw [plc] at hf
      have hf2 := fin_seq2 (k := Tm.sub) hf
      have parts : ∀ (i : Nat) y, [y1, y2][i]? = some y → ∃ e1, [e, f][i]? = some e1 ∧ RpT H5 y e1 ∧ e1.wf ∧ e1.dep < N ∧ B.length + e1.dep ≤ 900 ∧ [e, f].drop i = e1 :: [e, f].drop (i + 1) := by
        intro i y hy
        match i, hy with
        | 0, hy => cases hy; exact ⟨e, rfl, r1, hwf.1, by omega, by omega, rfl⟩
        | 1, hy => cases hy; exact ⟨f, rfl, r2, hwf.2, by omega, by omega, rfl⟩
        | _ + 2, hy => cases hy
      refine ⟨_, rfl, sz1, fun D hD => ?_⟩
      have sD := same_new hD (.lst [.str "sub"])
      have hpD : D ≠ p := fun z => by have e1 := hS.at_; unfold SAt at e1; rw [← z, hD] at e1; cases e1
      refine ⟨_, rfl, 1, rfl, sl_lo (sD _ _ ea2) (by rfl) fun c1 H6 s6 e6 => ⟨c1, rfl, ⟨_, SqT.of e6⟩, ?_⟩⟩
      have s56 := sD.trans s6
      refine for_inv (n := 2) (fun i σ H' => (∃ u v z, σ = [some (.ref p), some (.ref a), some (.ref b), some (.str "sub"), none, u, v, some (.ref D), z]) ∧ ∃ (m : Nat) (ts : List Tm) (zs : List V), Kp p H5 H' ∧ SAt H' p s' fa m ∧ H' c1 = some (.tup [y1, y2]) ∧ H' D = some (.lst (.str "sub" :: zs)) ∧ RpAll H' zs (ts.map Tm.d) ∧ zs.length ≤ i ∧ m + 1 + sumN ([e, f].drop i) ≤ 100000 ∧
        Fin (seqM G s' B .num m ([e, f].drop i)) (fun q => ∃ e' f', ts ++ q.1 = [e', f'] ∧ LGood p H5 s' fa Q (.sub e' f', .num, q.2)) (LBad p H5 Q))
        ⟨⟨_, _, _, rfl⟩, n, [], [], Kp.of s56, hS.at_.same s56, e6, s6 _ _ upd_same, .nil, Nat.le_refl _, by show n + 1 + sumN [e, f] ≤ 100000; simp only [sumN]; omega, hf2⟩
        (fun σ H' hp => ?_) (fun i σ H' hi hp => ?_) (fun i v σ H' H'' hi hp y => ?_) (fun σ H' hp => ?_)
      · obtain ⟨_, m, ts, zs, k, _, ec, _⟩ := hp
        exact ⟨_, SqT.of ec, Nat.le_refl _⟩
      · obtain ⟨_, m, ts, zs, k, _, ec, _⟩ := hp
        exact ⟨_, [y1, y2][i]'hi, SqT.of ec, List.getElem?_eq_getElem hi⟩
      · obtain ⟨⟨u, v0, z, rfl⟩, m, ts, zs, k, at1', ec, eD, rz, hzl, hm, hF⟩ := hp
        obtain ⟨rfl, hy⟩ := y
        have hv := hy _ (SqT.of ec)
        obtain ⟨e1, h1, rr1, w1, d1, l1, dr⟩ := parts i v hv
        rw [dr] at hm hF
        rw [sumN] at hm
        have S7 := hS.kp k at1'
        refine ⟨_, rfl, _, rfl, _, rfl, _, rfl, rfl, _, rfl, iteF ?_⟩
        refine ⟨p, v, b, .str "num", .num, fa, s', m, B, G, e1, rfl, ⟨S7, rr1.mono (hS.tk k), w1, d1, by omega, l1⟩, by omega, .str _, by decide, ?_⟩
        rw [seqM] at hF
        refine fin_two hF (fun r f' er ew h => ?_) (fun er h => ?_)
        rotate_left
        · intro H8 x8 k8 rr8
          obtain ⟨c9, w1, w3, rfl, ec9, rw1, rw3⟩ := rp2.mp rr8
          obtain ⟨za, zs, rfl, ez⟩ := er_ref rw3
          refine ⟨c9, _, rfl, SqT.of ec9, rfl, _, _, rfl, _, _, rfl, rfl, ?_⟩
          refine ⟨_, rfl, rfl, _, rfl, iteT ⟨_, rfl, sz3, fun q9 hq9 => ?_⟩⟩
          have s9 := same_new hq9 (.tup [.non, .non, .ref za])
          exact h _ _ (k.trans (k8.trans (Kp.of s9))) (rp3.mpr ⟨q9, _, _, _, rfl, upd_same, .non, .non, rw3.mono s9.tk⟩)
        intro H8 x8 k8 a8 rr8
        have t8 := S7.tk k8
        obtain ⟨c9, w2, w3, rfl, ec9, rw1, rw3⟩ := rp2.mp rr8
        obtain rfl := rp_non.mp rw3
        refine ⟨c9, _, rfl, SqT.of ec9, rfl, _, _, rfl, _, _, rfl, rfl, ?_⟩
        have eD8 := k8 _ _ hpD eD
        refine ⟨_, rfl, rfl, _, rfl, iteF ⟨_, rfl, .inl ⟨rfl, _, SqL.of eD8⟩, _, rfl, D, _, _, rfl, rfl, eD8, by rw [List.length_cons, sizeLine_eq]; omega, ?_⟩⟩
        have tD := tk_putL (o := .lst (.str "sub" :: zs ++ [w2])) eD8
        rw [fin_bind] at h
        have g3 := (plc_low hS.g5 e1 er w1 hS.b5).2.2
        refine ⟨⟨_, _, _, rfl⟩, r.2.2, ts ++ [f'], zs ++ [w2], ?_, by unfold SAt; rw [upd_ne (Ne.symm hpD)]; exact a8, tD _ _ (t8 _ _ ec), upd_same, ?_, by rw [List.length_append, List.length_singleton]; omega, by omega, ?_⟩
        · intro b0 u0 n0 e0
          have := (k.trans k8) b0 u0 n0 e0
          rw [upd_ne (ne_of_none e0 hD)]
          exact this
        · rw [List.map_append]
          exact rpa_app (rw1.mono tD) (RpAll.mono (t8.trans' tD) rz)
        · refine fin_mono h (fun q _ h => ?_) fun _ _ h => h
          obtain ⟨x1, x2, e0, h⟩ := h
          exact ⟨x1, x2, by rw [List.append_assoc]; exact e0, h⟩
      · obtain ⟨⟨u, v0, z, rfl⟩, m, ts, zs, k, at1', ec, eD, rz, hzl, hm, hF⟩ := hp
        obtain ⟨x1, x2, e0, hG⟩ := (show ∃ e' f', ts ++ [] = [e', f'] ∧ LGood p H5 s' fa Q (.sub e' f', .num, m) from hF)
        rw [List.append_nil] at e0
        subst e0
        have hzs := rpa_len rz
        refine ⟨_, rfl, D, _, rfl, .inl ⟨SqL.of eD, fun q7 hq7 => ⟨sz3, fun q8 hq8 => ?_⟩⟩⟩
        have s7 := same_new hq7 (.tup (.str "sub" :: zs))
        have s8 := same_new hq8 (.tup [.ref q7, .str "num", .non])
        exact hG _ _ (k.trans (Kp.of (s7.trans s8))) (at1'.same (s7.trans s8)) (rp3.mpr ⟨q8, _, _, _, rfl, upd_same, rp_tup.mpr ⟨q7, _, rfl, s8 _ _ upd_same, .cons (.str _) (RpAll.mono (s7.trans s8).tk rz)⟩, .str _, .non⟩)
    · rename_i e
      refine ⟨_, rfl, sz2, fun q0 hq0 => ⟨q0, _, rfl, .inr (SqT.of upd_same), rfl, rfl, _, rfl, iteF ?_⟩⟩
      replace J := J.same (same_new hq0 (.tup [.str "number", .str "text"]))
      replace hf := fin_same hf (same_new hq0 (.tup [.str "number", .str "text"]))
      replace ea := (same_new hq0 (.tup [.str "number", .str "text"])) _ _ ea
      generalize upd _ q0 _ = H0 at *
      refine ⟨_, rfl, rfl, _, rfl, iteF ?_⟩
      refine ⟨_, rfl, sz3, fun q2 hq2 => ⟨q2, _, rfl, .inr (SqT.of upd_same), rfl, rfl, _, rfl, iteF ?_⟩⟩
      replace J := J.same (same_new hq2 (.tup [.str "deed", .str "let", .str "do"]))
      replace hf := fin_same hf (same_new hq2 (.tup [.str "deed", .str "let", .str "do"]))
      replace ea := (same_new hq2 (.tup [.str "deed", .str "let", .str "do"])) _ _ ea
      generalize upd _ q2 _ = H2 at *
      refine ⟨_, rfl, sz4, fun q3 hq3 => ⟨q3, _, rfl, .inr (SqT.of upd_same), rfl, rfl, _, rfl, iteF ?_⟩⟩
      replace J := J.same (same_new hq3 (.tup [.str "call", .str "read", .str "write", .str "same"]))
      replace hf := fin_same hf (same_new hq3 (.tup [.str "call", .str "read", .str "write", .str "same"]))
      replace ea := (same_new hq3 (.tup [.str "call", .str "read", .str "write", .str "same"])) _ _ ea
      generalize upd _ q3 _ = H3 at *
      refine ⟨_, rfl, rfl, _, rfl, iteF ?_⟩
      refine ⟨_, rfl, sz2, fun q5 hq5 => ⟨q5, _, rfl, .inr (SqT.of upd_same), rfl, rfl, _, rfl, iteF ?_⟩⟩
      replace J := J.same (same_new hq5 (.tup [.str "tell", .str "box"]))
      replace hf := fin_same hf (same_new hq5 (.tup [.str "tell", .str "box"]))
      replace ea := (same_new hq5 (.tup [.str "tell", .str "box"])) _ _ ea
      generalize upd _ q5 _ = H5 at *
      obtain ⟨a2, y1, e0, ea2, r1⟩ := rpw1.mp J.r
      cases e0
      have hJd := J.dep
      have hJc := J.cnt
      have hJl := J.len
      have hwf := J.wf
      have hS := J.S
      simp only [Tm.dep, Tm.nodes] at hJd hJc hJl
      rw [plc] at hf
      have hf2 := fin_seq1 (k := Tm.size) hf
      have parts : ∀ (i : Nat) y, [y1][i]? = some y → ∃ e1, [e][i]? = some e1 ∧ RpT H5 y e1 ∧ e1.wf ∧ e1.dep < N ∧ B.length + e1.dep ≤ 900 ∧ [e].drop i = e1 :: [e].drop (i + 1) := by
        intro i y hy
        match i, hy with
        | 0, hy => cases hy; exact ⟨e, rfl, r1, hwf, by omega, by omega, rfl⟩
        | _ + 1, hy => cases hy
      refine ⟨_, rfl, sz1, fun D hD => ?_⟩
      have sD := same_new hD (.lst [.str "size"])
      have hpD : D ≠ p := fun z => by have e1 := hS.at_; unfold SAt at e1; rw [← z, hD] at e1; cases e1
      refine ⟨_, rfl, 1, rfl, sl_lo (sD _ _ ea2) (by rfl) fun c1 H6 s6 e6 => ⟨c1, rfl, ⟨_, SqT.of e6⟩, ?_⟩⟩
      have s56 := sD.trans s6
      refine for_inv (n := 1) (fun i σ H' => (∃ u v z, σ = [some (.ref p), some (.ref a), some (.ref b), some (.str "size"), none, u, v, some (.ref D), z]) ∧ ∃ (m : Nat) (ts : List Tm) (zs : List V), Kp p H5 H' ∧ SAt H' p s' fa m ∧ H' c1 = some (.tup [y1]) ∧ H' D = some (.lst (.str "size" :: zs)) ∧ RpAll H' zs (ts.map Tm.d) ∧ zs.length ≤ i ∧ m + 1 + sumN ([e].drop i) ≤ 100000 ∧
        Fin (seqM G s' B .text m ([e].drop i)) (fun q => ∃ e', ts ++ q.1 = [e'] ∧ LGood p H5 s' fa Q (.size e', .num, q.2)) (LBad p H5 Q))
        ⟨⟨_, _, _, rfl⟩, n, [], [], Kp.of s56, hS.at_.same s56, e6, s6 _ _ upd_same, .nil, Nat.le_refl _, by show n + 1 + sumN [e] ≤ 100000; simp only [sumN]; omega, hf2⟩
        (fun σ H' hp => ?_) (fun i σ H' hi hp => ?_) (fun i v σ H' H'' hi hp y => ?_) (fun σ H' hp => ?_)
      · obtain ⟨_, m, ts, zs, k, _, ec, _⟩ := hp
        exact ⟨_, SqT.of ec, Nat.le_refl _⟩
      · obtain ⟨_, m, ts, zs, k, _, ec, _⟩ := hp
        exact ⟨_, [y1][i]'hi, SqT.of ec, List.getElem?_eq_getElem hi⟩
      · obtain ⟨⟨u, v0, z, rfl⟩, m, ts, zs, k, at1', ec, eD, rz, hzl, hm, hF⟩ := hp
        obtain ⟨rfl, hy⟩ := y
        have hv := hy _ (SqT.of ec)
        obtain ⟨e1, h1, rr1, w1, d1, l1, dr⟩ := parts i v hv
        rw [dr] at hm hF
        rw [sumN] at hm
        have S7 := hS.kp k at1'
        refine ⟨_, rfl, _, rfl, _, rfl, _, rfl, rfl, _, rfl, iteT ?_⟩
        refine ⟨p, v, b, .str "text", .text, fa, s', m, B, G, e1, rfl, ⟨S7, rr1.mono (hS.tk k), w1, d1, by omega, l1⟩, by omega, .str _, by decide, ?_⟩
        rw [seqM] at hF
        refine fin_two hF (fun r f' er ew h => ?_) (fun er h => ?_)
        rotate_left
        · intro H8 x8 k8 rr8
          obtain ⟨c9, w1, w3, rfl, ec9, rw1, rw3⟩ := rp2.mp rr8
          obtain ⟨za, zs, rfl, ez⟩ := er_ref rw3
          refine ⟨c9, _, rfl, SqT.of ec9, rfl, _, _, rfl, _, _, rfl, rfl, ?_⟩
          refine ⟨_, rfl, rfl, _, rfl, iteT ⟨_, rfl, sz3, fun q9 hq9 => ?_⟩⟩
          have s9 := same_new hq9 (.tup [.non, .non, .ref za])
          exact h _ _ (k.trans (k8.trans (Kp.of s9))) (rp3.mpr ⟨q9, _, _, _, rfl, upd_same, .non, .non, rw3.mono s9.tk⟩)
        intro H8 x8 k8 a8 rr8
        have t8 := S7.tk k8
        obtain ⟨c9, w2, w3, rfl, ec9, rw1, rw3⟩ := rp2.mp rr8
        obtain rfl := rp_non.mp rw3
        refine ⟨c9, _, rfl, SqT.of ec9, rfl, _, _, rfl, _, _, rfl, rfl, ?_⟩
        have eD8 := k8 _ _ hpD eD
        refine ⟨_, rfl, rfl, _, rfl, iteF ⟨_, rfl, .inl ⟨rfl, _, SqL.of eD8⟩, _, rfl, D, _, _, rfl, rfl, eD8, by rw [List.length_cons, sizeLine_eq]; omega, ?_⟩⟩
        have tD := tk_putL (o := .lst (.str "size" :: zs ++ [w2])) eD8
        rw [fin_bind] at h
        have g3 := (plc_low hS.g5 e1 er w1 hS.b5).2.2
        refine ⟨⟨_, _, _, rfl⟩, r.2.2, ts ++ [f'], zs ++ [w2], ?_, by unfold SAt; rw [upd_ne (Ne.symm hpD)]; exact a8, tD _ _ (t8 _ _ ec), upd_same, ?_, by rw [List.length_append, List.length_singleton]; omega, by omega, ?_⟩
        · intro b0 u0 n0 e0
          have := (k.trans k8) b0 u0 n0 e0
          rw [upd_ne (ne_of_none e0 hD)]
          exact this
        · rw [List.map_append]
          exact rpa_app (rw1.mono tD) (RpAll.mono (t8.trans' tD) rz)
        · refine fin_mono h (fun q _ h => ?_) fun _ _ h => h
          obtain ⟨x1, e0, h⟩ := h
          exact ⟨x1, by rw [List.append_assoc]; exact e0, h⟩
      · obtain ⟨⟨u, v0, z, rfl⟩, m, ts, zs, k, at1', ec, eD, rz, hzl, hm, hF⟩ := hp
        obtain ⟨x1, e0, hG⟩ := (show ∃ e', ts ++ [] = [e'] ∧ LGood p H5 s' fa Q (.size e', .num, m) from hF)
        rw [List.append_nil] at e0
        subst e0
        have hzs := rpa_len rz
        refine ⟨_, rfl, D, _, rfl, .inl ⟨SqL.of eD, fun q7 hq7 => ⟨sz3, fun q8 hq8 => ?_⟩⟩⟩
        have s7 := same_new hq7 (.tup (.str "size" :: zs))
        have s8 := same_new hq8 (.tup [.ref q7, .str "num", .non])
        exact hG _ _ (k.trans (Kp.of (s7.trans s8))) (at1'.same (s7.trans s8)) (rp3.mpr ⟨q8, _, _, _, rfl, upd_same, rp_tup.mpr ⟨q7, _, rfl, s8 _ _ upd_same, .cons (.str _) (RpAll.mono (s7.trans s8).tk rz)⟩, .str _, .non⟩)
    · rename_i A0 e
      refine ⟨_, rfl, sz2, fun q0 hq0 => ⟨q0, _, rfl, .inr (SqT.of upd_same), rfl, rfl, _, rfl, iteF ?_⟩⟩
      replace J := J.same (same_new hq0 (.tup [.str "number", .str "text"]))
      replace hf := fin_same hf (same_new hq0 (.tup [.str "number", .str "text"]))
      replace ea := (same_new hq0 (.tup [.str "number", .str "text"])) _ _ ea
      generalize upd _ q0 _ = H0 at *
      refine ⟨_, rfl, rfl, _, rfl, iteF ?_⟩
      refine ⟨_, rfl, sz3, fun q2 hq2 => ⟨q2, _, rfl, .inr (SqT.of upd_same), rfl, rfl, _, rfl, iteF ?_⟩⟩
      replace J := J.same (same_new hq2 (.tup [.str "deed", .str "let", .str "do"]))
      replace hf := fin_same hf (same_new hq2 (.tup [.str "deed", .str "let", .str "do"]))
      replace ea := (same_new hq2 (.tup [.str "deed", .str "let", .str "do"])) _ _ ea
      generalize upd _ q2 _ = H2 at *
      refine ⟨_, rfl, sz4, fun q3 hq3 => ⟨q3, _, rfl, .inr (SqT.of upd_same), rfl, rfl, _, rfl, iteF ?_⟩⟩
      replace J := J.same (same_new hq3 (.tup [.str "call", .str "read", .str "write", .str "same"]))
      replace hf := fin_same hf (same_new hq3 (.tup [.str "call", .str "read", .str "write", .str "same"]))
      replace ea := (same_new hq3 (.tup [.str "call", .str "read", .str "write", .str "same"])) _ _ ea
      generalize upd _ q3 _ = H3 at *
      refine ⟨_, rfl, rfl, _, rfl, iteF ?_⟩
      refine ⟨_, rfl, sz2, fun q5 hq5 => ⟨q5, _, rfl, .inr (SqT.of upd_same), rfl, rfl, _, rfl, iteT ?_⟩⟩
      replace J := J.same (same_new hq5 (.tup [.str "tell", .str "box"]))
      replace hf := fin_same hf (same_new hq5 (.tup [.str "tell", .str "box"]))
      replace ea := (same_new hq5 (.tup [.str "tell", .str "box"])) _ _ ea
      generalize upd _ q5 _ = H5 at *
      refine ?_
      obtain ⟨a2, y1, y2, e0, ea2, r1, r2⟩ := rpw2.mp J.r
      cases e0
      have hJd := J.dep
      have hJc := J.cnt
      have hJl := J.len
      have hwf := J.wf
      have hS := J.S
      simp only [Tm.dep, Tm.nodes] at hJd hJc hJl
      rw [plc] at hf
      refine ⟨_, rfl, _, rfl, a, _, 2, _, rfl, rfl, SqT.of ea2, at2, _, rfl, _, rfl, a, _, 1, _, rfl, rfl, SqT.of ea2, at1, ?_⟩
      refine ⟨p, y2, b, y1, A0, fa, s', n, B, G, e, rfl, ⟨hS, r2, hwf.2, by omega, by omega, by omega⟩, by omega, r1, hwf.1, ?_⟩
      refine fin_two hf (fun r f' er ew h => ?_) (fun er h => ?_)
      rotate_left
      · intro H8 x8 k8 rr8
        obtain ⟨c9, w1, w3, rfl, ec9, rw1, rw3⟩ := rp2.mp rr8
        obtain ⟨za, zs, rfl, ez⟩ := er_ref rw3
        refine ⟨c9, _, rfl, SqT.of ec9, rfl, _, _, rfl, _, _, rfl, rfl, ?_⟩
        refine ⟨_, rfl, rfl, _, rfl, iteT ⟨_, rfl, sz3, fun q9 hq9 => ?_⟩⟩
        have s9 := same_new hq9 (.tup [.non, .non, .ref za])
        exact h _ _ (k8.trans (Kp.of s9)) (rp3.mpr ⟨q9, _, _, _, rfl, upd_same, .non, .non, rw3.mono s9.tk⟩)
      intro H8 x8 k8 a8 rr8
      have t8 := hS.tk k8
      obtain ⟨c9, w1, w3, rfl, ec9, rw1, rw3⟩ := rp2.mp rr8
      obtain rfl := rp_non.mp rw3
      refine ⟨c9, _, rfl, SqT.of ec9, rfl, _, _, rfl, _, _, rfl, rfl, ?_⟩
      refine ⟨_, rfl, rfl, _, rfl, iteF ⟨_, rfl, _, rfl, a, _, 1, _, rfl, rfl, SqT.of (t8 _ _ ea2), at1, _, rfl, sz3, fun q9 hq9 => ?_⟩⟩
      have s9 := same_new hq9 (.tup [.str "box", y1, w1])
      have t9 := t8.trans' s9.tk
      refine ⟨_, rfl, rfl, _, rfl, iteF ⟨_, rfl, a, _, 1, _, rfl, rfl, SqT.of (t9 _ _ ea2), at1, sz2, fun q10 hq10 => ?_⟩⟩
      have h5 : A0.ht ≤ 5 := hwf.1
      obtain ⟨h5a, h5b⟩ := fin_low h
      have s10 := same_new hq10 (.tup [.str "box", y1])
      have t10 := t9.trans' s10.tk
      have s910 := s9.trans s10
      refine ⟨.ref q9, .ref q10, (Tm.box A0 f').d, .box A0, rfl, rp3.mpr ⟨q9, _, _, _, rfl, s10 _ _ upd_same, .str _, r1.mono t10, rw1.mono s910.tk⟩, rpf_box.mpr ⟨q10, _, rfl, upd_same, r1.mono t10⟩, by simp only [Fm.ht]; omega, fun h6 H' y s11 ry => ?_, fun h6 H' y s11 ry => ?_⟩
      · exact h5a h6 _ _ (k8.trans (Kp.of (s910.trans s11))) (a8.same (s910.trans s11)) ry
      · exact h5b h6 _ _ (k8.trans (Kp.of (s910.trans s11))) ry
    · skip
      refine ⟨_, rfl, sz2, fun q0 hq0 => ⟨q0, _, rfl, .inr (SqT.of upd_same), rfl, rfl, _, rfl, iteF ?_⟩⟩
      replace J := J.same (same_new hq0 (.tup [.str "number", .str "text"]))
      replace hf := fin_same hf (same_new hq0 (.tup [.str "number", .str "text"]))
      replace ea := (same_new hq0 (.tup [.str "number", .str "text"])) _ _ ea
      generalize upd _ q0 _ = H0 at *
      refine ⟨_, rfl, rfl, _, rfl, iteF ?_⟩
      refine ⟨_, rfl, sz3, fun q2 hq2 => ⟨q2, _, rfl, .inr (SqT.of upd_same), rfl, rfl, _, rfl, iteF ?_⟩⟩
      replace J := J.same (same_new hq2 (.tup [.str "deed", .str "let", .str "do"]))
      replace hf := fin_same hf (same_new hq2 (.tup [.str "deed", .str "let", .str "do"]))
      replace ea := (same_new hq2 (.tup [.str "deed", .str "let", .str "do"])) _ _ ea
      generalize upd _ q2 _ = H2 at *
      refine ⟨_, rfl, sz4, fun q3 hq3 => ⟨q3, _, rfl, .inr (SqT.of upd_same), rfl, rfl, _, rfl, iteT ?_⟩⟩
      replace J := J.same (same_new hq3 (.tup [.str "call", .str "read", .str "write", .str "same"]))
      replace hf := fin_same hf (same_new hq3 (.tup [.str "call", .str "read", .str "write", .str "same"]))
      replace ea := (same_new hq3 (.tup [.str "call", .str "read", .str "write", .str "same"])) _ _ ea
      generalize upd _ q3 _ = H3 at *
      refine ⟨_, rfl, _, rfl, _, rfl, p, .ref a, b, fa, s', n, B, G, _, rfl, by simp only [Tm.wd]; decide, J, hf⟩
    · skip
      refine ⟨_, rfl, sz2, fun q0 hq0 => ⟨q0, _, rfl, .inr (SqT.of upd_same), rfl, rfl, _, rfl, iteF ?_⟩⟩
      replace J := J.same (same_new hq0 (.tup [.str "number", .str "text"]))
      replace hf := fin_same hf (same_new hq0 (.tup [.str "number", .str "text"]))
      replace ea := (same_new hq0 (.tup [.str "number", .str "text"])) _ _ ea
      generalize upd _ q0 _ = H0 at *
      refine ⟨_, rfl, rfl, _, rfl, iteF ?_⟩
      refine ⟨_, rfl, sz3, fun q2 hq2 => ⟨q2, _, rfl, .inr (SqT.of upd_same), rfl, rfl, _, rfl, iteF ?_⟩⟩
      replace J := J.same (same_new hq2 (.tup [.str "deed", .str "let", .str "do"]))
      replace hf := fin_same hf (same_new hq2 (.tup [.str "deed", .str "let", .str "do"]))
      replace ea := (same_new hq2 (.tup [.str "deed", .str "let", .str "do"])) _ _ ea
      generalize upd _ q2 _ = H2 at *
      refine ⟨_, rfl, sz4, fun q3 hq3 => ⟨q3, _, rfl, .inr (SqT.of upd_same), rfl, rfl, _, rfl, iteT ?_⟩⟩
      replace J := J.same (same_new hq3 (.tup [.str "call", .str "read", .str "write", .str "same"]))
      replace hf := fin_same hf (same_new hq3 (.tup [.str "call", .str "read", .str "write", .str "same"]))
      replace ea := (same_new hq3 (.tup [.str "call", .str "read", .str "write", .str "same"])) _ _ ea
      generalize upd _ q3 _ = H3 at *
      refine ⟨_, rfl, _, rfl, _, rfl, p, .ref a, b, fa, s', n, B, G, _, rfl, by simp only [Tm.wd]; decide, J, hf⟩
    · skip
      refine ⟨_, rfl, sz2, fun q0 hq0 => ⟨q0, _, rfl, .inr (SqT.of upd_same), rfl, rfl, _, rfl, iteF ?_⟩⟩
      replace J := J.same (same_new hq0 (.tup [.str "number", .str "text"]))
      replace hf := fin_same hf (same_new hq0 (.tup [.str "number", .str "text"]))
      replace ea := (same_new hq0 (.tup [.str "number", .str "text"])) _ _ ea
      generalize upd _ q0 _ = H0 at *
      refine ⟨_, rfl, rfl, _, rfl, iteF ?_⟩
      refine ⟨_, rfl, sz3, fun q2 hq2 => ⟨q2, _, rfl, .inr (SqT.of upd_same), rfl, rfl, _, rfl, iteF ?_⟩⟩
      replace J := J.same (same_new hq2 (.tup [.str "deed", .str "let", .str "do"]))
      replace hf := fin_same hf (same_new hq2 (.tup [.str "deed", .str "let", .str "do"]))
      replace ea := (same_new hq2 (.tup [.str "deed", .str "let", .str "do"])) _ _ ea
      generalize upd _ q2 _ = H2 at *
      refine ⟨_, rfl, sz4, fun q3 hq3 => ⟨q3, _, rfl, .inr (SqT.of upd_same), rfl, rfl, _, rfl, iteT ?_⟩⟩
      replace J := J.same (same_new hq3 (.tup [.str "call", .str "read", .str "write", .str "same"]))
      replace hf := fin_same hf (same_new hq3 (.tup [.str "call", .str "read", .str "write", .str "same"]))
      replace ea := (same_new hq3 (.tup [.str "call", .str "read", .str "write", .str "same"])) _ _ ea
      generalize upd _ q3 _ = H3 at *
      refine ⟨_, rfl, _, rfl, _, rfl, p, .ref a, b, fa, s', n, B, G, _, rfl, by simp only [Tm.wd]; decide, J, hf⟩
    · skip
      refine ⟨_, rfl, sz2, fun q0 hq0 => ⟨q0, _, rfl, .inr (SqT.of upd_same), rfl, rfl, _, rfl, iteF ?_⟩⟩
      replace J := J.same (same_new hq0 (.tup [.str "number", .str "text"]))
      replace hf := fin_same hf (same_new hq0 (.tup [.str "number", .str "text"]))
      replace ea := (same_new hq0 (.tup [.str "number", .str "text"])) _ _ ea
      generalize upd _ q0 _ = H0 at *
      refine ⟨_, rfl, rfl, _, rfl, iteF ?_⟩
      refine ⟨_, rfl, sz3, fun q2 hq2 => ⟨q2, _, rfl, .inr (SqT.of upd_same), rfl, rfl, _, rfl, iteT ?_⟩⟩
      replace J := J.same (same_new hq2 (.tup [.str "deed", .str "let", .str "do"]))
      replace hf := fin_same hf (same_new hq2 (.tup [.str "deed", .str "let", .str "do"]))
      replace ea := (same_new hq2 (.tup [.str "deed", .str "let", .str "do"])) _ _ ea
      generalize upd _ q2 _ = H2 at *
      refine ⟨_, rfl, _, rfl, _, rfl, p, .ref a, b, fa, s', n, B, G, _, rfl, by simp only [Tm.wd]; decide, J, hf⟩
end
end Wt
/-! What is due. -/
namespace Wt
open PySem PySem.Spec PyProof.Rows L2 RZ RT
def outD : Except Er (Tm × Fm × Nat) → PyData
  | .ok r => .tuple [.str "placed", .tuple [r.1.d, r.2.1.d]]
  | .error e => e.d
def spDue : Sp := fun vs H Q _ => ∃ L xs hs kv v s ms t, vs = [.ref L, kv, v, .str s] ∧ H L = some (.lst xs) ∧ Hls H xs hs ∧ (∀ h ∈ hs, h.ok) ∧ hs.length ≤ 12 ∧ KeptAt H kv ms ∧ RpT H v t ∧ t.wf ∧ t.dep < 25 ∧ t.nodes ≤ 1000 ∧ s.length ≤ 20 ∧ (∀ ml, ms = some ml → ml.length ≤ 100) ∧ (∀ ml, ms = some ml → ∀ q ∈ ml, q.2.ht ≤ 5) ∧
  ∀ H' x, Same H H' → Rp H' x (outD (plc (lookM (formsOf hs) ms) s [] 0 t)) → Q x H'
theorem rpa_of_get {H : Hp} : ∀ {ys : List V} {ds : List PyData}, ys.length = ds.length → (∀ (j : Nat) y d, ys[j]? = some y → ds[j]? = some d → Rp H y d) → RpAll H ys ds
  | [], [], _, _ => .nil
  | y :: ys, d :: ds, hl, h => .cons (h 0 y d rfl rfl) (rpa_of_get (by simpa using hl) fun j y' d' h1 h2 => h (j + 1) y' d' h1 h2)
theorem pairs_of {K : PySem.W.Frag} {H : Hp} : ∀ {ys : List V} {fs : FD}, RpAll H ys (fs.map fun q => .tuple [.str q.1, q.2.d]) → ∃ (ps : List Addr) (kvs : List (Key × V)), ys = ps.map V.ref ∧ Paired (fun p (kv : Key × V) => SqT K H p [kV kv.1, kv.2]) ps kvs ∧ DR H kvs fs
  | [], [], _ => ⟨[], [], rfl, .nil, .nil⟩
  | _ :: ys, q :: fs, .cons r t => by
    obtain ⟨ps, kvs, rfl, h1, h2⟩ := pairs_of (K := K) (fs := fs) t
    obtain ⟨a, v1, v2, rfl, e, r1, r2⟩ := rp2.mp r
    obtain rfl := rp_str.mp r1
    exact ⟨a :: ps, (.inr q.1, v2) :: kvs, rfl, .cons (SqT.of e) h1, .cons r2 h2⟩
theorem st_m {s : Str} {fa : Addr} : mergeK [] (stK s fa 0) = stK s fa 0 := by
  have h : ¬ ("ahead" : Str) = "count" := by decide
  have h2 : ¬ ("ahead" : Str) = "forms" := by decide
  have h3 : ¬ ("count" : Str) = "forms" := by decide
  unfold stK
  simp [mergeK, putK, h, h2, h3]
section
variable {P : Program} {w : World} {K : PySem.W.Frag} {mg : Str → Option Value} {base : Heap}
theorem sc_law_due : FnScope ["_law_halls_here", "_law_given", "_law_piece", "_law_sign", "_law_forms", "_law_placed", "_law_form_here", "_law_wrong", "_law_name_here", "_law_body"] ["_law_halls_here", "_law_given", "_law_piece", "_law_sign"] (defScope s_law_due) := ⟨rfl, rfl, rfl, by decide +kernel, rfl, by decide +kernel, by decide +kernel⟩
theorem ok__law_due (T : Facts w K mg) : Cl P w K mg base CX0 113 "_law_due" spDue := by
  have c_law_place := ok__law_place (P := P) (base := base) T 25
  obtain ⟨fd, F⟩ := T.f_law_due
  refine ⟨_, fd, ["_law_halls_here", "_law_given", "_law_piece", "_law_sign"], T.g_law_due, ?_, F.kp, F.bindsN fun _ _ _ _ _ _ us hl => match us, hl with | [_, _, _, _], _ => rfl⟩
  refine F.ok sc_law_due (fun vs H Q E h => ?_) (fun cdv A outer s H vs Q E hr h => ?_)
  · obtain ⟨L, xs, hs, kv, v, s, ms, t, rfl, _⟩ := h
    rfl
  obtain ⟨L, xs, hs, kv, v, s', ms, t, rfl, eL, hx, hok, h12, hk, rt, hw, hd, hn, h20, hml, hm5, q⟩ := h
  have hlen := hx.len
  refine ⟨_, PSs.nox (pss_cons (ps_set (i := 4) sc_law_due.nd rfl (Or.inl rfl) (pe_callTy (call_dictP rfl) (by rfl) T.z_dict (by decide +kernel) (pa_cons (pe_lc (own := [("_law_name_here", 8), ("_law_form_here", 6), ("_law_body", 9)]) (g := (gTup K 3 (gCons (gName 8) (gCons (gName 6) (gCons (gName 9) gNil))))) (tt := tYes) rfl sc_law_due.nd (pi_list (pv 0)) (blkOk_by (own := [("_law_name_here", 8), ("_law_form_here", 6), ("_law_body", 9)]) (N := ["_law_halls_here", "_law_given", "_law_piece", "_law_sign", "_law_forms", "_law_placed", "_law_form_here", "_law_wrong", "_law_name_here", "_law_body"]) (sc := defScope s_law_due) (by decide +kernel)) (fun _ _ _ _ _ => (pg_tup (by rfl) (pgs_cons (pg_name (i := 8) sc_law_due.nd rfl (Or.inl rfl)) (pgs_cons (pg_name (i := 6) sc_law_due.nd rfl (Or.inl rfl)) (pgs_cons (pg_name (i := 9) sc_law_due.nd rfl (Or.inl rfl)) pgs_nil))))) (fun _ _ _ _ _ => pts_nil) (fun _ _ _ _ _ => (pe_tup (pa_cons (pv 8) (pa_cons (pv 6) pa_nil))))) pa_nil)))
    (pss_cons (ps_expr (pe_bm PySem.F.plainAttrs_dict PySem.F.slot_dict_update PySem.F.type_dict_update mt_update (pv 4) (pa_cons (pe_ifExp (pt_cmpR op_isN (pv 1) pe_non (nomark _)) pe_dnewK (pv 1)) pa_nil)))
    (pss_cons (ps_asg (pe_cl c_law_place hr (by omega) pass0 (pa_cons (pe_disp (pps_cons pe_str (pv 3) (pps_cons pe_str pe_int (pps_cons pe_str (pv 4) pps_nil))) rfl rfl (List.cons_ne_nil _ _) (by decide)) (pa_cons (pv 2) (pa_cons (pe_lst pa_nil) pa_nil)))) (pg_tup (by rfl) (pgs_cons (pg_name (i := 5) sc_law_due.nd rfl (Or.inl rfl)) (pgs_cons (pg_name (i := 6) sc_law_due.nd rfl (Or.inl rfl)) (pgs_cons (pg_name (i := 7) sc_law_due.nd rfl (Or.inl rfl)) pgs_nil)))))
    (pss_one (ps_ret (pe_ifExp (pt_cmpR op_isN (pv 7) pe_non (nomark _)) (pe_tup (pa_cons pe_str (pa_cons (pe_tup (pa_cons (pv 5) (pa_cons (pv 6) pa_nil))) pa_nil))) (pv 7))))))), ?_⟩
  refine ⟨_, rfl, L, rfl, ⟨_, SqL.of eL⟩, fun D hD => ?_⟩
  refine lc_list_rel (fun i y H => ∀ h, hs[i]? = some h → Rp H y (.tuple [.str h.x, h.f.d])) (fun i y H H' k r h hh => (r h hh).mono k) hD (SqL.of eL) (by omega) (fun i x H1 Nx hi hxi s1 nx => ?_) (fun H2 ys s2 eD hl hys => ?_)
  · obtain ⟨h, hh, rh⟩ := hx.get hxi
    obtain ⟨a, y1, y2, rfl, ea, rf, rt'⟩ := rp_hl.mp (rh.mono s1.tk)
    generalize hτ : wipe _ (List.map _ _) = τ
    obtain rfl : τ = [some (.ref L), some kv, some v, some (.str s'), none, none, none, none, none, none] := hτ.symm.trans rfl
    refine ⟨a, _, rfl, SqT.of ea, rfl, _, [y1, y2], rfl, y1, [y2], rfl, y2, [], rfl, rfl, rfl, _, rfl, _, rfl, sz2, fun q1 hq1 => ?_⟩
    have s2 := same_new hq1 (.tup [.str h.x, y1])
    refine nx _ _ s2 fun h2 hh2 => ?_
    rw [hh] at hh2
    cases hh2
    exact rp2.mpr ⟨q1, _, _, rfl, upd_same, .str _, rf.mono s2.tk⟩
  have rp : RpAll H2 ys ((hprs hs).map fun q => .tuple [.str q.1, q.2.d]) := rpa_of_get (by rw [List.length_map]; unfold hprs; rw [List.length_map]; omega) (fun j y d h1 h2 => by
    unfold hprs at h2
    rw [List.map_map, List.getElem?_map] at h2
    obtain ⟨h, hh, rfl⟩ := Option.map_eq_some_iff.mp h2
    exact hys j y h1 h hh)
  obtain ⟨ps, kvs, rfl, hp, hdr⟩ := pairs_of (K := K) rp
  refine ⟨D, ps, kvs, rfl, SqL.of eD, hp, fun F1 hF1 => ?_⟩
  have s3 := same_new hF1 (.dK (mergeK [] kvs))
  have s23 := s2.trans s3
  have d3 : DR (upd H2 F1 (.dK (mergeK [] kvs))) (mergeK [] kvs) (formsOf hs) := DR.merge (hdr.mono s3.tk) .nil
  have e3 : (upd H2 F1 (.dK (mergeK [] kvs))) F1 = some (.dK (mergeK [] kvs)) := upd_same
  have hF0 : H F1 = none := by
    cases hh : H F1 with
    | none => rfl
    | some o => exact absurd (s2 _ _ hh) (by rw [hF1]; simp)
  have l1 := d3.len
  have l2 := formsOf_len hs
  generalize mergeK [] kvs = kv3 at *
  -- the dict of forms is whole
  have fin : ∀ H4 kv4, Same H H4 → H4 F1 = some (.dK kv4) → DR H4 kv4 (mergeP (formsOf hs) (ms.getD [])) → tSeq (tAsg (tCall (spLP 25) [] E0 (tCons (tDisp [(tC (.str "ahead"), tVar 3), (tC (.str "count"), tC (.int 0)), (tC (.str "forms"), tVar 4)]) (tCons (tVar 2) (tCons (tLst tNil) tNil)))) (gTup K 3 (gCons (gName 5) (gCons (gName 6) (gCons (gName 7) gNil)))))
      (tRet (tIf (tTest (tOp (fun x y H Q => y = V.non ∧ Q (V.bl (decide (x = V.non))) H) (tVar 7) (tC V.non))) (tTup (tCons (tC (.str "placed")) (tCons (tTup (tCons (tVar 5) (tCons (tVar 6) tNil))) tNil))) (tVar 7)))
      { nx := fun x H' => Q V.non H', rt := Q } [some (.ref L), some kv, some v, some (.str s'), some (.ref F1), none, none, none, none, none] H4 := by
    intro H4 kv4 s4 e4 d4
    refine fun st hst => ⟨_, rfl, _, rfl, upd_same, stK s' F1 0, rfl, (show 3 ≤ 15 by decide), ?_⟩
    rw [st_m]
    have s5 := same_new hst (.dK [])
    have s6 : Same H4 (upd (upd H4 st (.dK [])) st (.dK (stK s' F1 0))) := s5.upd2 hst
    have e6 : SAt (upd (upd H4 st (.dK [])) st (.dK (stK s' F1 0))) st s' F1 0 := upd_same
    generalize upd (upd H4 st (.dK [])) st (.dK (stK s' F1 0)) = H6 at *
    refine ⟨_, rfl, sz0, fun b hb => ?_⟩
    have s7 := same_new hb (.lst [])
    have s47 := s6.trans s7
    have low : ∀ q ∈ mergeP (formsOf hs) (ms.getD []), q.2.ht ≤ 5 := mergeP_low (formsOf_low hok) (by
      cases ms with
      | none => exact fun q hq => absurd hq (by simp)
      | some ml => exact hm5 ml rfl)
    have hne : F1 ≠ st := fun z => by rw [z, hst] at e4; cases e4
    have S : LS (upd H6 b (.lst [])) st b F1 s' 0 [] (lookM (formsOf hs) ms) := ⟨e6.same s7, (d4.mono s47.tk).g (s47 _ _ e4), ⟨[], upd_same, .nil⟩, lookP_low low, B5.nil, h20, hne⟩
    have hst0 : H st = none := by
      cases hh : H st with
      | none => rfl
      | some o => exact absurd (s4 _ _ hh) (by rw [hst]; simp)
    refine ⟨st, v, b, F1, s', 0, [], lookM (formsOf hs) ms, t, rfl, ⟨S, rt.mono (s4.trans s47).tk, hw, hd, by omega, by rw [List.length_nil]; omega⟩, ?_⟩
    cases hp2 : plc (lookM (formsOf hs) ms) s' [] 0 t with
    | ok r =>
      rw [hp2] at q
      intro H8 x8 k8 _ rx
      obtain ⟨c, z1, z2, z3, rfl, ec, rz1, rz2, rz3⟩ := rp3.mp rx
      obtain rfl := rp_non.mp rz3
      refine ⟨c, _, rfl, SqT.of ec, rfl, _, _, rfl, _, _, rfl, _, _, rfl, rfl, ?_⟩
      refine ⟨_, rfl, rfl, _, rfl, iteT ⟨_, rfl, _, rfl, sz2, fun q1 hq1 => ⟨sz2, fun q2 hq2 => ?_⟩⟩⟩
      have s9 := same_new hq1 (.tup [z1, z2])
      have s10 := same_new hq2 (.tup [.str "placed", .ref q1])
      have s910 := s9.trans s10
      exact q _ _ ((same_kp (s4.trans s47) k8 hst0).trans s910) (rp2.mpr ⟨q2, _, _, rfl, upd_same, .str _, rp2.mpr ⟨q1, _, _, rfl, s10 _ _ upd_same, rz1.mono s910.tk, rz2.mono s910.tk⟩⟩)
    | error e =>
      rw [hp2] at q
      intro H8 x8 k8 rx
      obtain ⟨c, z1, z2, z3, rfl, ec, rz1, rz2, rz3⟩ := rp3.mp rx
      obtain ⟨za, zs, rfl, ez⟩ := er_ref rz3
      refine ⟨c, _, rfl, SqT.of ec, rfl, _, _, rfl, _, _, rfl, _, _, rfl, rfl, ?_⟩
      refine ⟨_, rfl, rfl, _, rfl, iteF ⟨_, rfl, ?_⟩⟩
      exact q _ _ (same_kp (s4.trans s47) k8 hst0) rz3
  refine ⟨_, rfl, .inr (.inr (.inl ⟨rfl, .inl ⟨_, e3⟩⟩)), _, rfl, rfl, _, rfl, ?_⟩
  cases ms with
  | none =>
    obtain rfl : kv = .non := hk
    refine iteT fun q1 hq1 => ?_
    have s4 := same_new hq1 (.dK [])
    have hne : F1 ≠ q1 := fun z => by rw [← z, e3] at hq1; cases hq1
    refine ⟨F1, q1, kv3, [], rfl, rfl, hne, s4 _ _ e3, upd_same, by rw [List.length_nil]; omega, ?_⟩
    have s5 : Same H (upd (upd (upd H2 F1 (.dK kv3)) q1 (.dK [])) F1 (.dK (mergeK kv3 []))) := (s23.trans s4).upd2 hF0
    exact fin _ kv3 s5 upd_same ((d3.mono s4.tk).mono (tk_at (s4 _ _ e3)))
  | some ml =>
    obtain ⟨k, more, rfl, ek, hmr⟩ := hk
    have ek2 := s23 _ _ ek
    have hne : F1 ≠ k := fun z => by rw [← z, hF0] at ek; cases ek
    have l3 := hml ml rfl
    have l4 := hmr.len
    refine iteF ⟨_, rfl, F1, k, kv3, more, rfl, rfl, hne, e3, ek2, by omega, ?_⟩
    have s5 : Same H (upd (upd H2 F1 (.dK kv3)) F1 (.dK (mergeK kv3 more))) := s23.upd2 hF0
    exact fin _ _ s5 upd_same (DR.merge (hmr.mono s5.tk) (d3.mono (tk_at e3)))
end
end Wt
/-! Several except clauses, with and without a name: the kit has 'as n' with one clause, and several clauses with no name; this follows both. -/
namespace Wt
open PySem PySem.Spec PyProof.Rows L2
def asE (D : Ends) (i : Nat) : Ends := { nx := fun σ' H' => D.nx (σ'.set i none) H', rt := D.rt, bk := fun σ' H' => D.bk (σ'.set i none) H', ct := fun σ' H' => D.ct (σ'.set i none) H' }
/-- what the clauses wish of an exception of the body, one after the other -/
def wMix (K : PySem.W.Frag) (Wout : WX) (D : Ends) : List (Value × Option Nat × (Addr → Value → Option Addr → TS)) → WX
  | [] => Wout
  | (c, none, ts) :: r => fun cls d σ H => ∃ b, PySem.W.exmOne K cls c = some b ∧ (b = true → ∀ a, H a = none → ts a cls d D σ H) ∧ (b = false → wMix K Wout D r cls d σ H)
  | (c, some i, ts) :: r => fun cls d σ H => ∃ b, PySem.W.exmOne K cls c = some b ∧ (b = true → ∀ a, H a = none → ts a cls d (asE D i) (σ.set i (some (.ref a))) H) ∧ (b = false → wMix K Wout D r cls d σ H)
inductive HdsX (X : Cx) : List ExceptHandler → List (Value × Option Nat × (Addr → Value → Option Addr → TS)) → Prop
  | nil : HdsX X [] []
  | cons {x : Str} {c : Value} {ts : Addr → Value → Option Addr → TS} {b₀ : Stmt} {suite : List Stmt} {np pos' : Pos} {hds : List ExceptHandler} {l : List (Value × Option Nat × (Addr → Value → Option Addr → TS))} (hc : Names X x c)
      (hsu : ∀ (a : Addr) (oe : Obj) (cls : Value) (d : Option Addr) (pn : List (Addr × Obj)), Zc cls d oe → (∃ vs, oe.data = .fields vs) → PSs (X.suite a ((a, oe) :: pn)) (b₀ :: suite) (ts a cls d)) (r : HdsX X hds l) :
      HdsX X (.ExceptHandler (some (.Name x np)) none (b₀ :: suite) pos' :: hds) ((c, none, ts) :: l)
  | as {x n : Str} {i : Nat} {c : Value} {ts : Addr → Value → Option Addr → TS} {b₀ : Stmt} {suite : List Stmt} {np pos' : Pos} {hds : List ExceptHandler} {l : List (Value × Option Nat × (Addr → Value → Option Addr → TS))} (hc : Names X x c) (hi : X.N[i]? = some n) (hln : X.env.kindOf n = some .local)
      (hsu : ∀ (a : Addr) (oe : Obj) (cls : Value) (d : Option Addr) (pn : List (Addr × Obj)), Zc cls d oe → (∃ vs, oe.data = .fields vs) → PSs (X.suite a ((a, oe) :: pn)) (b₀ :: suite) (ts a cls d)) (r : HdsX X hds l) :
      HdsX X (.ExceptHandler (some (.Name x np)) (some n) (b₀ :: suite) pos' :: hds) ((c, some i, ts) :: l)
section
variable {X : Cx} {body : List Stmt} {h₀ : ExceptHandler} {hds : List ExceptHandler} {l : List (Value × Option Nat × (Addr → Value → Option Addr → TS))} {pos : Pos} {tb : WX → TS} {Wout : WX}
theorem ps_try_mix (hs : X.stack = X.env :: X.outer) (hf : X.env.frame = some X.env.locals) (hN : X.N.Nodup) (tk : Takes X Wout)
    (hb : ∀ (W : WX) (pn : List (Addr × Obj)) (xe : Value → Shared → Prop), Takes (X.tr pn xe) W → PassesOwn (model X.prog X.w) X.A X.env xe → PSs (X.tr pn xe) body (tb W))
    (hh : HdsX X (h₀ :: hds) l) : PS X (.Try body (h₀ :: hds) [] [] pos) (fun D σ H => tb (wMix X.K Wout D l) D σ H) := by
  refine ⟨fun pins s σ H D I h => ?_⟩
  have ok := I.ok
  have hfr : X.A.frames = some (X.env :: X.outer) := by rw [ok.frames, hs]
  refine wpAny_Try_except ?_
  refine wpAny_mono ((hb (wMix X.K Wout D l) (X.pn ++ pins) (fun e s₁ => wpAny (model X.prog X.w) X.A (noteFrame e X.env) (fun _ s₂ => wpAny (model X.prog X.w) X.A (setFlight e none) (fun _ s₃ =>
    wpAny (model X.prog X.w) X.A (handleBy e X.env (h₀ :: hds)) (SP X pins D) X.xe s₃) X.xe s₂) X.xe s₁) (fun u s' xx => ?_) PassesOwn.looking).run [] s σ H D (I.toTry _) h) (fun f s1 hsp => ?_) (fun e s1 he => he)
  · obtain ⟨a, B, sI, pins', σ', H', cls, d, rfl, J', nb, up, sky, na, os, ag, w⟩ := xx
    have J : Inv X pins σ' H' sI := J'.ofTry ok
    have sky' : Sky B (X.env :: X.outer) a (Zc cls d) X.env.locals s'.heap := by rw [← hs]; exact sky
    show wpAny (model X.prog X.w) X.A (noteFrame (.ref a) X.env) _ _ _
    refine Sky.land Zc.steady hfr hf sky' fun h3 fl3 up3 => ?_
    have J3 : Inv X pins σ' H' { s' with heap := h3 } := J.landed nb fl3.1 (up.trans up3) os ag
    obtain ⟨oe3, vs3, he3, hz3, hd3⟩ := fl3.there
    have notFr : ∀ {h : Heap} {o : Obj} {vs : Array Value}, h.FunFrames B (X.env :: X.outer) → h.get? a = some o → o.data = .fields vs → a ∉ frs (X.env :: X.outer) := fun {h o vs} ff e dd hm => by
      obtain ⟨_, o', e', hnf⟩ := ff.mem hm
      rw [e] at e'; cases e'
      exact hnf _ dd
    have nfr := notFr fl3.2.2.1 he3 hd3
    have nL : a ≠ X.env.locals := fun z => nfr (List.mem_filterMap.mpr ⟨X.env, List.mem_cons_self, by rw [hf, z]⟩)
    have nF : a ∉ X.fs := fun hm => by
      obtain ⟨e, he, q⟩ := List.mem_filterMap.mp hm
      exact nfr (List.mem_filterMap.mpr ⟨e, List.mem_cons_of_mem _ he, q⟩)
    have S3 := J3.suite he3 hd3 na nL nF
    have LT : PySem.W.Looks (model X.prog X.w) h3 (typeOf (.ref a)) cls := fun A Q E s k q => wpAny_typeOf_ref (k _ _ he3) (by rw [hz3.1]; exact q)
    have test : ∀ {x : Str} {c : Value} {np : Pos} {Q : Value → Shared → Prop} {E : Value → Shared → Prop}, Names X x c → Q c { s' with heap := h3 } → wpAny (model X.prog X.w) (X.A.mark (some (.ref a))) (eval (.Name x np) X.env) Q E { s' with heap := h3 } := fun {x c np Q E} hc q => by
      obtain ⟨hg, hdbg, hm | ⟨hm, hv, hnn⟩⟩ := hc
      · exact ld_glob (X := X.suite a ((a, oe3) :: (X.pn ++ pins))) S3 hg hm q hdbg
      · exact ld_blt (X := X.suite a ((a, oe3) :: (X.pn ++ pins))) S3 hg hm hv q hnn hdbg
    have go : ∀ {hds' : List ExceptHandler} {l' : List (Value × Option Nat × (Addr → Value → Option Addr → TS))}, HdsX X hds' l' → wMix X.K Wout D l' cls d σ' H' →
        wpAny (model X.prog X.w) X.A (handleBy (.ref a) X.env hds') (SP X pins D) X.xe { s' with heap := h3 } := by
      intro hds' l' hk
      induction hk with
      | nil =>
        intro w
        refine wpAny_handleBy_nil ?_
        obtain ⟨k1, k2, k3, oe, vs, T, oT, ts', he, hz, hd, h1, hr⟩ := id fl3
        unfold PySem.passOn
        refine wpAny_bind (wpAny_field he hd h1 ?_)
        rw [if_neg (show ¬ ((Value.ref T == Value.none) = true) from by simp)]
        have fin : wpAny (model X.prog X.w) X.A (setFlight (.ref a) X.env.frame) (fun _ s4 => wpAny (model X.prog X.w) X.A (throw (.ref a) : Sem Flow) (SP X pins D) X.xe s4) X.xe { s' with heap := h3 } := by
          rw [hf]
          refine HandSPX.setFlight_upZ fl3 fun h4 hh4 up4 => wpAny_throw (tk _ _ ?_)
          exact ⟨a, B, sI, pins, σ', H', cls, d, rfl, J, nb, (up.trans up3).trans up4, .inr (.inr (by rw [hs]; exact hh4)), na, os, ag, w⟩
        first
          | exact wpAny_bind (wpAny_pure (wpAny_bind fin))
          | exact wpAny_bind fin
      | @cons x c ts b₀ suite np pos' hds2 l2 hc hsu r ih =>
        intro w
        obtain ⟨b, hb1, hyes, hno⟩ := w
        refine wpAny_handleBy_cons (codeAny_handlers_test ?_) (by intro q; cases q)
        have LM := PySem.W.exm_one (M := model X.prog X.w) (J3.kIn) LT hb1
        refine test hc (LM.here ?_)
        cases b with
        | true =>
          refine codeAny_handlers_suite ?_
          refine HandSPX.lands_againZ fl3 fun h4 fl4 up4 => ?_
          have J4 : Inv X pins σ' H' { s' with heap := h4 } := J.landed nb fl4.1 ((up.trans up3).trans up4) os ag
          obtain ⟨oe4, vs4, he4, hz4, hd4⟩ := fl4.there
          have S4 := J4.suite he4 hd4 na nL nF
          refine wpAny_mono ((hsu a oe4 cls d (X.pn ++ pins) hz4 ⟨_, hd4⟩).run [] _ _ H' _ S4 (hyes rfl a na)) (fun f s6 hsp => ?_) (fun _ _ z => False.elim z)
          cases f with
          | next =>
            obtain ⟨σ6, H6, S6, q6⟩ := hsp
            exact ⟨_, _, S6.unsuite ok, q6⟩
          | brk =>
            obtain ⟨σ6, H6, S6, q6⟩ := hsp
            exact ⟨_, _, S6.unsuite ok, q6⟩
          | cont =>
            obtain ⟨σ6, H6, S6, q6⟩ := hsp
            exact ⟨_, _, S6.unsuite ok, q6⟩
          | ret u =>
            obtain ⟨v6, σ6, H6, S6, r6, q6⟩ := hsp
            exact ⟨_, _, _, S6.unsuite ok, r6, q6⟩
        | false =>
          show wpAny _ X.A (handleBy (.ref a) X.env hds2) _ _ _
          exact ih (hno rfl)
      | @as x n i c ts b₀ suite np pos' hds2 l2 hc hi hln hsu r ih =>
        intro w
        obtain ⟨b, hb1, hyes, hno⟩ := w
        have hloc : Loc X.env.scope n := .inl hln
        refine wpAny_handleBy_cons (codeAny_handlers_test ?_) (by intro q; cases q)
        have LM := PySem.W.exm_one (M := model X.prog X.w) (J3.kIn) LT hb1
        refine test hc (LM.here ?_)
        cases b with
        | true =>
          refine codeAny_handlers_suite_as ?_
          refine HandSPX.lands_againZ fl3 fun h4 fl4 up4 => ?_
          have J4 : Inv X pins σ' H' { s' with heap := h4 } := J.landed nb fl4.1 ((up.trans up3).trans up4) os ag
          obtain ⟨oe4, vs4, he4, hz4, hd4⟩ := fl4.there
          have S4 := J4.suite he4 hd4 na nL nF
          refine store_ok (X := X.suite a ((a, oe4) :: (X.pn ++ pins))) (v := .ref a) S4 hN hi hloc rfl (fun s5 S5 => ?_) (.inr hln)
          refine wpAny_mono ((hsu a oe4 cls d (X.pn ++ pins) hz4 ⟨_, hd4⟩).run [] s5 _ H' _ S5 (hyes rfl a na)) (fun f s6 hsp => ?_) (fun _ _ z => False.elim z)
          have end_ : ∀ {σ6 : L2.St} {H6 : Hp} {Q : Shared → Prop}, Inv (X.suite a ((a, oe4) :: (X.pn ++ pins))) [] σ6 H6 s6 → (∀ s7, Inv X pins (σ6.set i none) H6 s7 → Q s7) →
              wpAny (model X.prog X.w) X.A (do bindName X.env n .none; unbindBehindTheSuite X.env n pos') (fun _ s7 => Q s7) X.xe s6 := fun {σ6 H6 Q} S6 hq => gone_ok (S6.unsuite ok) hN hi hln hq
          cases f with
          | next =>
            obtain ⟨σ6, H6, S6, q6⟩ := hsp
            exact end_ S6 fun s7 J7 => ⟨_, _, J7, q6⟩
          | brk =>
            obtain ⟨σ6, H6, S6, q6⟩ := hsp
            exact end_ S6 fun s7 J7 => ⟨_, _, J7, q6⟩
          | cont =>
            obtain ⟨σ6, H6, S6, q6⟩ := hsp
            exact end_ S6 fun s7 J7 => ⟨_, _, J7, q6⟩
          | ret u =>
            obtain ⟨v6, σ6, H6, S6, r6, q6⟩ := hsp
            exact end_ S6 fun s7 J7 => ⟨_, _, _, J7, r6, q6⟩
        | false =>
          show wpAny _ X.A (handleBy (.ref a) X.env hds2) _ _ _
          exact ih (hno rfl)
    exact go hh w
  · cases f with
    | next =>
      obtain ⟨σ', H', J', q⟩ := hsp
      exact wpAny_execs_nil ⟨σ', H', J'.ofTry ok, q⟩
    | brk =>
      obtain ⟨σ', H', J', q⟩ := hsp
      exact ⟨σ', H', J'.ofTry ok, q⟩
    | cont =>
      obtain ⟨σ', H', J', q⟩ := hsp
      exact ⟨σ', H', J'.ofTry ok, q⟩
    | ret u =>
      obtain ⟨v, σ', H', J', r, q⟩ := hsp
      exact ⟨v, σ', H', J'.ofTry ok, r, q⟩
end
end Wt
/-! A method call with keywords. -/
namespace Wt
open PySem PySem.Spec PyProof.Rows L2
def tMethN (C : Addr) (m : Str) (n k : Nat) (sp : Sp) (gV : List V → List V → List V) (E : XK) (ta : TE) (t tk : TA) : TE := fun σ H Q => ta σ H fun x H1 => ∃ a dx fs, x = .ref a ∧ H1 a = some (.ins C dx fs) ∧ fs.lookup m = none ∧
  t σ H1 fun vs H2 => tk σ H2 fun zs H3 => vs.length = n ∧ zs.length = k ∧ sp (gV (x :: vs) zs) H3 Q E
section
variable {X : Cx} {CX : CXT} {k n : Nat} {f C : Addr} {fd : FuncData} {ps ks : List Str} {sp : Sp} {E : XK} {m : Str} {p pos apos : Pos} {o e : Expr} {es : List Expr} {kws : List Keyword} {ta : TE} {t tk : TA} {g : List Value → List Value → List Value} {gV : List V → List V → List V}
theorem pe_mkw {pl : Sem Bool} (he : PE X o ta) (c : Cls X.K C) (hm : Meth X.K C m f) (F : FnOk X.prog X.w X.K X.mg X.base CX k f fd ps sp) (hr : Room k X.A) (hb : KBn X.K fd ps (n + 1) ks g gV) (hx : Passes CX X E) (ha : PA X (e :: es) t) (hkw : PK X kws tk)
    (hall : (backToKw pos (keywordEach kws X.env)).all (·.1.isSome) = true := by rfl) (hks : (backToKw pos (keywordEach kws X.env)).filterMap (·.1) = ks := by rfl)
    (hst : starEach (e :: es) X.env = (false, eval e X.env) :: starEach es X.env := by rfl)
    (hpl : ((backTo pos (starEach (e :: es) X.env)).any (·.1) || (backToKw pos (keywordEach kws X.env)).any (·.1.isNone)) = false := by rfl)
    (ht : eval (.Call (.Attribute o m apos) (e :: es) kws pos) X.env = (do
      let ov ← eval o X.env
      standAt apos.atName
      let (f, first) ← holding [ov] (getMethod ov m pl)
      callWith pos f first (backTo pos (starEach (e :: es) X.env)) (backToKw pos (keywordEach kws X.env))) := by rfl) :
    PE X (.Call (.Attribute o m apos) (e :: es) kws pos) (tMethN C m n ks.length sp gV E ta t tk) := by
  refine ⟨fun pins s σ H Q I h => ?_⟩
  refine PySem.W.methodCall_KW (pl := pl) (thn (he.run pins s σ H _ I h) fun u s1 ⟨x, H1, I1, rx, a, dx, fs, ex, ea, l, q⟩ => ?_) ht
  subst ex
  obtain rfl : u = Value.ref a := rx
  refine getmeth_ok I1 ea c hm l ?_
  refine PySem.W.callWith_KW (first := [.ref a]) (h₀ := X.base) I.ok.mod.kin hm.kp hall (thn (ha.run pos pins s1 σ H1 _ I1 q) fun us s2 ⟨vs, H2, I2, r, q2⟩ => ?_) hpl hst
  refine thn (hkw.run pos pins s2 σ H2 _ I2 q2) fun ws s3 ⟨zs, H3, I3, rz, l1, l2, q3⟩ => ⟨I3.kIn, ?_⟩
  rw [hks]
  exact run_fnN (us := .ref a :: us) (vs := .ref a :: vs) F hr hb hx I3 (.cons rfl r) rz (by rw [List.length_cons, l1]) l2 q3
end
/-- how place's two calls bind -/
def gKept {α : Type} (us mv ws : List α) : List α := us ++ (mv ++ ws)
theorem gKept_rel {vs mz zs : List V} {us mv ws : List Value} (r1 : Vals vs us) (r2 : Vals mz mv) (r3 : Vals zs ws) : Vals (gKept vs mz zs) (gKept us mv ws) := r1.append (r2.append r3)
theorem place_kept {K : PySem.W.Frag} {f : Addr} {fd : FuncData} (F : FunD K "place" "Program.place" (defArgs s_Program_place) (defBody s_Program_place) (defScope s_Program_place) [] [("mark", .str "0"), ("kept", .non)] f fd) :
    ∃ g, KBn K fd ["self", "term", "mark", "kept"] 2 ["kept"] g (fun vs zs => gKept vs [.str "0"] zs) := by
  obtain ⟨mv, h⟩ := F.kbinds0 (ps := ["self", "term", "mark", "kept"]) 2 ["kept"] [("mark", .str "0")] gKept (by simp) (by simp) gKept_rel (fun D doc pm an cdv ct us mv ws l1 l2 l3 => by
    match us, mv, ws, l1, l2, l3 with
    | [u1, u2], [v1], [w1], _, _, _ => exact ⟨_, _, _, _, _, _, rfl, rfl, rfl⟩)
  exact ⟨_, h⟩
theorem place_both {K : PySem.W.Frag} {f : Addr} {fd : FuncData} (F : FunD K "place" "Program.place" (defArgs s_Program_place) (defBody s_Program_place) (defScope s_Program_place) [] [("mark", .str "0"), ("kept", .non)] f fd) :
    ∃ g, KBn K fd ["self", "term", "mark", "kept"] 2 ["mark", "kept"] g (fun vs zs => gKept vs [] zs) := by
  obtain ⟨mv, h⟩ := F.kbinds0 (ps := ["self", "term", "mark", "kept"]) 2 ["mark", "kept"] [] gKept (by simp) (by simp) gKept_rel (fun D doc pm an cdv ct us mv ws l1 l2 l3 => by
    match us, mv, ws, l1, l2, l3 with
    | [u1, u2], [], [w1, w2], _, _, _ => exact rfl)
  exact ⟨_, h⟩
end Wt
/-! What the program tells. -/
namespace Wt
open PySem PySem.Spec PyProof.Rows L2 RZ RT
/-- a method call with keywords whose errors may be asked of the slots -/
def tMethW (W : WX) (C : Addr) (m : Str) (n k : Nat) (sp : Sp) (gV : List V → List V → List V) (ta : TE) (t tk : TA) : TE := fun σ H Q => ta σ H fun x H1 => ∃ a dx fs, x = .ref a ∧ H1 a = some (.ins C dx fs) ∧ fs.lookup m = none ∧
  t σ H1 fun vs H2 => tk σ H2 fun zs H3 => vs.length = n ∧ zs.length = k ∧ sp (gV (x :: vs) zs) H3 Q (fun cls d H' => W cls d σ H')
section
variable {X : Cx} {W : WX} {k n : Nat} {f C : Addr} {fd : FuncData} {ps ks : List Str} {sp : Sp} {m : Str} {p pos apos : Pos} {o e : Expr} {es : List Expr} {kws : List Keyword} {ta : TE} {t tk : TA} {g : List Value → List Value → List Value} {gV : List V → List V → List V}
theorem pe_mkwW {pl : Sem Bool} (tW : Takes X W) (he : PE X o ta) (c : Cls X.K C) (hm : Meth X.K C m f) (F : FnOk X.prog X.w X.K X.mg X.base (L2.CX X.prog X.w) k f fd ps sp) (hr : Room k X.A) (hb : KBn X.K fd ps (n + 1) ks g gV) (ha : PA X (e :: es) t) (hkw : PK X kws tk)
    (hall : (backToKw pos (keywordEach kws X.env)).all (·.1.isSome) = true := by rfl) (hks : (backToKw pos (keywordEach kws X.env)).filterMap (·.1) = ks := by rfl)
    (hst : starEach (e :: es) X.env = (false, eval e X.env) :: starEach es X.env := by rfl)
    (hpl : ((backTo pos (starEach (e :: es) X.env)).any (·.1) || (backToKw pos (keywordEach kws X.env)).any (·.1.isNone)) = false := by rfl)
    (ht : eval (.Call (.Attribute o m apos) (e :: es) kws pos) X.env = (do
      let ov ← eval o X.env
      standAt apos.atName
      let (f, first) ← holding [ov] (getMethod ov m pl)
      callWith pos f first (backTo pos (starEach (e :: es) X.env)) (backToKw pos (keywordEach kws X.env))) := by rfl) :
    PE X (.Call (.Attribute o m apos) (e :: es) kws pos) (tMethW W C m n ks.length sp gV ta t tk) := by
  refine ⟨fun pins s σ H Q I h => ?_⟩
  refine PySem.W.methodCall_KW (pl := pl) (thn (he.run pins s σ H _ I h) fun u s1 ⟨x, H1, I1, rx, a, dx, fs, ex, ea, l, q⟩ => ?_) ht
  subst ex
  obtain rfl : u = Value.ref a := rx
  refine getmeth_ok I1 ea c hm l ?_
  refine PySem.W.callWith_KW (first := [.ref a]) (h₀ := X.base) I.ok.mod.kin hm.kp hall (thn (ha.run pos pins s1 σ H1 _ I1 q) fun us s2 ⟨vs, H2, I2, r, q2⟩ => ?_) hpl hst
  refine thn (hkw.run pos pins s2 σ H2 _ I2 q2) fun ws s3 ⟨zs, H3, I3, rz, l1, l2, q3⟩ => ⟨I3.kIn, ?_⟩
  rw [hks]
  have r1 : Vals (V.ref a :: vs) (Value.ref a :: us) := .cons rfl r
  have r2 := hb.rel r1 rz
  refine wpAny_call (codeAny_mono (F.run X.A X.stack s3 H3 ⟨.ref a :: us, ks.zip ws⟩ _ _ Q _ hr I3.env0 (hb.to s3 (.ref a :: us) ws I3.kIn (r1.length.symm.trans (by rw [List.length_cons, l1])) (rz.length.symm.trans l2)) r2 q3) fun r s' hq => ?_)
  cases r with
  | error e => exact tW e s' (XE.of_call I3 (fun cls d H' h => h) hq)
  | ok fl =>
    cases fl with
    | ret u => exact I3.after hq
    | next => exact False.elim hq
    | brk => exact False.elim hq
    | cont => exact False.elim hq
end
theorem pg_n {a b c : V} : List.lookup ("place" : Str) [("own_halls", a), ("forms", b), ("terms", c)] = none := by
  have h1 : (("place" : Str) == ("own_halls" : Str)) = false := by decide
  have h2 : (("place" : Str) == ("forms" : Str)) = false := by decide
  have h3 : (("place" : Str) == ("terms" : Str)) = false := by decide
  simp [List.lookup, h1, h2, h3]
def spTold (K : PySem.W.Frag) : Sp := fun vs H Q _ => ∃ pr v s kv fs ms t, vs = [.ref pr, v, kv, .str s] ∧ PgAt K H pr fs ∧ KeptAt H kv ms ∧ RpT H v t ∧ t.wf ∧ t.dep < 25 ∧ t.nodes ≤ 1000 ∧ s.length ≤ 20 ∧ fs.length ≤ 100 ∧ (∀ ml, ms = some ml → ml.length ≤ 100) ∧ (∀ q ∈ fs, q.2.ht ≤ 5) ∧ (∀ ml, ms = some ml → ∀ q ∈ ml, q.2.ht ≤ 5) ∧
  ∀ H' x, Same H H' → Rp H' x (outD (plc (lookM fs ms) s [] 0 t)) → Q x H'
section
variable {P : Program} {w : World} {K : PySem.W.Frag} {mg : Str → Option Value} {base : Heap}
theorem sc_law_placed_told : FnScope ["_law_program", "_law_piece", "_law_given", "_law_sign", "_law_told", "e"] ["_law_program", "_law_piece", "_law_given", "_law_sign"] (defScope s_law_placed_told) := ⟨rfl, rfl, rfl, by decide +kernel, rfl, by decide +kernel, by decide +kernel⟩
theorem ok__law_placed_told (T : Facts w K mg) : Cl P w K mg base CX0 116 "_law_placed_told" (spTold K) := by
  obtain ⟨fdp, plF, plD⟩ := ok_Program_place (P := P) (base := base) T
  obtain ⟨g1, kb1⟩ := place_kept plD
  obtain ⟨g2, kb2⟩ := place_both plD
  obtain ⟨fd, F⟩ := T.f_law_placed_told
  refine ⟨_, fd, ["_law_program", "_law_piece", "_law_given", "_law_sign"], T.g_law_placed_told, ?_, F.kp, F.bindsN fun _ _ _ _ _ _ us hl => match us, hl with | [_, _, _, _], _ => rfl⟩
  refine F.ok sc_law_placed_told (fun vs H Q E h => ?_) (fun cdv A outer s H vs Q E hr h => ?_)
  · obtain ⟨pr, v, s, kv, fs, ms, t, rfl, _⟩ := h
    rfl
  obtain ⟨pr, v, s', kv, fs, ms, t, rfl, hpg, hk, rt, hw, hd, hn, h20, hfl, hml, hf5, hm5, q⟩ := h
  refine ⟨_, PSs.nox (pss_cons (ps_set (i := 4) sc_law_placed_told.nd rfl (Or.inl rfl) pe_non)
    (pss_cons (ps_try_mix rfl rfl sc_law_placed_told.nd (Wout := fun _ _ _ _ => False) takes_none5
      (tb := fun W => _)
      (fun W pn xe tkW po => pss_one (ps_if (pt_cmpR op_eq (pv 3) pe_str (nomark _))
        (pss_one (ps_set (i := 4) sc_law_placed_told.nd rfl (Or.inl rfl) (pe_tup (pa_cons pe_str (pa_cons (pe_mkwW tkW (pv 0) T.cls_Program T.m_Program_place plF (hr.mono (by decide)) kb1 (pa_cons (pv 1) pa_nil) (pk_cons (pv 2) pk_nil)) pa_nil)))))
        (pss_one (ps_set (i := 4) sc_law_placed_told.nd rfl (Or.inl rfl) (pe_tup (pa_cons pe_str (pa_cons (pe_mkwW tkW (pv 0) T.cls_Program T.m_Program_place plF (hr.mono (by decide)) kb2 (pa_cons (pv 1) pa_nil) (pk_cons (pv 3) (pk_cons (pv 2) pk_nil))) pa_nil)))))))
      (HdsX.as (c := .ref (He.ga K "NoName")) (i := 5) ⟨rfl, by decide, .inl T.g_NoName⟩ rfl rfl (ts := fun a cls d => _) (fun a oe cls d pn hz hd => pss_one (ps_set (i := 4) sc_law_placed_told.nd rfl (Or.inl rfl) (pe_tup (pa_cons pe_str (pa_cons (pe_xf ⟨T.e_NoName.ga, T.e_NoName.gg, T.e_NoName.exC, T.e_NoName.hdC⟩ T.e_NoName.noN hz hd (pv 5)) pa_nil)))))
      (HdsX.as (c := .ref (He.ga K "NotLet")) (i := 5) ⟨rfl, by decide, .inl T.g_NotLet⟩ rfl rfl (ts := fun a cls d => _) (fun a oe cls d pn hz hd => pss_one (ps_set (i := 4) sc_law_placed_told.nd rfl (Or.inl rfl) (pe_tup (pa_cons pe_str (pa_cons (pe_xf ⟨T.e_NotLet.ga, T.e_NotLet.gg, T.e_NotLet.exC, T.e_NotLet.hdC⟩ T.e_NotLet.noN hz hd (pv 5)) pa_nil)))))
      (HdsX.cons (c := .ref (He.ga K "TooHigh")) ⟨rfl, by decide, .inl T.g_TooHigh⟩ (ts := fun a cls d => _) (fun a oe cls d pn hz hd => pss_one (ps_set (i := 4) sc_law_placed_told.nd rfl (Or.inl rfl) (pe_tup (pa_cons pe_str (pa_cons pe_non pa_nil)))))
      HdsX.nil))))
    (pss_one (ps_ret (pv 4))))), ?_⟩
  obtain ⟨dx, oh, tm, fa, kvs, ep, e2, hdr⟩ := id hpg
  generalize hl : ([_, _, _] : List (Value × Option Nat × (Addr → Value → Option Addr → TS))) = l
  generalize hD : ({ nx := tRet (tVar 4) { nx := fun x H' => Q V.non H', rt := Q }, rt := Q } : Ends) = D
  have bad : ∀ er, plc (lookM fs ms) s' [] 0 t = .error er → ErrZ K H (fun cls d H' => wMix K (fun _ _ _ _ => False) D l cls d [some (.ref pr), some v, some kv, some (.str s'), some .non, none] H') er := by
    intro er he
    rw [he] at q
    subst hl hD
    cases er with
    | name x =>
      refine fun d H' s1 ed => ⟨true, T.x_NoName_NoName, fun _ a ha => ?_, fun z => (by cases z)⟩
      refine ⟨_, rfl, rfl, rfl, d, _, .str x, rfl, ed, rfl, sz2, fun q1 hq1 => ⟨_, rfl, ?_⟩⟩
      have s2 := s1.trans (same_new hq1 (.tup [.str "name", .str x]))
      exact q _ _ s2 (rp2.mpr ⟨q1, _, _, rfl, upd_same, .str _, .str _⟩)
    | lt x =>
      refine fun d H' s1 ed => ⟨false, T.x_NotLet_NoName, fun z => (by cases z), fun _ => ⟨true, T.x_NotLet_NotLet, fun _ a ha => ?_, fun z => (by cases z)⟩⟩
      refine ⟨_, rfl, rfl, rfl, d, _, .str x, rfl, ed, rfl, sz2, fun q1 hq1 => ⟨_, rfl, ?_⟩⟩
      have s2 := s1.trans (same_new hq1 (.tup [.str "let", .str x]))
      exact q _ _ s2 (rp2.mpr ⟨q1, _, _, rfl, upd_same, .str _, .str _⟩)
    | high =>
      refine fun H' s1 => ⟨false, T.x_TooHigh_NoName, fun z => (by cases z), fun _ => ⟨false, T.x_TooHigh_NotLet, fun z => (by cases z), fun _ => ⟨true, T.x_TooHigh_TooHigh, fun _ a ha => ?_, fun z => (by cases z)⟩⟩⟩
      refine ⟨sz2, fun q1 hq1 => ⟨_, rfl, ?_⟩⟩
      have s2 := s1.trans (same_new hq1 (.tup [.str "high", .non]))
      exact q _ _ s2 (rp2.mpr ⟨q1, _, _, rfl, upd_same, .str _, .non⟩)
  have good : ∀ r, plc (lookM fs ms) s' [] 0 t = .ok r → ∀ H' x, Same H H' → Rp H' x (.tuple [r.1.d, r.2.1.d]) → 2 ≤ sizeLine ∧ ∀ q1, H' q1 = none → D.nx [some (.ref pr), some v, some kv, some (.str s'), some (.ref q1), none] (upd H' q1 (.tup [.str "placed", x])) := by
    intro r he H' x s1 rx
    rw [he] at q
    subst hD
    refine ⟨sz2, fun q1 hq1 => ⟨_, rfl, ?_⟩⟩
    have s2 := same_new hq1 (.tup [.str "placed", x])
    exact q _ _ (s1.trans s2) (rp2.mpr ⟨q1, _, _, rfl, upd_same, .str _, rx.mono s2.tk⟩)
  have fin : ∀ {Q2 : VK}, (∀ H' x, (2 ≤ sizeLine ∧ ∀ q1, H' q1 = none → D.nx [some (.ref pr), some v, some kv, some (.str s'), some (.ref q1), none] (upd H' q1 (.tup [.str "placed", x]))) → Q2 x H') → spPlace K [.ref pr, v, .str s', kv] H Q2 (fun cls d H' => wMix K (fun _ _ _ _ => False) D l cls d [some (.ref pr), some v, some kv, some (.str s'), some .non, none] H') := by
    intro Q2 hq2
    refine ⟨pr, v, s', kv, fs, ms, t, rfl, hpg, hk, rt, hw, hd, hn, h20, hfl, hml, hf5, hm5, ?_⟩
    cases he : plc (lookM fs ms) s' [] 0 t with
    | ok r => exact fun H' x s1 rx => hq2 H' x (good r he H' x s1 rx)
    | error er => exact bad er he
  subst hl hD
  refine ⟨_, rfl, rfl, _, rfl, ?_⟩
  rw [decide_str]
  by_cases e0 : s' = "0"
  · rw [decide_eq_true e0]
    subst e0
    refine iteT ⟨_, rfl, pr, dx, _, rfl, ep, pg_n, _, rfl, _, rfl, rfl, rfl, ?_⟩
    refine fin ?_
    exact fun H' x h => h
  · rw [decide_eq_false e0]
    refine iteF ⟨_, rfl, pr, dx, _, rfl, ep, pg_n, _, rfl, _, rfl, _, rfl, rfl, rfl, ?_⟩
    refine fin ?_
    exact fun H' x h => h
end
end Wt
/-! The pot and its digits. -/
namespace Wt
open PySem PySem.Spec PyProof.Rows L2 RZ RT
def PotOk (H : Hp) (p : Addr) : Prop := ∃ a b : Int, H p = some (.lst [.int a, .int b]) ∧ 0 ≤ a ∧ 0 ≤ b ∧ b < 4294967296
/-- all but the pot stays, which stays a pot -/
def PS_ (p : Addr) (H H' : Hp) : Prop := Kp p H H' ∧ PotOk H p ∧ PotOk H' p
theorem PotOk.noT {H : Hp} {p : Addr} (h : PotOk H p) : NoTup H p := by
  obtain ⟨a, b, e, _⟩ := h
  exact NoTup.lst e
theorem PotOk.some {H : Hp} {p : Addr} (h : PotOk H p) : H p ≠ none := fun z => by
  obtain ⟨a, b, e, _⟩ := h
  rw [z] at e
  cases e
theorem rel_pot (p : Addr) : Rel (PS_ p) where
  trans := fun a b => ⟨a.1.trans b.1, a.2.1, b.2.2⟩
  put := fun {H1 H D o} s hD => by
    have hne : p ≠ D := fun z => s.2.1.some (z ▸ hD)
    refine ⟨s.1.upd2 hD, s.2.1, ?_⟩
    obtain ⟨a, b, e, h⟩ := s.2.2
    exact ⟨a, b, by rw [upd_ne hne]; exact e, h⟩
  keep := fun {H1 H H' D o} s hD s2 e => s2.1 _ _ (fun z => s.2.1.some (z ▸ hD)) e
  tk := fun s => s.1.tk s.2.1.noT
theorem PS_.of {H H' : Hp} {p : Addr} (h : PotOk H p) (s : Same H H') : PS_ p H H' := ⟨Kp.of s, h, by obtain ⟨a, b, e, h⟩ := h; exact ⟨a, b, s _ _ e, h⟩⟩
theorem PS_.refl {H : Hp} {p : Addr} (h : PotOk H p) : PS_ p H H := ⟨Kp.refl _ _, h, h⟩
theorem PS_.trans {H H1 H2 : Hp} {p : Addr} (a : PS_ p H H1) (b : PS_ p H1 H2) : PS_ p H H2 := (rel_pot p).trans a b
theorem PS_.tk {H H1 : Hp} {p : Addr} (a : PS_ p H H1) : Tk H H1 := (rel_pot p).tk a
/-- a number below many -/
def spDigit : Sp := fun vs H Q _ => ∃ (p : Addr) (n : Nat), vs = [.ref p, .int (n : Nat)] ∧ PotOk H p ∧ 0 < n ∧ n ≤ 1000 ∧ ∀ H' (d : Nat), PS_ p H H' → d < n → Q (.int (d : Nat)) H'
section
variable {P : Program} {w : World} {K : PySem.W.Frag} {mg : Str → Option Value} {base : Heap}
theorem sc_law_digit : FnScope ["_law_pot_here", "_law_many", "_law_digit_here"] ["_law_pot_here", "_law_many"] (defScope s_law_digit) := ⟨rfl, rfl, rfl, by decide +kernel, rfl, by decide +kernel, by decide +kernel⟩
theorem ok__law_digit (T : Facts w K mg) : Cl P w K mg base CX0 1 "_law_digit" spDigit := by
  obtain ⟨fd, F⟩ := T.f_law_digit
  refine ⟨_, fd, ["_law_pot_here", "_law_many"], T.g_law_digit, ?_, F.kp, F.bindsN fun _ _ _ _ _ _ us hl => match us, hl with | [_, _], _ => rfl⟩
  refine F.ok sc_law_digit (fun vs H Q E h => ?_) (fun cdv A outer s H vs Q E hr h => ?_)
  · obtain ⟨p, n, rfl, _⟩ := h
    rfl
  obtain ⟨p, n, rfl, hp, h0, h1, q⟩ := h
  obtain ⟨a, b, e, ha, hb, hb2⟩ := id hp
  refine ⟨_, PSs.nox (pss_cons (ps_if (pt_cmpR op_gt (pe_ix ix_list (pv 0) pe_int (fun _ _ => rfl)) pe_int (nomark _)) (pss_cons (ps_asg (pe_callB call_divmod (by rfl) T.z_divmod (by decide +kernel) (pa_cons (pe_ix ix_list (pv 0) pe_int (fun _ _ => rfl)) (pa_cons (pv 1) pa_nil))) (pg_tup (by rfl) (pgs_cons (pg_sub (pv 0) pe_int set_list) (pgs_cons (pg_name (i := 2) sc_law_digit.nd rfl (Or.inl rfl)) pgs_nil))))
    (pss_one (ps_ret (pv 2)))) pss_nil)
    (pss_cons (ps_asg (pe_op op_mod (pe_op op_add (pe_op op_mul (pe_ix ix_list (pv 0) pe_int (fun _ _ => rfl)) pe_int) pe_int) pe_int) (pg_sub (pv 0) pe_int set_list))
    (pss_one (ps_ret (pe_op op_mod (pe_op op_fdiv (pe_op op_mod (pe_op op_mul (pe_ix ix_list (pv 0) pe_int (fun _ _ => rfl)) (pe_ix ix_list (pv 0) pe_int (fun _ _ => rfl))) pe_int) pe_int) (pv 1)))))), ?_⟩
  refine ⟨_, rfl, p, _, 0, .int a, rfl, rfl, SqL.of e, at0, _, _, rfl, rfl, _, rfl, ?_⟩
  by_cases h : 0 < a
  · rw [decide_eq_true h]
    refine iteT ⟨_, rfl, p, _, 0, .int a, rfl, rfl, SqL.of e, at0, _, rfl, _, _, rfl, ⟨by omega, by omega⟩, fun t ht => ?_⟩
    have s1 := same_new ht (.tup [.int (a / (n : Nat)), .int (a % (n : Nat))])
    refine ⟨t, _, rfl, SqT.of upd_same, rfl, _, [_], rfl, _, rfl, p, _, 0, 0, rfl, rfl, s1 _ _ e, rfl, _, [], rfl, rfl, _, rfl, ?_⟩
    have hnn : (0 : Int) < (n : Nat) := by omega
    have hm : a % (n : Nat) = ((a % (n : Nat)).toNat : Nat) := (Int.toNat_of_nonneg (Int.emod_nonneg _ (by omega))).symm
    have hlt : (a % (n : Nat)).toNat < n := by
      have := Int.emod_lt_of_pos a hnn
      omega
    have k1 := (Kp.of s1 (p := p)).trans (Kp.at_ (.lst ([V.int a, V.int b].set 0 (V.int (a / (n : Nat))))))
    have e2 : (upd (upd H t (.tup [.int (a / (n : Nat)), .int (a % (n : Nat))])) p (.lst ([V.int a, V.int b].set 0 (V.int (a / (n : Nat)))))) p = some (.lst [.int (a / (n : Nat)), .int b]) := upd_same
    generalize upd (upd H t (.tup [.int (a / (n : Nat)), .int (a % (n : Nat))])) p (.lst ([V.int a, V.int b].set 0 (V.int (a / (n : Nat))))) = H9 at *
    rw [hm]
    exact q _ _ ⟨k1, hp, ⟨a / (n : Nat), b, e2, Int.ediv_nonneg ha (by omega), hb, hb2⟩⟩ hlt
  · rw [decide_eq_false h]
    refine iteF ⟨_, rfl, p, _, 1, .int b, rfl, rfl, SqL.of e, at1, b, 48271, rfl, rfl, .inr ⟨by decide, by decide⟩, _, 10037, rfl, rfl, _, 2147483587, rfl, rfl, (show (0 : Int) < 2147483587 by decide), _, rfl, p, _, 1, 1, rfl, rfl, e, rfl, ?_⟩
    have hb0 : 0 ≤ (b * 48271 + 10037) % 2147483587 := Int.emod_nonneg _ (by decide)
    have hb1 : (b * 48271 + 10037) % 2147483587 < 2147483587 := Int.emod_lt_of_pos _ (by decide)
    obtain ⟨c, hc⟩ : ∃ c, c = (b * 48271 + 10037) % 2147483587 := ⟨_, rfl⟩
    rw [← hc] at hb0 hb1
    have e1 : ∀ v, v = V.int c → (upd H p (.lst (List.set [V.int a, V.int b] 1 v))) p = some (.lst [.int a, .int c]) := fun v e => by subst e; exact upd_same
    have hnn : (0 : Int) < (n : Nat) := by omega
    refine ⟨_, rfl, p, _, 1, .int c, rfl, rfl, SqL.of (e1 _ (by rw [hc])), at1, _, rfl, p, _, 1, .int c, rfl, rfl, SqL.of (e1 _ (by rw [hc])), at1, c, c, rfl, rfl, .inl ⟨by omega, by omega⟩, _, 2147483563, rfl, rfl, (show (0 : Int) < 2147483563 by decide), _, 5, rfl, rfl, ⟨by decide, by decide⟩, _, rfl, _, (n : Nat), rfl, rfl, hnn, ?_⟩
    generalize c * c % 2147483563 / 5 = x
    have hm : x % (n : Nat) = ((x % (n : Nat)).toNat : Nat) := (Int.toNat_of_nonneg (Int.emod_nonneg _ (by omega))).symm
    have hlt : (x % (n : Nat)).toNat < n := by
      have := Int.emod_lt_of_pos x hnn
      omega
    show Q (.int (x % (n : Nat))) _
    rw [hm]
    exact q _ _ ⟨Kp.at_ _, hp, ⟨a, c, e1 _ (by rw [hc]), ha, hb0, by omega⟩⟩ hlt
end
end Wt
/-! A pot is made; a pick; forms. -/
namespace Wt
open PySem PySem.Spec PyProof.Rows L2 RZ RT
def spPick : Sp := fun vs H Q _ => ∃ (p L : Addr) (xs : List V), vs = [.ref p, .ref L] ∧ PotOk H p ∧ L ≠ p ∧ H L = some (.lst xs) ∧ 0 < xs.length ∧ xs.length ≤ 1000 ∧ ∀ H' (d : Nat) x, PS_ p H H' → xs[d]? = some x → Q x H'
def spLForm (n : Nat) : Sp := fun vs H Q _ => ∃ (p : Addr) (h : Nat), vs = [.ref p, .int (h : Nat)] ∧ PotOk H p ∧ h < n ∧ ∀ H' x f, PS_ p H H' → RpF H' x f → f.ht ≤ h → Q x H'
def spPot : Sp := fun vs H Q _ => ∃ (L : Addr) (is : List Int) (k : Nat), vs = [.ref L, .int (k : Nat)] ∧ H L = some (.lst (is.map V.int)) ∧ k ≤ 10 ∧ ∀ H' p, H p = none → Same H H' → PotOk H' p → Q (.ref p) H'
section
variable {P : Program} {w : World} {K : PySem.W.Frag} {mg : Str → Option Value} {base : Heap}
theorem sc_law_pick : FnScope ["_law_pot_here", "_law_some"] ["_law_pot_here", "_law_some"] (defScope s_law_pick) := ⟨rfl, rfl, rfl, by decide +kernel, rfl, by decide +kernel, by decide +kernel⟩
theorem ok__law_pick (T : Facts w K mg) : Cl P w K mg base CX0 2 "_law_pick" spPick := by
  have c_law_digit := ok__law_digit (P := P) (base := base) T
  obtain ⟨fd, F⟩ := T.f_law_pick
  refine ⟨_, fd, ["_law_pot_here", "_law_some"], T.g_law_pick, ?_, F.kp, F.bindsN fun _ _ _ _ _ _ us hl => match us, hl with | [_, _], _ => rfl⟩
  refine F.ok sc_law_pick (fun vs H Q E h => ?_) (fun cdv A outer s H vs Q E hr h => ?_)
  · obtain ⟨p, L, xs, rfl, _⟩ := h
    rfl
  obtain ⟨p, L, xs, rfl, hp, hne, e, h0, h1, q⟩ := h
  refine ⟨_, PSs.nox (pss_one (ps_ret (pe_ix ix_list (pv 1) (pe_cl c_law_digit hr (by omega) pass0 (pa_cons (pv 0) (pa_cons (pe_callB call_len_seq (by rfl) T.z_len (by decide +kernel) (pa_cons (pv 1) pa_nil)) pa_nil))) (fun _ _ => rfl)))), ?_⟩
  refine ⟨_, rfl, _, rfl, _, rfl, L, _, rfl, .inl (SqL.of e), p, xs.length, rfl, hp, h0, h1, fun H' d s1 hd => ?_⟩
  exact ⟨L, _, (d : Nat), xs[d], rfl, rfl, SqL.of (s1.1 _ _ hne e), atN (List.getElem?_eq_getElem hd), q H' d _ s1 (List.getElem?_eq_getElem hd)⟩
theorem sc_law_form : FnScope ["_law_pot_here", "_law_high", "_law_way"] ["_law_pot_here", "_law_high"] (defScope s_law_form) := ⟨rfl, rfl, rfl, by decide +kernel, rfl, by decide +kernel, by decide +kernel⟩
theorem ok__law_form (T : Facts w K mg) : ∀ n, Cl P w K mg base CX0 (n + 1) "_law_form" (spLForm n)
  | 0 => by
    obtain ⟨fd, F⟩ := T.f_law_form
    exact ⟨_, fd, ["_law_pot_here", "_law_high"], T.g_law_form, ⟨fun vs H Q E ⟨_, _, _, _, h, _⟩ => absurd h (Nat.not_lt_zero _), fun A outer s H args us vs Q E _ _ _ _ h => by obtain ⟨_, _, _, _, h, _⟩ := h; exact absurd h (Nat.not_lt_zero _)⟩, F.kp, F.bindsN fun _ _ _ _ _ _ us hl => match us, hl with | [_, _], _ => rfl⟩
  | n + 1 => by
    have c_law_digit := ok__law_digit (P := P) (base := base) T
    have c_law_form := ok__law_form T n
    obtain ⟨fd, F⟩ := T.f_law_form
    refine ⟨_, fd, ["_law_pot_here", "_law_high"], T.g_law_form, ?_, F.kp, F.bindsN fun _ _ _ _ _ _ us hl => match us, hl with | [_, _], _ => rfl⟩
    refine F.ok sc_law_form (fun vs H Q E h => ?_) (fun cdv A outer s H vs Q E hr h => ?_)
    · obtain ⟨p, h, rfl, _⟩ := h
      rfl
    obtain ⟨p, h, rfl, hp, hn, q⟩ := h
    refine ⟨_, PSs.nox (pss_cons (ps_set (i := 2) sc_law_form.nd rfl (Or.inl rfl) (pe_cl c_law_digit hr (by omega) pass0 (pa_cons (pv 0) (pa_cons pe_int pa_nil))))
    (pss_cons (ps_if (PW.pt (pw_or (pt_cmpR op_eq (pv 1) pe_int (nomark _)) (pw_or1 (pt_cmpR op_lt (pv 2) pe_int (nomark _))))) (pss_one (ps_ret (pe_ix ix_list (pe_lst (pa_cons pe_str (pa_cons pe_str (pa_cons pe_str pa_nil)))) (pe_cl c_law_digit hr (by omega) pass0 (pa_cons (pv 0) (pa_cons pe_int pa_nil))) (fun _ _ => rfl)))) pss_nil)
    (pss_cons (ps_if (pt_cmpR op_lt (pv 2) pe_int (nomark _)) (pss_one (ps_ret (pe_tup (pa_cons pe_str (pa_cons (pe_cl c_law_form hr (by omega) pass0 (pa_cons (pv 0) (pa_cons (pe_op op_sub (pv 1) pe_int) pa_nil))) (pa_cons (pe_cl c_law_form hr (by omega) pass0 (pa_cons (pv 0) (pa_cons (pe_op op_sub (pv 1) pe_int) pa_nil))) pa_nil)))))) pss_nil)
    (pss_one (ps_ret (pe_tup (pa_cons pe_str (pa_cons (pe_cl c_law_form hr (by omega) pass0 (pa_cons (pv 0) (pa_cons (pe_op op_sub (pv 1) pe_int) pa_nil))) pa_nil)))))))), ?_⟩
    refine ⟨_, rfl, p, 6, rfl, hp, by decide, by decide, fun H1 way s1 hw => ?_⟩
    have hp1 := s1.2.2
    have pl : ∀ σ, σ[0]? = some (some (V.ref p)) → tRet (tOp (rIxL K) (tLst (tCons (tC (.str "any")) (tCons (tC (.str "num")) (tCons (tC (.str "text")) tNil)))) (tCall spDigit [] E0 (tCons (tVar 0) (tCons (tC (.int 3)) tNil)))) { nx := fun x H' => Q V.non H', rt := Q } σ H1 := by
      intro σ hσ
      refine ⟨sz3, fun l hl => ⟨_, hσ, ?_⟩⟩
      have s2 := same_new hl (.lst [V.str "any", V.str "num", V.str "text"])
      have p2 := PS_.of hp1 s2
      refine ⟨p, 3, rfl, p2.2.2, by decide, by decide, fun H3 d s3 hd => ?_⟩
      have el := s3.1 l _ (fun z => hp1.some (z ▸ hl)) upd_same
      have s13 := s1.trans (p2.trans s3)
      match d, hd with
      | 0, _ => exact ⟨l, _, 0, .str "any", rfl, rfl, SqL.of el, at0, q _ _ .any s13 (.str _) (Nat.zero_le _)⟩
      | 1, _ => exact ⟨l, _, 1, .str "num", rfl, rfl, SqL.of el, at1, q _ _ .num s13 (.str _) (Nat.zero_le _)⟩
      | 2, _ => exact ⟨l, _, 2, .str "text", rfl, rfl, SqL.of el, at2, q _ _ .text s13 (.str _) (Nat.zero_le _)⟩
      | d + 3, h => exact absurd h (by omega)
    refine ⟨_, rfl, rfl, _, rfl, ?_⟩
    by_cases hh : h = 0
    · subst hh
      exact iteT (iteT (pl _ rfl))
    have hz : decide (V.int (h : Nat) = V.int 0) = false := decide_eq_false (fun z => hh (by have := V.int.inj z; omega))
    rw [hz]
    refine iteF ⟨_, rfl, _, _, rfl, rfl, _, rfl, ?_⟩
    by_cases h3 : ((way : Nat) : Int) < 3
    · rw [decide_eq_true h3]
      exact iteT (pl _ rfl)
    rw [decide_eq_false h3]
    have hm : ((h : Nat) : Int) - 1 = ((h - 1 : Nat) : Int) := by omega
    refine iteF ⟨_, rfl, _, _, rfl, rfl, _, rfl, ?_⟩
    by_cases h5 : ((way : Nat) : Int) < 5
    · rw [decide_eq_true h5]
      refine iteT ⟨_, rfl, _, rfl, _, _, rfl, rfl, p, h - 1, by rw [← hm]; rfl, hp1, by omega, fun H2 y1 f1 s2 r1 g1 => ?_⟩
      refine ⟨_, rfl, _, rfl, _, _, rfl, rfl, p, h - 1, by rw [← hm]; rfl, s2.2.2, by omega, fun H3 y2 f2 s3 r2 g2 => ⟨sz3, fun t ht => ?_⟩⟩
      have s4 := same_new ht (.tup [.str "deed", y1, y2])
      have p4 := PS_.of s3.2.2 s4
      exact q _ _ (.deed f1 f2) (s1.trans (s2.trans (s3.trans p4))) (rpf_deed.mpr ⟨t, _, _, rfl, upd_same, (r1.mono s3.tk).mono s4.tk, r2.mono s4.tk⟩) (by simp only [Fm.ht]; omega)
    · rw [decide_eq_false h5]
      refine iteF ⟨_, rfl, _, rfl, _, _, rfl, rfl, p, h - 1, by rw [← hm]; rfl, hp1, by omega, fun H2 y1 f1 s2 r1 g1 => ⟨sz2, fun t ht => ?_⟩⟩
      have s4 := same_new ht (.tup [.str "box", y1])
      have p4 := PS_.of s2.2.2 s4
      exact q _ _ (.box f1) (s1.trans (s2.trans p4)) (rpf_box.mpr ⟨t, _, rfl, upd_same, r1.mono s4.tk⟩) (by simp only [Fm.ht]; omega)
end
end Wt
/-! Near forms; plain terms. -/
namespace Wt
open PySem PySem.Spec PyProof.Rows L2 RZ RT
def spNearG (n : Nat) : Sp := fun vs H Q _ => ∃ (p : Addr) (v : V) (f : Fm) (h : Nat), vs = [.ref p, v, .int (h : Nat)] ∧ PotOk H p ∧ RpF H v f ∧ f.ht < n ∧ f.ht ≤ 60 ∧ h ≤ 10 ∧ ∀ H' x g, PS_ p H H' → RpF H' x g → NearG f h g → Q x H'
section
variable {P : Program} {w : World} {K : PySem.W.Frag} {mg : Str → Option Value} {base : Heap}
theorem sc_law_near : FnScope ["_law_pot_here", "_law_form_here", "_law_high", "_law_part"] ["_law_pot_here", "_law_form_here", "_law_high"] (defScope s_law_near) := ⟨rfl, rfl, rfl, by decide +kernel, rfl, by decide +kernel, by decide +kernel⟩
theorem ok__law_near (T : Facts w K mg) : ∀ n, Cl P w K mg base CX0 (n + 12) "_law_near" (spNearG n)
  | 0 => by
    obtain ⟨fd, F⟩ := T.f_law_near
    exact ⟨_, fd, ["_law_pot_here", "_law_form_here", "_law_high"], T.g_law_near, ⟨fun vs H Q E ⟨_, _, _, _, _, _, _, h, _⟩ => absurd h (Nat.not_lt_zero _), fun A outer s H args us vs Q E _ _ _ _ h => by obtain ⟨_, _, _, _, _, _, _, h, _⟩ := h; exact absurd h (Nat.not_lt_zero _)⟩, F.kp, F.bindsN fun _ _ _ _ _ _ us hl => match us, hl with | [_, _, _], _ => rfl⟩
  | n + 1 => by
    have c_law_digit := ok__law_digit (P := P) (base := base) T
    have c_law_form := ok__law_form (P := P) (base := base) T 11
    have c_law_near := ok__law_near T n
    obtain ⟨fd, F⟩ := T.f_law_near
    refine ⟨_, fd, ["_law_pot_here", "_law_form_here", "_law_high"], T.g_law_near, ?_, F.kp, F.bindsN fun _ _ _ _ _ _ us hl => match us, hl with | [_, _, _], _ => rfl⟩
    show FnOk P w K mg base CX0 (n + 12 + 1) _ _ _ _
    refine F.ok sc_law_near (fun vs H Q E h => ?_) (fun cdv A outer s H vs Q E hr h => ?_)
    · obtain ⟨p, v, f, h, rfl, _⟩ := h
      rfl
    obtain ⟨p, v, f, h, rfl, hp, rv, hn, h60, h10, q⟩ := h
    have hu64 := hr.units
    have hu65 := r65 hr
    refine ⟨_, PSs.nox (pss_cons (ps_if (pt_cmpR op_eq (pe_cl c_law_digit hr (by omega) pass0 (pa_cons (pv 0) (pa_cons pe_int pa_nil))) pe_int (nomark _)) (pss_one (ps_ret pe_str)) pss_nil)
    (pss_cons (ps_if (pt_cmpR (op_eqD hu64) (pv 1) pe_str (nomark _)) (pss_one (ps_ret (pe_cl c_law_form hr (by omega) pass0 (pa_cons (pv 0) (pa_cons (pv 2) pa_nil))))) pss_nil)
    (pss_cons (ps_if (pt_cmpR (op_inDT hu65) (pv 1) (pe_tup (pa_cons pe_str (pa_cons pe_str pa_nil))) (by rfl)) (pss_one (ps_ret (pv 1))) pss_nil)
    (pss_one (ps_ret (pe_op op_catA (pe_slice sl_tupA (pv 1) po_none (po_some pe_int)) (pe_callTy call_tuple_of (by rfl) T.z_tuple (by decide +kernel) (pa_cons (pe_lc (own := [("_law_part", 3)]) (g := (gName 3)) (tt := tYes) rfl sc_law_near.nd (pi_tup (pe_slice sl_tupA (pv 1) (po_some pe_int) po_none)) (blkOk_by (own := [("_law_part", 3)]) (N := ["_law_pot_here", "_law_form_here", "_law_high", "_law_part"]) (sc := defScope s_law_near) (by decide +kernel)) (fun _ _ _ _ _ => (pg_name (i := 3) sc_law_near.nd rfl (Or.inl rfl))) (fun _ _ _ _ _ => pts_nil) (fun _ _ _ _ _ => (pe_cl c_law_near hr (by omega) pass0 (pa_cons (pv 0) (pa_cons (pv 3) (pa_cons (pe_callB (call_max2 rfl) (by rfl) T.z_max (by decide +kernel) (pa_cons pe_int (pa_cons (pe_op op_sub (pv 2) pe_int) pa_nil))) pa_nil)))))) pa_nil)))))))), ?_⟩
    refine ⟨_, rfl, p, 4, rfl, hp, by decide, by decide, fun H1 d s1 hd => ⟨rfl, _, rfl, ?_⟩⟩
    have hp1 := s1.2.2
    have rv1 := rv.mono s1.tk
    by_cases h0 : V.int (d : Nat) = V.int 0
    · rw [decide_eq_true h0]
      exact iteT (q _ _ .any s1 (.str _) ⟨Fm.any_near _, Nat.zero_le _⟩)
    rw [decide_eq_false h0]
    refine iteF ⟨_, rfl, f.d, .str "any", rv1.dp, .str _, Fm.shaped (by omega), shaped_any, _, rfl, ?_⟩
    rw [Fm.any_d]
    by_cases hany : f = .any
    · subst hany
      rw [decide_eq_true rfl]
      exact iteT ⟨_, rfl, _, rfl, p, h, rfl, hp1, by omega, fun H2 x g s2 rg hg => q _ _ g (s1.trans s2) rg ⟨Fm.near_any _, by omega⟩⟩
    rw [decide_eq_false hany]
    refine iteF ⟨_, rfl, sz2, fun t ht => ?_⟩
    have s2 := same_new ht (.tup [.str "num", .str "text"])
    have p2 := PS_.of hp1 s2
    refine ⟨f.d, [Fm.num.d, Fm.text.d], (rv1.mono s2.tk).dp, (rp_tup.mpr ⟨t, _, rfl, upd_same, .cons (.str _) (.cons (.str _) .nil)⟩).dp, Fm.shaped (by omega), shaped_pair (by decide) (by decide), _, rfl, ?_⟩
    have hin : (([Fm.num.d, Fm.text.d] : List PyData).any fun z => PyData.eqv z f.d) = (decide (f = .num) || decide (f = .text)) := by
      simp only [List.any_cons, List.any_nil, Bool.or_false, Fm.eqv_d]
      rw [show (decide (Fm.num = f)) = decide (f = .num) by simp [eq_comm], show (decide (Fm.text = f)) = decide (f = .text) by simp [eq_comm]]
    rw [hin]
    by_cases hpl : f = .num ∨ f = .text
    · have : (decide (f = .num) || decide (f = .text)) = true := by rcases hpl with rfl | rfl <;> rfl
      rw [this]
      exact iteT ⟨_, rfl, q _ _ f (s1.trans p2) (rv1.mono s2.tk) ⟨Fm.near_refl _, by omega⟩⟩
    have hno : (decide (f = .num) || decide (f = .text)) = false := by
      rw [decide_eq_false (fun z => hpl (.inl z)), decide_eq_false (fun z => hpl (.inr z))]; rfl
    rw [hno]
    have hfp : f.plain = false := by
      cases f <;> first | rfl | exact absurd rfl hany | exact absurd (.inl rfl) hpl | exact absurd (.inr rfl) hpl
    obtain ⟨a, xs, rfl, ea, hxl, hxs⟩ := rpf_parts (rv1.mono s2.tk) hfp
    have hl2 := (parts_len hfp).2
    refine iteF ⟨_, rfl, 1, rfl, sl_use ea cutF fun b1 H3 s3 e3 => ⟨_, rfl, 1, rfl, ?_⟩⟩
    refine sl_lo (s3 _ _ ea) cut1 fun c1 H4 s4 e4 => ⟨c1, rfl, ⟨_, SqT.of e4⟩, fun D hD => ?_⟩
    have s34 := s3.trans s4
    have p4 := PS_.of p2.2.2 s34
    have e34 := s4 _ _ e3
    refine lc_tup_rel (rel_pot p) (fun i y H => ∀ b, f.parts[i]? = some b → ∃ g, RpF H y g ∧ NearG b (h - 1) g) (fun i y H H' k r b hb => by
      obtain ⟨g, r1, r2⟩ := r b hb
      exact ⟨g, r1.mono k, r2⟩) hD (PS_.refl p4.2.2) e4 (by omega) (fun i x H5 Nx hxi s5 nx => ?_) (fun H' s => PS_.refl s.2.2) (fun H5 ys s5 eD hyl hys => ?_)
    · obtain ⟨b, hb⟩ := get_of hxi hxl
      have rx := ((hxs i x b hxi hb).mono s34.tk).mono s5.tk
      have hbh := parts_ht hb
      generalize hτ : wipe _ (List.map _ _) = τ
      obtain rfl : τ = [some (.ref p), some (.ref a), some (.int (h : Nat)), none] := hτ.symm.trans rfl
      refine ⟨rfl, _, rfl, _, rfl, ?_⟩
      have hmx : (if ((h : Nat) : Int) - 1 > 0 then ((h : Nat) : Int) - 1 else 0) = ((h - 1 : Nat) : Int) := by split <;> omega
      refine ⟨_, rfl, _, _, rfl, rfl, _, _, rfl, p, x, b, h - 1, by rw [← hmx]; rfl, s5.2.2, rx, by omega, by omega, by omega, fun H6 y g s6 rg hg => ?_⟩
      refine nx y H6 s6 fun b2 hb2 => ?_
      rw [hb] at hb2
      cases hb2
      exact ⟨g, rg, hg⟩
    · refine ⟨D, ys, rfl, .inl ⟨SqL.of eD, fun t2 ht2 => ?_⟩⟩
      have s6 := same_new ht2 (.tup ys)
      have e35 := s6 _ _ (s5.tk _ _ e34)
      have p6 := PS_.of s5.2.2 s6
      have pp := s1.trans (p2.trans (p4.trans (s5.trans p6)))
      refine cat_use e35 upd_same (by rw [hyl]; show 1 + xs.length ≤ 1000; omega) fun r H8 s8 e8 => ?_
      have pz := pp.trans (PS_.of p6.2.2 s8)
      have st := s6.tk.trans' s8.tk
      have hh1 : 1 ≤ f.ht := by cases f <;> first | exact Bool.noConfusion hfp | (simp only [Fm.ht]; omega)
      cases f <;> first | exact Bool.noConfusion hfp | skip
      · rename_i a0 b0
        match ys, (hyl.trans hxl : ys.length = 2) with
        | [u1, u2], _ =>
          obtain ⟨g1, r1, n1⟩ := hys 0 u1 rfl a0 rfl
          obtain ⟨g2, r2, n2⟩ := hys 1 u2 rfl b0 rfl
          refine q _ _ (.deed g1 g2) pz (rpf_deed.mpr ⟨r, _, _, rfl, e8, r1.mono st, r2.mono st⟩) ⟨?_, ?_⟩
          · simp only [Fm.near, n1.1, n2.1, Bool.and_self]
          · have := n1.2; have := n2.2
            simp only [Fm.ht]; omega
      · rename_i a0
        match ys, (hyl.trans hxl : ys.length = 1) with
        | [u1], _ =>
          obtain ⟨g1, r1, n1⟩ := hys 0 u1 rfl a0 rfl
          refine q _ _ (.box g1) pz (rpf_box.mpr ⟨r, _, rfl, e8, r1.mono st⟩) ⟨?_, ?_⟩
          · simp only [Fm.near, n1.1]
          · have := n1.2
            simp only [Fm.ht]; omega
end
end Wt
/-! Plain terms. -/
namespace Wt
open PySem PySem.Spec PyProof.Rows L2 RZ RT
def spPlain (n : Nat) : Sp := fun vs H Q _ => ∃ (p : Addr) (v : V) (f : Fm), vs = [.ref p, v] ∧ PotOk H p ∧ RpF H v f ∧ f.ht < n ∧ f.ht ≤ 60 ∧ ∀ H' x t, PS_ p H H' → RpT H' x t → PlainG f t → Q x H'
theorem num_at {d e : Nat} (hd : d < 40) (he : e < 4) : ∃ i, ([V.int 0, .int 1, .int (((d : Nat) : Int) - 20), .int (10 ^ (30 : Int).toNat - 1)] : List V)[e]? = some (.int i) ∧ NumOk i := by
  match e, he with
  | 0, _ => exact ⟨0, rfl, by unfold NumOk; decide⟩
  | 1, _ => exact ⟨1, rfl, by unfold NumOk; decide⟩
  | 2, _ => exact ⟨((d : Nat) : Int) - 20, rfl, by unfold NumOk; omega⟩
  | 3, _ => exact ⟨10 ^ (30 : Int).toNat - 1, rfl, by unfold NumOk; decide +kernel⟩
  | e + 4, h => exact absurd h (by omega)
theorem text_at {e : Nat} (he : e < 3) : ∃ x, ([V.str "", V.str "a", V.str "zebra"] : List V)[e]? = some (.str x) ∧ TextOk x := by
  have l0 : ∀ c ∈ (("" : Str)).cps.toList, 97 ≤ c ∧ c ≤ 122 := by decide
  have l1 : ∀ c ∈ (("a" : Str)).cps.toList, 97 ≤ c ∧ c ≤ 122 := by decide
  have l2 : ∀ c ∈ (("zebra" : Str)).cps.toList, 97 ≤ c ∧ c ≤ 122 := by decide
  match e, he with
  | 0, _ => exact ⟨_, rfl, l0, by decide⟩
  | 1, _ => exact ⟨_, rfl, l1, by decide⟩
  | 2, _ => exact ⟨_, rfl, l2, by decide⟩
  | e + 3, h => exact absurd h (by omega)
section
variable {P : Program} {w : World} {K : PySem.W.Frag} {mg : Str → Option Value} {base : Heap}
theorem sc_law_plain : FnScope ["_law_pot_here", "_law_form_here", "_law_found"] ["_law_pot_here", "_law_form_here"] (defScope s_law_plain) := ⟨rfl, rfl, rfl, by decide +kernel, rfl, by decide +kernel, by decide +kernel⟩
theorem ok__law_plain (T : Facts w K mg) : ∀ n, Cl P w K mg base CX0 (n + 1) "_law_plain" (spPlain n)
  | 0 => by
    obtain ⟨fd, F⟩ := T.f_law_plain
    exact ⟨_, fd, ["_law_pot_here", "_law_form_here"], T.g_law_plain, ⟨fun vs H Q E ⟨_, _, _, _, _, _, h, _⟩ => absurd h (Nat.not_lt_zero _), fun A outer s H args us vs Q E _ _ _ _ h => by obtain ⟨_, _, _, _, _, _, h, _⟩ := h; exact absurd h (Nat.not_lt_zero _)⟩, F.kp, F.bindsN fun _ _ _ _ _ _ us hl => match us, hl with | [_, _], _ => rfl⟩
  | n + 1 => by
    have c_law_digit := ok__law_digit (P := P) (base := base) T
    have c_law_plain := ok__law_plain T n
    obtain ⟨fd, F⟩ := T.f_law_plain
    refine ⟨_, fd, ["_law_pot_here", "_law_form_here"], T.g_law_plain, ?_, F.kp, F.bindsN fun _ _ _ _ _ _ us hl => match us, hl with | [_, _], _ => rfl⟩
    refine F.ok sc_law_plain (fun vs H Q E h => ?_) (fun cdv A outer s H vs Q E hr h => ?_)
    · obtain ⟨p, v, f, rfl, _⟩ := h
      rfl
    obtain ⟨p, v, f, rfl, hp, rv, hn, h60, q⟩ := h
    have hu64 := hr.units
    have hu65 := r65 hr
    refine ⟨_, PSs.nox (pss_cons (ps_if (pt_cmpR (op_inDT hu65) (pv 1) (pe_tup (pa_cons pe_str (pa_cons pe_str pa_nil))) (by rfl)) (pss_cons (ps_set (i := 2) sc_law_plain.nd rfl (Or.inl rfl) (pe_tup (pa_cons pe_str (pa_cons (pe_ix ix_list (pe_lst (pa_cons pe_int (pa_cons pe_int (pa_cons (pe_op op_sub (pe_cl c_law_digit hr (by omega) pass0 (pa_cons (pv 0) (pa_cons pe_int pa_nil))) pe_int) (pa_cons (pe_op op_sub (pe_op op_pow pe_int pe_int) pe_int) pa_nil))))) (pe_cl c_law_digit hr (by omega) pass0 (pa_cons (pv 0) (pa_cons pe_int pa_nil))) (fun _ _ => rfl)) pa_nil))))
    (pss_one (ps_ret (pe_ifExp (pt_cmpR (op_eqD hu64) (pv 1) pe_str (nomark _)) (pv 2) (pe_tup (pa_cons pe_str (pa_cons pe_str (pa_cons (pv 2) pa_nil)))))))) pss_nil)
    (pss_cons (ps_if (pt_cmpR (op_eqD hu64) (pv 1) pe_str (nomark _)) (pss_one (ps_ret (pe_tup (pa_cons pe_str (pa_cons (pe_ix ix_list (pe_lst (pa_cons pe_str (pa_cons pe_str (pa_cons pe_str pa_nil)))) (pe_cl c_law_digit hr (by omega) pass0 (pa_cons (pv 0) (pa_cons pe_int pa_nil))) (fun _ _ => rfl)) pa_nil))))) pss_nil)
    (pss_cons (ps_if (pt_cmpR op_eq (pe_ix ix_tup (pv 1) pe_int (fun _ _ => rfl)) pe_str (nomark _)) (pss_one (ps_ret (pe_tup (pa_cons pe_str (pa_cons pe_str (pa_cons (pe_ix ix_tup (pv 1) pe_int (fun _ _ => rfl)) (pa_cons (pe_cl c_law_plain hr (by omega) pass0 (pa_cons (pv 0) (pa_cons (pe_ix ix_tup (pv 1) pe_int (fun _ _ => rfl)) pa_nil))) pa_nil))))))) pss_nil)
    (pss_one (ps_ret (pe_tup (pa_cons pe_str (pa_cons (pe_ix ix_tup (pv 1) pe_int (fun _ _ => rfl)) (pa_cons (pe_cl c_law_plain hr (by omega) pass0 (pa_cons (pv 0) (pa_cons (pe_ix ix_tup (pv 1) pe_int (fun _ _ => rfl)) pa_nil))) pa_nil))))))))), ?_⟩
    refine ⟨_, rfl, sz2, fun t ht => ?_⟩
    have s2 := same_new ht (.tup [.str "any", .str "num"])
    have p2 := PS_.of hp s2
    refine ⟨f.d, [Fm.any.d, Fm.num.d], (rv.mono s2.tk).dp, (rp_tup.mpr ⟨t, _, rfl, upd_same, .cons (.str _) (.cons (.str _) .nil)⟩).dp, Fm.shaped (by omega), shaped_pair (by decide) (by decide), _, rfl, ?_⟩
    have hin : (([Fm.any.d, Fm.num.d] : List PyData).any fun z => PyData.eqv z f.d) = (decide (f = .any) || decide (f = .num)) := by
      simp only [List.any_cons, List.any_nil, Bool.or_false, Fm.eqv_d]
      rw [show (decide (Fm.any = f)) = decide (f = .any) by simp [eq_comm], show (decide (Fm.num = f)) = decide (f = .num) by simp [eq_comm]]
    rw [hin]
    have rv2 := rv.mono s2.tk
    generalize upd H t (.tup [.str "any", .str "num"]) = H2 at *
    by_cases hpl : f = .any ∨ f = .num
    · have : (decide (f = .any) || decide (f = .num)) = true := by rcases hpl with rfl | rfl <;> rfl
      rw [this]
      refine iteT ⟨_, rfl, p, 40, rfl, p2.2.2, by decide, by decide, fun H3 d s3 hd => ⟨_, _, rfl, rfl, 10, 30, rfl, rfl, ⟨by decide, by decide, by decide⟩, _, _, rfl, rfl, sz4, fun l hl => ?_⟩⟩
      have s4 := same_new hl (.lst [V.int 0, .int 1, .int (((d : Nat) : Int) - 20), .int (10 ^ (30 : Int).toNat - 1)])
      have p4 := PS_.of s3.2.2 s4
      refine ⟨_, rfl, p, 4, rfl, p4.2.2, by decide, by decide, fun H5 e s5 he => ?_⟩
      obtain ⟨i, hi, hni⟩ := num_at hd he
      have el := s5.1 l _ (fun z => s3.2.2.some (z ▸ hl)) upd_same
      have p25 := p2.trans (s3.trans (p4.trans s5))
      refine ⟨l, _, (e : Nat), .int i, rfl, rfl, SqL.of el, atN hi, sz2, fun q1 hq1 => ?_⟩
      have s6 := same_new hq1 (.tup [.str "number", .int i])
      have p6 := PS_.of s5.2.2 s6
      have r6 := rv2.mono ((s3.trans (p4.trans (s5.trans p6))).tk)
      have rn : RpT (upd H5 q1 (.tup [.str "number", .int i])) (.ref q1) (.number i) := rp2.mpr ⟨q1, _, _, rfl, upd_same, .str _, .int _⟩
      refine ⟨_, rfl, f.d, .str "num", r6.dp, .str _, Fm.shaped (by omega), Fm.shaped (f := .num) (by decide), _, rfl, ?_⟩
      rw [show PyData.eqv f.d (.str "num") = decide (f = .num) from Fm.eqv_d f .num]
      rcases hpl with rfl | rfl
      · refine iteF ⟨_, rfl, sz3, fun q2 hq2 => ?_⟩
        have s7 := same_new hq2 (.tup [.str "tell", .str "any", .ref q1])
        exact q _ _ (.tell .any (.number i)) (p25.trans (p6.trans (PS_.of p6.2.2 s7))) (rp3.mpr ⟨q2, _, _, _, rfl, upd_same, .str _, .str _, rn.mono s7.tk⟩) (.any hni)
      · exact iteT ⟨_, rfl, q _ _ (.number i) (p25.trans p6) rn (.num hni)⟩
    have hno : (decide (f = .any) || decide (f = .num)) = false := by
      rw [decide_eq_false (fun z => hpl (.inl z)), decide_eq_false (fun z => hpl (.inr z))]; rfl
    rw [hno]
    refine iteF ⟨_, rfl, f.d, .str "text", rv2.dp, .str _, Fm.shaped (by omega), Fm.shaped (f := .text) (by decide), _, rfl, ?_⟩
    rw [show PyData.eqv f.d (.str "text") = decide (f = .text) from Fm.eqv_d f .text]
    by_cases htx : f = .text
    · subst htx
      rw [decide_eq_true rfl]
      refine iteT ⟨sz3, fun l hl => ⟨_, rfl, ?_⟩⟩
      have s3 := same_new hl (.lst [V.str "", V.str "a", V.str "zebra"])
      have p3 := PS_.of p2.2.2 s3
      refine ⟨p, 3, rfl, p3.2.2, by decide, by decide, fun H5 e s5 he => ?_⟩
      have el := s5.1 l _ (fun z => p2.2.2.some (z ▸ hl)) upd_same
      obtain ⟨x, hx, hok⟩ := text_at he
      refine ⟨l, _, (e : Nat), .str x, rfl, rfl, SqL.of el, atN hx, sz2, fun q1 hq1 => ?_⟩
      have s6 := same_new hq1 (.tup [.str "text", .str x])
      exact q _ _ (.text x) (p2.trans (p3.trans (s5.trans (PS_.of s5.2.2 s6)))) (rp2.mpr ⟨q1, _, _, rfl, upd_same, .str _, .str _⟩) (.text hok)
    rw [decide_eq_false htx]
    cases f <;> first | exact absurd (.inl rfl) hpl | exact absurd (.inr rfl) hpl | exact absurd rfl htx | skip
    · rename_i a0 b0
      obtain ⟨c, x, y, rfl, ec, rx, ry⟩ := rpf_deed.mp rv2
      simp only [Fm.ht] at hn h60
      refine iteF ⟨_, rfl, c, _, 0, _, rfl, rfl, SqT.of ec, at0, rfl, _, rfl, iteT ?_⟩
      refine ⟨_, rfl, c, _, 1, _, rfl, rfl, SqT.of ec, at1, _, rfl, _, rfl, c, _, 2, _, rfl, rfl, SqT.of ec, at2, p, y, b0, rfl, p2.2.2, ry, by omega, by omega, fun H5 u t0 s5 ru hg => ⟨sz4, fun q1 hq1 => ?_⟩⟩
      have s6 := same_new hq1 (.tup [.str "deed", .str "p", x, u])
      exact q _ _ (.deed pN a0 t0) (p2.trans (s5.trans (PS_.of s5.2.2 s6))) (rp4.mpr ⟨q1, _, _, _, _, rfl, upd_same, .str _, .str _, (rx.mono s5.tk).mono s6.tk, ru.mono s6.tk⟩) (.deed hg)
    · rename_i a0
      obtain ⟨c, x, rfl, ec, rx⟩ := rpf_box.mp rv2
      simp only [Fm.ht] at hn h60
      refine iteF ⟨_, rfl, c, _, 0, _, rfl, rfl, SqT.of ec, at0, rfl, _, rfl, iteF ?_⟩
      refine ⟨_, rfl, c, _, 1, _, rfl, rfl, SqT.of ec, at1, _, rfl, _, rfl, c, _, 1, _, rfl, rfl, SqT.of ec, at1, p, x, a0, rfl, p2.2.2, rx, by omega, by omega, fun H5 u t0 s5 ru hg => ⟨sz3, fun q1 hq1 => ?_⟩⟩
      have s6 := same_new hq1 (.tup [.str "box", x, u])
      exact q _ _ (.box a0 t0) (p2.trans (s5.trans (PS_.of s5.2.2 s6))) (rp3.mpr ⟨q1, _, _, _, rfl, upd_same, .str _, (rx.mono s5.tk).mono s6.tk, ru.mono s6.tk⟩) (.box hg)
end
end Wt
/-! How long the text of what is told is. -/
namespace Wt
open PySem PySem.Spec PyProof.Rows L2 RZ
def ChOk (x : Str) : Prop := (x.cps.toList.all fun c => decide (c < 16 ^ 8)) = true
theorem lw_ch {x : Str} (h : Lw x) : ChOk x := List.all_eq_true.mpr fun c hc => decide_eq_true (by have := (h c hc).2; omega)
theorem ofS_ch (x : String) : ChOk (Str.ofString x) := by
  unfold ChOk
  rw [Str.ofString_eq_toList]
  refine List.all_eq_true.mpr fun c hc => decide_eq_true ?_
  rw [List.toList_toArray] at hc
  obtain ⟨a, _, rfl⟩ := List.mem_map.mp hc
  have := a.val.toNat_lt
  show a.val.toNat < _
  omega
theorem cat_ch {x y : Str} (hx : ChOk x) (hy : ChOk y) : ChOk (x ++ y) := by
  have e : (x ++ y).cps.toList = x.cps.toList ++ y.cps.toList := Array.toList_append ..
  unfold ChOk at hx hy ⊢
  rw [e, List.all_append, hx, hy]
  rfl
def MkOk (m : Str) : Prop := ChOk m ∧ m.length ≤ 40
def SgOk (s : Str) : Prop := ChOk s ∧ s.length ≤ 20
theorem len_cat (x y : Str) : (x ++ y).length = x.length + y.length := by
  show (x.cps ++ y.cps).size = _
  rw [Array.size_append]
  rfl
theorem mkM_ok {s : Str} {n : Nat} (hs : SgOk s) (hn : n < 10 ^ 10) : MkOk (mkM s n) := by
  unfold mkM
  refine ⟨cat_ch (cat_ch hs.1 (ofS_ch _)) (ofS_ch _), ?_⟩
  have h1 := PyProof.Rows.toString_length_le (v := (n : Int)) (by omega) (k := 10) (by decide) (by omega)
  have h2 : (("." : Str)).length = 1 := by decide
  have h3 : (((toString (n : Int) : String) : Str)).length ≤ 10 := h1
  rw [len_cat, len_cat, h2]
  have := hs.2
  omega
theorem num_shl {i : Int} (h : NumOk i) : (PyData.shown (.int i)).length ≤ 31 := by
  have e := int_text_length_le10 (a := i) (k := 30) (by decide) h
  show (Str.ofString (toString i)).length ≤ 31
  rw [PySem.ofString_length]; exact e
theorem num_log {i : Int} (h : NumOk i) : i.natAbs.log2 < 1920 := log2_small (Nat.lt_of_lt_of_le h (by decide +kernel))
/-- what can be shown -/
structure Shw (d : PyData) : Prop where
  lv : d.leavesShort 33 = true
  sh : d.showable = true
theorem shw_str {x : Str} (h : ChOk x) : Shw (.str x) := ⟨by simp only [PyData.leavesShort]; exact h, rfl⟩
theorem shw_non : Shw .none := ⟨rfl, rfl⟩
theorem shw_int {i : Int} (h : NumOk i) : Shw (.int i) := ⟨by simp only [PyData.leavesShort]; exact decide_eq_true (by have := num_shl h; omega), by simp only [PyData.showable]; exact decide_eq_true (num_log h)⟩
theorem shw_tup {ds : List PyData} (h : ∀ d ∈ ds, Shw d) : Shw (.tuple ds) := by
  have key : ∀ ds : List PyData, (∀ d ∈ ds, Shw d) → PyData.leavesShortAll 33 ds = true ∧ PyData.showableAll ds = true := by
    intro ds
    induction ds with
    | nil => exact fun _ => ⟨rfl, rfl⟩
    | cons d ds ih =>
      intro h
      obtain ⟨h1, h2⟩ := ih fun d hd => h d (List.mem_cons_of_mem _ hd)
      have h3 := h d List.mem_cons_self
      exact ⟨by simp only [PyData.leavesShortAll, h3.lv, h1, Bool.and_self], by simp only [PyData.showableAll, h3.sh, h2, Bool.and_self]⟩
  exact ⟨by simp only [PyData.leavesShort]; exact (key ds h).1, by simp only [PyData.showable]; exact (key ds h).2⟩
theorem shw_wd {w : String} : Shw (.str (w : Str)) := shw_str (ofS_ch w)
theorem shw1 {a : PyData} (h : Shw a) : Shw (.tuple [a]) := shw_tup fun d hd => by
  rcases List.mem_singleton.mp hd with rfl
  exact h
theorem shw2 {a b : PyData} (ha : Shw a) (hb : Shw b) : Shw (.tuple [a, b]) := shw_tup fun d hd => by
  simp only [List.mem_cons, List.not_mem_nil, or_false] at hd
  rcases hd with rfl | rfl <;> assumption
theorem shw3 {a b c : PyData} (ha : Shw a) (hb : Shw b) (hc : Shw c) : Shw (.tuple [a, b, c]) := shw_tup fun d hd => by
  simp only [List.mem_cons, List.not_mem_nil, or_false] at hd
  rcases hd with rfl | rfl | rfl <;> assumption
theorem shw4 {a b c e : PyData} (ha : Shw a) (hb : Shw b) (hc : Shw c) (he : Shw e) : Shw (.tuple [a, b, c, e]) := shw_tup fun d hd => by
  simp only [List.mem_cons, List.not_mem_nil, or_false] at hd
  rcases hd with rfl | rfl | rfl | rfl <;> assumption
theorem shw5 {a b c e f : PyData} (ha : Shw a) (hb : Shw b) (hc : Shw c) (he : Shw e) (hf : Shw f) : Shw (.tuple [a, b, c, e, f]) := shw_tup fun d hd => by
  simp only [List.mem_cons, List.not_mem_nil, or_false] at hd
  rcases hd with rfl | rfl | rfl | rfl | rfl <;> assumption
theorem Fm.shw : ∀ f : Fm, Shw f.d
  | .any => shw_wd
  | .num => shw_wd
  | .text => shw_wd
  | .deed a b => shw3 shw_wd (Fm.shw a) (Fm.shw b)
  | .box a => shw2 shw_wd (Fm.shw a)
theorem Fm.bulk_le : ∀ (n : Nat) (f : Fm), f.ht ≤ n → f.d.bulk + 7 ≤ 11 * 2 ^ n
  | n, .any, _ => by
    have : 1 ≤ 2 ^ n := Nat.one_le_two_pow
    show 3 + 7 ≤ _
    omega
  | n, .num, _ => by
    have : 1 ≤ 2 ^ n := Nat.one_le_two_pow
    show 3 + 7 ≤ _
    omega
  | n, .text, _ => by
    have : 1 ≤ 2 ^ n := Nat.one_le_two_pow
    show 4 + 7 ≤ _
    omega
  | 0, .deed a b, h => by simp only [Fm.ht] at h; omega
  | 0, .box a, h => by simp only [Fm.ht] at h; omega
  | n + 1, .deed a b, h => by
    simp only [Fm.ht] at h
    have h1 := Fm.bulk_le n a (by omega)
    have h2 := Fm.bulk_le n b (by omega)
    show (4 + 1 + (a.d.bulk + 1 + (b.d.bulk + 1 + 0))) + 7 ≤ _
    omega
  | n + 1, .box a, h => by
    simp only [Fm.ht] at h
    have h1 := Fm.bulk_le n a (by omega)
    show (3 + 1 + (a.d.bulk + 1 + 0)) + 7 ≤ _
    omega
theorem Fm.bulk5 {f : Fm} (h : f.ht ≤ 5) : f.d.bulk ≤ 345 := by have := Fm.bulk_le 5 f h; omega
/-- placed terms with their walls -/
def Tm.sm : Tm → Prop
  | .number n => NumOk n
  | .text w => TextOk w
  | .name x => NameOk x
  | .deed x A e => NameOk x ∧ A.ht ≤ 5 ∧ e.sm
  | .letT x e f => NameOk x ∧ e.sm ∧ f.sm
  | .tell A e | .box A e => A.ht ≤ 5 ∧ e.sm
  | .call e f | .add e f | .sub e f | .write e f | .same e f | .doT e f => e.sm ∧ f.sm
  | .ifT c e f => c.sm ∧ e.sm ∧ f.sm
  | .size e | .read e => e.sm
  | .wall m A B e => MkOk m ∧ A.ht ≤ 5 ∧ B.ht ≤ 5 ∧ e.sm
def Tm.cost : Tm → Nat
  | .wall _ _ _ e => 740 + e.cost
  | .deed _ _ e | .tell _ e | .size e | .box _ e | .read e => 365 + e.cost
  | .call e f | .letT _ e f | .add e f | .sub e f | .write e f | .same e f | .doT e f => 365 + (e.cost + f.cost)
  | .ifT c e f => 365 + (c.cost + (e.cost + f.cost))
  | _ => 365
theorem name_sz {x : Str} (h : NameOk x) : x.cps.size ≤ 8 := h.2.2
theorem Tm.sm_ok : ∀ t : Tm, t.sm → Shw t.d ∧ t.d.depth ≤ t.dep + 6 ∧ t.d.bulk ≤ t.cost
  | .number i, h => ⟨shw2 shw_wd (shw_int h), by simp [Tm.d, PyData.depth, PyData.depthAll], by show 6 + 1 + (0 + 1 + 0) ≤ 365; omega⟩
  | .text w, h => ⟨shw2 shw_wd (shw_str (lw_ch h.1)), by simp [Tm.d, PyData.depth, PyData.depthAll], by
    have h2 : w.cps.size ≤ 8 := h.2
    show 4 + 1 + (w.cps.size + 1 + 0) ≤ 365; omega⟩
  | .name x, h => ⟨shw2 shw_wd (shw_str (lw_ch h.1)), by simp [Tm.d, PyData.depth, PyData.depthAll], by
    have h2 := name_sz h
    show 4 + 1 + (x.cps.size + 1 + 0) ≤ 365; omega⟩
  | .deed x A e, h => by
    obtain ⟨h1, h2, h3⟩ := Tm.sm_ok e h.2.2
    have h4 := name_sz h.1
    have h5 := Fm.bulk5 h.2.1
    have h6 := Fm.depth_d A
    have h7 := h.2.1
    refine ⟨shw4 shw_wd (shw_str (lw_ch h.1.1)) A.shw h1, ?_, ?_⟩
    · simp only [Tm.d, PyData.depth, PyData.depthAll, Tm.dep]; omega
    · show 4 + 1 + (x.cps.size + 1 + (A.d.bulk + 1 + (e.d.bulk + 1 + 0))) ≤ 365 + e.cost; omega
  | .letT x e f, h => by
    obtain ⟨h1, h2, h3⟩ := Tm.sm_ok e h.2.1
    obtain ⟨g1, g2, g3⟩ := Tm.sm_ok f h.2.2
    have h4 := name_sz h.1
    refine ⟨shw4 shw_wd (shw_str (lw_ch h.1.1)) h1 g1, ?_, ?_⟩
    · simp only [Tm.d, PyData.depth, PyData.depthAll, Tm.dep]; omega
    · show 3 + 1 + (x.cps.size + 1 + (e.d.bulk + 1 + (f.d.bulk + 1 + 0))) ≤ 365 + (e.cost + f.cost); omega
  | .tell A e, h => by
    obtain ⟨h1, h2, h3⟩ := Tm.sm_ok e h.2
    have h5 := Fm.bulk5 h.1
    have h6 := Fm.depth_d A
    have h7 := h.1
    refine ⟨shw3 shw_wd A.shw h1, ?_, ?_⟩
    · simp only [Tm.d, PyData.depth, PyData.depthAll, Tm.dep]; omega
    · show 4 + 1 + (A.d.bulk + 1 + (e.d.bulk + 1 + 0)) ≤ 365 + e.cost; omega
  | .box A e, h => by
    obtain ⟨h1, h2, h3⟩ := Tm.sm_ok e h.2
    have h5 := Fm.bulk5 h.1
    have h6 := Fm.depth_d A
    have h7 := h.1
    refine ⟨shw3 shw_wd A.shw h1, ?_, ?_⟩
    · simp only [Tm.d, PyData.depth, PyData.depthAll, Tm.dep]; omega
    · show 3 + 1 + (A.d.bulk + 1 + (e.d.bulk + 1 + 0)) ≤ 365 + e.cost; omega
  | .call e f, h => by
    obtain ⟨h1, h2, h3⟩ := Tm.sm_ok e h.1
    obtain ⟨g1, g2, g3⟩ := Tm.sm_ok f h.2
    refine ⟨shw3 shw_wd h1 g1, ?_, ?_⟩
    · simp only [Tm.d, PyData.depth, PyData.depthAll, Tm.dep]; omega
    · show 4 + 1 + (e.d.bulk + 1 + (f.d.bulk + 1 + 0)) ≤ 365 + (e.cost + f.cost); omega
  | .add e f, h => by
    obtain ⟨h1, h2, h3⟩ := Tm.sm_ok e h.1
    obtain ⟨g1, g2, g3⟩ := Tm.sm_ok f h.2
    refine ⟨shw3 shw_wd h1 g1, ?_, ?_⟩
    · simp only [Tm.d, PyData.depth, PyData.depthAll, Tm.dep]; omega
    · show 3 + 1 + (e.d.bulk + 1 + (f.d.bulk + 1 + 0)) ≤ 365 + (e.cost + f.cost); omega
  | .sub e f, h => by
    obtain ⟨h1, h2, h3⟩ := Tm.sm_ok e h.1
    obtain ⟨g1, g2, g3⟩ := Tm.sm_ok f h.2
    refine ⟨shw3 shw_wd h1 g1, ?_, ?_⟩
    · simp only [Tm.d, PyData.depth, PyData.depthAll, Tm.dep]; omega
    · show 3 + 1 + (e.d.bulk + 1 + (f.d.bulk + 1 + 0)) ≤ 365 + (e.cost + f.cost); omega
  | .write e f, h => by
    obtain ⟨h1, h2, h3⟩ := Tm.sm_ok e h.1
    obtain ⟨g1, g2, g3⟩ := Tm.sm_ok f h.2
    refine ⟨shw3 shw_wd h1 g1, ?_, ?_⟩
    · simp only [Tm.d, PyData.depth, PyData.depthAll, Tm.dep]; omega
    · show 5 + 1 + (e.d.bulk + 1 + (f.d.bulk + 1 + 0)) ≤ 365 + (e.cost + f.cost); omega
  | .same e f, h => by
    obtain ⟨h1, h2, h3⟩ := Tm.sm_ok e h.1
    obtain ⟨g1, g2, g3⟩ := Tm.sm_ok f h.2
    refine ⟨shw3 shw_wd h1 g1, ?_, ?_⟩
    · simp only [Tm.d, PyData.depth, PyData.depthAll, Tm.dep]; omega
    · show 4 + 1 + (e.d.bulk + 1 + (f.d.bulk + 1 + 0)) ≤ 365 + (e.cost + f.cost); omega
  | .doT e f, h => by
    obtain ⟨h1, h2, h3⟩ := Tm.sm_ok e h.1
    obtain ⟨g1, g2, g3⟩ := Tm.sm_ok f h.2
    refine ⟨shw3 shw_wd h1 g1, ?_, ?_⟩
    · simp only [Tm.d, PyData.depth, PyData.depthAll, Tm.dep]; omega
    · show 2 + 1 + (e.d.bulk + 1 + (f.d.bulk + 1 + 0)) ≤ 365 + (e.cost + f.cost); omega
  | .ifT c e f, h => by
    obtain ⟨c1, c2, c3⟩ := Tm.sm_ok c h.1
    obtain ⟨h1, h2, h3⟩ := Tm.sm_ok e h.2.1
    obtain ⟨g1, g2, g3⟩ := Tm.sm_ok f h.2.2
    refine ⟨shw4 shw_wd c1 h1 g1, ?_, ?_⟩
    · simp only [Tm.d, PyData.depth, PyData.depthAll, Tm.dep]; omega
    · show 2 + 1 + (c.d.bulk + 1 + (e.d.bulk + 1 + (f.d.bulk + 1 + 0))) ≤ 365 + (c.cost + (e.cost + f.cost)); omega
  | .size e, h => by
    obtain ⟨h1, h2, h3⟩ := Tm.sm_ok e h
    refine ⟨shw2 shw_wd h1, ?_, ?_⟩
    · simp only [Tm.d, PyData.depth, PyData.depthAll, Tm.dep]; omega
    · show 4 + 1 + (e.d.bulk + 1 + 0) ≤ 365 + e.cost; omega
  | .read e, h => by
    obtain ⟨h1, h2, h3⟩ := Tm.sm_ok e h
    refine ⟨shw2 shw_wd h1, ?_, ?_⟩
    · simp only [Tm.d, PyData.depth, PyData.depthAll, Tm.dep]; omega
    · show 4 + 1 + (e.d.bulk + 1 + 0) ≤ 365 + e.cost; omega
  | .wall m A B e, h => by
    obtain ⟨h1, h2, h3⟩ := Tm.sm_ok e h.2.2.2
    have h4 : m.cps.size ≤ 40 := h.1.2
    have h5 := Fm.bulk5 h.2.1
    have h6 := Fm.bulk5 h.2.2.1
    have h7 := Fm.depth_d A
    have h8 := Fm.depth_d B
    have h9 := h.2.1
    have h10 := h.2.2.1
    refine ⟨shw5 shw_wd (shw_str h.1.1) A.shw B.shw h1, ?_, ?_⟩
    · simp only [Tm.d, PyData.depth, PyData.depthAll, Tm.dep]; omega
    · show 4 + 1 + (m.cps.size + 1 + (A.d.bulk + 1 + (B.d.bulk + 1 + (e.d.bulk + 1 + 0)))) ≤ 740 + e.cost; omega
theorem walledM_sm {m : Str} {t t' : Tm} {f w : Fm} (h : walledM m t f w = .ok t') (hm : MkOk m) (hf : f.ht ≤ 5) (hw : w.ht ≤ 5) (ht : t.sm) : t'.sm ∧ t'.cost ≤ t.cost + 740 ∧ t'.dep ≤ t.dep + 1 := by
  unfold walledM at h
  split at h
  · cases h
    exact ⟨ht, by omega, by omega⟩
  · split at h
    · cases h
      exact ⟨⟨hm, hf, hw, ht⟩, by simp only [Tm.cost]; omega, by simp only [Tm.dep]; omega⟩
    · cases h
theorem walledM_er {m : Str} {t : Tm} {f w : Fm} {e : Er} (h : walledM m t f w = .error e) : e = .lt m := by
  unfold walledM at h
  split at h
  · cases h
  · split at h
    · cases h
    · cases h; rfl
theorem lowM_er {t : Tm} {f : Fm} {n : Nat} {e : Er} (h : lowM t f n = .error e) : e = .high := by
  unfold lowM at h
  split at h
  · cases h; rfl
  · cases h
theorem bind_er {α β : Type} {r : Except Er α} {k : α → Except Er β} {e : Er} (h : r.bind k = .error e) : r = .error e ∨ ∃ a, r = .ok a ∧ k a = .error e := by
  cases r with
  | ok a => exact .inr ⟨a, rfl, h⟩
  | error e' => cases h; exact .inl rfl
def ErOk : Er → Prop
  | .name x => NameOk x
  | .lt m => MkOk m
  | .high => True
/-- what comes of placing: small -/
def PlcSm (G : Str → Option Fm) (s : Str) (t : Tm) : Prop := ∀ (B : Bd) (n : Nat), t.wf → B5 B → n + t.nodes < 10 ^ 9 →
  (∀ r, plc G s B n t = .ok r → r.1.sm ∧ r.1.cost + 740 ≤ 1105 * t.nodes ∧ r.1.dep ≤ 2 * t.dep) ∧ (∀ e, plc G s B n t = .error e → ErOk e)
theorem plc_sm {G : Str → Option Fm} {s : Str} (g5 : G5 G) (hs : SgOk s) : ∀ t : Tm, PlcSm G s t := by
  intro t
  induction t with
  | number i =>
    intro B n hw _ _
    refine ⟨fun r h => ?_, fun e h => by cases h⟩
    cases h
    exact ⟨hw, by simp [Tm.cost, Tm.nodes], by simp [Tm.dep]⟩
  | text z =>
    intro B n hw _ _
    refine ⟨fun r h => ?_, fun e h => by cases h⟩
    cases h
    exact ⟨hw, by simp [Tm.cost, Tm.nodes], by simp [Tm.dep]⟩
  | name x =>
    intro B n hw _ _
    simp only [plc]
    cases hl : lookB B x with
    | some f =>
      refine ⟨fun r h => ?_, fun e h => by cases h⟩
      cases h
      exact ⟨hw, by simp [Tm.cost, Tm.nodes], by simp [Tm.dep]⟩
    | none =>
      cases hg : G x with
      | some f =>
        refine ⟨fun r h => ?_, fun e h => by cases h⟩
        cases h
        exact ⟨hw, by simp [Tm.cost, Tm.nodes], by simp [Tm.dep]⟩
      | none =>
        refine ⟨fun r h => (by cases h), fun e h => ?_⟩
        cases h
        exact hw
  | deed x A e ih =>
    intro B n hw hB hn
    simp only [Tm.nodes] at hn
    obtain ⟨i1, i2⟩ := ih (B ++ [(x, A)]) n hw.2.2 (hB.add hw.2.1) (by omega)
    refine ⟨fun r h => ?_, fun er h => ?_⟩
    · obtain ⟨q, h1, h2⟩ := bind_ok h
      obtain ⟨rfl, h3⟩ := lowM_inv h2
      obtain ⟨a1, a2, a3⟩ := i1 q h1
      exact ⟨⟨hw.1, hw.2.1, a1⟩, by simp only [Tm.cost, Tm.nodes]; omega, by simp only [Tm.dep]; omega⟩
    · rcases bind_er h with h | ⟨q, h1, h2⟩
      · exact i2 er h
      · rw [lowM_er h2]; trivial
  | call f e jf je =>
    intro B n hw hB hn
    simp only [Tm.nodes] at hn
    obtain ⟨i1, i2⟩ := jf B (n + 1) hw.1 hB (by omega)
    have rest : ∀ q, plc G s B (n + 1) f = .ok q → q.2.1.ht ≤ 5 ∧ q.2.2 + 1 ≤ n + 1 + f.nodes := fun q h1 => let ⟨a, _, c⟩ := plc_low g5 f h1 hw.1 hB; ⟨a, c⟩
    refine ⟨fun r h => ?_, fun er h => ?_⟩
    · obtain ⟨q, h1, h⟩ := bind_ok h
      obtain ⟨u, h2, h⟩ := bind_ok h
      obtain ⟨v, h3, h⟩ := bind_ok h
      obtain ⟨z, h4, h⟩ := bind_ok h
      cases h
      obtain ⟨l1, l2⟩ := rest q h1
      obtain ⟨j1, _⟩ := je B (q.2.2 + 1) hw.2 hB (by omega)
      obtain ⟨a1, a2, a3⟩ := i1 q h1
      obtain ⟨b1, b2, b3⟩ := j1 v h3
      have hd := dw_low l1
      obtain ⟨c1, c2, c3⟩ := walledM_sm h2 (mkM_ok hs (by omega)) l1 hd.1 a1
      obtain ⟨d1, d2, d3⟩ := walledM_sm h4 (mkM_ok hs (by omega)) (plc_low g5 e h3 hw.2 hB).1 (by omega) b1
      exact ⟨⟨c1, d1⟩, by simp only [Tm.cost, Tm.nodes]; omega, by simp only [Tm.dep]; omega⟩
    · rcases bind_er h with h | ⟨q, h1, h⟩
      · exact i2 er h
      obtain ⟨l1, l2⟩ := rest q h1
      rcases bind_er h with h | ⟨u, h2, h⟩
      · rw [walledM_er h]; exact mkM_ok hs (by omega)
      obtain ⟨_, j2⟩ := je B (q.2.2 + 1) hw.2 hB (by omega)
      rcases bind_er h with h | ⟨v, h3, h⟩
      · exact j2 er h
      rcases bind_er h with h | ⟨z, h4, h⟩
      · rw [walledM_er h]; exact mkM_ok hs (by omega)
      cases h
  | letT x e f je jf =>
    intro B n hw hB hn
    simp only [Tm.nodes] at hn
    obtain ⟨i1, i2⟩ := je B n hw.2.1 hB (by omega)
    have rest : ∀ q, plc G s B n e = .ok q → q.2.1.ht ≤ 5 ∧ q.2.2 + 1 ≤ n + e.nodes := fun q h1 => let ⟨a, _, c⟩ := plc_low g5 e h1 hw.2.1 hB; ⟨a, c⟩
    refine ⟨fun r h => ?_, fun er h => ?_⟩
    · obtain ⟨q, h1, h⟩ := bind_ok h
      obtain ⟨v, h3, h⟩ := bind_ok h
      cases h
      obtain ⟨l1, l2⟩ := rest q h1
      obtain ⟨j1, _⟩ := jf (B ++ [(x, q.2.1)]) q.2.2 hw.2.2 (hB.add l1) (by omega)
      obtain ⟨a1, a2, a3⟩ := i1 q h1
      obtain ⟨b1, b2, b3⟩ := j1 v h3
      exact ⟨⟨hw.1, a1, b1⟩, by simp only [Tm.cost, Tm.nodes]; omega, by simp only [Tm.dep]; omega⟩
    · rcases bind_er h with h | ⟨q, h1, h⟩
      · exact i2 er h
      obtain ⟨l1, l2⟩ := rest q h1
      obtain ⟨_, j2⟩ := jf (B ++ [(x, q.2.1)]) q.2.2 hw.2.2 (hB.add l1) (by omega)
      rcases bind_er h with h | ⟨v, h3, h⟩
      · exact j2 er h
      cases h
  | tell A e je =>
    intro B n hw hB hn
    simp only [Tm.nodes] at hn
    obtain ⟨i1, i2⟩ := je B (n + 1) hw.2 hB (by omega)
    refine ⟨fun r h => ?_, fun er h => ?_⟩
    · obtain ⟨q, h1, h⟩ := bind_ok h
      obtain ⟨u, h2, h⟩ := bind_ok h
      cases h
      obtain ⟨a1, a2, a3⟩ := i1 q h1
      obtain ⟨c1, c2, c3⟩ := walledM_sm h2 (mkM_ok hs (by omega)) (plc_low g5 e h1 hw.2 hB).1 hw.1 a1
      exact ⟨⟨hw.1, c1⟩, by simp only [Tm.cost, Tm.nodes]; omega, by simp only [Tm.dep]; omega⟩
    · rcases bind_er h with h | ⟨q, h1, h⟩
      · exact i2 er h
      rcases bind_er h with h | ⟨u, h2, h⟩
      · rw [walledM_er h]; exact mkM_ok hs (by omega)
      cases h
  | ifT c e f jc je jf =>
    intro B n hw hB hn
    simp only [Tm.nodes] at hn
    obtain ⟨i1, i2⟩ := jc B (n + 1) hw.1 hB (by omega)
    have r1 : ∀ q, plc G s B (n + 1) c = .ok q → q.2.1.ht ≤ 5 ∧ q.2.2 + 1 ≤ n + 1 + c.nodes := fun q h1 => let ⟨a, _, c⟩ := plc_low g5 c h1 hw.1 hB; ⟨a, c⟩
    have r2 : ∀ k q, plc G s B k e = .ok q → q.2.1.ht ≤ 5 ∧ q.2.2 + 1 ≤ k + e.nodes := fun k q h1 => let ⟨a, _, c⟩ := plc_low g5 e h1 hw.2.1 hB; ⟨a, c⟩
    have e0 : (Fm.num).ht ≤ 5 := by decide
    refine ⟨fun r h => ?_, fun er h => ?_⟩
    · obtain ⟨q, h1, h⟩ := bind_ok h
      obtain ⟨u, h2, h⟩ := bind_ok h
      obtain ⟨v, h3, h⟩ := bind_ok h
      obtain ⟨z, h4, h⟩ := bind_ok h
      obtain ⟨l1, l2⟩ := r1 q h1
      obtain ⟨j1, _⟩ := je B (q.2.2 + 1) hw.2.1 hB (by omega)
      obtain ⟨m1, m2⟩ := r2 _ v h3
      obtain ⟨k1, _⟩ := jf B (v.2.2 + 1) hw.2.2 hB (by omega)
      have o1 := (plc_low g5 f h4 hw.2.2 hB).1
      obtain ⟨a1, a2, a3⟩ := i1 q h1
      obtain ⟨b1, b2, b3⟩ := j1 v h3
      obtain ⟨c1, c2, c3⟩ := k1 z h4
      obtain ⟨d1, d2, d3⟩ := walledM_sm h2 (mkM_ok hs (by omega)) l1 e0 a1
      split at h
      · obtain ⟨x1, h5, h⟩ := bind_ok h
        obtain ⟨x2, h6, h⟩ := bind_ok h
        cases h
        have hm := Fm.met_ht v.2.1 z.2.1
        obtain ⟨f1, f2, f3⟩ := walledM_sm h5 (mkM_ok hs (by omega)) m1 (by omega) b1
        obtain ⟨g1, g2, g3⟩ := walledM_sm h6 (mkM_ok hs (by omega)) o1 (by omega) c1
        exact ⟨⟨d1, f1, g1⟩, by simp only [Tm.cost, Tm.nodes]; omega, by simp only [Tm.dep]; omega⟩
      · cases h
    · rcases bind_er h with h | ⟨q, h1, h⟩
      · exact i2 er h
      obtain ⟨l1, l2⟩ := r1 q h1
      rcases bind_er h with h | ⟨u, h2, h⟩
      · rw [walledM_er h]; exact mkM_ok hs (by omega)
      obtain ⟨_, j2⟩ := je B (q.2.2 + 1) hw.2.1 hB (by omega)
      rcases bind_er h with h | ⟨v, h3, h⟩
      · exact j2 er h
      obtain ⟨m1, m2⟩ := r2 _ v h3
      obtain ⟨_, k2⟩ := jf B (v.2.2 + 1) hw.2.2 hB (by omega)
      rcases bind_er h with h | ⟨z, h4, h⟩
      · exact k2 er h
      split at h
      · rcases bind_er h with h | ⟨x1, h5, h⟩
        · rw [walledM_er h]; exact mkM_ok hs (by omega)
        rcases bind_er h with h | ⟨x2, h6, h⟩
        · rw [walledM_er h]; exact mkM_ok hs (by omega)
        cases h
      · cases h
        exact mkM_ok hs (by omega)
  | add e f je jf =>
    intro B n hw hB hn
    simp only [Tm.nodes] at hn
    obtain ⟨i1, i2⟩ := je B (n + 1) hw.1 hB (by omega)
    have e0 : (Fm.num).ht ≤ 5 := by decide
    have rest : ∀ q, plc G s B (n + 1) e = .ok q → q.2.1.ht ≤ 5 ∧ q.2.2 + 1 ≤ n + 1 + e.nodes := fun q h1 => let ⟨a, _, c⟩ := plc_low g5 e h1 hw.1 hB; ⟨a, c⟩
    refine ⟨fun r h => ?_, fun er h => ?_⟩
    · obtain ⟨q, h1, h⟩ := bind_ok h
      obtain ⟨u, h2, h⟩ := bind_ok h
      obtain ⟨v, h3, h⟩ := bind_ok h
      obtain ⟨z, h4, h⟩ := bind_ok h
      cases h
      obtain ⟨l1, l2⟩ := rest q h1
      obtain ⟨j1, _⟩ := jf B (q.2.2 + 1) hw.2 hB (by omega)
      obtain ⟨a1, a2, a3⟩ := i1 q h1
      obtain ⟨b1, b2, b3⟩ := j1 v h3
      obtain ⟨c1, c2, c3⟩ := walledM_sm h2 (mkM_ok hs (by omega)) l1 e0 a1
      obtain ⟨d1, d2, d3⟩ := walledM_sm h4 (mkM_ok hs (by omega)) (plc_low g5 f h3 hw.2 hB).1 e0 b1
      exact ⟨⟨c1, d1⟩, by simp only [Tm.cost, Tm.nodes]; omega, by simp only [Tm.dep]; omega⟩
    · rcases bind_er h with h | ⟨q, h1, h⟩
      · exact i2 er h
      obtain ⟨l1, l2⟩ := rest q h1
      rcases bind_er h with h | ⟨u, h2, h⟩
      · rw [walledM_er h]; exact mkM_ok hs (by omega)
      obtain ⟨_, j2⟩ := jf B (q.2.2 + 1) hw.2 hB (by omega)
      rcases bind_er h with h | ⟨v, h3, h⟩
      · exact j2 er h
      rcases bind_er h with h | ⟨z, h4, h⟩
      · rw [walledM_er h]; exact mkM_ok hs (by omega)
      cases h
  | sub e f je jf =>
    intro B n hw hB hn
    simp only [Tm.nodes] at hn
    obtain ⟨i1, i2⟩ := je B (n + 1) hw.1 hB (by omega)
    have e0 : (Fm.num).ht ≤ 5 := by decide
    have rest : ∀ q, plc G s B (n + 1) e = .ok q → q.2.1.ht ≤ 5 ∧ q.2.2 + 1 ≤ n + 1 + e.nodes := fun q h1 => let ⟨a, _, c⟩ := plc_low g5 e h1 hw.1 hB; ⟨a, c⟩
    refine ⟨fun r h => ?_, fun er h => ?_⟩
    · obtain ⟨q, h1, h⟩ := bind_ok h
      obtain ⟨u, h2, h⟩ := bind_ok h
      obtain ⟨v, h3, h⟩ := bind_ok h
      obtain ⟨z, h4, h⟩ := bind_ok h
      cases h
      obtain ⟨l1, l2⟩ := rest q h1
      obtain ⟨j1, _⟩ := jf B (q.2.2 + 1) hw.2 hB (by omega)
      obtain ⟨a1, a2, a3⟩ := i1 q h1
      obtain ⟨b1, b2, b3⟩ := j1 v h3
      obtain ⟨c1, c2, c3⟩ := walledM_sm h2 (mkM_ok hs (by omega)) l1 e0 a1
      obtain ⟨d1, d2, d3⟩ := walledM_sm h4 (mkM_ok hs (by omega)) (plc_low g5 f h3 hw.2 hB).1 e0 b1
      exact ⟨⟨c1, d1⟩, by simp only [Tm.cost, Tm.nodes]; omega, by simp only [Tm.dep]; omega⟩
    · rcases bind_er h with h | ⟨q, h1, h⟩
      · exact i2 er h
      obtain ⟨l1, l2⟩ := rest q h1
      rcases bind_er h with h | ⟨u, h2, h⟩
      · rw [walledM_er h]; exact mkM_ok hs (by omega)
      obtain ⟨_, j2⟩ := jf B (q.2.2 + 1) hw.2 hB (by omega)
      rcases bind_er h with h | ⟨v, h3, h⟩
      · exact j2 er h
      rcases bind_er h with h | ⟨z, h4, h⟩
      · rw [walledM_er h]; exact mkM_ok hs (by omega)
      cases h
  | size e je =>
    intro B n hw hB hn
    simp only [Tm.nodes] at hn
    have e0 : (Fm.text).ht ≤ 5 := by decide
    obtain ⟨i1, i2⟩ := je B (n + 1) hw hB (by omega)
    refine ⟨fun r h => ?_, fun er h => ?_⟩
    · obtain ⟨q, h1, h⟩ := bind_ok h
      obtain ⟨u, h2, h⟩ := bind_ok h
      cases h
      obtain ⟨a1, a2, a3⟩ := i1 q h1
      obtain ⟨c1, c2, c3⟩ := walledM_sm h2 (mkM_ok hs (by omega)) (plc_low g5 e h1 hw hB).1 e0 a1
      exact ⟨c1, by simp only [Tm.cost, Tm.nodes]; omega, by simp only [Tm.dep]; omega⟩
    · rcases bind_er h with h | ⟨q, h1, h⟩
      · exact i2 er h
      rcases bind_er h with h | ⟨u, h2, h⟩
      · rw [walledM_er h]; exact mkM_ok hs (by omega)
      cases h
  | box A e je =>
    intro B n hw hB hn
    simp only [Tm.nodes] at hn
    obtain ⟨i1, i2⟩ := je B (n + 1) hw.2 hB (by omega)
    refine ⟨fun r h => ?_, fun er h => ?_⟩
    · obtain ⟨q, h1, h⟩ := bind_ok h
      obtain ⟨u, h2, h⟩ := bind_ok h
      obtain ⟨rfl, h3⟩ := lowM_inv h
      obtain ⟨a1, a2, a3⟩ := i1 q h1
      obtain ⟨c1, c2, c3⟩ := walledM_sm h2 (mkM_ok hs (by omega)) (plc_low g5 e h1 hw.2 hB).1 hw.1 a1
      exact ⟨⟨hw.1, c1⟩, by simp only [Tm.cost, Tm.nodes]; omega, by simp only [Tm.dep]; omega⟩
    · rcases bind_er h with h | ⟨q, h1, h⟩
      · exact i2 er h
      rcases bind_er h with h | ⟨u, h2, h⟩
      · rw [walledM_er h]; exact mkM_ok hs (by omega)
      rw [lowM_er h]; trivial
  | read e je =>
    intro B n hw hB hn
    simp only [Tm.nodes] at hn
    obtain ⟨i1, i2⟩ := je B (n + 1) hw hB (by omega)
    refine ⟨fun r h => ?_, fun er h => ?_⟩
    · obtain ⟨q, h1, h⟩ := bind_ok h
      obtain ⟨u, h2, h⟩ := bind_ok h
      cases h
      obtain ⟨a1, a2, a3⟩ := i1 q h1
      have l1 := (plc_low g5 e h1 hw hB).1
      obtain ⟨c1, c2, c3⟩ := walledM_sm h2 (mkM_ok hs (by omega)) l1 (bw_low l1).1 a1
      exact ⟨c1, by simp only [Tm.cost, Tm.nodes]; omega, by simp only [Tm.dep]; omega⟩
    · rcases bind_er h with h | ⟨q, h1, h⟩
      · exact i2 er h
      rcases bind_er h with h | ⟨u, h2, h⟩
      · rw [walledM_er h]; exact mkM_ok hs (by omega)
      cases h
  | write e f je jf =>
    intro B n hw hB hn
    simp only [Tm.nodes] at hn
    obtain ⟨i1, i2⟩ := je B (n + 1) hw.1 hB (by omega)
    have rest : ∀ q, plc G s B (n + 1) e = .ok q → q.2.1.ht ≤ 5 ∧ q.2.2 + 1 ≤ n + 1 + e.nodes := fun q h1 => let ⟨a, _, c⟩ := plc_low g5 e h1 hw.1 hB; ⟨a, c⟩
    refine ⟨fun r h => ?_, fun er h => ?_⟩
    · obtain ⟨q, h1, h⟩ := bind_ok h
      obtain ⟨u, h2, h⟩ := bind_ok h
      obtain ⟨v, h3, h⟩ := bind_ok h
      obtain ⟨z, h4, h⟩ := bind_ok h
      cases h
      obtain ⟨l1, l2⟩ := rest q h1
      have hb := bw_low l1
      obtain ⟨j1, _⟩ := jf B (q.2.2 + 1) hw.2 hB (by omega)
      obtain ⟨a1, a2, a3⟩ := i1 q h1
      obtain ⟨b1, b2, b3⟩ := j1 v h3
      obtain ⟨c1, c2, c3⟩ := walledM_sm h2 (mkM_ok hs (by omega)) l1 hb.1 a1
      obtain ⟨d1, d2, d3⟩ := walledM_sm h4 (mkM_ok hs (by omega)) (plc_low g5 f h3 hw.2 hB).1 (by omega) b1
      exact ⟨⟨c1, d1⟩, by simp only [Tm.cost, Tm.nodes]; omega, by simp only [Tm.dep]; omega⟩
    · rcases bind_er h with h | ⟨q, h1, h⟩
      · exact i2 er h
      obtain ⟨l1, l2⟩ := rest q h1
      rcases bind_er h with h | ⟨u, h2, h⟩
      · rw [walledM_er h]; exact mkM_ok hs (by omega)
      obtain ⟨_, j2⟩ := jf B (q.2.2 + 1) hw.2 hB (by omega)
      rcases bind_er h with h | ⟨v, h3, h⟩
      · exact j2 er h
      rcases bind_er h with h | ⟨z, h4, h⟩
      · rw [walledM_er h]; exact mkM_ok hs (by omega)
      cases h
  | same e f je jf =>
    intro B n hw hB hn
    simp only [Tm.nodes] at hn
    obtain ⟨i1, i2⟩ := je B (n + 1) hw.1 hB (by omega)
    have rest : ∀ q, plc G s B (n + 1) e = .ok q → q.2.1.ht ≤ 5 ∧ q.2.2 + 1 ≤ n + 1 + e.nodes := fun q h1 => let ⟨a, _, c⟩ := plc_low g5 e h1 hw.1 hB; ⟨a, c⟩
    refine ⟨fun r h => ?_, fun er h => ?_⟩
    · obtain ⟨q, h1, h⟩ := bind_ok h
      obtain ⟨u, h2, h⟩ := bind_ok h
      obtain ⟨v, h3, h⟩ := bind_ok h
      obtain ⟨z, h4, h⟩ := bind_ok h
      cases h
      obtain ⟨l1, l2⟩ := rest q h1
      have hb := bw_low l1
      obtain ⟨j1, _⟩ := jf B (q.2.2 + 1) hw.2 hB (by omega)
      obtain ⟨a1, a2, a3⟩ := i1 q h1
      obtain ⟨b1, b2, b3⟩ := j1 v h3
      have l3 := (plc_low g5 f h3 hw.2 hB).1
      obtain ⟨c1, c2, c3⟩ := walledM_sm h2 (mkM_ok hs (by omega)) l1 hb.1 a1
      obtain ⟨d1, d2, d3⟩ := walledM_sm h4 (mkM_ok hs (by omega)) l3 (bw_low l3).1 b1
      exact ⟨⟨c1, d1⟩, by simp only [Tm.cost, Tm.nodes]; omega, by simp only [Tm.dep]; omega⟩
    · rcases bind_er h with h | ⟨q, h1, h⟩
      · exact i2 er h
      obtain ⟨l1, l2⟩ := rest q h1
      rcases bind_er h with h | ⟨u, h2, h⟩
      · rw [walledM_er h]; exact mkM_ok hs (by omega)
      obtain ⟨_, j2⟩ := jf B (q.2.2 + 1) hw.2 hB (by omega)
      rcases bind_er h with h | ⟨v, h3, h⟩
      · exact j2 er h
      rcases bind_er h with h | ⟨z, h4, h⟩
      · rw [walledM_er h]; exact mkM_ok hs (by omega)
      cases h
  | doT e f je jf =>
    intro B n hw hB hn
    simp only [Tm.nodes] at hn
    obtain ⟨i1, i2⟩ := je B n hw.1 hB (by omega)
    have rest : ∀ q, plc G s B n e = .ok q → q.2.1.ht ≤ 5 ∧ q.2.2 + 1 ≤ n + e.nodes := fun q h1 => let ⟨a, _, c⟩ := plc_low g5 e h1 hw.1 hB; ⟨a, c⟩
    refine ⟨fun r h => ?_, fun er h => ?_⟩
    · obtain ⟨q, h1, h⟩ := bind_ok h
      obtain ⟨v, h3, h⟩ := bind_ok h
      cases h
      obtain ⟨l1, l2⟩ := rest q h1
      obtain ⟨j1, _⟩ := jf B q.2.2 hw.2 hB (by omega)
      obtain ⟨a1, a2, a3⟩ := i1 q h1
      obtain ⟨b1, b2, b3⟩ := j1 v h3
      exact ⟨⟨a1, b1⟩, by simp only [Tm.cost, Tm.nodes]; omega, by simp only [Tm.dep]; omega⟩
    · rcases bind_er h with h | ⟨q, h1, h⟩
      · exact i2 er h
      obtain ⟨l1, l2⟩ := rest q h1
      obtain ⟨_, j2⟩ := jf B q.2.2 hw.2 hB (by omega)
      rcases bind_er h with h | ⟨v, h3, h⟩
      · exact j2 er h
      cases h
  | wall m A B' e je =>
    intro B n hw hB hn
    exact hw.elim
/-- what is told can be shown -/
structure Show (d : PyData) : Prop where
  sh : d.showable = true
  dp : d.depth ≤ 100
  sz : d.shown.length ≤ sizeLine
theorem show_of {d : PyData} (h : Shw d) (hd : d.depth ≤ 100) (hb : d.bulk ≤ 400000) : Show d := ⟨h.sh, hd, by
  have := PyData.shown_le_bulk 33 (by decide) d h.lv
  rw [sizeLine_eq]
  omega⟩
theorem out_show {G : Str → Option Fm} {s : Str} {t : Tm} (g5 : G5 G) (hs : SgOk s) (hw : t.wf) (hd : t.dep < 25) (hn : t.nodes ≤ 300) : Show (outD (plc G s [] 0 t)) := by
  obtain ⟨h1, h2⟩ := plc_sm g5 hs t [] 0 hw B5.nil (by omega)
  cases hr : plc G s [] 0 t with
  | ok r =>
    obtain ⟨a1, a2, a3⟩ := h1 r hr
    obtain ⟨b1, b2, b3⟩ := Tm.sm_ok r.1 a1
    have l := (plc_low g5 t hr hw B5.nil).1
    have l2 := Fm.bulk5 l
    have l3 := Fm.depth_d r.2.1
    refine show_of (shw2 shw_wd (shw2 b1 r.2.1.shw)) ?_ ?_
    · show PyData.depth (.tuple [.str "placed", .tuple [r.1.d, r.2.1.d]]) ≤ 100
      simp only [PyData.depth, PyData.depthAll]; omega
    · show 6 + 1 + ((r.1.d.bulk + 1 + (r.2.1.d.bulk + 1 + 0)) + 1 + 0) ≤ 400000
      omega
  | error e =>
    have he := h2 e hr
    cases e with
    | name x =>
      have h3 : x.cps.size ≤ 8 := name_sz he
      refine show_of (shw2 shw_wd (shw_str (lw_ch he.1))) ?_ ?_
      · show PyData.depth (.tuple _) ≤ 100
        simp [PyData.depth, PyData.depthAll]
      · show 4 + 1 + (x.cps.size + 1 + 0) ≤ 400000
        omega
    | lt m =>
      have h3 : m.cps.size ≤ 40 := he.2
      refine show_of (shw2 shw_wd (shw_str he.1)) ?_ ?_
      · show PyData.depth (.tuple _) ≤ 100
        simp [PyData.depth, PyData.depthAll]
      · show 3 + 1 + (m.cps.size + 1 + 0) ≤ 400000
        omega
    | high =>
      refine show_of (shw2 shw_wd shw_non) ?_ ?_
      · show PyData.depth (.tuple _) ≤ 100
        simp [PyData.depth, PyData.depthAll]
      · show 4 + 1 + (0 + 1 + 0) ≤ 400000
        omega
end Wt
/-! Defs that are called where nothing is being shown; texts of data. -/
namespace Wt
open PySem PySem.Spec PyProof.Rows L2 RZ RT
/-- as FnOk, where no repr is under way -/
structure FnG (P : Program) (w : World) (K : PySem.W.Frag) (mg : Str → Option Value) (base : Heap) (CX : CXT) (k : Nat) (f : Addr) (fd : FuncData) (ps : List Str) (sp : Sp) : Prop where
  ln : ∀ vs H Q E, sp vs H Q E → vs.length = ps.length
  go : ∀ (A : Around) (outer : List Env) (s : Shared) (H : Hp) (args : Args) (us : List Value) (vs : List V) (Q : VK) (E : XK), A.guards = some [] → Room k A → Env0 P w K mg base A outer s H → BindsTo s fd args (ps.zip us) → Vals vs us → sp vs H Q E →
    codeAny (model P w) A (.call (.ref f) args) (CR CX outer P w H s Q E) s
section
variable {P : Program} {w : World} {K : PySem.W.Frag} {mg : Str → Option Value} {base : Heap} {CX : CXT} {k : Nat} {f : Addr} {N ps : List Str} {sp : Sp}
theorem fnG_of {name qual : Str} {params : Arguments} {body : List Stmt} {scope : Scope} {dV kV doc pm cdv ct oc : Value} {an od : Option Addr} {osl : Array (Option Value)}
    (lk : K.lookup f = some ⟨oc, od, .func (PySem.W.fnOf name qual params body scope dV kV doc pm an cdv ct), osl⟩) (hcd : PySem.W.codeIn K cdv qual = true) (S : FnScope N ps scope) (ln : ∀ vs H Q E, sp vs H Q E → vs.length = ps.length)
    (bd : ∀ (A : Around) (outer : List Env) (s : Shared) (H : Hp) (vs : List V) (Q : VK) (E : XK), (A.deeper (envOfC qual scope s.heap.objs.size f cdv)).guards = some [] → Room k (A.deeper (envOfC qual scope s.heap.objs.size f cdv)) → sp vs H Q E →
      ∃ t, PSs (cxOf CX P w K mg base N qual scope f cdv A outer s H E) body t ∧ t { nx := fun _ H' => Q .non H', rt := Q } (start N vs) H) :
    FnG P w K mg base CX (k + 1) f (PySem.W.fnOf name qual params body scope dV kV doc pm an cdv ct) ps sp where
  ln := ln
  go := by
    intro A outer s H args us vs Q E hgu hr e0 hb r hsp
    have stays : ∀ b o, base.get? b = some o → s.heap.get? b = some o := fun b o e => (e0.bs b o e).1
    have KX : K.In s.heap := e0.mod.kin.keeps stays
    have lim : s.heap.NoLimit := e0.mod.nolimit.keeps stays
    have kinds : ∀ y ∈ ps.zip us, scope.names.lookup y.1 = some .local ∨ (scope.names.lookup y.1 = some .cell ∧ ((cellsFrom (s.heap.objs.size + 1) scope.names []).lookup y.1).isSome = true) := by
      rintro ⟨n, v⟩ hy
      rcases S.par n (List.of_mem_zip hy).1 with q | q
      · exact .inl q
      · exact .inr ⟨q, PySem.W.cellsFrom_some _ _ _ (.inl q)⟩
    obtain ⟨t, ht, hq⟩ := bd A outer s H vs Q E hgu (hr.deeper _) hsp
    refine codeAny_call_function hr.depth (KX _ _ lk) rfl S.co S.gen rfl (PySem.W.codeRec_of KX hcd) (hb _ _ _ _ (wpAny_newFunctionEnv_cells S.kind kinds ?_))
    rintro env rfl s1 x
    refine ⟨lim.keeps x.toInCall.keep, codeAny_func ?_⟩
    have I := inv_start (CX := CX) (P := P) (w := w) (K := K) (mg := mg) (base := base) (E := E) S hr.hd e0 (ln _ _ _ _ hsp) r x
    refine wpAny_mono (ht.run [] s1 (start N vs) H _ I hq) (fun fl s' hs => ?_) fun e s' hs => hs
    cases fl with
    | ret u =>
      obtain ⟨v, σ', H', J, rv, q⟩ := hs
      exact ⟨v, H', J.os, J.bare, J.base, J.hok, rv, q⟩
    | next =>
      obtain ⟨σ', H', J, q⟩ := hs
      exact ⟨V.non, H', J.os, J.bare, J.base, J.hok, rfl, q⟩
    | brk => exact (show False from let ⟨_, _, _, q⟩ := hs; q).elim
    | cont => exact (show False from let ⟨_, _, _, q⟩ := hs; q).elim
theorem _root_.L2.FunD.okG {x qual : Str} {params : Arguments} {body : List Stmt} {scope : Scope} {dvs : List V} {kws : List (Str × V)} {fd : FuncData} (F : FunD K x qual params body scope dvs kws f fd) (S : FnScope N ps scope) (ln : ∀ vs H Q E, sp vs H Q E → vs.length = ps.length)
    (bd : ∀ (cdv : Value) (A : Around) (outer : List Env) (s : Shared) (H : Hp) (vs : List V) (Q : VK) (E : XK), (A.deeper (envOfC qual scope s.heap.objs.size f cdv)).guards = some [] → Room k (A.deeper (envOfC qual scope s.heap.objs.size f cdv)) → sp vs H Q E →
      ∃ t, PSs (cxOf CX P w K mg base N qual scope f cdv A outer s H E) body t ∧ t { nx := fun _ H' => Q .non H', rt := Q } (start N vs) H) : FnG P w K mg base CX (k + 1) f fd ps sp := by
  obtain ⟨oc, od, dV, kV, doc, pm, an, cdv, ct, osl, rfl, lk, hcd, _, _⟩ := F.ex
  exact fnG_of lk hcd S ln fun A outer s H vs Q E => bd cdv A outer s H vs Q E
end
section
variable {X : Cx} {CX : CXT} {k : Nat} {f : Addr} {fd : FuncData} {ps : List Str} {sp : Sp} {E : XK} {x : Str} {p pos : Pos} {e : Expr} {es : List Expr} {t : TA}
theorem pe_clG (F : FnG X.prog X.w X.K X.mg X.base CX k f fd ps sp) (hgu : X.A.guards = some []) (hr : Room k X.A) (hm : X.mg x = some (.ref f)) (hk : PySem.W.keepIn X.K (.ref f) = true) (hb : Binds X.K fd ps []) (hx : Passes CX X E) (ha : PA X (e :: es) t) (hg : Gl X x := by rfl)
    (hdb : (x == ("__debug__" : Str)) = false := by decide) (he : starEach (e :: es) X.env = (false, eval e X.env) :: starEach es X.env := by rfl) (hpl : (backTo pos (starEach es X.env)).any (·.1) = false := by rfl) :
    PE X (.Call (.Name x p) (e :: es) [] pos) (tCall sp [] E t) := by
  refine ⟨fun pins s σ H Q I h => wpAny_Call_Name_kw (ld_glob I hg hm ?_ hdb)⟩
  refine PySem.W.callWith_K (h₀ := X.base) I.ok.mod.kin hk (thn (ha.run pos pins s σ H _ I h) fun us s1 ⟨vs, H1, I1, r, q⟩ => ⟨I1.kIn, ?_⟩) he hpl
  have q' : sp vs H1 Q E := by simpa using q
  have hl : us.length = ps.length := r.length.symm.trans (F.ln _ _ _ _ q')
  have bt := hb s1 us I1.kIn (by simpa using hl)
  rw [List.append_nil] at bt
  refine wpAny_call (codeAny_mono (F.go X.A X.stack s1 H1 ⟨us, []⟩ us vs Q E hgu hr I1.env0 bt r q') fun r' s' hq => ?_)
  cases r' with
  | error e => exact hx pins σ H1 s1 e s' I1 hq
  | ok fl =>
    cases fl with
    | ret u => exact I1.after hq
    | next => exact hq.elim
    | brk => exact hq.elim
    | cont => exact hq.elim
end
/-! ### data in the heap, as repr reads it -/
section
variable {X : Cx} {pins : List (Addr × Obj)} {σ : L2.St} {H : Hp} {s : Shared}
mutual
theorem rp_reads (I : Inv X pins σ H s) : ∀ {d : PyData} {v : V} {u : Value}, Rp H v d → RelV v u → Reads s.heap u d []
  | _, _, _, .non, r => by
    obtain rfl : _ = Value.none := r
    exact .none
  | _, _, _, .int i, r => by
    obtain ⟨t, rfl⟩ := r
    exact .int i t
  | _, _, _, .str x, r => by
    obtain ⟨t, rfl⟩ := r
    exact .str x t
  | _, _, _, .tup (a := a) (xs := xs) h q, r => by
    obtain rfl : _ = Value.ref a := r
    obtain ⟨its, rv, ⟨o, ho, hc, n, hd⟩, _⟩ := I.tuple (SqT.of (K := X.K) h)
    exact .tuple ho hc hd (by simpa using rpa_reads I q rv)
theorem rpa_reads (I : Inv X pins σ H s) : ∀ {ds : List PyData} {vs : List V} {us : List Value}, RpAll H vs ds → Vals vs us → ReadsAll s.heap us ds []
  | _, _, _, .nil, .nil => .nil
  | _, _, _, .cons h t, .cons r rs => .cons (as := []) (bs := []) (rp_reads I h r) (rpa_reads I t rs)
end
/-- the data of a dict from names to forms -/
def kvD (fs : FD) : List (PyData × PyData) := fs.map fun q => (.str q.1, q.2.d)
theorem dr_reads (I : Inv X pins σ H s) : ∀ {kvs : List (Key × V)} {fs : FD} {es : List DictEntry} {vs : List (Key × Value)}, DR H kvs fs → KV kvs vs → Pairs (mixKind X.prog X.w) es vs →
    ReadsAll s.heap (es.map (·.key)) ((kvD fs).map (·.1)) [] ∧ ReadsAll s.heap (es.map (·.val)) ((kvD fs).map (·.2)) [] := by
  intro kvs fs es vs h
  induction h generalizing es vs with
  | nil =>
    intro hv hp
    cases hv
    cases hp
    exact ⟨.nil, .nil⟩
  | @cons x v f kvs fs r _ ih =>
    intro hv hp
    cases hv with
    | cons h1 h2 =>
      rename_i b l
      obtain ⟨k, u⟩ := b
      obtain ⟨e1, e2⟩ := h1
      have e1 : Sum.inr x = k := e1
      subst e1
      cases hp with
      | cons p1 p2 p3 =>
        rename_i en l2
        obtain ⟨a1, a2⟩ := ih h2 p3
        rcases keyIs_shape (show keyIs (Sum.inr x) en.key = true from p1) with ⟨_, _, z, _⟩ | ⟨y, t, z, ek⟩
        · cases z
        cases z
        have rk : Reads s.heap en.key (.str x) [] := by rw [ek]; exact .str x t
        have rv : Reads s.heap en.val f.d [] := by rw [p2]; exact rp_reads I r e2
        exact ⟨.cons (as := []) (bs := []) rk a1, .cons (as := []) (bs := []) rv a2⟩
/-- what repr may be asked of -/
def RdsAt (H : Hp) (x : V) (d : PyData) : Prop := Rp H x d ∨ ∃ a kvs fs, x = .ref a ∧ H a = some (.dK kvs) ∧ DR H kvs fs ∧ d = .dict (kvD fs)
theorem rdsAt_reads (I : Inv X pins σ H s) {x : V} {u : Value} {d : PyData} (h : RdsAt H x d) (r : RelV x u) : ∃ as, Reads s.heap u d as ∧ sysModules ∉ as := by
  rcases h with h | ⟨a, kvs, fs, rfl, e, h, rfl⟩
  · exact ⟨[], rp_reads I h r, by simp⟩
  · obtain rfl : u = Value.ref a := r
    obtain ⟨_, hsys, vs, hv, o, es, ep, ho, hx, hd, _, hp, _⟩ := dk_of I.hok e
    obtain ⟨r1, r2⟩ := dr_reads I h hv hp
    refine ⟨[a] ++ [], .dict ho hx.1 hd r1 r2, fun z => ?_⟩
    have z' : sysModules = a := by simpa using z
    rw [z'] at hsys
    simp at hsys
theorem call_reprG {k : Nat} (hg : X.A.guards = some []) (hr : Room k X.A) : CallR X (.builtin "repr") (fun xs H Q => ∃ x d, xs = [x] ∧ RdsAt H x d ∧ Show d ∧ Q (.str d.shown) H) := by
  intro pins s σ H xs us Q I r h
  obtain ⟨x, d, rfl, hx, hs, q⟩ := h
  obtain ⟨u, rfl, ru⟩ := vals1 r
  obtain ⟨as, rd, hsm⟩ := rdsAt_reads I hx ru
  have hun := hr.un
  have hdp := hs.dp
  cases rd with
  | none => exact PySem.P.repr_of_none ⟨.str "None", H, I.tok _, ⟨_, rfl⟩, q⟩
  | bool b => rcases hx with hx | ⟨_, _, _, _, _, _, z⟩
              · cases hx
              · cases z
  | int i t => exact PySem.P.repr_of_int (by simpa [PyData.showable] using hs.sh) ⟨.str _, H, I.tok _, ⟨_, rfl⟩, q⟩
  | str y t => exact PySem.P.repr_of_str ⟨.str _, H, I.tok _, ⟨_, rfl⟩, q⟩ hs.sz
  | list => rcases hx with hx | ⟨_, _, _, _, _, _, z⟩
            · cases hx
            · cases z
  | tuple h1 h2 h3 h4 => exact repr_of_reads' (.tuple h1 h2 h3 h4) hs.sh (fun _ => hsm) hg (by omega) (fun _ _ e => e) (fun h' u tk hk => ⟨.str _, H, I.kept hk, ⟨_, rfl⟩, q⟩) hs.sz
  | dict h1 h2 h3 h4 h5 => exact repr_of_reads' (.dict h1 h2 h3 h4 h5) hs.sh (fun _ => hsm) hg (by omega) (fun _ _ e => e) (fun h' u tk hk => ⟨.str _, H, I.kept hk, ⟨_, rfl⟩, q⟩) hs.sz
end
end Wt
/-! d.items() walked by one name: the iterator's own tuple is out. -/
namespace Wt
open PySem PySem.Spec PyProof.Rows L2
section
variable {prog : Program} {w : World} {K : Type} [DecidableEq K] {knd : KeyKind prog w K} {A : Around} {E : Value → Shared → Prop} {s : Shared}
theorem alive_any {a : Addr} {Q : Option Obj → Shared → Prop} (h : Q (s.heap.get? a) s) : wpAny (model prog w) A (loadIfAlive a) Q E s := fun _ _ _ => h
/-- the iterator's state while its tuple is out, alive or not -/
def ItOut (h : Heap) (it d : Addr) (i n ep : Nat) : Prop := ∃ ok ov a f, PySem.W.KdxIt h it d i n ep ok ov a f
theorem items_next {it d : Addr} {i ep : Nat} {kvs : List (K × Value)} {k : K} {v : Value} {Q : Option Value → Shared → Prop} (hit : ItOut s.heap it d i kvs.length ep) (hm : s.heap.DictAt knd d kvs ep) (hx : kvs[i]? = some (k, v))
    (hQ : ∀ key h', knd.is k key = true → ItOut h' it d (i + 1) kvs.length ep → h'.get? s.heap.objs.size = some { cls := .type "tuple", data := .seq #[key, v] } →
      (∀ b o, b ≠ it → s.heap.get? b = some o → h'.get? b = some o) → Q (some (.ref s.heap.objs.size)) { s with heap := h' }) :
    wpAny (model prog w) A (pyNext (.ref it)) Q E s := by
  obtain ⟨hp, g, dr, tk, os⟩ := s
  obtain ⟨ok, ov, a, f, hit⟩ := hit
  obtain ⟨od, es, hod, hcd, hdd, hk, hpr, hn⟩ := id hm
  have hsz : es.size = kvs.length := by rw [← hpr.length]; simp
  have hi : i < es.size := by
    rw [hsz]
    exact (List.getElem?_eq_some_iff.mp hx).1
  obtain ⟨hkey, hval⟩ := hpr.get? (e := es[i]) (by simp [hi]) hx
  have ty : ∀ h : Heap, (∃ ok ov f j, PySem.W.KdxIt h it d j kvs.length ep ok ov a f) → Shared.TypeIs ⟨h, g, dr, tk, os⟩ (.ref it) "dict_itemiterator" := fun h ⟨_, _, _, _, e⟩ => ⟨_, e, rfl⟩
  have hT := ty hp ⟨_, _, _, _, hit⟩
  unfold pyNext
  refine wpAny_bind (wpAny_attempt (wpAny_callSpecial?_slot (name := Str.ofString "__next__") hT PySem.F.slot_dict_itemiterator_next
    (wpAny_call_entry PySem.F.slot_dict_itemiterator_next hT PySem.F.entry_dict_itemiterator_next ?_ (PySem.F.args_dict_itemiterator_next_1 _))))
  refine wpAny_bind (wpAny_pure ?_)
  refine wpAny_bind (wpAny_bind ?_)
  first | refine wpAny_bind (wpAny_typeNameOfWhole_itemiter hT (wpAny_pure ?_)) | refine wpAny_bind (wpAny_typeNameOf_itemiter hT (wpAny_pure ?_))
  refine wpAny_bind (wpAny_fieldsOf hit rfl ?_)
  have own : Builtin.Dict_items.ownsTuple "dict_itemiterator" = true := by decide
  simp only [own, if_true]
  show wpAny _ _ (if (Value.ref d == Value.none) = true then _ else _) _ _ _
  rw [if_neg (show ¬ ((Value.ref d == Value.none) = true) from Bool.false_ne_true)]
  refine wpAny_bind (wpAny_pure (wpAny_bind (wpAny_dictEntries hod hdd ?_)))
  rw [if_neg (by rw [hsz]; simp)]
  refine wpAny_bind (wpAny_pure (wpAny_bind (wpAny_dictEpoch hod hdd ?_)))
  rw [if_neg (by simp)]
  refine wpAny_pure ?_
  simp only [show ¬ ((i : Int) < 0) from by omega, if_false, Int.toNat_natCast, Array.getElem?_eq_getElem hi]
  refine wpAny_bind ?_
  first | refine wpAny_bind (wpAny_typeNameOfWhole_itemiter hT (wpAny_pure ?_)) | refine wpAny_bind (wpAny_typeNameOf_itemiter hT (wpAny_pure ?_))
  refine wpAny_bind (wpAny_isOneOf_itemiter hT ?_)
  show wpAny _ _ (setField (.ref it) 3 (rawInt ((i : Int) + 1)) >>= _) _ _ ⟨hp, g, dr, tk, os⟩
  refine wpAny_bind (wpAny_setField_rec hit (by simp) fun h1 e1 s1 => ?_)
  replace s1 : Heap.SameBut it hp h1 := s1
  replace e1 : PySem.W.KdxIt h1 it d (i + 1) kvs.length ep ok ov a f := by
    have e : ((i + 1 : Nat) : Int) = (i : Int) + 1 := by omega
    unfold PySem.W.KdxIt
    rw [e]
    simpa [rawInt] using e1
  have hT1 := ty h1 ⟨_, _, _, _, e1⟩
  refine wpAny_bind (wpAny_holding (wpAny_bind (wpAny_isOneOf_itemiter hT1 ?_)))
  refine wpAny_bind (wpAny_isOneOf_itemiter hT1 ?_)
  show wpAny _ _ (Builtin.Dict_items.pairFromOwner (.ref it) 6 es[i].key es[i].val) _ _ ⟨h1, g, dr, tk, os⟩
  unfold Builtin.Dict_items.pairFromOwner
  refine wpAny_bind (wpAny_newTuple ?_)
  generalize hh2 : h1.push { cls := .type "tuple", data := .seq #[es[i].key, es[i].val] } = h2
  have e2 : PySem.W.KdxIt h2 it d (i + 1) kvs.length ep ok ov a f := by rw [← hh2]; exact Heap.get?_push_of_some _ e1
  have z1 : h1.objs.size = hp.objs.size := s1.1
  have lt : it < hp.objs.size := Heap.lt_size hit
  have ne : hp.objs.size ≠ it := Nat.ne_of_gt lt
  have t2 : h2.get? hp.objs.size = some { cls := .type "tuple", data := .seq #[es[i].key, es[i].val] } := by rw [← hh2, ← z1]; exact Heap.get?_push_size _ rfl
  have k2 : ∀ b o, b ≠ it → hp.get? b = some o → h2.get? b = some o := fun b o hb e => by rw [← hh2]; exact Heap.get?_push_of_some _ (s1.extBut b o hb e)
  show wpAny _ _ (Builtin.Dict_items.ownedTupleIsFree (.ref it) >>= _) _ _ ⟨h2, g, dr, tk, os⟩
  rw [z1]
  clear hh2 e1 s1 hT1 z1 h1
  refine wpAny_bind ?_
  unfold Builtin.Dict_items.ownedTupleIsFree
  refine wpAny_bind (wpAny_field e2 rfl (x := rawInt a) rfl ?_)
  show wpAny _ _ (loadIfAlive ((a : Int).toNat) >>= _) _ _ _
  rw [Int.toNat_natCast]
  refine wpAny_bind (alive_any ?_)
  cases hal : h2.get? a with
  | some oa =>
    simp only [hal, Option.isNone_some, Bool.false_eq_true, if_false]
    refine wpAny_bind (wpAny_field e2 rfl (x := .bool f) rfl ?_)
    cases f with
    | true =>
      rw [if_neg (show ¬ ((Value.bool true != Value.bool true) = true) from Bool.false_ne_true)]
      refine wpAny_pure ?_
      simp only [Bool.false_eq_true, if_false]
      exact wpAny_pure (wpAny_pure ⟨_, rfl, wpAny_pure (hQ es[i].key h2 hkey ⟨_, _, _, _, e2⟩ (by rw [← hval]; exact t2) k2)⟩)
    | false =>
      rw [if_pos (show (Value.bool false != Value.bool true) = true from rfl)]
      refine wpAny_bind (wpAny_setField_rec e2 (by simp) fun h3 e3 s3 => ?_)
      replace s3 : Heap.SameBut it h2 h3 := s3
      replace e3 : PySem.W.KdxIt h3 it d (i + 1) kvs.length ep ok ov a true := e3
      refine wpAny_pure ?_
      simp only [Bool.false_eq_true, if_false]
      exact wpAny_pure (wpAny_pure ⟨_, rfl, wpAny_pure (hQ es[i].key h3 hkey ⟨_, _, _, _, e3⟩ (by rw [← hval]; exact s3.extBut _ _ ne t2) fun b o hb e => s3.extBut b o hb (k2 b o hb e))⟩)
  | none =>
    simp only [hal, Option.isNone_none, if_true]
    refine wpAny_pure ?_
    simp only [if_true]
    refine wpAny_bind (wpAny_field e2 rfl (x := ok) rfl ?_)
    refine wpAny_bind (wpAny_field e2 rfl (x := ov) rfl ?_)
    refine wpAny_bind (wpAny_setField_rec e2 (by simp) fun h3 e3 s3 => ?_)
    replace s3 : Heap.SameBut it h2 h3 := s3
    replace e3 : PySem.W.KdxIt h3 it d (i + 1) kvs.length ep es[i].key ov a f := e3
    refine wpAny_bind (wpAny_setField_rec e3 (by simp) fun h4 e4 s4 => ?_)
    replace s4 : Heap.SameBut it h3 h4 := s4
    replace e4 : PySem.W.KdxIt h4 it d (i + 1) kvs.length ep es[i].key es[i].val a f := e4
    refine wpAny_bind (wpAny_setField_rec e4 (by simp) fun h5 e5 s5 => ?_)
    replace s5 : Heap.SameBut it h4 h5 := s5
    replace e5 : PySem.W.KdxIt h5 it d (i + 1) kvs.length ep es[i].key es[i].val hp.objs.size f := e5
    refine wpAny_bind (wpAny_setField_rec e5 (by simp) fun h6 e6 s6 => ?_)
    replace s6 : Heap.SameBut it h5 h6 := s6
    replace e6 : PySem.W.KdxIt h6 it d (i + 1) kvs.length ep es[i].key es[i].val hp.objs.size false := e6
    have up : ∀ b o, b ≠ it → h2.get? b = some o → h6.get? b = some o := fun b o hb e => s6.extBut b o hb (s5.extBut b o hb (s4.extBut b o hb (s3.extBut b o hb e)))
    exact wpAny_bind (wpAny_letGo (wpAny_pure (wpAny_pure ⟨_, rfl, wpAny_pure (hQ es[i].key h6 hkey ⟨_, _, _, _, e6⟩ (by rw [← hval]; exact up _ _ ne t2) fun b o hb e => up b o hb (k2 b o hb e))⟩)))
end
theorem out_self {prog : Program} {w : World} {A : Around} {E : Value → Shared → Prop} {s : Shared} {it d a : Addr} {i n ep : Nat} {ok ov : Value} {f : Bool} {Q : Value → Shared → Prop} (e : PySem.W.KdxIt s.heap it d i n ep ok ov a f) (h : Q (.ref it) s) : wpAny (model prog w) A (pyIter (.ref it)) Q E s := by
  have hT : s.TypeIs (.ref it) "dict_itemiterator" := ⟨_, e, rfl⟩
  refine wpAny_pyIter_slot hT PySem.F.slot_dict_itemiterator_iter (wpAny_call_entry PySem.F.slot_dict_itemiterator_iter hT PySem.W.kcp_entry (wpAny_pure ⟨_, rfl, "dict_itemiterator", _, hT, PySem.F.slot_dict_itemiterator_next.lookup, h⟩) (PySem.F.args_dict_itemiterator_iter_1 _))
/-! ### the rule -/
section
variable {P : Program} {w : World} {K : PySem.W.Frag} {d : Addr} {o : Obj} {es : Array DictEntry} {ep : Nat}
theorem turn_itemsN {kvs : List (Key × V)} {y : Str} {py : Pos} (it : Addr) (hod : o.data = .dict es ep) :
    Turn P w K (.Name y py) (Iti d o kvs) [it] it (fun i h => (∃ ok ov, IsItemIter h it d i kvs.length ep ok ov) ∨ ItOut h it d i kvs.length ep) where
  mem := by simp
  obj := fun i h st b hb => by
    obtain rfl : b = it := by simpa using hb
    rcases st with ⟨ok, ov, e⟩ | ⟨ok, ov, a, f, e⟩
    · exact ⟨_, e, fun v z => nomatch z⟩
    · exact ⟨_, e, fun v z => nomatch z⟩
  keep := fun i h h' st k => by
    rcases st with ⟨ok, ov, e⟩ | ⟨ok, ov, a, f, e⟩
    · exact .inl ⟨ok, ov, k it (by simp) _ e⟩
    · exact .inr ⟨ok, ov, a, f, k it (by simp) _ e⟩
  item := by
    intro X hP hw hK hc i pins s σ H E I hf st hg
    subst hP hw hK
    obtain ⟨hd, hi⟩ := hg
    obtain ⟨hs, hgd, hx, es', ep', vs, hdt, hsz, kv, hm⟩ := I.frzK hd
    obtain ⟨rfl, rfl⟩ := dict_ep hod hdt
    obtain ⟨⟨k, v⟩, hkv⟩ : ∃ p, kvs[i]? = some p := ⟨kvs[i], List.getElem?_eq_getElem hi⟩
    obtain ⟨u, hu, ru⟩ := kv_get kv hkv
    have hl : kvs.length = vs.length := Paired.length kv
    rw [hl] at st
    have fin : ∀ key h', keyIs k key = true → ItOut h' it d (i + 1) vs.length ep' → h'.get? s.heap.objs.size = some { cls := .type "tuple", data := .seq #[key, u] } → (∀ b o, b ≠ it → s.heap.get? b = some o → h'.get? b = some o) →
        wpAny (model X.prog X.w) X.A (letOwnedTupleGo (.Name y py) (.ref it) (.ref s.heap.objs.size)) (fun _ s2 => ∃ x H', Inv X pins σ H' s2 ∧ RelV x (.ref s.heap.objs.size) ∧ (Iti d o kvs).yld i H x H' ∧ ((∃ ok ov, IsItemIter s2.heap it d (i + 1) kvs.length ep' ok ov) ∨ ItOut s2.heap it d (i + 1) kvs.length ep') ∧ ∀ b ∈ [it], H' b = none) E { s with heap := h' } := by
      intro key h' hkey ho hT hk
      have lt : it < s.heap.objs.size := by
        rcases st with ⟨_, _, e⟩ | ⟨_, _, _, _, e⟩ <;> exact Heap.lt_size e
      have new : ObjOk X.prog X.w (upd H s.heap.objs.size (.tup [kV k, v])) h' s.heap.objs.size (.tup [kV k, v]) :=
        ⟨by show 2 ≤ sizeLine; decide, [key, u], .cons (relV_key hkey) (.cons ru .nil), ⟨_, hT, rfl, _, rfl⟩⟩
      have I1 : Inv X pins σ (upd H s.heap.objs.size (.tup [kV k, v])) { s with heap := h' } :=
        I.turnedNew (t' := s.toks) (ch := [it]) (fun b ob hb e => hk b ob (by simpa using hb) e) hf (Nat.le_refl _) new
      refine wpAny_pure ⟨.ref s.heap.objs.size, _, I1, rfl, ⟨_, k, v, hkv, rfl, I.hok.fresh (Nat.le_refl _), rfl⟩, .inr (by rw [hl]; exact ho), fun b hb => ?_⟩
      obtain rfl : b = it := by simpa using hb
      rw [upd_ne (Nat.ne_of_lt lt)]
      exact (hf b (by simp)).1
    rcases st with ⟨ok, ov, e⟩ | st
    · exact wpAny_pyNext_items_item e hm hu fun key h' hkey ho hT hz hk => ⟨_, rfl, fin key h' hkey ⟨_, _, _, _, ho⟩ hT hk⟩
    · exact items_next st hm hu fun key h' hkey ho hT hk => ⟨_, rfl, fin key h' hkey ho hT hk⟩
  done := by
    intro X hP hw hK hc i pins s σ H E I hf st hg
    subst hP hw hK
    obtain ⟨hd, hi⟩ := hg
    obtain ⟨f0, f1, f2, f3, f4, f5⟩ := hf it (by simp)
    obtain ⟨hs, hgd, hx, es', ep', vs, hdt, hsz, kv, hm⟩ := I.frzK hd
    obtain ⟨rfl, rfl⟩ := dict_ep hod hdt
    have hl : kvs.length = vs.length := Paired.length kv
    rw [hl] at st
    have no : vs[i]? = none := List.getElem?_eq_none (by omega)
    rcases st with ⟨ok, ov, e⟩ | ⟨ok, ov, a, f, e⟩
    · exact wpAny_pyNext_items_end (I.ok.hd hc) e hm no fun h' eb => ⟨rfl, I.turned (t' := s.toks) (fun b ob hb e => eb b ob hb e) f0 f1 f3 f4 f5⟩
    · exact PySem.W.kdx_end_out (I.ok.hd hc) e hm no fun h' eb => ⟨rfl, I.turned (t' := s.toks) (fun b ob hb e => eb b ob hb e) f0 f1 f3 f4 f5⟩
  self := fun A i s Q E st h => by
    rcases st with ⟨_, _, e⟩ | ⟨_, _, _, _, e⟩
    · exact PySem.W.kcp_self e h
    · exact out_self e h
end
/-- the dict may be new; it is locked from here on -/
def iItemsN (td : TE) : TI := fun σ H R => td σ H fun x H1 => ∃ d kvs, x = .ref d ∧ H1 d = some (.dK kvs) ∧ ∀ o, R (Iti d o kvs) (upd H1 d (.frz o (.dK kvs)))
/-- .. and free again behind the expression -/
def tUnl (t : TE) : TE := fun σ H Q => t σ H fun v H' => ∃ d o u, (∀ o' u', H d ≠ some (.frz o' u')) ∧ H' d = some (.frz o u) ∧ Q v (upd H' d u)
section
variable {X : Cx} {e : Expr} {td : TE} {apos cpos : Pos}
theorem pi_itemsN {y : Str} {py : Pos} (he : PE X e td) (hbase : attributeBase e "items" X.env (eval e X.env) = eval e X.env := by rfl) (hline : (apos.endLine == cpos.line) = true := by rfl) :
    PI X (.Name y py) (.Call (.Attribute e "items" apos) [] [] cpos) (iItemsN td) := by
  refine ⟨fun pins s σ H R I h => ?_⟩
  refine wpAny_Call_method (T := "dict") (id := "dict.items") hbase rfl hline PySem.F.plainAttrs_dict PySem.F.slot_dict_items PySem.F.type_dict_items (thn (he.run pins s σ H _ I h) fun u s1 ⟨x, H1, I1', rx, d, kvs, ex, hd, q⟩ => ?_)
  subst ex
  obtain rfl : u = Value.ref d := rx
  obtain ⟨o, I1⟩ := I1'.lock hd trivial
  obtain ⟨hs, hgd, hx, es, ep, vs, hdt, hsz, kv, hm⟩ := I1.frzK (upd_same : (upd H1 d (.frz o (.dK kvs))) d = _)
  have hl : kvs.length = vs.length := Paired.length kv
  refine ⟨hm.dictOf.typeIs, hm.dictOf.mapOf.noDict, ?_⟩
  have I2 : Inv X pins σ (upd H1 d (.frz o (.dK kvs))) { s1 with heap := s1.heap.push { cls := .type "dict_items", data := .fields #[.ref d] } } := I1.kept (t' := s1.toks) fun b ob q => Heap.get?_push_of_some _ q
  have fin : wpAny (model X.prog X.w) X.A (pyIter (.ref s1.heap.objs.size)) (PIE X pins σ (.Name y py) R) X.xe { s1 with heap := s1.heap.push { cls := .type "dict_items", data := .fields #[.ref d] } } := by
    refine wpAny_pyIter_items (d := d) (knd := mixKind X.prog X.w) ⟨_, Heap.get?_push_size _ rfl, rfl, rfl⟩ (hm.push _) (pi_one (tk := s1.toks) I2 _ (turn_itemsN _ hdt) (.inl ⟨.none, .none, ?_⟩) (q o))
    rw [hl]
    exact Heap.get?_push_size _ rfl
  show wpAny _ _ (callWith cpos (.builtin "dict.items") [.ref d] [] []) _ X.xe s1
  exact method_meetsIn PySem.F.slot_dict_items PySem.F.entry_dict_items rfl (PySem.evalArgs_none ⟨rfl, hm.dictOf.typeIs, PySem.F.args_dict_items_1 _, _, meets_dict_items (mixKind X.prog X.w) d hs, ⟨vs, hm.dictOf⟩, fin⟩)
theorem pe_unl {t : TE} (h : PE X e t) : PE X e (tUnl t) := by
  refine ⟨fun pins s σ H Q I hw => ?_⟩
  refine thn (h.run pins s σ H _ I hw) fun v s1 ⟨x, H1, I1, r, d, o, u, hn, e1, q⟩ => ?_
  exact ⟨x, _, I1.unlock e1 fun o' u' z => hn o' u' (I.base.frzs d o' u' z), r, q⟩
end
end Wt
/-! list(zip(..)) of two lists; a tuple's slice from behind. -/
namespace Wt
open PySem PySem.Spec PyProof.Rows L2
theorem zip_nolen : typeLookup (.type "zip") "__len__" = pure none := by rw [typeLookup_type, builtinLookup_eq_fast]; kernel_rfl
theorem zip_nohint : typeLookup (.type "zip") "__length_hint__" = pure none := by rw [typeLookup_type, builtinLookup_eq_fast]; kernel_rfl
theorem zip_hint {M : Model} {A : Around} {E : Value → Shared → Prop} {s : Shared} {z : Addr} {Q : Bool → Shared → Prop} (hT : s.TypeIs (.ref z) "zip") (h : Q true s) : wpAny M A (Builtin.List.listLengthHint (.ref z)) Q E s := by
  unfold Builtin.List.listLengthHint
  refine wpAny_bind (wpAny_specialOf hT zip_nolen ?_)
  refine PySem.W.KFB.if_not rfl ?_
  refine PySem.W.KFB.if_not rfl ?_
  refine wpAny_bind (wpAny_specialOf hT zip_nohint ?_)
  exact wpAny_pure h
/-- the pairs that stand -/
def Prs (H : Hp) (xs ys zs : List V) : Prop := ∀ (i : Nat) v, zs[i]? = some v → ∃ T x y, v = .ref T ∧ H T = some (.tup [x, y]) ∧ xs[i]? = some x ∧ ys[i]? = some y
theorem Prs.mono {H H' : Hp} {xs ys zs : List V} (h : Prs H xs ys zs) (k : Tk H H') : Prs H' xs ys zs := fun i v e => by
  obtain ⟨T, x, y, e1, e2, e3, e4⟩ := h i v e
  exact ⟨T, x, y, e1, k _ _ e2, e3, e4⟩
/-- the zip's state: at the start its tuple is its own; then the first pair holds it -/
def ZSt (H : Hp) (h : Heap) (z TI TO i1 i2 a b : Addr) (i : Nat) : Prop := (∀ c ∈ [z, TI, TO, i1, i2], c < h.objs.size) ∧ IsPair h TI (.ref i1) (.ref i2) ∧ h.IsListIter i1 a i ∧ h.IsListIter i2 b i ∧
  ((i = 0 ∧ IsZip h z TI TO .none ∧ ∃ u v, IsPair h TO u v) ∨ ∃ T f x y, IsZipHeld h z TI TO T f ∧ H T = some (.tup [x, y]))
section
variable {X : Cx} {pins : List (Addr × Obj)} {σ : L2.St}
theorem zl_loop {q z TI TO i1 i2 a b : Addr} {xs ys : List V} {A1 : Around} {R : Result → Shared → Prop} {H0 : Hp} (hA : A1.handled = none) (D : ZipApart z TI TO i1 i2 a b) (hxy : ys.length = xs.length) (hn : xs.length ≤ 1000) (hq0 : H0 q = none) (ha : SqL X.K H0 a xs) (hb : SqL X.K H0 b ys)
    (fin : ∀ H' s' zs, Inv X pins σ H' s' → Same H0 H' → H' q = some (.lst zs) → zs.length = xs.length → Prs H' xs ys zs → R (.ok (.ret .none)) s') :
    ∀ (k i : Nat) (s : Shared) (H : Hp) (acc : List V), xs.length - i = k → i ≤ xs.length → Inv X pins σ H s → (∀ c ∈ [z, TI, TO, i1, i2], FpOk X pins H c) → ZSt H s.heap z TI TO i1 i2 a b i → Same H0 H → H q = some (.lst acc) → acc.length = i → Prs H xs ys acc →
      codeAny (model X.prog X.w) A1 (.builtin "list.extend.loop" ⟨[.ref q, .ref z, .none], []⟩) R s := by
  intro k
  induction k with
  | zero =>
    intro i s H acc hk hi I hf st hs hq hl hp
    obtain rfl : i = xs.length := by omega
    refine codeAny_builtin PySem.F.entry_extend_loop ?_
    rw [Around.under_plainId PySem.F.plain_extend_loop _]
    show wpAny _ A1.in1 (pyNext (.ref z) >>= _) _ _ s
    obtain ⟨its, rv, p, _⟩ := I.list (hs.seq ha)
    obtain ⟨its2, rv2, p2, _⟩ := I.list (hs.seq hb)
    have l1 := rv.length
    obtain ⟨hlt, hTI, h1, h2, st⟩ := st
    have no : its.toArray[xs.length]? = none := by
      simp only [List.getElem?_toArray]
      exact List.getElem?_eq_none (by omega)
    have last : ∀ h' : Heap, (∀ c o, c ≠ z → c ≠ TI → c ≠ TO → c ≠ i1 → c ≠ i2 → s.heap.get? c = some o → h'.get? c = some o) → R (.ok (.ret .none)) { s with heap := h' } := fun h' hk =>
      fin H _ acc (I.turnedL (t' := s.toks) (ch := [z, TI, TO, i1, i2]) (fun c o hc e => hk c o (fun y => hc (by simp [y])) (fun y => hc (by simp [y])) (fun y => hc (by simp [y])) (fun y => hc (by simp [y])) (fun y => hc (by simp [y])) e) hf) hs hq hl hp
    rcases st with ⟨_, hz, u, v, hTO⟩ | ⟨T, f, x, y, hz, hT⟩
    · exact wpAny_bind (wpAny_pyNext_zip_end hA D hz hTI hTO h1 h2 p.isList p2.isList (.inl no) fun h' hk => wpAny_pure (last h' fun c o c1 _ c3 c4 c5 e => hk c o c1 c3 c4 c5 e))
    · obtain ⟨_, _, ⟨oT, hoT, _⟩, _⟩ := I.tuple (SqT.of (K := X.K) hT)
      refine wpAny_bind (PySem.wpAny_pyNext_zip_end_held hA D hz hoT hTI h1 h2 p.isList p2.isList (.inl no) fun h' hk => wpAny_pure (last h' fun c o c1 _ _ c4 c5 e => hk c o c1 c4 c5 e))
  | succ k ih =>
    intro i s H acc hk hi I hf st hs hq hl hp
    refine codeAny_builtin PySem.F.entry_extend_loop ?_
    rw [Around.under_plainId PySem.F.plain_extend_loop _]
    show wpAny _ A1.in1 (pyNext (.ref z) >>= _) _ _ s
    obtain ⟨its, rv, p, _⟩ := I.list (hs.seq ha)
    obtain ⟨its2, rv2, p2, _⟩ := I.list (hs.seq hb)
    obtain ⟨x, hx⟩ : ∃ x, xs[i]? = some x := ⟨xs[i], List.getElem?_eq_getElem (by omega)⟩
    obtain ⟨y, hy⟩ : ∃ y, ys[i]? = some y := ⟨ys[i], List.getElem?_eq_getElem (by omega)⟩
    obtain ⟨u, hu, ru⟩ := rv.get hx
    obtain ⟨u2, hu2, ru2⟩ := rv2.get hy
    obtain ⟨hlt, hTI, h1, h2, st⟩ := st
    have zl : z < s.heap.objs.size := by
      rcases st with ⟨_, hz, _⟩ | ⟨_, _, _, _, hz, _⟩ <;> exact Heap.lt_size hz
    have fr : H s.heap.objs.size = none := I.hok.fresh (Nat.le_refl _)
    -- behind the pair
    have go : ∀ h' : Heap, (∃ f T, IsZipHeld h' z TI TO T f ∧ (T = s.heap.objs.size ∨ ∃ x y, H T = some (.tup [x, y]))) → h'.IsListIter i1 a (i + 1) → h'.IsListIter i2 b (i + 1) → IsPair h' s.heap.objs.size u u2 →
        (∀ c o, c ≠ z → c ≠ TO → c ≠ i1 → c ≠ i2 → s.heap.get? c = some o → h'.get? c = some o) →
        wpAny (model X.prog X.w) A1.in1 (updateSeq q (·.push (.ref s.heap.objs.size)) >>= fun _ => again (.builtin "list.extend.loop" ⟨[.ref q, .ref z, .none], []⟩)) (fun fin s' => match fin with | .done f => R (.ok f) s' | .again c' => c'.quiet = true ∧ codeAny (model X.prog X.w) A1 c' R s') (fun e s' => R (.error e) s') { s with heap := h' } := by
      rintro h' ⟨f, T, hz', hT'⟩ h1' h2' hT hk
      have hk5 : ∀ c o, c ∉ [z, TI, TO, i1, i2] → s.heap.get? c = some o → h'.get? c = some o := fun c o hc e => hk c o (fun y => hc (by simp [y])) (fun y => hc (by simp [y])) (fun y => hc (by simp [y])) (fun y => hc (by simp [y])) e
      have new : ObjOk X.prog X.w (upd H s.heap.objs.size (.tup [x, y])) h' s.heap.objs.size (.tup [x, y]) :=
        ⟨by show 2 ≤ sizeLine; decide, [u, u2], .cons ru (.cons ru2 .nil), ⟨_, hT, rfl, _, rfl⟩⟩
      have I1 : Inv X pins σ (upd H s.heap.objs.size (.tup [x, y])) { s with heap := h' } := I.turnedNew (t' := s.toks) (ch := [z, TI, TO, i1, i2]) hk5 hf (Nat.le_refl _) new
      have sT := same_new fr (.tup [x, y])
      have hq1 := sT _ _ hq
      have eT : (upd H s.heap.objs.size (.tup [x, y])) s.heap.objs.size = some (.tup [x, y]) := upd_same
      have hqT : s.heap.objs.size ≠ q := fun z' => by rw [z', hq] at fr; cases fr
      have n1 : ∀ c, c ≠ s.heap.objs.size → H c = none → (upd H s.heap.objs.size (.tup [x, y])) c = none := fun c hc e => by rw [upd_ne hc]; exact e
      generalize upd H s.heap.objs.size (.tup [x, y]) = H1 at *
      obtain ⟨zz, its3, n3, r3, l3, e3⟩ := I1.lstM hq1
      have i3 := I1.lset (f := (·.push (Value.ref s.heap.objs.size))) (its' := its3 ++ [.ref s.heap.objs.size]) (ys := acc ++ [.ref s.heap.objs.size]) (t' := s.toks) hq1 e3 (by simp) (r3.append (.cons (show RelV (V.ref s.heap.objs.size) (Value.ref s.heap.objs.size) from rfl) .nil)) (by rw [List.length_append, List.length_singleton, sizeLine_eq]; omega)
      have upq : ∀ c o, c ≠ q → h'.get? c = some o → (h'.update q (Obj.mapSeq (·.push (Value.ref s.heap.objs.size)))).get? c = some o := fun c o hb e => (Heap.get?_update_other _ _ (Ne.symm hb)).trans e
      have nq : ∀ c ∈ [z, TI, TO, i1, i2], c ≠ q := fun c hc z' => by
        have := (hf c hc).1
        rw [z', hq] at this
        cases this
      have f1 : ∀ c ∈ [z, TI, TO, i1, i2], FpOk X pins (upd H1 q (.lst (acc ++ [.ref s.heap.objs.size]))) c := fun c hc => by
        obtain ⟨e, rest⟩ := hf c hc
        exact ⟨by rw [upd_ne (nq c hc)]; exact n1 c (Nat.ne_of_lt (hlt c hc)) e, rest⟩
      have lt2 : s.heap.objs.size < (h'.update q (Obj.mapSeq (·.push (Value.ref s.heap.objs.size)))).objs.size := Heap.lt_size (upq _ _ hqT hT)
      refine wpAny_bind (wpAny_updateSeq e3 rfl (wpAny_pure ⟨plainId_quiet PySem.F.plain_extend_loop _, ?_⟩) (by rw [List.size_toArray, sizeLine_eq]; omega) (by show (its3.toArray.push _).size ≤ sizeLine + 1; rw [Array.size_push, List.size_toArray, sizeLine_eq]; omega))
      refine ih (i + 1) _ _ (acc ++ [.ref s.heap.objs.size]) (by omega) (by omega) i3 f1 ⟨fun c hc => Nat.lt_trans (hlt c hc) lt2, upq _ _ (nq _ (by simp)) (hk _ _ D.TIz D.TITO D.TIi1 D.TIi2 hTI), h1'.at fun o e => upq _ _ (nq _ (by simp)) e, h2'.at fun o e => upq _ _ (nq _ (by simp)) e, .inr ?_⟩ ((hs.trans sT).upd2 hq0) upd_same (by rw [List.length_append, hl]; rfl) ?_
      · have hT2 : ∃ x y, H1 T = some (.tup [x, y]) := by
          rcases hT' with rfl | ⟨x2, y2, e⟩
          · exact ⟨_, _, eT⟩
          · exact ⟨_, _, sT _ _ e⟩
        obtain ⟨x2, y2, e⟩ := hT2
        have hTq : T ≠ q := fun z' => by rw [z', hq1] at e; cases e
        exact ⟨T, f, x2, y2, upq _ _ (nq _ (by simp)) hz', by rw [upd_ne hTq]; exact e⟩
      · intro j v hj
        rcases Nat.lt_or_ge j acc.length with h | h
        · rw [List.getElem?_append_left h] at hj
          exact ((hp.mono sT.tk).mono (tk_put hq1)) j v hj
        · have hj0 : j = i := by
            obtain ⟨hj1, _⟩ := List.getElem?_eq_some_iff.mp hj
            rw [List.length_append, List.length_singleton] at hj1
            omega
          subst hj0
          rw [List.getElem?_append_right h, hl, Nat.sub_self] at hj
          cases hj
          exact ⟨_, x, y, rfl, by rw [upd_ne hqT]; exact eT, hx, hy⟩
    rcases st with ⟨_, hz, u0, v0, hTO⟩ | ⟨T, f, x0, y0, hz, hT0⟩
    · exact wpAny_bind (wpAny_pyNext_zip_item D hz hTI hTO h1 h2 p.isList p2.isList (x := u) (y := u2) (by simpa using hu) (by simpa using hu2) fun h' z' TO' h1' h2' hT hsz hk => go h' ⟨_, _, z', .inl rfl⟩ h1' h2' hT hk)
    · obtain ⟨_, _, ⟨oT, hoT, _⟩, _⟩ := I.tuple (SqT.of (K := X.K) hT0)
      exact wpAny_bind (PySem.wpAny_pyNext_zip_item_held D hz hoT hTI h1 h2 p.isList p2.isList (x := u) (y := u2) (by simpa using hu) (by simpa using hu2) fun h' z' h1' h2' hT hsz hk => go h' ⟨_, _, z', .inr ⟨_, _, hT0⟩⟩ h1' h2' hT fun c o c1 _ c3 c4 e => hk c o c1 c3 c4 e)
theorem zl_extend {q z TI TO i1 i2 a b : Addr} {xs ys : List V} {A1 : Around} {R : Result → Shared → Prop} {H0 H : Hp} {s : Shared} (hA : A1.handled = none) (D : ZipApart z TI TO i1 i2 a b) (hxy : ys.length = xs.length) (hn : xs.length ≤ 1000) (hq0 : H0 q = none) (ha : SqL X.K H0 a xs) (hb : SqL X.K H0 b ys)
    (fin : ∀ H' s' zs, Inv X pins σ H' s' → Same H0 H' → H' q = some (.lst zs) → zs.length = xs.length → Prs H' xs ys zs → R (.ok (.ret .none)) s')
    (I : Inv X pins σ H s) (hf : ∀ c ∈ [z, TI, TO, i1, i2], FpOk X pins H c) (hz : IsZip s.heap z TI TO .none) (hTO : IsPair s.heap TO .none .none) (hlt : ∀ c ∈ [z, TI, TO, i1, i2], c < s.heap.objs.size) (hTI : IsPair s.heap TI (.ref i1) (.ref i2)) (h1 : s.heap.IsListIter i1 a 0) (h2 : s.heap.IsListIter i2 b 0) (hs : Same H0 H) (hq : H q = some (.lst [])) :
    wpAny (model X.prog X.w) A1.in1 (Builtin.List.listExtendWith (.ref q) (.ref z) .none)
      (fun fin s' => match fin with | .done f => R (.ok f) s' | .again c' => c'.quiet = true ∧ codeAny (model X.prog X.w) A1 c' R s') (fun e s' => R (.error e) s') s := by
  have nq : ∀ c ∈ [z, TI, TO, i1, i2], c ≠ q := fun c hc z' => by
    have := (hf c hc).1
    rw [z', hq] at this
    cases this
  have hT : s.TypeIs (.ref z) "zip" := ⟨_, hz, rfl⟩
  unfold Builtin.List.listExtendWith
  refine wpAny_bind (wpAny_typeOf hT ?_)
  have g1 : Builtin.List.listSameRef (.ref q) (.ref z) = false := by simp [Builtin.List.listSameRef, (nq z (by simp)).symm]
  have g2 : (Value.type "zip" == Value.type "list") = false := by decide
  have g3 : (Value.type "zip" == Value.type "tuple") = false := by decide
  simp only [g1, g2, g3, Bool.or_false, Bool.false_eq_true, if_false]
  refine wpAny_bind (wpAny_pyIter_zip hz ?_)
  refine wpAny_bind (wpAny_holding (zip_hint hT ?_))
  obtain ⟨zz, its, k, r3, hl3, e3⟩ := I.lstM hq
  cases r3
  refine wpAny_ite_split (fun _ => ?_) (fun h => absurd rfl h)
  refine wpAny_bind (wpAny_rule ?_)
  refine wpAny_bind ?_
  show wpAny _ _ (updateSeq q (·.push .none) >>= fun _ => updateSeq q (·.pop)) _ _ _
  refine wpAny_bind (wpAny_updateSeq e3 rfl ?_)
  have I2 := I.lset (f := (·.push Value.none)) (its' := [Value.none]) (ys := [.non]) (t' := s.toks) hq e3 (by simp) (.cons rfl .nil) (by rw [List.length_singleton, sizeLine_eq]; decide)
  obtain ⟨z4, its4, k4, r4, hl4, e4⟩ := I2.lstM upd_same
  obtain ⟨u4, rfl, ru4⟩ := r4.one
  refine wpAny_updateSeq e4 rfl ?_ (by show 1 ≤ sizeLine; rw [sizeLine_eq]; decide) (by show 0 ≤ sizeLine + 1; exact Nat.zero_le _)
  have I3 := I2.lset (f := (·.pop)) (its := [u4]) (its' := []) (ys := []) (t' := s.toks) upd_same e4 (by rfl) .nil (Nat.zero_le _)
  rw [upd_upd] at I3
  have hH : upd H q (.lst []) = H := by
    funext c
    by_cases hc : c = q
    · rw [hc, upd_same, hq]
    · rw [upd_ne hc]
  rw [hH] at I3
  have up : ∀ c o, c ≠ q → s.heap.get? c = some o → ((s.heap.update q (Obj.mapSeq (·.push Value.none))).update q (Obj.mapSeq (·.pop))).get? c = some o := fun c o hc e => (Heap.get?_update_other _ _ (Ne.symm hc)).trans ((Heap.get?_update_other _ _ (Ne.symm hc)).trans e)
  refine wpAny_pure ⟨plainId_quiet PySem.F.plain_extend_loop _, zl_loop hA D hxy hn hq0 ha hb fin xs.length 0 _ H [] (Nat.sub_zero _) (Nat.zero_le _) I3 hf ⟨fun c hc => ?_, up _ _ (nq _ (by simp)) hTI, h1.at fun o e => up _ _ (nq _ (by simp)) e, h2.at fun o e => up _ _ (nq _ (by simp)) e, .inl ⟨rfl, up _ _ (nq _ (by simp)) hz, _, _, up _ _ (nq _ (by simp)) hTO⟩⟩ hs hq rfl (fun j v e => by simp at e)⟩
  have sz : s.heap.objs.size ≤ ((s.heap.update q (Obj.mapSeq (·.push Value.none))).update q (Obj.mapSeq (·.pop))).objs.size := by
    have e1 : (s.heap.update q (Obj.mapSeq (·.push Value.none))).objs.size = s.heap.objs.size := (Heap.SameBut.update ..).1
    have e2 : ((s.heap.update q (Obj.mapSeq (·.push Value.none))).update q (Obj.mapSeq (·.pop))).objs.size = (s.heap.update q (Obj.mapSeq (·.push Value.none))).objs.size := (Heap.SameBut.update ..).1
    rw [e2, e1]
    exact Nat.le_refl _
  exact Nat.lt_of_lt_of_le (hlt c hc) sz
/-- list(zip(e, e2)) -/
def tListZip (K : PySem.W.Frag) (ta : TA) : TE := fun σ H Q => ta σ H fun vs H1 => ∃ a b xs ys, vs = [.ref a, .ref b] ∧ SqL K H1 a xs ∧ SqL K H1 b ys ∧ ys.length = xs.length ∧ xs.length ≤ 1000 ∧
  ∀ H' l zs, Same H1 H' → H' l = some (.lst zs) → zs.length = xs.length → Prs H' xs ys zs → Q (.ref l) H'
theorem pe_listZip {e e2 : Expr} {ta : TA} {p pos p1 pos1 : Pos} {k : Nat} (hr : Room k X.A) (hml : X.mg "list" = none) (hm : X.mg "zip" = none) (ha : PA X [e, e2] ta) (hgl : Gl X "list" := by rfl) (hg : Gl X "zip" := by rfl)
    (hs : starEach [e, e2] X.env = (false, eval e X.env) :: starEach [e2] X.env := by rfl) (hpl : (backTo pos (starEach [e2] X.env)).any (·.1) = false := by rfl)
    (hs1 : starEach [.Call (.Name "zip" p) [e, e2] [] pos] X.env = (false, eval (.Call (.Name "zip" p) [e, e2] [] pos) X.env) :: starEach [] X.env := by rfl) (hpl1 : (backTo pos1 (starEach [] X.env)).any (·.1) = false := by rfl) :
    PE X (.Call (.Name "list" p1) [.Call (.Name "zip" p) [e, e2] [] pos] [] pos1) (tListZip X.K ta) := by
  refine ⟨fun pins s σ H Q I h => ?_⟩
  refine wpAny_Call_Name_kw (ld_blt I hgl hml boot_list ?_)
  refine PyProof.Rows.callWith_type1 ?_ hs1 hpl1
  rw [hs1]
  show wpAny _ _ (spliced ((false, eval (.Call (.Name "zip" p) [e, e2] [] pos) X.env) :: backTo pos1 (starEach [] X.env))) _ _ s
  refine Calls.spliced_cons ?_
  refine wpAny_Call_Name_kw (ld_blt I hg hm PyProof.Rows.boot_zip ?_)
  refine PyProof.Rows.callWith_type1 (thn (ha.run pos pins s σ H _ I h) fun us s1 ⟨vs, H1, I1, r1, q1⟩ => ?_) hs hpl
  obtain ⟨a, b, xs, ys, rfl, hx, hy, hxy, hn, q⟩ := q1
  obtain ⟨u1, u2, rfl, c1, c2⟩ := r1.two
  cases c1
  cases c2
  obtain ⟨its, rv, p1, _⟩ := I1.list hx
  obtain ⟨its2, rv2, p2, _⟩ := I1.list hy
  refine call_zip_2 p1.isList p2.isList fun h' hz hTI hTO h1 h2 hsz hk => ?_
  have I2 : Inv X pins σ H1 { s1 with heap := h' } := I1.kept (t' := s1.toks) hk
  have D := PySem.W.ktu_apart s1.heap.objs.size a b p1.lt p2.lt
  generalize hN : s1.heap.objs.size = N at *
  have low : ∀ c, c ∈ [N + 4, N + 2, N + 3, N, N + 1] → N ≤ c ∧ c < N + 5 := fun c hc => by
    have e' : c = N + 4 ∨ c = N + 2 ∨ c = N + 3 ∨ c = N ∨ c = N + 1 := by simpa using hc
    rcases e' with z | z | z | z | z <;> rw [z] <;> exact ⟨by omega, by omega⟩
  have f5 : ∀ c ∈ [N + 4, N + 2, N + 3, N, N + 1], FpOk X pins H1 c := fun c hc => I1.fpOk (by rw [hN]; exact (low c hc).1) (I1.hok.fresh (by rw [hN]; exact (low c hc).1))
  refine PyProof.Rows.args_nil ?_
  refine callType_codes (Q₁ := fun obj s₂ => obj = .ref h'.objs.size ∧ s₂ = { s1 with heap := h'.push { cls := .type "list", data := .seq #[] } }) PySem.F.called_list (PySem.F.typeCall_list_1 _) PySem.F.entry_list_init
    (code_list_new _ ⟨rfl, rfl⟩) fun obj s₂ h₂ => ?_
  obtain ⟨rfl, rfl⟩ := h₂
  have hS : (h'.push { cls := .type "list", data := .seq #[] }).get? h'.objs.size = some { cls := .type "list", data := .seq #[] } := Heap.get?_push_size _ rfl
  refine ⟨⟨_, hS, rfl⟩, PySem.F.args_list_init_2 _ _, ?_⟩
  have fr : H1 h'.objs.size = none := I2.hok.fresh (Nat.le_refl _)
  have I3 : Inv X pins σ (upd H1 h'.objs.size (.lst [])) { s1 with heap := h'.push { cls := .type "list", data := .seq #[] } } := I2.lnew (its := []) (t' := s1.toks) .nil (Nat.zero_le _)
  show wpAny _ _ (do let old ← Builtin.List.listItems (.ref h'.objs.size); Builtin.List.listUpdate (.ref h'.objs.size) (fun _ => #[]); letGo old.toList.reverse; Builtin.List.listExtendWith (.ref h'.objs.size) (.ref (N + 4)) .none) _ _ _
  refine wpAny_bind ?_
  unfold Builtin.List.listItems
  refine wpAny_bind (wpAny_seqItems hS rfl (wpAny_pure ?_))
  show wpAny _ _ (updateSeq h'.objs.size (fun _ => #[]) >>= fun _ => letGo (#[] : Array Value).toList.reverse >>= fun _ => Builtin.List.listExtendWith (.ref h'.objs.size) (.ref (N + 4)) .none) _ _ _
  refine wpAny_bind (wpAny_updateSeq hS rfl ?_)
  have I4 := I3.lset (f := fun _ => #[]) (its := []) (its' := []) (ys := []) (t' := s1.toks) upd_same hS rfl .nil (Nat.zero_le _)
  rw [upd_upd] at I4
  refine wpAny_bind (wpAny_letGo ?_)
  have nN : ∀ c, c ∈ [N + 4, N + 2, N + 3, N, N + 1] → c ≠ h'.objs.size := fun c hc => by
    rw [hsz]
    exact Nat.ne_of_lt (low c hc).2
  have up : ∀ c o, c ≠ h'.objs.size → h'.get? c = some o → ((h'.push { cls := .type "list", data := .seq #[] }).update h'.objs.size (Obj.mapSeq fun _ => #[])).get? c = some o := fun c o hc e => (Heap.get?_update_other _ _ (Ne.symm hc)).trans (Heap.get?_push_of_some _ e)
  have sz : ((h'.push { cls := .type "list", data := .seq #[] }).update h'.objs.size (Obj.mapSeq fun _ => #[])).objs.size = N + 5 + 1 := by
    have e1 : ((h'.push { cls := .type "list", data := .seq #[] }).update h'.objs.size (Obj.mapSeq fun _ => #[])).objs.size = (h'.push { cls := .type "list", data := .seq #[] }).objs.size := (Heap.SameBut.update ..).1
    rw [e1, Heap.size_push, hsz]
  refine zl_extend (A1 := X.A.in1) (q := h'.objs.size) (H0 := H1) (R := wants (fun r s₂ => r = .none ∧ EP X pins σ Q (.ref h'.objs.size) s₂) X.xe) hr.hd D hxy hn fr hx hy (fun H' s' zs I' hs' e' l' pr => ⟨rfl, .ref h'.objs.size, H', I', rfl, q H' _ zs hs' e' l' pr⟩) I4
    (fun c hc => ?_) (up _ _ (nN _ (by simp)) hz) (up _ _ (nN _ (by simp)) hTO) (fun c hc => by rw [sz]; exact Nat.lt_succ_of_lt (low c hc).2) (up _ _ (nN _ (by simp)) hTI) (h1.at fun o e => up _ _ (nN _ (by simp)) e) (h2.at fun o e => up _ _ (nN _ (by simp)) e) (same_new fr (.lst [])) upd_same
  obtain ⟨e, rest⟩ := f5 c hc
  exact ⟨by rw [upd_ne (nN c hc)]; exact e, rest⟩
end
/-! ### t[:-3:-1], the last two, the last one first -/
section
variable {prog : Program} {w : World} {A : Around} {E : Value → Shared → Prop} {s : Shared}
theorem sliceApplied_back {sl : Addr} {vl vu vk : Value} {n : Nat} {Q : Int × Int × Nat → Shared → Prop} (hs : s.heap.IsSliceOf sl vl vu vk) (pl : IsPart vl none) (pu : IsPart vu (some (-3))) (pk : IsPart vk (some (-1))) (hn : 3 ≤ n)
    (h : Q (((n - 1 : Nat) : Int), -1, 2) s) : wpAny (model prog w) A (Builtin.Slice.sliceApplied (.ref sl) (pure (n : Int))) Q E s := by
  obtain ⟨os, hos, hcs, hds⟩ := id hs
  unfold Builtin.Slice.sliceApplied Builtin.Slice.sliceFields
  refine wpAny_bind (wpAny_bind (wpAny_field hos hds (x := vl) rfl (wpAny_bind (wpAny_field hos hds (x := vu) rfl (wpAny_bind (wpAny_field hos hds (x := vk) rfl (wpAny_pure ?_)))))))
  refine wpAny_bind (HT.slicePart_ pk ?_)
  show wpAny _ _ (if ((-1 : Int) == 0) = true then _ else _) _ _ s
  rw [if_neg (by decide)]
  refine wpAny_bind (HT.slicePart_ pl (wpAny_bind (HT.slicePart_ pu (wpAny_bind (wpAny_pure ?_)))))
  have e : Builtin.Slice.sliceAdjust none (some (-3)) (-1) (n : Int) = (((n - 1 : Nat) : Int), ((n - 3 : Nat) : Int)) := by
    unfold Builtin.Slice.sliceAdjust
    refine Prod.ext ?_ ?_
    · show (n : Int) - 1 = _
      omega
    · show max ((-3 : Int) + n) (-1) = _
      omega
  show wpAny _ _ (match Builtin.Slice.sliceAdjust none (some (-3)) (-1) (n : Int) with | (lo, hi) => pure (lo, (-1 : Int), Builtin.Slice.slicePlaces lo hi (-1))) _ _ s
  rw [e]
  have e2 : Builtin.Slice.slicePlaces ((n - 1 : Nat) : Int) ((n - 3 : Nat) : Int) (-1) = 2 := by
    unfold Builtin.Slice.slicePlaces
    rw [if_neg (by decide), if_pos (by omega)]
    have e3 : -(-1 : Int) = 1 := by decide
    rw [e3, Int.ediv_one]
    omega
  show wpAny _ _ (pure (((n - 1 : Nat) : Int), (-1 : Int), Builtin.Slice.slicePlaces ((n - 1 : Nat) : Int) ((n - 3 : Nat) : Int) (-1))) _ _ s
  rw [e2]
  exact wpAny_pure h
theorem getItem_tuple_back {t sl : Addr} {pre : List Value} {x y : Value} {vl vu vk : Value} {Q : Value → Shared → Prop} (ht : IsTup s.heap t (pre ++ [x, y]).toArray) (hs : s.heap.IsSliceOf sl vl vu vk) (pl : IsPart vl none) (pu : IsPart vu (some (-3))) (pk : IsPart vk (some (-1))) (hn : 1 ≤ pre.length)
    (h : Q (.ref s.heap.objs.size) { s with heap := s.heap.push { cls := .type "tuple", data := .seq #[y, x] } }) : wpAny (model prog w) A (getItem (.ref t) (.ref sl)) Q E s := by
  obtain ⟨os, hos, hcs, hds⟩ := id hs
  have hTs : s.TypeIs (.ref sl) "slice" := ⟨os, hos, hcs⟩
  have hsz : (pre ++ [x, y]).toArray.size = pre.length + 2 := by simp
  unfold getItem
  try with_reducible refine wpAny_holding ?_
  first | refine wpAny_bind (wpAny_pure ?_) | skip
  refine wpAny_bind (wpAny_sequenceKey ht.typeIs (by decide) ?_)
  refine wpAny_bind (wpAny_callSpecial?_slot (name := Str.ofString "__getitem__") ht.typeIs PyProof.Rows.slot_tuple_getitem
    (wpAny_call_entry PyProof.Rows.slot_tuple_getitem ht.typeIs entry_tuple_getitem ?_ (args_tuple_getitem _ _)))
  show wpAny _ _ (Builtin.Tuple.tupleItemsOf (.ref t) >>= _) _ _ s
  refine wpAny_bind (tupleItemsOf_ ht ?_)
  refine wpAny_bind (wpAny_typeOf hTs ?_)
  rw [if_pos (by decide)]
  refine wpAny_bind (sliceApplied_back hs pl pu pk (by rw [hsz]; omega) ?_)
  have no : ¬ ((((((pre ++ [x, y]).toArray.size - 1 : Nat) : Int) == 0) && ((-1 : Int) == 1) && (2 == (pre ++ [x, y]).toArray.size)) = true) := by
    have : ((-1 : Int) == 1) = false := by decide
    rw [this, Bool.and_false, Bool.false_and]
    exact Bool.false_ne_true
  show wpAny _ _ (if (((((pre ++ [x, y]).toArray.size - 1 : Nat) : Int) == 0) && ((-1 : Int) == 1) && (2 == (pre ++ [x, y]).toArray.size)) = true then _ else _) _ _ s
  rw [if_neg no]
  have pick : ((List.range 2).filterMap fun (k : Nat) => (pre ++ [x, y]).toArray[((((pre ++ [x, y]).toArray.size - 1 : Nat) : Int) + (k : Int) * (-1)).toNat]?).toArray = #[y, x] := by
    have a0 : ((((pre ++ [x, y]).toArray.size - 1 : Nat) : Int) + ((0 : Nat) : Int) * (-1)).toNat = pre.length + 1 := by rw [hsz]; omega
    have a1 : ((((pre ++ [x, y]).toArray.size - 1 : Nat) : Int) + ((1 : Nat) : Int) * (-1)).toNat = pre.length := by rw [hsz]; omega
    have b0 : (pre ++ [x, y]).toArray[pre.length + 1]? = some y := by simp
    have b1 : (pre ++ [x, y]).toArray[pre.length]? = some x := by simp
    show ((0 :: 1 :: []).filterMap _).toArray = _
    rw [List.filterMap_cons, a0, b0]
    simp only
    rw [List.filterMap_cons, a1, b1]
    rfl
  rw [pick]
  have two : sizeOk (.seq (#[y, x] : Array Value)) := by
    show 2 ≤ sizeLine
    decide
  first
    | exact wpAny_bind (m := Builtin.Tuple.tupleExact _) (wpAny_newObj_type (wpAny_pure ⟨_, rfl, wpAny_pure h⟩) two)
    | exact wpAny_bind (m := Builtin.Tuple.tupleExact _) (wpAny_newObj_type (wpAny_bind (wpAny_pure (wpAny_pure ⟨_, rfl, wpAny_pure h⟩))) two)
    | exact wpAny_bind (wpAny_bind (m := Builtin.Tuple.tupleExact _) (wpAny_newObj_type (wpAny_pure (wpAny_pure ⟨_, rfl, wpAny_pure h⟩)) two))
    | exact wpAny_bind (wpAny_bind (m := Builtin.Tuple.tupleExact _) (wpAny_newObj_type (wpAny_pure ⟨_, rfl, wpAny_pure h⟩) two))
end
def tBack (te : TE) : TE := fun σ H Q => te σ H fun x H1 => ∃ a pre u v, x = .ref a ∧ H1 a = some (.tup (pre ++ [u, v])) ∧ 1 ≤ pre.length ∧ ∀ p H', Same H1 H' → H' p = some (.tup [v, u]) → Q (.ref p) H'
theorem pe_back {X : Cx} {e : Expr} {te : TE} {k1 k3 : Nat} {p1 p2 p3 p4 p5 pos : Pos} (he : PE X e te) : PE X (.Subscript e (.Slice none (some (.UnaryOp .USub (.Constant (.int 3) k3 p4) p5)) (some (.UnaryOp .USub (.Constant (.int 1) k1 p1) p2)) p3) pos) (tBack te) := by
  refine ⟨fun pins s σ H Q I h => ?_⟩
  refine Subscript_ (thn (he.run pins s σ H _ I h) fun v s1 ⟨x, H1, I1, r1, q1⟩ => ?_)
  obtain ⟨a, pre, u1, u2, rfl, hx, hp, q⟩ := q1
  cases r1
  have hst : PO X (some (.UnaryOp .USub (.Constant (.int 1) k1 p1) p2)) (tPart (tUn (rU fun i => .int (-i)) (tC (.int 1)))) := po_some (pe_un un_neg pe_int)
  have hup : PO X (some (.UnaryOp .USub (.Constant (.int 3) k3 p4) p5)) (tPart (tUn (rU fun i => .int (-i)) (tC (.int 3)))) := po_some (pe_un un_neg pe_int)
  refine wpAny_Slice (thn (po_none.run pins s1 σ H1 (fun o H2 => o = none ∧ H2 = H1) I1 ⟨rfl, rfl⟩) fun vl s2 ⟨l, H2, I2, pl, el, e2⟩ => ?_)
  subst el e2
  refine thn (hup.run pins s2 σ H2 (fun o H3 => o = some (-3) ∧ H3 = H2) I2 ⟨3, rfl, -3, rfl, rfl, rfl⟩) fun vu s3 ⟨u, H3, I3, pu, eu, e3⟩ => ?_
  subst eu e3
  refine thn (hst.run pins s3 σ H3 (fun o H4 => o = some (-1) ∧ H4 = H3) I3 ⟨1, rfl, -1, rfl, rfl, rfl⟩) fun vs s4 ⟨o, H4, I4, ps, eo, e4⟩ => ?_
  subst eo e4
  have I5 : Inv X pins σ H4 { s4 with heap := s4.heap.push { cls := .type "slice", data := .fields #[vl, vu, vs] } } := I4.kept (t' := s4.toks) fun b ob q => Heap.get?_push_of_some _ q
  obtain ⟨its, r, ht, hz⟩ := I5.tuple (SqT.of (K := X.K) hx)
  obtain ⟨p0, q0, e0, r0, r2⟩ : ∃ p0 q0, its = p0 ++ q0 ∧ Vals pre p0 ∧ Vals [u1, u2] q0 := by
    have key : ∀ {l1 l2 : List V} {us : List Value}, Vals (l1 ++ l2) us → ∃ p0 q0, us = p0 ++ q0 ∧ Vals l1 p0 ∧ Vals l2 q0 := by
      intro l1
      induction l1 with
      | nil => exact fun r => ⟨[], _, rfl, .nil, r⟩
      | cons x l ih =>
        intro l2 us r
        cases r with
        | cons r1 r2 =>
          obtain ⟨p0, q0, rfl, a1, a2⟩ := ih r2
          exact ⟨_ :: p0, q0, rfl, .cons r1 a1, a2⟩
    exact key r
  subst e0
  obtain ⟨y1, y2, rfl, c1, c2⟩ := r2.two
  have hl0 := r0.length
  show wpAny (model X.prog X.w) X.A (subscriptTail e (.Slice none (some (.UnaryOp .USub (.Constant (.int 3) k3 p4) p5)) (some (.UnaryOp .USub (.Constant (.int 1) k1 p1) p2)) p3) (.ref a) (.ref s4.heap.objs.size)) (EP X pins σ Q) X.xe { s4 with heap := s4.heap.push { cls := .type "slice", data := .fields #[vl, vu, vs] } }
  refine tail_any (ops := [.ref a, .ref s4.heap.objs.size]) ht.typeIs PyProof.Rows.slot_tuple_getitem.lookup ?_ (by with_unfolding_all rfl)
  refine getItem_tuple_back ht (Heap.IsSliceOf.new _ vl vu vs) pl pu ps (by omega) ?_
  refine ⟨.ref _, _, I5.laid (t' := s4.toks) (o := .tup [u2, u1]) (fun b ob q => Heap.get?_push_of_some _ q) (Nat.le_refl _) ?_, rfl, q _ _ (same_new (I5.hok.fresh (Nat.le_refl _)) (.tup [u2, u1])) upd_same⟩
  exact ⟨by show 2 ≤ sizeLine; decide, [y2, y1], .cons c2 (.cons c1 .nil), ⟨_, Heap.get?_push_size _ rfl, rfl, _, rfl⟩⟩
end Wt
/-! A pot is made. -/
namespace Wt
open PySem PySem.Spec PyProof.Rows L2 RZ RT
def spPotK (K : PySem.W.Frag) : Sp := fun vs H Q _ => ∃ (L : Addr) (is : List Int) (k : Nat), vs = [.ref L, .int (k : Nat)] ∧ SqL K H L (is.map V.int) ∧ k ≤ 10 ∧ ∀ H' p, Same H H' → PotOk H' p → Q (.ref p) H'
section
variable {P : Program} {w : World} {K : PySem.W.Frag} {mg : Str → Option Value} {base : Heap}
theorem sc_law_pot : FnScope ["_law_script", "_law_k", "_law_cell"] ["_law_script", "_law_k"] (defScope s_law_pot) := ⟨rfl, rfl, rfl, by decide +kernel, rfl, by decide +kernel, by decide +kernel⟩
theorem ok__law_pot (T : Facts w K mg) : Cl P w K mg base CX0 1 "_law_pot" (spPotK K) := by
  obtain ⟨fd, F⟩ := T.f_law_pot
  refine ⟨_, fd, ["_law_script", "_law_k"], T.g_law_pot, ?_, F.kp, F.bindsN fun _ _ _ _ _ _ us hl => match us, hl with | [_, _], _ => rfl⟩
  refine F.ok sc_law_pot (fun vs H Q E h => ?_) (fun cdv A outer s H vs Q E hr h => ?_)
  · obtain ⟨L, is, k, rfl, _⟩ := h
    rfl
  obtain ⟨L, is, k, rfl, hL, hk, q⟩ := h
  refine ⟨_, PSs.nox (pss_cons (ps_set (i := 2) sc_law_pot.nd rfl (Or.inl rfl) (pe_ifExp (pt_cmpR op_lt (pv 1) (pe_callB call_len_seq (by rfl) T.z_len (by decide +kernel) (pa_cons (pv 0) pa_nil)) (nomark _)) (pe_ix ix_list (pv 0) (pv 1) (fun _ _ => rfl)) pe_int))
    (pss_one (ps_ret (pe_lst (pa_cons (pe_callB (call_max2 rfl) (by rfl) T.z_max (by decide +kernel) (pa_cons pe_int (pa_cons (pe_op op_sub (pe_callB call_abs (by rfl) T.z_abs (by decide +kernel) (pa_cons (pv 2) pa_nil)) (pe_op op_pow pe_int pe_int)) pa_nil))) (pa_cons (pe_op op_add (pe_op op_mod (pe_op op_pow (pe_op op_add (pe_op op_add (pe_op op_mod (pe_callB call_abs (by rfl) T.z_abs (by decide +kernel) (pa_cons (pv 2) pa_nil)) pe_int) (pe_op op_mul pe_int (pv 1))) pe_int) pe_int) pe_int) pe_int) pa_nil)))))), ?_⟩
  refine ⟨_, rfl, _, rfl, L, _, rfl, .inl hL, _, _, rfl, rfl, _, rfl, ?_⟩
  rw [List.length_map]
  have ab : ∀ c : Int, 0 ≤ (if c < 0 then -c else c) := fun c => by split <;> omega
  have fin : ∀ (c : Int) H', H' = H → ∀ p, H p = none → PotOk (upd H p (.lst [.int (if (if c < 0 then -c else c) - 10 ^ (18 : Int).toNat > 0 then (if c < 0 then -c else c) - 10 ^ (18 : Int).toNat else 0), .int ((((if c < 0 then -c else c) % 2147483477 + 101 * (k : Nat) + 3) ^ (2 : Int).toNat) % 2147483399 + 1)])) p := fun c H' _ p hp => by
    have h1 := ab c
    generalize (if c < 0 then -c else c) = d at *
    refine ⟨_, _, upd_same, ?_, ?_, ?_⟩
    · split <;> omega
    · have := Int.emod_nonneg ((d % 2147483477 + 101 * (k : Nat) + 3) ^ (2 : Int).toNat) (show (2147483399 : Int) ≠ 0 by decide)
      omega
    · have := Int.emod_lt_of_pos ((d % 2147483477 + 101 * (k : Nat) + 3) ^ (2 : Int).toNat) (show (0 : Int) < 2147483399 by decide)
      omega
  have pw : ∀ c : Int, CPow ((if c < 0 then -c else c) % 2147483477 + 101 * (k : Nat) + 3) 2 := fun c => by
    have h1 := ab c
    generalize (if c < 0 then -c else c) = d at *
    have h2 := Int.emod_nonneg d (show (2147483477 : Int) ≠ 0 by decide)
    have h3 := Int.emod_lt_of_pos d (show (0 : Int) < 2147483477 by decide)
    exact ⟨by decide, by decide, by omega⟩
  by_cases h : ((k : Nat) : Int) < (is.length : Nat)
  · rw [decide_eq_true h]
    obtain ⟨c, hc⟩ : ∃ c, is[k]? = some c := ⟨is[k]'(by omega), List.getElem?_eq_getElem (by omega)⟩
    refine iteT ⟨_, rfl, _, rfl, L, _, (k : Nat), .int c, rfl, rfl, hL, atN (by rw [List.getElem?_map, hc]; rfl), ?_⟩
    refine ⟨_, rfl, c, rfl, 10, 18, rfl, rfl, ⟨by decide, by decide, by decide⟩, _, _, rfl, rfl, _, _, rfl, _, rfl, c, rfl, _, 2147483477, rfl, rfl, (show (0 : Int) < 2147483477 by decide), _, rfl, _, _, rfl, rfl, .inl ⟨by decide, by decide⟩, _, _, rfl, rfl, _, _, rfl, rfl, _, _, rfl, rfl, pw c, _, 2147483399, rfl, rfl, (show (0 : Int) < 2147483399 by decide), _, _, rfl, rfl, sz2, fun p hp => ?_⟩
    exact q _ p (same_new hp _) (fin c H rfl p hp)
  · rw [decide_eq_false h]
    refine iteF ?_
    refine ⟨_, rfl, 0, rfl, 10, 18, rfl, rfl, ⟨by decide, by decide, by decide⟩, _, _, rfl, rfl, _, _, rfl, _, rfl, 0, rfl, _, 2147483477, rfl, rfl, (show (0 : Int) < 2147483477 by decide), _, rfl, _, _, rfl, rfl, .inl ⟨by decide, by decide⟩, _, _, rfl, rfl, _, _, rfl, rfl, _, _, rfl, rfl, pw 0, _, 2147483399, rfl, rfl, (show (0 : Int) < 2147483399 by decide), _, _, rfl, rfl, sz2, fun p hp => ?_⟩
    exact q _ p (same_new hp _) (fin 0 H rfl p hp)
end
end Wt
/-! Names. -/
namespace Wt
open PySem PySem.Spec PyProof.Rows L2 RZ RT
/-- one statement, then the rest: what is known between is the reading's choice -/
def tMid (t u : TS) : TS := fun D σ H => ∃ M : L2.St → Hp → Prop, t { D with nx := M } σ H ∧ ∀ σ' H', M σ' H' → u D σ' H'
theorem pss_mid {X : Cx} {st : Stmt} {rest : List Stmt} {t u : TS} (h1 : PS X st t) (h2 : PSs X rest u) : PSs X (st :: rest) (tMid t u) := by
  refine ⟨fun pins s σ H D I h => ?_⟩
  obtain ⟨M, h, hM⟩ := h
  refine wpAny_execs_cons (thn (h1.run pins s σ H { D with nx := M } I h) fun f s1 q => ?_)
  cases f with
  | next =>
    obtain ⟨σ', H', I', q⟩ := q
    exact h2.run pins s1 σ' H' D I' (hM σ' H' q)
  | ret v => exact q
  | brk => exact q
  | cont => exact q
theorem let_at {d : Nat} (h : d < 26) : atI (Str.cps "abcdefghijklmnopqrstuvwxyz").toList ((d : Nat) : Int) = some (97 + d) := by
  have key : ∀ e : _root_.Fin 26, atI (Str.cps "abcdefghijklmnopqrstuvwxyz").toList ((e.val : Nat) : Int) = some (97 + e.val) := by decide +kernel
  exact key ⟨d, h⟩
/-- texts made of signs -/
def sgn (cs : List Nat) : Str := ⟨cs.toArray⟩
theorem sgn_ok {cs : List Nat} (h : ∀ c ∈ cs, 97 ≤ c ∧ c ≤ 122) (h1 : 1 ≤ cs.length) (h8 : cs.length ≤ 8) : NameOk (sgn cs) :=
  ⟨fun c hc => h c (by simpa [sgn] using hc), by show 1 ≤ cs.toArray.size; simpa using h1, by show cs.toArray.size ≤ 8; simpa using h8⟩
theorem str_sgn (x : Str) : x = sgn x.cps.toList := by
  cases x
  simp [sgn]
theorem cat_sgn (a b : List Nat) : sgn a ++ sgn b = sgn (a ++ b) := by
  show (⟨a.toArray ++ b.toArray⟩ : Str) = ⟨(a ++ b).toArray⟩
  simp
theorem join_sgn : ∀ cs : List Nat, Txt.join "" (cs.map fun c => (⟨#[c]⟩ : Str)) = sgn cs := by
  intro cs
  rw [TL.join_eq]
  have e0 : (("" : Str)) = sgn [] := by decide
  induction cs with
  | nil => rfl
  | cons c cs ih =>
    cases cs with
    | nil => rfl
    | cons d cs =>
      show (sgn [c] ++ ("" : Str)) ++ Str.join "" _ = _
      rw [ih, e0, cat_sgn, cat_sgn]
      rfl
theorem signs_of : ∀ {ys : List V}, (∀ (j : Nat) y, ys[j]? = some y → ∃ c, y = .str ⟨#[c]⟩ ∧ 97 ≤ c ∧ c ≤ 122) → ∃ cs : List Nat, ys = (cs.map fun c => (⟨#[c]⟩ : Str)).map V.str ∧ cs.length = ys.length ∧ ∀ c ∈ cs, 97 ≤ c ∧ c ≤ 122
  | [], _ => ⟨[], rfl, rfl, fun _ h => absurd h (by simp)⟩
  | y :: ys, h => by
    obtain ⟨c, rfl, h1, h2⟩ := h 0 y rfl
    obtain ⟨cs, rfl, h3, h4⟩ := signs_of (ys := ys) fun j y e => h (j + 1) y e
    refine ⟨c :: cs, rfl, by simp, fun d hd => ?_⟩
    rcases List.mem_cons.mp hd with rfl | hd
    · exact ⟨h1, h2⟩
    · exact h4 d hd
theorem sum_one : ∀ cs : List Nat, ((cs.map fun c => (⟨#[c]⟩ : Str)).map (·.length)).sum = cs.length
  | [] => rfl
  | c :: cs => by
    have := sum_one cs
    simp only [List.map_cons, List.sum_cons, List.length_cons] at this ⊢
    rw [this]
    show 1 + cs.length = _
    omega
def resN : List Str := ["call", "deed", "any", "num", "text", "box", "let", "main"]
theorem resN_ok : ∀ x ∈ resN, NameOk x := by
  have lw : ∀ x ∈ resN, ∀ c ∈ x.cps.toList, 97 ≤ c ∧ c ≤ 122 := by decide
  have ln : ∀ x ∈ resN, 1 ≤ x.length ∧ x.length ≤ 8 := by decide
  exact fun x hx => ⟨lw x hx, ln x hx⟩
theorem name_lay {x : Str} (h : NameOk x) : PyData.canLay0 (.str x) = true := lw_strOk h.1
theorem shaped_names {xs : List Str} (h : ∀ x ∈ xs, NameOk x) : SeqAt.shaped (.list (xs.map PyData.str)) = true := by
  have key : ∀ xs : List Str, (∀ x ∈ xs, NameOk x) → PyData.canLayAll0 (xs.map PyData.str) = true ∧ PyData.depthAll (xs.map PyData.str) = 0 := by
    intro xs
    induction xs with
    | nil => exact fun _ => ⟨by simp [PyData.canLayAll0], rfl⟩
    | cons x xs ih =>
      intro h
      obtain ⟨h1, h2⟩ := ih fun y hy => h y (List.mem_cons_of_mem _ hy)
      have h3 := name_lay (h x List.mem_cons_self)
      exact ⟨by simp only [List.map_cons, PyData.canLayAll0, h1, h3, Bool.and_self], by simp [PyData.depthAll, PyData.depth, h2]⟩
  obtain ⟨h1, h2⟩ := key xs h
  unfold SeqAt.shaped
  simp [PyData.canLay0, PyData.depth, h1, h2]
theorem dp_names {K : PySem.W.Frag} {H : Hp} {a : Addr} {xs : List Str} (e : H a = some (.lst (xs.map V.str))) : Dp K H (.ref a) (.list (xs.map PyData.str)) := by
  refine .lst (SqL.of e) ?_
  clear e
  induction xs with
  | nil => exact .nil
  | cons x xs ih => exact .cons (.str x) ih
theorem eqv_nil (ds : List PyData) : PyData.eqv (.list ds) (.list []) = decide (ds = []) := by
  cases ds <;> simp [PyData.eqv, PyData.eqvAll]
/-- xs != [] -/
theorem ne_nil {K : PySem.W.Frag} {H : Hp} {a b : Addr} {xs : List Str} {Q : VK} (e : H a = some (.lst (xs.map V.str))) (h : ∀ x ∈ xs, NameOk x) (eb : H b = some (.lst [])) (q : Q (.bl (!decide (xs = []))) H) : rNeD K (.ref a) (.ref b) H Q := by
  refine ⟨_, _, dp_names e, .lst (SqL.of eb) .nil, shaped_names h, shaped_names (xs := []) (by simp), ?_⟩
  rw [eqv_nil, show decide (xs.map PyData.str = []) = decide (xs = []) by cases xs <;> simp]
  exact q
/-- x in xs -/
theorem in_names {x : Str} {xs : List Str} : inV (.str x) (xs.map V.str) = decide (x ∈ xs) := by
  unfold inV
  induction xs with
  | nil => rfl
  | cons y xs ih =>
    rw [List.map_cons, List.any_cons, ih]
    have e : eqV (.str y) (.str x) = decide (y = x) := by
      by_cases h : y = x
      · subst h; simp [eqV]
      · simp [eqV, h]
    rw [e]
    by_cases h : y = x
    · subst h; simp
    · simp [h, Ne.symm h]
theorem flat_names (xs : List Str) : (xs.map V.str).all flatV = true := by
  rw [List.all_map]
  exact List.all_eq_true.mpr fun _ _ => rfl
theorem cut_to {x : Str} {n : Nat} (h : n ≤ x.length) : cutS x none (some (n : Int)) = sgn (x.cps.toList.take n) := by
  unfold cutS
  have h1 : HT.sIx x.length 0 none = 0 := rfl
  have h2 : HT.sIx x.length x.length (some (n : Int)) = n := by
    rw [HT.sIx_nat]
    omega
  rw [h1, h2]
  rfl
/-- the spare ones -/
def spare (k : Nat) : Str := sgn [97 + k / 26, 97 + k % 26, 113]
theorem spare_ok {k : Nat} (h : k < 80) : NameOk (spare k) := sgn_ok (fun c hc => by
  simp only [List.mem_cons, List.not_mem_nil, or_false] at hc
  omega) (by show 1 ≤ 3; decide) (by show 3 ≤ 8; decide)
theorem len_sub : ∀ (ys xs : List Str), ys.Nodup → (∀ y ∈ ys, y ∈ xs) → ys.length ≤ xs.length
  | [], _, _, _ => Nat.zero_le _
  | y :: ys, xs, hn, hs => by
    have hn' := List.nodup_cons.mp hn
    have hy := hs y List.mem_cons_self
    have := len_sub ys (xs.erase y) hn'.2 fun z hz => (List.mem_erase_of_ne (fun e => hn'.1 (by rw [← e]; exact hz))).mpr (hs z (List.mem_cons_of_mem _ hz))
    rw [List.length_erase_of_mem hy] at this
    have := List.length_pos_of_mem hy
    simp only [List.length_cons]
    omega
theorem spare_free {xs : List Str} (h : xs.length ≤ 12) : ∃ k, k < 80 ∧ spare k ∉ xs := by
  apply Classical.byContradiction
  intro hno
  have all : ∀ k, k < 80 → spare k ∈ xs := fun k hk => Classical.byContradiction fun h => hno ⟨k, hk, h⟩
  have hd : ((List.range 13).map spare).Nodup := by decide +kernel
  have := len_sub _ xs hd fun y hy => by
    obtain ⟨k, hk, rfl⟩ := List.mem_map.mp hy
    exact all k (by have := List.mem_range.mp hk; omega)
  rw [List.length_map, List.length_range] at this
  omega
theorem sz6 : 6 ≤ sizeLine := by decide
theorem sz8 : 8 ≤ sizeLine := by decide
theorem sz80 : 80 ≤ sizeLine := by decide
def spNameL : Sp := fun vs H Q _ => ∃ (p L : Addr) (xs : List Str), vs = [.ref p, .ref L] ∧ PotOk H p ∧ L ≠ p ∧ H L = some (.lst (xs.map V.str)) ∧ (∀ x ∈ xs, NameOk x) ∧ xs.length ≤ 12 ∧ ∀ H' x, PS_ p H H' → NameOk x → x ∉ xs → Q (.str x) H'
section
variable {P : Program} {w : World} {K : PySem.W.Frag} {mg : Str → Option Value} {base : Heap}
theorem sc_law_name : FnScope ["_law_pot_here", "_law_used", "_law_letters", "_law_size", "_law_word", "_law_near_here", "_law_some", "_law_k", "_law_spare"] ["_law_pot_here", "_law_used"] (defScope s_law_name) := ⟨rfl, rfl, rfl, by decide +kernel, rfl, by decide +kernel, by decide +kernel⟩
theorem ok__law_name (T : Facts w K mg) : Cl P w K mg base CX0 2 "_law_name" spNameL := by
  have c_law_digit := ok__law_digit (P := P) (base := base) T
  obtain ⟨fd, F⟩ := T.f_law_name
  refine ⟨_, fd, ["_law_pot_here", "_law_used"], T.g_law_name, ?_, F.kp, F.bindsN fun _ _ _ _ _ _ us hl => match us, hl with | [_, _], _ => rfl⟩
  refine F.ok sc_law_name (fun vs H Q E h => ?_) (fun cdv A outer s H vs Q E hr h => ?_)
  · obtain ⟨p, L, xs, rfl, _⟩ := h
    rfl
  obtain ⟨p, L, xs, rfl, hp, hne, eL, hxs, hx12, q⟩ := h
  have hu64 := hr.units
  refine ⟨_, PSs.nox (pss_cons (ps_set (i := 2) sc_law_name.nd rfl (Or.inr rfl) pe_str)
    (pss_cons (ps_set (i := 3) sc_law_name.nd rfl (Or.inl rfl) (pe_ix ix_list (pe_lst (pa_cons pe_int (pa_cons pe_int (pa_cons pe_int (pa_cons pe_int (pa_cons pe_int (pa_cons (pe_op op_add pe_int (pe_cl c_law_digit hr (by omega) pass0 (pa_cons (pv 0) (pa_cons pe_int pa_nil)))) pa_nil))))))) (pe_cl c_law_digit hr (by omega) pass0 (pa_cons (pv 0) (pa_cons pe_int pa_nil))) (fun _ _ => rfl)))
    (pss_cons (ps_set (i := 4) sc_law_name.nd rfl (Or.inl rfl) (pe_join pe_str (pe_lc (own := [("_law_k", 7)]) (g := (gName 7)) (tt := tYes) rfl sc_law_name.nd (pi_range1 rfl T.z_range (pa_cons (pv 3) pa_nil)) (blkOk_by (own := [("_law_k", 7)]) (N := ["_law_pot_here", "_law_used", "_law_letters", "_law_size", "_law_word", "_law_near_here", "_law_some", "_law_k", "_law_spare"]) (sc := defScope s_law_name) (by decide +kernel)) (fun _ _ _ _ _ => (pg_name (i := 7) sc_law_name.nd rfl (Or.inl rfl))) (fun _ _ _ _ _ => pts_nil) (fun _ _ _ _ _ => (pe_ix ix_str (pv 2) (pe_cl c_law_digit hr (by omega) pass0 (pa_cons (pv 0) (pa_cons pe_int pa_nil))) (fun _ _ => rfl))))))
    (pss_mid (ps_if (pt_cmpR op_eq (pe_cl c_law_digit hr (by omega) pass0 (pa_cons (pv 0) (pa_cons pe_int pa_nil))) pe_int (nomark _)) (pss_one (ps_set (i := 4) sc_law_name.nd rfl (Or.inl rfl) (pe_ix ix_list (pe_lst (pa_cons pe_str (pa_cons pe_str (pa_cons pe_str (pa_cons pe_str (pa_cons pe_str (pa_cons pe_str (pa_cons pe_str (pa_cons pe_str pa_nil))))))))) (pe_cl c_law_digit hr (by omega) pass0 (pa_cons (pv 0) (pa_cons pe_int pa_nil))) (fun _ _ => rfl)))) pss_nil)
    (pss_mid (ps_if (PW.pt (pw_and (pt_cmpR (op_neD hu64) (pv 1) (pe_lst pa_nil) (nomark _)) (pw_and1 (pt_cmpR op_eq (pe_cl c_law_digit hr (by omega) pass0 (pa_cons (pv 0) (pa_cons pe_int pa_nil))) pe_int (nomark _))))) (pss_cons (ps_set (i := 5) sc_law_name.nd rfl (Or.inl rfl) (pe_ix ix_list (pv 1) (pe_cl c_law_digit hr (by omega) pass0 (pa_cons (pv 0) (pa_cons (pe_callB call_len_seq (by rfl) T.z_len (by decide +kernel) (pa_cons (pv 1) pa_nil)) pa_nil))) (fun _ _ => rfl)))
    (pss_one (ps_set (i := 4) sc_law_name.nd rfl (Or.inl rfl) (pe_op op_add_str (pe_slice sl_str (pv 5) po_none (po_some (pe_cl c_law_digit hr (by omega) pass0 (pa_cons (pv 0) (pa_cons (pe_callB call_len_str (by rfl) T.z_len (by decide +kernel) (pa_cons (pv 5) pa_nil)) pa_nil))))) (pe_slice sl_str (pv 4) po_none (po_some pe_int)))))) pss_nil)
    (pss_mid (ps_if (pt_cmpR op_in_seq (pv 4) (pv 1) (by rfl)) (pss_cons (ps_setLc (i := 6) (own := [("_law_k", 7)]) (g := (gName 7)) (tt := tYes) rfl sc_law_name.nd rfl rfl (sw_true rfl rfl rfl (by decide +kernel)) (pi_range1 rfl T.z_range (pa_cons pe_int pa_nil)) (blkOk_by (own := [("_law_k", 7)]) (N := ["_law_pot_here", "_law_used", "_law_letters", "_law_size", "_law_word", "_law_near_here", "_law_some", "_law_k", "_law_spare"]) (sc := defScope s_law_name) (by decide +kernel)) (fun _ _ _ _ _ => (pg_name (i := 7) sc_law_name.nd rfl (Or.inl rfl))) (fun _ _ _ _ _ => pts_nil) (fun _ _ _ _ _ => (pe_op op_add_str (pe_op op_add_str (pe_ix ix_str (pv 2) (pe_op op_fdiv (pv 7) pe_int) (fun _ _ => rfl)) (pe_ix ix_str (pv 2) (pe_op op_mod (pv 7) pe_int) (fun _ _ => rfl))) pe_str)))
    (pss_one (ps_set (i := 4) sc_law_name.nd rfl (Or.inl rfl) (pe_ix ix_list (pe_lc (own := [("_law_spare", 8)]) (g := (gName 8)) (tt := (tTest (tOp (rIn K true) (tVar 8) (tVar 1)))) rfl sc_law_name.nd (pi_list (pv 6)) (blkOk_by (own := [("_law_spare", 8)]) (N := ["_law_pot_here", "_law_used", "_law_letters", "_law_size", "_law_word", "_law_near_here", "_law_some", "_law_k", "_law_spare"]) (sc := defScope s_law_name) (by decide +kernel)) (fun _ _ _ _ _ => (pg_name (i := 8) sc_law_name.nd rfl (Or.inl rfl))) (fun _ _ _ _ _ => (pts_one (pt_cmpR op_notIn_seq (pv 8) (pv 1) (by rfl)))) (fun _ _ _ _ _ => (pv 8))) pe_int (fun _ _ => rfl))))) pss_nil)
    (pss_one (ps_ret (pv 4))))))))), ?_⟩
  refine ⟨_, rfl, p, 8, rfl, hp, by decide, by decide, fun H1 d1 s1 h1 => ⟨_, _, rfl, rfl, sz6, fun l hl => ⟨_, rfl, p, 6, rfl, ?_⟩⟩⟩
  have s2 := same_new hl (.lst [V.int 1, .int 1, .int 2, .int 3, .int 8, .int (1 + (d1 : Nat))])
  have p2 := PS_.of s1.2.2 s2
  refine ⟨p2.2.2, by decide, by decide, fun H3 d2 s3 h2 => ?_⟩
  have el := s3.1 l _ (fun z => s1.2.2.some (z ▸ hl)) upd_same
  obtain ⟨z, hz, hz1, hz8⟩ : ∃ z : Nat, ([V.int 1, .int 1, .int 2, .int 3, .int 8, .int (1 + (d1 : Nat))] : List V)[d2]? = some (.int (z : Nat)) ∧ 1 ≤ z ∧ z ≤ 8 := by
    match d2, h2 with
    | 0, _ => exact ⟨1, rfl, by decide, by decide⟩
    | 1, _ => exact ⟨1, rfl, by decide, by decide⟩
    | 2, _ => exact ⟨2, rfl, by decide, by decide⟩
    | 3, _ => exact ⟨3, rfl, by decide, by decide⟩
    | 4, _ => exact ⟨8, rfl, by decide, by decide⟩
    | 5, _ => exact ⟨1 + d1, by simp, by omega, by omega⟩
    | n + 6, h => exact absurd h (by omega)
  refine ⟨l, _, (d2 : Nat), .int (z : Nat), rfl, rfl, SqL.of el, atN hz, ?_⟩
  have s13 := s1.trans (p2.trans s3)
  clear hz el s2 p2
  refine ⟨⟨_, rfl⟩, _, rfl, _, rfl, by omega, by omega, fun D hD => ?_⟩
  refine lc_range_rel (rel_pot p) (fun _ y _ => ∃ c, y = .str ⟨#[c]⟩ ∧ 97 ≤ c ∧ c ≤ 122) (fun _ _ _ _ _ r => r) hD (PS_.refl s3.2.2) (by omega) (fun i H5 Nx hi s5 nx => ?_) (fun H' s => PS_.refl s.2.2) (fun H5 ys s5 eD hyl hys => ?_)
  · generalize hτ : wipe _ (List.map _ _) = τ
    obtain rfl : τ = [some (.ref p), some (.ref L), some (.str "abcdefghijklmnopqrstuvwxyz"), some (.int (z : Nat)), none, none, none, none, none] := hτ.symm.trans rfl
    exact ⟨rfl, _, rfl, _, rfl, p, 26, rfl, s5.2.2, by decide, by decide, fun H6 c s6 hc => ⟨_, (c : Nat), 97 + c, rfl, rfl, by decide, let_at hc, nx _ H6 s6 ⟨97 + c, rfl, by omega, by omega⟩⟩⟩
  obtain ⟨cs, rfl, hcl, hcs⟩ := signs_of hys
  refine ⟨"", D, cs.map fun c => ⟨#[c]⟩, rfl, rfl, .inl (SqL.of eD), ?_, ?_⟩
  · have e0 : (("" : Str)).length = 0 := by decide
    rw [sum_one, e0]
    omega
  rw [join_sgn]
  have hw : NameOk (sgn cs) := sgn_ok hcs (by omega) (by omega)
  generalize sgn cs = w0 at hw
  have s15 := s13.trans s5
  clear hys eD hcl hcs hyl s5 s13 s1 s3
  refine ⟨fun σ' H' => ∃ w, σ' = [some (.ref p), some (.ref L), some (.str "abcdefghijklmnopqrstuvwxyz"), some (.int (z : Nat)), some (.str w), none, none, none, none] ∧ NameOk w ∧ PS_ p H H', ?_, ?_⟩
  · refine ⟨_, rfl, p, 8, rfl, s15.2.2, by decide, by decide, fun H6 d s6 hd => ⟨rfl, _, rfl, ?_⟩⟩
    have s16 := s15.trans s6
    by_cases h0 : V.int (d : Nat) = V.int 0
    · rw [decide_eq_true h0]
      refine iteT ⟨sz8, fun l2 hl2 => ⟨_, rfl, p, 8, rfl, ?_⟩⟩
      have s7 := same_new hl2 (.lst (resN.map V.str))
      have p7 := PS_.of s6.2.2 s7
      refine ⟨p7.2.2, by decide, by decide, fun H8 e s8 he => ?_⟩
      have el2 := s8.1 l2 _ (fun y => s6.2.2.some (y ▸ hl2)) upd_same
      have hl8 : resN.length = 8 := rfl
      obtain ⟨x, hx⟩ : ∃ x, resN[e]? = some x := ⟨resN[e]'(by omega), List.getElem?_eq_getElem (by omega)⟩
      refine ⟨l2, resN.map V.str, (e : Nat), .str x, rfl, rfl, SqL.of el2, atN (by rw [List.getElem?_map, hx]; rfl), ?_⟩
      exact ⟨x, rfl, resN_ok x (List.mem_of_getElem? hx), s16.trans (p7.trans s8)⟩
    · rw [decide_eq_false h0]
      exact iteF ⟨w0, rfl, hw, s16⟩
  rintro σ1 H6 ⟨w1, rfl, hw1, s6⟩
  clear s15 hw
  refine ⟨fun σ' H' => ∃ w u, σ' = [some (.ref p), some (.ref L), some (.str "abcdefghijklmnopqrstuvwxyz"), some (.int (z : Nat)), some (.str w), u, none, none, none] ∧ NameOk w ∧ PS_ p H H', ?_, ?_⟩
  · refine ⟨_, rfl, sz0, fun b hb => ?_⟩
    have s7 := same_new hb (.lst [])
    have p7 := PS_.of s6.2.2 s7
    have s67 := s6.trans p7
    have eL7 := s67.1 L _ hne eL
    refine ne_nil eL7 hxs upd_same ⟨_, rfl, ?_⟩
    by_cases hx0 : xs = []
    · rw [decide_eq_true hx0]
      exact iteF (iteF ⟨w1, none, rfl, hw1, s67⟩)
    rw [decide_eq_false hx0]
    refine iteT ⟨_, rfl, p, 5, rfl, s67.2.2, by decide, by decide, fun H8 d s8 hd => ⟨rfl, _, rfl, ?_⟩⟩
    have s68 := s67.trans s8
    have eL8 := s68.1 L _ hne eL
    by_cases h0 : V.int (d : Nat) = V.int 0
    · rw [decide_eq_true h0]
      have hpos : 0 < xs.length := by cases xs with
        | nil => exact absurd rfl hx0
        | cons a b => simp
      refine iteT ⟨_, rfl, _, rfl, _, rfl, L, _, rfl, .inl (SqL.of eL8), p, xs.length, by rw [List.length_map]; rfl, s8.2.2, hpos, by omega, fun H9 e s9 he => ?_⟩
      have s69 := s68.trans s9
      have eL9 := s69.1 L _ hne eL
      obtain ⟨x, hx⟩ : ∃ x, xs[e]? = some x := ⟨xs[e], List.getElem?_eq_getElem he⟩
      have hxo := hxs x (List.mem_of_getElem? hx)
      refine ⟨L, _, (e : Nat), .str x, rfl, rfl, SqL.of eL9, atN (by rw [List.getElem?_map, hx]; rfl), ?_⟩
      have hxl := hxo.2.2
      refine ⟨_, rfl, _, rfl, _, rfl, x, rfl, by rw [sizeLine_eq]; omega, p, x.length, rfl, s9.2.2, hxo.2.1, by have := hxo.2.2; omega, fun H10 f s10 hf => ?_⟩
      have s610 := s69.trans s10
      have hwl := hw1.2.2
      have hwl1 := hw1.2.1
      refine ⟨(f : Nat), rfl, x, rfl, by rw [sizeLine_eq]; omega, _, rfl, 1, rfl, w1, rfl, by rw [sizeLine_eq]; omega, _, _, rfl, rfl, ?_, ?_⟩
      · rw [cut_to (Nat.le_of_lt hf), show cutS w1 none (some 1) = sgn (w1.cps.toList.take 1) from cut_to (n := 1) hwl1]
        show (sgn _).cps.size + (sgn _).cps.size ≤ sizeLine
        simp only [sgn, List.size_toArray, List.length_take]
        rw [sizeLine_eq]
        omega
      refine ⟨_, some (.str x), rfl, ?_, s610⟩
      rw [cut_to (Nat.le_of_lt hf), show cutS w1 none (some 1) = sgn (w1.cps.toList.take 1) from cut_to (n := 1) hwl1, cat_sgn]
      have lx : x.cps.toList.length = x.length := Array.length_toList ..
      have lw : w1.cps.toList.length = w1.length := Array.length_toList ..
      refine sgn_ok (fun c hc => ?_) ?_ ?_
      · rcases List.mem_append.mp hc with hc | hc
        · exact hxo.1 c (List.mem_of_mem_take hc)
        · exact hw1.1 c (List.mem_of_mem_take hc)
      · rw [List.length_append, List.length_take, List.length_take]
        omega
      · rw [List.length_append, List.length_take, List.length_take]
        omega
    · rw [decide_eq_false h0]
      exact iteF ⟨w1, none, rfl, hw1, s68⟩
  rintro σ2 H7 ⟨w2, u2, rfl, hw2, s7⟩
  clear s6 hw1
  have eL7 := s7.1 L _ hne eL
  refine ⟨fun σ' H' => ∃ w u v, σ' = [some (.ref p), some (.ref L), some (.str "abcdefghijklmnopqrstuvwxyz"), some (.int (z : Nat)), some (.str w), u, v, none, none] ∧ NameOk w ∧ w ∉ xs ∧ PS_ p H H', ?_, ?_⟩
  · refine ⟨_, rfl, _, rfl, L, _, rfl, .inl (SqL.of eL7), rfl, flat_names xs, _, rfl, ?_⟩
    rw [if_neg Bool.false_ne_true, in_names]
    by_cases hin : w2 ∈ xs
    · rw [decide_eq_true hin]
      refine iteT ⟨80, rfl, by decide, by decide, fun D1 hD1 => ?_⟩
      refine lc_range_rel (rel_pot p) (fun i y _ => y = .str (spare i)) (fun _ _ _ _ _ r => r) hD1 (PS_.refl s7.2.2) (by decide) (fun i H8 Nx hi s8 nx => ?_) (fun H' s => PS_.refl s.2.2) (fun H8 ys s8 eD hyl hys => ?_)
      · generalize hτ : wipe _ (List.map _ _) = τ
        obtain rfl : τ = [some (.ref p), some (.ref L), some (.str "abcdefghijklmnopqrstuvwxyz"), some (.int (z : Nat)), some (.str w2), u2, none, none, none] := hτ.symm.trans rfl
        have hi80 : i < 80 := hi
        refine ⟨rfl, _, rfl, _, rfl, _, 26, rfl, rfl, ⟨by decide, by decide⟩, _, ((i / 26 : Nat) : Int), 97 + i / 26, rfl, congrArg V.int (by omega), by decide, let_at (by omega), _, rfl, _, rfl, _, 26, rfl, rfl, (show (0 : Int) < 26 by decide), _, ((i % 26 : Nat) : Int), 97 + i % 26, rfl, congrArg V.int (by omega), by decide, let_at (by omega), _, _, rfl, rfl, by show 1 + 1 ≤ sizeLine; decide, _, _, rfl, rfl, by show 2 + 1 ≤ sizeLine; decide, ?_⟩
        exact nx _ _ (PS_.refl s8.2.2) rfl
      have hall : ys = ((List.range 80).map spare).map V.str := by
        apply List.ext_getElem?
        intro j
        by_cases hj : j < 80
        · have hjl : j < ys.length := by rw [hyl]; exact hj
          rw [List.getElem?_eq_getElem hjl]
          have e := hys j _ (List.getElem?_eq_getElem hjl)
          rw [e, List.getElem?_map, List.getElem?_map, List.getElem?_range hj]
          rfl
        · rw [List.getElem?_eq_none (by rw [hyl]; exact Nat.le_of_not_lt hj), List.getElem?_eq_none (by simp; omega)]
      generalize hA : (List.range 80).map spare = all at hall
      have hAl : all.length = 80 := by rw [← hA]; simp
      subst hall
      have eL8 := s8.1 L _ hne eL7
      refine ⟨_, rfl, D1, rfl, ⟨_, SqL.of eD⟩, fun D2 hD2 => ?_⟩
      refine lc_list (xs := all.map V.str) (fun i H' => Same H8 H' ∧ H' D2 = some (.lst (((all.take i).filter fun x => decide (x ∉ xs)).map V.str))) ⟨same_new hD2 (.lst []), upd_same⟩ (fun i H' _ q => SqL.of (q.1 _ _ eD)) (fun i x H9 hx q9 => ?_) (fun H9 q9 => ?_)
      · rw [List.getElem?_map] at hx
        obtain ⟨y, hy, rfl⟩ := Option.map_eq_some_iff.mp hx
        have hi80 : i < all.length := (List.getElem?_eq_some_iff.mp hy).1
        generalize hτ : wipe _ (List.map _ _) = τ
        obtain rfl : τ = [some (.ref p), some (.ref L), some (.str "abcdefghijklmnopqrstuvwxyz"), some (.int (z : Nat)), some (.str w2), u2, some (.ref D1), none, none] := hτ.symm.trans rfl
        refine ⟨rfl, _, rfl, _, rfl, L, _, rfl, .inl (SqL.of (q9.1 _ _ eL8)), rfl, flat_names xs, _, rfl, ?_⟩
        rw [if_pos rfl, in_names]
        have tk : all.take (i + 1) = all.take i ++ [y] := by rw [List.take_add_one, hy]; rfl
        have fl : ((all.take i).filter fun x => decide (x ∉ xs)).length ≤ 80 := Nat.le_trans (List.length_filter_le _ _) (by rw [List.length_take]; omega)
        by_cases hyx : y ∈ xs
        · rw [decide_eq_true hyx]
          refine iteF ⟨q9.1, ?_⟩
          rw [q9.2, tk, List.filter_append]
          simp [hyx]
        · rw [decide_eq_false hyx]
          refine iteT ⟨_, rfl, _, q9.2, by rw [List.length_map, sizeLine_eq]; omega, q9.1.upd2 hD2, ?_⟩
          rw [upd_same, tk, List.filter_append]
          simp [hyx]
      · rw [List.take_of_length_le (by rw [List.length_map]; exact Nat.le_refl _)] at q9
        obtain ⟨k, hk, hfree⟩ := spare_free hx12
        have hmem : spare k ∈ all.filter fun x => decide (x ∉ xs) := List.mem_filter.mpr ⟨by rw [← hA]; exact List.mem_map.mpr ⟨k, List.mem_range.mpr hk, rfl⟩, decide_eq_true hfree⟩
        cases hf : all.filter fun x => decide (x ∉ xs) with
        | nil => rw [hf] at hmem; cases hmem
        | cons w3 r3 =>
          have hw3 : w3 ∈ all.filter fun x => decide (x ∉ xs) := by rw [hf]; exact List.mem_cons_self
          obtain ⟨h31, h32⟩ := List.mem_filter.mp hw3
          rw [← hA] at h31
          obtain ⟨k3, hk3, rfl⟩ := List.mem_map.mp h31
          rw [hf] at q9
          refine ⟨D2, _, 0, .str (spare k3), rfl, rfl, SqL.of q9.2, at0, _, _, _, rfl, spare_ok (List.mem_range.mp hk3), of_decide_eq_true h32, s7.trans (s8.trans (PS_.of s8.2.2 q9.1))⟩
    · rw [decide_eq_false hin]
      exact iteF ⟨w2, u2, none, rfl, hw2, hin, s7⟩
  rintro σ3 H8 ⟨w3, u3, v3, rfl, hw3, hn3, s8⟩
  exact ⟨_, rfl, q _ _ s8 hw3 hn3⟩
end
end Wt
/-! Terms by their heads. -/
namespace Wt
open PySem PySem.Spec PyProof.Rows L2 RZ RT
theorem dm (d : Nat) : (((d + 1 : Nat)) : Int) - 1 = ((d : Nat) : Int) := by omega
/-- what a term is made of: the pot, the names, what is aimed at -/
structure TArg (H : Hp) (p L : Addr) (v : V) (N : Bd) (aim : Fm) (d : Nat) : Prop where
  pot : PotOk H p
  ne : L ≠ p
  at_ : BAt H L N
  nm : NamesOk N
  lo : ∀ q ∈ N, q.2.ht ≤ 5
  ln : N.length + d ≤ 40
  rp : RpF H v aim
  ht : max aim.ht 2 + d ≤ 5
theorem PS_.bat {H H' : Hp} {p L : Addr} {N : Bd} (s : PS_ p H H') (hne : L ≠ p) (h : BAt H L N) : BAt H' L N := h.kp s.1 s.2.1.noT hne
theorem TArg.to {H H' : Hp} {p L : Addr} {v v' : V} {N : Bd} {aim aim' : Fm} {d d' : Nat} (h : TArg H p L v N aim d) (s : PS_ p H H') (r : RpF H' v' aim') (hm : max aim'.ht 2 + d' ≤ 5) (hd : d' ≤ d) : TArg H' p L v' N aim' d' :=
  ⟨s.2.2, h.ne, s.bat h.ne h.at_, h.nm, h.lo, by have := h.ln; omega, r, hm⟩
theorem bat_snoc {H : Hp} {l T : Addr} {N : Bd} {vs : List V} {x : Str} {g : V} {f : Fm} (rp : RpAll H vs (N.map fun q => .tuple [.str q.1, q.2.d])) (el : H l = some (.lst (vs ++ [.ref T]))) (eT : H T = some (.tup [.str x, g])) (rg : RpF H g f) : BAt H l (N ++ [(x, f)]) := by
  refine ⟨_, el, ?_⟩
  rw [List.map_append]
  clear el
  have key : ∀ {vs : List V} {ds : List PyData}, RpAll H vs ds → RpAll H (vs ++ [.ref T]) (ds ++ [.tuple [.str x, f.d]]) := by
    intro vs
    induction vs with
    | nil =>
      intro ds h
      cases h
      exact .cons (rp2.mpr ⟨T, _, _, rfl, eT, .str _, rg⟩) .nil
    | cons v vs ih =>
      intro ds h
      cases h with
      | cons r t => exact .cons r (ih t)
  exact key rp
theorem bat_len {H : Hp} {N : Bd} {vs : List V} (e : RpAll H vs (N.map fun q => .tuple [.str q.1, q.2.d])) : vs.length = N.length := by
  have := rpa_len e
  rw [List.length_map] at this
  exact this
def spTermG (n : Nat) : Sp := fun vs H Q _ => ∃ (p L : Addr) (v : V) (N : Bd) (aim : Fm) (d : Nat), vs = [.ref p, .ref L, v, .int (d : Nat)] ∧ TArg H p L v N aim d ∧ d < n ∧ ∀ H' x t, PS_ p H H' → RpT H' x t → Gen N aim d t → Q x H'
def spByHead (n : Nat) : Sp := fun vs H Q _ => ∃ (p L : Addr) (v : V) (N : Bd) (aim : Fm) (d : Nat), vs = [.ref p, .ref L, v, .int ((d + 1 : Nat) : Int)] ∧ TArg H p L v N aim (d + 1) ∧ d < n ∧ ∀ H' x t, PS_ p H H' → RpT H' x t → Gen N aim (d + 1) t → Q x H'
section
variable {P : Program} {w : World} {K : PySem.W.Frag} {mg : Str → Option Value} {base : Heap}
theorem sc_law_by_head : FnScope ["_law_pot_here", "_law_names", "_law_aim", "_law_deep", "_law_way", "_law_left", "_law_right", "_law_box", "_law_form_here", "_law_name_here"] ["_law_pot_here", "_law_names", "_law_aim", "_law_deep"] (defScope s_law_by_head) := ⟨rfl, rfl, rfl, by decide +kernel, rfl, by decide +kernel, by decide +kernel⟩
set_option maxHeartbeats 16000000 in
theorem ok__law_by_head (T : Facts w K mg) (n : Nat) (c_law_term : Cl P w K mg base CX0 (30 + 2 * n) "_law_term" (spTermG n)) : Cl P w K mg base CX0 (31 + 2 * n) "_law_by_head" (spByHead n) := by
  have c_law_digit := ok__law_digit (P := P) (base := base) T
  have c_law_form := ok__law_form (P := P) (base := base) T 3
  have c_law_near := ok__law_near (P := P) (base := base) T 10
  have c_law_name := ok__law_name (P := P) (base := base) T
  obtain ⟨fd, F⟩ := T.f_law_by_head
  refine ⟨_, fd, ["_law_pot_here", "_law_names", "_law_aim", "_law_deep"], T.g_law_by_head, ?_, F.kp, F.bindsN fun _ _ _ _ _ _ us hl => match us, hl with | [_, _, _, _], _ => rfl⟩
  rw [show 31 + 2 * n = (30 + 2 * n) + 1 by omega]
  refine F.ok sc_law_by_head (fun vs H Q E h => ?_) (fun cdv A outer s H vs Q E hr h => ?_)
  · obtain ⟨p, L, v, N, aim, d, rfl, _⟩ := h
    rfl
  obtain ⟨p, L, v, N, f, d, rfl, ta, hn, q⟩ := h
  have hu64 := hr.units
  have hu65 := r65 hr
  have h60 : f.ht ≤ 60 := by have := ta.ht; omega
  have hht := ta.ht
  have hp := ta.pot
  have rv := ta.rp
  refine ⟨_, PSs.nox (pss_cons (ps_if (pt_cmpR (op_inDT hu65) (pv 2) (pe_tup (pa_cons pe_str (pa_cons pe_str pa_nil))) (by rfl)) (pss_cons (ps_set (i := 4) sc_law_by_head.nd rfl (Or.inl rfl) (pe_cl c_law_digit hr (by omega) pass0 (pa_cons (pv 0) (pa_cons pe_int pa_nil))))
    (pss_cons (ps_par (i := 5) (j := 6) (by rfl) sc_law_by_head.nd rfl rfl (by decide) rfl rfl (pa_cons (pe_cl c_law_term hr (by omega) pass0 (pa_cons (pv 0) (pa_cons (pv 1) (pa_cons pe_str (pa_cons (pe_op op_sub (pv 3) pe_int) pa_nil))))) (pa_cons (pe_cl c_law_term hr (by omega) pass0 (pa_cons (pv 0) (pa_cons (pv 1) (pa_cons pe_str (pa_cons (pe_op op_sub (pv 3) pe_int) pa_nil))))) pa_nil)) (by rfl))
    (pss_cons (ps_if (pt_cmpR op_lt (pv 4) pe_int (nomark _)) (pss_one (ps_ret (pe_tup (pa_cons (pe_ix ix_list (pe_lst (pa_cons pe_str (pa_cons pe_str pa_nil))) (pv 4) (fun _ _ => rfl)) (pa_cons (pv 5) (pa_cons (pv 6) pa_nil)))))) pss_nil)
    (pss_cons (ps_if (pt_cmpR op_eq (pv 4) pe_int (nomark _)) (pss_one (ps_ret (pe_tup (pa_cons pe_str (pa_cons (pe_cl c_law_term hr (by omega) pass0 (pa_cons (pv 0) (pa_cons (pv 1) (pa_cons pe_str (pa_cons (pe_op op_sub (pv 3) pe_int) pa_nil))))) pa_nil))))) pss_nil)
    (pss_cons (ps_set (i := 7) sc_law_by_head.nd rfl (Or.inl rfl) (pe_tup (pa_cons pe_str (pa_cons (pe_cl c_law_form hr (by omega) pass0 (pa_cons (pv 0) (pa_cons pe_int pa_nil))) pa_nil))))
    (pss_cons (ps_par (i := 5) (j := 6) (by rfl) sc_law_by_head.nd rfl rfl (by decide) rfl rfl (pa_cons (pe_cl c_law_term hr (by omega) pass0 (pa_cons (pv 0) (pa_cons (pv 1) (pa_cons (pv 7) (pa_cons (pe_op op_sub (pv 3) pe_int) pa_nil))))) (pa_cons (pe_cl c_law_term hr (by omega) pass0 (pa_cons (pv 0) (pa_cons (pv 1) (pa_cons (pv 7) (pa_cons (pe_op op_sub (pv 3) pe_int) pa_nil))))) pa_nil)) (by rfl))
    (pss_one (ps_ret (pe_ifExp (pt_cmpR op_eq (pv 4) pe_int (nomark _)) (pe_tup (pa_cons pe_str (pa_cons (pv 5) (pa_cons (pv 6) pa_nil)))) (pe_tup (pa_cons pe_str (pa_cons (pv 5) (pa_cons (pe_tup (pa_cons pe_str (pa_cons pe_str (pa_cons (pv 6) pa_nil)))) pa_nil))))))))))))) pss_nil)
    (pss_cons (ps_if (pt_cmpR (op_eqD hu64) (pv 2) pe_str (nomark _)) (pss_one (ps_ret (pe_tup (pa_cons pe_str (pa_cons (pe_cl c_law_term hr (by omega) pass0 (pa_cons (pv 0) (pa_cons (pv 1) (pa_cons (pe_tup (pa_cons pe_str (pa_cons pe_str pa_nil))) (pa_cons (pe_op op_sub (pv 3) pe_int) pa_nil))))) pa_nil))))) pss_nil)
    (pss_cons (ps_if (pt_cmpR op_eq (pe_ix ix_tup (pv 2) pe_int (fun _ _ => rfl)) pe_str (nomark _)) (pss_cons (ps_set (i := 8) sc_law_by_head.nd rfl (Or.inl rfl) (pe_cl c_law_near hr (by omega) pass0 (pa_cons (pv 0) (pa_cons (pe_ix ix_tup (pv 2) pe_int (fun _ _ => rfl)) (pa_cons pe_int pa_nil)))))
    (pss_one (ps_ret (pe_tup (pa_cons pe_str (pa_cons (pv 8) (pa_cons (pe_tup (pa_cons pe_str (pa_cons (pv 8) (pa_cons (pe_tup (pa_cons pe_str (pa_cons pe_str (pa_cons (pe_cl c_law_term hr (by omega) pass0 (pa_cons (pv 0) (pa_cons (pv 1) (pa_cons (pv 8) (pa_cons (pe_op op_sub (pv 3) pe_int) pa_nil))))) pa_nil)))) pa_nil)))) pa_nil))))))) pss_nil)
    (pss_cons (ps_par (i := 8) (j := 9) (by rfl) sc_law_by_head.nd rfl rfl (by decide) rfl rfl (pa_cons (pe_cl c_law_near hr (by omega) pass0 (pa_cons (pv 0) (pa_cons (pe_ix ix_tup (pv 2) pe_int (fun _ _ => rfl)) (pa_cons pe_int pa_nil)))) (pa_cons (pe_cl c_law_name hr (by omega) pass0 (pa_cons (pv 0) (pa_cons (pe_lst pa_nil) pa_nil))) pa_nil)) (by rfl))
    (pss_one (ps_ret (pe_tup (pa_cons pe_str (pa_cons (pv 9) (pa_cons (pv 8) (pa_cons (pe_cl c_law_term hr (by omega) pass0 (pa_cons (pv 0) (pa_cons (pe_op op_cat (pv 1) (pe_lst (pa_cons (pe_tup (pa_cons (pv 9) (pa_cons (pv 8) pa_nil))) pa_nil))) (pa_cons (pe_ix ix_tup (pv 2) pe_int (fun _ _ => rfl)) (pa_cons (pe_op op_sub (pv 3) pe_int) pa_nil))))) pa_nil))))))))))), ?_⟩
  refine ⟨_, rfl, sz2, fun t ht => ?_⟩
  have s2 := same_new ht (.tup [.str "any", .str "num"])
  have p2 := PS_.of hp s2
  refine ⟨f.d, [Fm.any.d, Fm.num.d], (rv.mono s2.tk).dp, (rp_tup.mpr ⟨t, _, rfl, upd_same, .cons (.str _) (.cons (.str _) .nil)⟩).dp, Fm.shaped (by omega), shaped_pair (by decide) (by decide), _, rfl, ?_⟩
  have hin : (([Fm.any.d, Fm.num.d] : List PyData).any fun z => PyData.eqv z f.d) = (decide (f = .any) || decide (f = .num)) := by
    simp only [List.any_cons, List.any_nil, Bool.or_false, Fm.eqv_d]
    rw [show (decide (Fm.any = f)) = decide (f = .any) by simp [eq_comm], show (decide (Fm.num = f)) = decide (f = .num) by simp [eq_comm]]
  rw [hin]
  have rv2 := rv.mono s2.tk
  generalize upd H t (.tup [.str "any", .str "num"]) = H2 at *
  have e0 : (Fm.num).ht = 0 := rfl
  have e1 : (Fm.text).ht = 0 := rfl
  by_cases hpl : f = .any ∨ f = .num
  · have : (decide (f = .any) || decide (f = .num)) = true := by rcases hpl with rfl | rfl <;> rfl
    rw [this]
    refine iteT ⟨_, rfl, p, 5, rfl, p2.2.2, by decide, by decide, fun H3 way s3 hway => ?_⟩
    have s23 := p2.trans s3
    refine ⟨_, rfl, _, rfl, _, rfl, _, _, rfl, rfl, p, L, .str "num", N, .num, d, by rw [← dm d]; rfl, ta.to s23 (.str _) (by omega) (by omega), hn, fun H4 x1 t1 s4 r1 g1 => ?_⟩
    have s24 := s23.trans s4
    refine ⟨_, rfl, _, rfl, _, rfl, _, _, rfl, rfl, p, L, .str "num", N, .num, d, by rw [← dm d]; rfl, ta.to s24 (.str _) (by omega) (by omega), hn, fun H5 x2 t2 s5 r2 g2 => ⟨_, _, rfl, ?_⟩⟩
    have s25 := s24.trans s5
    refine ⟨_, rfl, _, _, rfl, rfl, _, rfl, ?_⟩
    by_cases hw2 : ((way : Nat) : Int) < 2
    · rw [decide_eq_true hw2]
      refine iteT ⟨sz2, fun l hl => ⟨_, rfl, ?_⟩⟩
      have s6 := same_new hl (.lst [V.str "add", V.str "sub"])
      have p6 := PS_.of s25.2.2 s6
      obtain ⟨wd, tm, hwd, hrp, hgen⟩ : ∃ wd tm, ([V.str "add", V.str "sub"] : List V)[way]? = some (.str wd) ∧ Tm.d tm = .tuple [.str wd, t1.d, t2.d] ∧ Gen N f (d + 1) tm := by
        match way, hw2 with
        | 0, _ => exact ⟨"add", .add t1 t2, rfl, rfl, .add hpl g1 g2⟩
        | 1, _ => exact ⟨"sub", .sub t1 t2, rfl, rfl, .sub hpl g1 g2⟩
        | n + 2, h => exact absurd h (by omega)
      refine ⟨l, _, (way : Nat), .str wd, rfl, rfl, SqL.of upd_same, atN hwd, _, rfl, _, rfl, sz3, fun q1 hq1 => ?_⟩
      have s7 := same_new hq1 (.tup [.str wd, x1, x2])
      have s67 := p6.trans (PS_.of p6.2.2 s7)
      refine q _ _ tm (s25.trans s67) ?_ hgen
      show Rp _ _ _
      rw [hrp]
      exact rp3.mpr ⟨q1, _, _, _, rfl, upd_same, .str _, r1.mono (s5.trans s67).tk, r2.mono s67.tk⟩
    rw [decide_eq_false hw2]
    refine iteF ⟨_, rfl, rfl, _, rfl, ?_⟩
    by_cases hw3 : V.int ((way : Nat) : Int) = V.int 2
    · rw [decide_eq_true hw3]
      refine iteT ⟨_, rfl, _, rfl, _, rfl, _, _, rfl, rfl, p, L, .str "text", N, .text, d, by rw [← dm d]; rfl, ta.to s25 (.str _) (by omega) (by omega), hn, fun H6 x3 t3 s6 r3 g3 => ⟨sz2, fun q1 hq1 => ?_⟩⟩
      have s7 := same_new hq1 (.tup [.str "size", x3])
      exact q _ _ (.size t3) (s25.trans (s6.trans (PS_.of s6.2.2 s7))) (rp2.mpr ⟨q1, _, _, rfl, upd_same, .str _, r3.mono s7.tk⟩) (.size hpl g3)
    rw [decide_eq_false hw3]
    refine iteF ⟨_, rfl, p, 1, rfl, s25.2.2, by decide, fun H6 y b s6 rb hb => ⟨sz2, fun bx hbx => ?_⟩⟩
    have s7 := same_new hbx (.tup [.str "box", y])
    have p7 := PS_.of s6.2.2 s7
    have s27 := s25.trans (s6.trans p7)
    have rbox : RpF (upd H6 bx (.tup [.str "box", y])) (.ref bx) (.box b) := rpf_box.mpr ⟨bx, _, rfl, upd_same, rb.mono s7.tk⟩
    generalize upd H6 bx (.tup [.str "box", y]) = H7 at *
    have hbh : (Fm.box b).ht ≤ 2 := by simp only [Fm.ht]; omega
    refine ⟨_, rfl, _, rfl, _, rfl, _, rfl, _, _, rfl, rfl, p, L, .ref bx, N, .box b, d, by rw [← dm d]; rfl, ta.to s27 rbox (by omega) (by omega), hn, fun H8 x3 t3 s8 r3 g3 => ?_⟩
    have s28 := s27.trans s8
    refine ⟨_, rfl, _, rfl, _, rfl, _, rfl, _, _, rfl, rfl, p, L, .ref bx, N, .box b, d, by rw [← dm d]; rfl, ta.to s28 (rbox.mono s8.tk) (by omega) (by omega), hn, fun H9 x4 t4 s9 r4 g4 => ⟨_, _, rfl, ?_⟩⟩
    have s29 := s28.trans s9
    refine ⟨_, rfl, rfl, _, rfl, ?_⟩
    by_cases hw4 : V.int ((way : Nat) : Int) = V.int 3
    · rw [decide_eq_true hw4]
      refine iteT ⟨_, rfl, _, rfl, sz3, fun q1 hq1 => ?_⟩
      have s10 := same_new hq1 (.tup [.str "same", x3, x4])
      exact q _ _ (.same t3 t4) (s29.trans (PS_.of s29.2.2 s10)) (rp3.mpr ⟨q1, _, _, _, rfl, upd_same, .str _, (r3.mono s9.tk).mono s10.tk, r4.mono s10.tk⟩) (.same hpl hb g3 g4)
    · rw [decide_eq_false hw4]
      refine iteF ⟨_, rfl, _, rfl, sz3, fun q1 hq1 => ⟨sz3, fun q2 hq2 => ?_⟩⟩
      have s10 := same_new hq1 (.tup [.str "tell", .str "any", x4])
      have s11 := same_new hq2 (.tup [.str "write", x3, .ref q1])
      have sa := s10.trans s11
      exact q _ _ (.write t3 (.tell .any t4)) (s29.trans (PS_.of s29.2.2 sa)) (rp3.mpr ⟨q2, _, _, _, rfl, upd_same, .str _, (r3.mono s9.tk).mono sa.tk, rp3.mpr ⟨q1, _, _, _, rfl, s11 _ _ upd_same, .str _, .str _, r4.mono sa.tk⟩⟩) (.write hpl hb g3 g4)
  have hno : (decide (f = .any) || decide (f = .num)) = false := by
    rw [decide_eq_false (fun z => hpl (.inl z)), decide_eq_false (fun z => hpl (.inr z))]; rfl
  rw [hno]
  refine iteF ⟨_, rfl, f.d, .str "text", rv2.dp, .str _, Fm.shaped (by omega), Fm.shaped (f := .text) (by decide), _, rfl, ?_⟩
  rw [show PyData.eqv f.d (.str "text") = decide (f = .text) from Fm.eqv_d f .text]
  by_cases htx : f = .text
  · subst htx
    rw [decide_eq_true rfl]
    refine iteT ⟨_, rfl, _, rfl, sz2, fun bx hbx => ?_⟩
    have s7 := same_new hbx (.tup [.str "box", .str "text"])
    have p7 := PS_.of p2.2.2 s7
    have s27 := p2.trans p7
    have rbox : RpF (upd H2 bx (.tup [.str "box", .str "text"])) (.ref bx) (.box .text) := rpf_box.mpr ⟨bx, _, rfl, upd_same, .str _⟩
    generalize upd H2 bx (.tup [.str "box", .str "text"]) = H7 at *
    have hbh : (Fm.box .text).ht = 1 := rfl
    refine ⟨_, rfl, _, _, rfl, rfl, p, L, .ref bx, N, .box .text, d, by rw [← dm d]; rfl, ta.to s27 rbox (by omega) (by omega), hn, fun H8 x3 t3 s8 r3 g3 => ⟨sz2, fun q1 hq1 => ?_⟩⟩
    have s9 := same_new hq1 (.tup [.str "read", x3])
    exact q _ _ (.read t3) (s27.trans (s8.trans (PS_.of s8.2.2 s9))) (rp2.mpr ⟨q1, _, _, rfl, upd_same, .str _, r3.mono s9.tk⟩) (.read g3)
  rw [decide_eq_false htx]
  cases f <;> first | exact absurd (.inl rfl) hpl | exact absurd (.inr rfl) hpl | exact absurd rfl htx | skip
  · rename_i a0 b0
    obtain ⟨c, x, y, rfl, ec, rx, ry⟩ := rpf_deed.mp rv2
    simp only [Fm.ht] at hht
    refine iteF ⟨_, rfl, c, _, 0, _, rfl, rfl, SqT.of ec, at0, rfl, _, rfl, iteF ?_⟩
    refine ⟨_, rfl, _, rfl, c, _, 1, _, rfl, rfl, SqT.of ec, at1, p, x, a0, 1, rfl, p2.2.2, rx, by omega, by omega, by decide, fun H3 y1 g s3 rg hg => ?_⟩
    refine ⟨_, rfl, sz0, fun l0 hl0 => ?_⟩
    have s4 := same_new hl0 (.lst [])
    have p4 := PS_.of s3.2.2 s4
    refine ⟨p, l0, [], rfl, p4.2.2, fun z => s3.2.2.some (z ▸ hl0), upd_same, by simp, by simp, fun H5 nm s5 hnm _ => ⟨_, _, rfl, ?_⟩⟩
    have s25 := p2.trans (s3.trans (p4.trans s5))
    have ec5 := (s3.trans (p4.trans s5)).tk _ _ ec
    have hg2 := hg.2
    have rg5 := rg.mono (p4.trans s5).tk
    obtain ⟨vs, eL, rL⟩ := s25.bat ta.ne ta.at_
    have lL := bat_len rL
    have hln := ta.ln
    refine ⟨_, rfl, _, rfl, _, rfl, _, rfl, _, rfl, _, rfl, sz2, fun q1 hq1 => ⟨sz1, fun l1 hl1 => ?_⟩⟩
    have s6 := same_new hq1 (.tup [.str nm, y1])
    have s7 := same_new hl1 (.lst [.ref q1])
    refine ⟨L, l1, vs, [.ref q1], rfl, rfl, s7 _ _ (s6 _ _ eL), upd_same, by rw [sizeLine_eq]; simp only [List.length_cons, List.length_nil]; omega, fun l2 hl2 => ?_⟩
    have s8 := same_new hl2 (.lst (vs ++ [.ref q1]))
    have sa := s6.trans (s7.trans s8)
    have pa := PS_.of s5.2.2 sa
    have hN : BAt (upd (upd (upd H5 q1 (.tup [.str nm, y1])) l1 (.lst [.ref q1])) l2 (.lst (vs ++ [.ref q1]))) l2 (N ++ [(nm, g)]) := bat_snoc (rL.mono sa.tk) upd_same ((s7.trans s8) _ _ upd_same) (rg5.mono sa.tk)
    have hl2p : l2 ≠ p := fun z => (PS_.of s5.2.2 (s6.trans s7)).2.2.some (z ▸ hl2)
    have ec6 := sa _ _ ec5
    have s26 := s25.trans pa
    have rb6 := ry.mono (s3.trans (p4.trans (s5.trans pa))).tk
    refine ⟨_, rfl, c, _, 2, _, rfl, rfl, SqT.of ec6, at2, _, rfl, _, _, rfl, rfl, p, l2, y, N ++ [(nm, g)], b0, d, by rw [← dm d]; rfl, ⟨pa.2.2, hl2p, hN, ta.nm.add hnm, ?_, ?_, rb6, by omega⟩, hn, fun H8 x3 t3 s9 r3 g3 => ⟨sz4, fun q2 hq2 => ?_⟩⟩
    · intro qq hqq
      rcases List.mem_append.mp hqq with hqq | hqq
      · exact ta.lo qq hqq
      · rw [List.mem_singleton.mp hqq]
        show g.ht ≤ 5
        omega
    · rw [List.length_append, List.length_singleton]; omega
    have s10 := same_new hq2 (.tup [.str "deed", .str nm, y1, x3])
    exact q _ _ (.deed nm g t3) (s26.trans (s9.trans (PS_.of s9.2.2 s10))) (rp4.mpr ⟨q2, _, _, _, _, rfl, upd_same, .str _, .str _, (rg5.mono (pa.trans s9).tk).mono s10.tk, r3.mono s10.tk⟩) (.deed hg hnm g3)
  · rename_i a0
    obtain ⟨c, x, rfl, ec, rx⟩ := rpf_box.mp rv2
    simp only [Fm.ht] at hht
    refine iteF ⟨_, rfl, c, _, 0, _, rfl, rfl, SqT.of ec, at0, rfl, _, rfl, iteT ?_⟩
    refine ⟨_, rfl, _, rfl, c, _, 1, _, rfl, rfl, SqT.of ec, at1, p, x, a0, 1, rfl, p2.2.2, rx, by omega, by omega, by decide, fun H3 y1 g s3 rg hg => ?_⟩
    have s23 := p2.trans s3
    have hg2 := hg.2
    refine ⟨_, rfl, _, rfl, _, rfl, _, rfl, _, rfl, _, rfl, _, _, rfl, rfl, p, L, y1, N, g, d, by rw [← dm d]; rfl, ta.to s23 rg (by omega) (by omega), hn, fun H4 x3 t3 s4 r3 g3 => ⟨sz3, fun q1 hq1 => ⟨sz3, fun q2 hq2 => ⟨sz3, fun q3 hq3 => ?_⟩⟩⟩⟩
    have s5 := same_new hq1 (.tup [.str "tell", .str "any", x3])
    have s6 := same_new hq2 (.tup [.str "tell", y1, .ref q1])
    have s7 := same_new hq3 (.tup [.str "box", y1, .ref q2])
    have sa := s5.trans (s6.trans s7)
    have rg4 := rg.mono s4.tk
    exact q _ _ (.box g (.tell g (.tell .any t3))) (s23.trans (s4.trans (PS_.of s4.2.2 sa))) (rp3.mpr ⟨q3, _, _, _, rfl, upd_same, .str _, rg4.mono sa.tk, rp3.mpr ⟨q2, _, _, _, rfl, s7 _ _ upd_same, .str _, rg4.mono sa.tk, rp3.mpr ⟨q1, _, _, _, rfl, (s6.trans s7) _ _ upd_same, .str _, .str _, r3.mono sa.tk⟩⟩⟩) (.box hg g3)
end
end Wt
/-! Terms. -/
namespace Wt
open PySem PySem.Spec PyProof.Rows L2 RZ RT
theorem find_map {fs : FD} {x y : Str} {f : Fm} : ((fs.map fun p => if p.1 = y then (p.1, f) else p).find? fun p => decide (p.1 = x)).map (·.2) = if (fs.any fun p => decide (p.1 = y)) = true ∧ y = x then some f else (fs.find? fun p => decide (p.1 = x)).map (·.2) := by
  induction fs with
  | nil => simp
  | cons p fs ih =>
    rw [List.map_cons, List.find?_cons, List.find?_cons, List.any_cons]
    by_cases h1 : p.1 = y
    · rw [if_pos h1]
      by_cases h2 : p.1 = x
      · have h3 : y = x := h1.symm.trans h2
        simp [h1, h2, h3]
      · have h3 : ¬ y = x := fun e => h2 (h1.trans e)
        simp only [decide_eq_false h2, h3, and_false, if_false] at ih ⊢
        exact ih
    · rw [if_neg h1]
      by_cases h2 : p.1 = x
      · have h3 : ¬ y = x := fun e => h1 (h2.trans e.symm)
        simp [h2, h3]
      · simp only [decide_eq_false h2, decide_eq_false h1, Bool.false_or]
        exact ih
theorem lookP_put (fs : FD) (x y : Str) (f : Fm) : lookP (putP fs y f) x = if y = x then some f else lookP fs x := by
  unfold putP
  by_cases h : (fs.any fun p => decide (p.1 = y)) = true
  · rw [if_pos h]
    show ((fs.map fun p => if p.1 = y then (p.1, f) else p).find? fun p => decide (p.1 = x)).map (·.2) = _
    rw [find_map]
    simp only [h, true_and]
    rfl
  · rw [if_neg h]
    unfold lookP
    rw [List.find?_append]
    by_cases e : y = x
    · subst e
      have no : (fs.find? fun p => decide (p.1 = y)) = none := by
        rw [List.find?_eq_none]
        intro q hq hc
        exact h (List.any_eq_true.mpr ⟨q, hq, hc⟩)
      rw [no]
      simp
    · simp [e]
theorem merge_snoc (fs N : FD) (x : Str) (f : Fm) : mergeP fs (N ++ [(x, f)]) = putP (mergeP fs N) x f := by
  unfold mergeP
  rw [List.foldl_append]
  rfl
theorem lookP_merge (N : Bd) (x : Str) : lookP (mergeP [] N) x = lookB N x := by
  have key : ∀ R : Bd, lookP (mergeP [] R.reverse) x = lookB R.reverse x := by
    intro R
    induction R with
    | nil => rfl
    | cons p R ih =>
      rw [List.reverse_cons, merge_snoc, lookP_put, lookB_snoc, ih]
  have := key N.reverse
  rw [List.reverse_reverse] at this
  exact this
theorem DR.keys {H : Hp} {kvs : List (Key × V)} {fs : FD} (h : DR H kvs fs) : kvs.map (·.1) = (fs.map (·.1)).map Sum.inr := by
  induction h with
  | nil => rfl
  | cons _ _ ih => rw [List.map_cons, List.map_cons, List.map_cons, ih]
theorem lookP_of_mem {fs : FD} {x : Str} (h : x ∈ fs.map (·.1)) : ∃ f, lookP fs x = some f := by
  obtain ⟨q, hq, rfl⟩ := List.mem_map.mp h
  unfold lookP
  cases e : fs.find? fun p => decide (p.1 = q.1) with
  | some r => exact ⟨r.2, rfl⟩
  | none =>
    rw [List.find?_eq_none] at e
    exact absurd (decide_eq_true rfl) (e q hq)
section
variable {P : Program} {w : World} {K : PySem.W.Frag} {mg : Str → Option Value} {base : Heap}
theorem sc_law_term : FnScope ["_law_pot_here", "_law_names", "_law_aim", "_law_deep", "_law_seen", "_law_some", "_law_way", "_law_form_here", "_law_ends", "_law_given", "_law_name_here", "_law_body", "_law_deed", "_law_k"] ["_law_pot_here", "_law_names", "_law_aim", "_law_deep"] (defScope s_law_term) := ⟨rfl, rfl, rfl, by decide +kernel, rfl, by decide +kernel, by decide +kernel⟩
theorem term_zero (T : Facts w K mg) : Cl P w K mg base CX0 30 "_law_term" (spTermG 0) := by
  obtain ⟨fd, F⟩ := T.f_law_term
  exact ⟨_, fd, ["_law_pot_here", "_law_names", "_law_aim", "_law_deep"], T.g_law_term, ⟨fun vs H Q E ⟨_, _, _, _, _, _, _, _, h, _⟩ => absurd h (Nat.not_lt_zero _), fun A outer s H args us vs Q E _ _ _ _ h => by obtain ⟨_, _, _, _, _, _, _, _, h, _⟩ := h; exact absurd h (Nat.not_lt_zero _)⟩, F.kp, F.bindsN fun _ _ _ _ _ _ us hl => match us, hl with | [_, _, _, _], _ => rfl⟩
set_option maxHeartbeats 16000000 in
theorem term_step (T : Facts w K mg) (n : Nat) (c_law_term : Cl P w K mg base CX0 (30 + 2 * n) "_law_term" (spTermG n)) : Cl P w K mg base CX0 (30 + 2 * (n + 1)) "_law_term" (spTermG (n + 1)) := by
  have c_law_by_head := ok__law_by_head T n c_law_term
  have c_law_digit := ok__law_digit (P := P) (base := base) T
  have c_law_form := ok__law_form (P := P) (base := base) T 3
  have c_law_near := ok__law_near (P := P) (base := base) T 10
  have c_law_name := ok__law_name (P := P) (base := base) T
  have c_law_plain := ok__law_plain (P := P) (base := base) T 10
  have c_law_is_near := ok__law_is_near (P := P) (base := base) T 10
  obtain ⟨fd, F⟩ := T.f_law_term
  refine ⟨_, fd, ["_law_pot_here", "_law_names", "_law_aim", "_law_deep"], T.g_law_term, ?_, F.kp, F.bindsN fun _ _ _ _ _ _ us hl => match us, hl with | [_, _, _, _], _ => rfl⟩
  rw [show 30 + 2 * (n + 1) = (31 + 2 * n) + 1 by omega]
  refine F.ok sc_law_term (fun vs H Q E h => ?_) (fun cdv A outer s H vs Q E hr h => ?_)
  · obtain ⟨p, L, v, N, aim, d, rfl, _⟩ := h
    rfl
  obtain ⟨p, L, v, N, f, d, rfl, ta, hn, q⟩ := h
  have hu64 := hr.units
  have hu := r1 hr
  have hht := ta.ht
  have h5 : f.ht ≤ 5 := by omega
  refine ⟨_, PSs.nox (pss_cons (ps_set (i := 4) sc_law_term.nd rfl (Or.inr rfl) (pe_callTy (call_dictP rfl) (by rfl) T.z_dict (by decide +kernel) (pa_cons (pv 1) pa_nil)))
    (pss_cons (ps_setLc (i := 5) (own := [("_law_name_here", 10)]) (g := (gName 10)) (tt := (tB (tCall (spNear 10) [] E0 (tCons (tDGet (tVar 4) (tVar 10)) (tCons (tVar 2) tNil))))) rfl sc_law_term.nd rfl rfl (sw_true rfl rfl rfl (by decide +kernel)) (pi_list (pe_callB (call_sortedD rfl) (by rfl) T.z_sorted (by decide +kernel) (pa_cons (pv 4) pa_nil))) (blkOk_by (own := [("_law_name_here", 10)]) (N := ["_law_pot_here", "_law_names", "_law_aim", "_law_deep", "_law_seen", "_law_some", "_law_way", "_law_form_here", "_law_ends", "_law_given", "_law_name_here", "_law_body", "_law_deed", "_law_k"]) (sc := defScope s_law_term) (by decide +kernel)) (fun _ _ _ _ _ => (pg_name (i := 10) sc_law_term.nd rfl (Or.inl rfl))) (fun _ _ _ _ _ => (pts_one (pt_val (pe_cl c_law_is_near hr (by omega) pass0 (pa_cons (pe_dget hu (pv 4) (pv 10) (fun _ _ => rfl)) (pa_cons (pv 2) pa_nil)))))) (fun _ _ _ _ _ => (pv 10)))
    (pss_cons (ps_set (i := 6) sc_law_term.nd rfl (Or.inl rfl) (pe_cl c_law_digit hr (by omega) pass0 (pa_cons (pv 0) (pa_cons pe_int pa_nil))))
    (pss_mid (ps_if (PW.pt (pw_and (pt_cmpR (op_neD hu64) (pv 5) (pe_lst pa_nil) (nomark _)) (pw_and1 (PW.pt (pw_or (pt_cmpR op_lt (pv 6) pe_int (nomark _)) (pw_or1 (pt_cmpR op_lt (pv 3) pe_int (nomark _)))))))) (pss_one (ps_ret (pe_tup (pa_cons pe_str (pa_cons (pe_ix ix_list (pv 5) (pe_cl c_law_digit hr (by omega) pass0 (pa_cons (pv 0) (pa_cons (pe_callB call_len_seq (by rfl) T.z_len (by decide +kernel) (pa_cons (pv 5) pa_nil)) pa_nil))) (fun _ _ => rfl)) pa_nil))))) pss_nil)
    (pss_mid (ps_if (PW.pt (pw_or (pt_cmpR op_lt (pv 3) pe_int (nomark _)) (pw_or1 (pt_cmpR op_eq (pv 6) pe_int (nomark _))))) (pss_one (ps_ret (pe_cl c_law_plain hr (by omega) pass0 (pa_cons (pv 0) (pa_cons (pv 2) pa_nil))))) pss_nil)
    (pss_cons (ps_set (i := 7) sc_law_term.nd rfl (Or.inl rfl) (pe_cl c_law_near hr (by omega) pass0 (pa_cons (pv 0) (pa_cons (pv 2) (pa_cons pe_int pa_nil)))))
    (pss_cons (ps_if (pt_cmpR op_eq (pv 6) pe_int (nomark _)) (pss_one (ps_ret (pe_tup (pa_cons pe_str (pa_cons (pv 7) (pa_cons (pe_cl c_law_term hr (by omega) pass0 (pa_cons (pv 0) (pa_cons (pv 1) (pa_cons (pv 7) (pa_cons (pe_op op_sub (pv 3) pe_int) pa_nil))))) pa_nil)))))) pss_nil)
    (pss_cons (ps_if (pt_cmpR op_eq (pv 6) pe_int (nomark _)) (pss_cons (ps_setLc (i := 8) (own := [("_law_k", 13)]) (g := (gName 13)) (tt := tYes) rfl sc_law_term.nd rfl rfl (sw_true rfl rfl rfl (by decide +kernel)) (pi_range1 rfl T.z_range (pa_cons pe_int pa_nil)) (blkOk_by (own := [("_law_k", 13)]) (N := ["_law_pot_here", "_law_names", "_law_aim", "_law_deep", "_law_seen", "_law_some", "_law_way", "_law_form_here", "_law_ends", "_law_given", "_law_name_here", "_law_body", "_law_deed", "_law_k"]) (sc := defScope s_law_term) (by decide +kernel)) (fun _ _ _ _ _ => (pg_name (i := 13) sc_law_term.nd rfl (Or.inl rfl))) (fun _ _ _ _ _ => pts_nil) (fun _ _ _ _ _ => (pe_tup (pa_cons pe_str (pa_cons pe_str (pa_cons (pe_cl c_law_term hr (by omega) pass0 (pa_cons (pv 0) (pa_cons (pv 1) (pa_cons (pv 2) (pa_cons (pe_op op_sub (pv 3) pe_int) pa_nil))))) pa_nil))))))
    (pss_one (ps_ret (pe_tup (pa_cons pe_str (pa_cons (pe_cl c_law_term hr (by omega) pass0 (pa_cons (pv 0) (pa_cons (pv 1) (pa_cons pe_str (pa_cons (pe_op op_sub (pv 3) pe_int) pa_nil))))) (pa_cons (pe_ix ix_list (pv 8) pe_int (fun _ _ => rfl)) (pa_cons (pe_ix ix_list (pv 8) pe_int (fun _ _ => rfl)) pa_nil)))))))) pss_nil)
    (pss_cons (ps_if (pt_cmpR op_eq (pv 6) pe_int (nomark _)) (pss_cons (ps_par (i := 9) (j := 10) (by rfl) sc_law_term.nd rfl rfl (by decide) rfl rfl (pa_cons (pe_cl c_law_form hr (by omega) pass0 (pa_cons (pv 0) (pa_cons pe_int pa_nil))) (pa_cons (pe_cl c_law_name hr (by omega) pass0 (pa_cons (pv 0) (pa_cons (pe_lst pa_nil) pa_nil))) pa_nil)) (by rfl))
    (pss_cons (ps_set (i := 11) sc_law_term.nd rfl (Or.inl rfl) (pe_cl c_law_term hr (by omega) pass0 (pa_cons (pv 0) (pa_cons (pe_op op_cat (pv 1) (pe_lst (pa_cons (pe_tup (pa_cons (pv 10) (pa_cons (pv 9) pa_nil))) pa_nil))) (pa_cons (pv 2) (pa_cons (pe_op op_sub (pv 3) pe_int) pa_nil))))))
    (pss_one (ps_ret (pe_tup (pa_cons pe_str (pa_cons (pv 10) (pa_cons (pe_tup (pa_cons pe_str (pa_cons (pv 9) (pa_cons (pe_cl c_law_term hr (by omega) pass0 (pa_cons (pv 0) (pa_cons (pv 1) (pa_cons (pv 9) (pa_cons (pe_op op_sub (pv 3) pe_int) pa_nil))))) pa_nil)))) (pa_cons (pv 11) pa_nil))))))))) pss_nil)
    (pss_cons (ps_if (PW.pt (pw_and (pt_cmpR op_eq (pv 6) pe_int (nomark _)) (pw_and1 (pt_cmpR op_eq (pe_cl c_law_digit hr (by omega) pass0 (pa_cons (pv 0) (pa_cons pe_int pa_nil))) pe_int (nomark _))))) (pss_cons (ps_set (i := 9) sc_law_term.nd rfl (Or.inl rfl) (pe_cl c_law_form hr (by omega) pass0 (pa_cons (pv 0) (pa_cons pe_int pa_nil))))
    (pss_cons (ps_set (i := 12) sc_law_term.nd rfl (Or.inl rfl) (pe_cl c_law_term hr (by omega) pass0 (pa_cons (pv 0) (pa_cons (pv 1) (pa_cons (pe_tup (pa_cons pe_str (pa_cons (pv 9) (pa_cons (pv 2) pa_nil)))) (pa_cons (pe_op op_sub (pv 3) pe_int) pa_nil))))))
    (pss_one (ps_ret (pe_tup (pa_cons pe_str (pa_cons (pe_tup (pa_cons pe_str (pa_cons (pe_tup (pa_cons pe_str (pa_cons (pv 9) (pa_cons (pv 7) pa_nil)))) (pa_cons (pe_tup (pa_cons pe_str (pa_cons pe_str (pa_cons (pv 12) pa_nil)))) pa_nil)))) (pa_cons (pe_cl c_law_term hr (by omega) pass0 (pa_cons (pv 0) (pa_cons (pv 1) (pa_cons (pv 9) (pa_cons (pe_op op_sub (pv 3) pe_int) pa_nil))))) pa_nil)))))))) pss_nil)
    (pss_one (ps_ret (pe_cl c_law_by_head hr (by omega) pass0 (pa_cons (pv 0) (pa_cons (pv 1) (pa_cons (pv 2) (pa_cons (pv 3) pa_nil))))))))))))))))), ?_⟩
  obtain ⟨vs, eL, rL⟩ := ta.at_
  obtain ⟨ps, kvs, rfl, hpz, hdr⟩ := pairs_of (K := K) rL
  refine ⟨_, rfl, L, ps, kvs, rfl, SqL.of eL, hpz, fun D hD => ?_⟩
  have s1 := same_new hD (.dK (mergeK [] kvs))
  have p1 := PS_.of ta.pot s1
  have dr1 : DR (upd H D (.dK (mergeK [] kvs))) (mergeK [] kvs) (mergeP [] N) := DR.merge (hdr.mono s1.tk) .nil
  have eD : (upd H D (.dK (mergeK [] kvs))) D = some (.dK (mergeK [] kvs)) := upd_same
  have rv1 := ta.rp.mono s1.tk
  have hml := mergeP_len N []
  have hln := ta.ln
  generalize upd H D (.dK (mergeK [] kvs)) = H1 at *
  generalize mergeK [] kvs = kv at *
  refine ⟨_, rfl, D, kv, (mergeP [] N).map (·.1), rfl, .inl eD, dr1.keys, by rw [List.length_map]; simp only [List.length_nil] at hml; omega, fun ys l hperm _ hl => ⟨l, rfl, ⟨_, SqL.of upd_same⟩, fun D2 hD2 => ?_⟩⟩
  have s2 := same_new hl (.lst (ys.map V.str))
  have hDp : D2 ≠ p := fun z => (PS_.of p1.2.2 s2).2.2.some (z ▸ hD2)
  have el : (upd H1 l (.lst (ys.map V.str))) l = some (.lst (ys.map V.str)) := upd_same
  generalize upd H1 l (.lst (ys.map V.str)) = H2 at *
  have hyl : ys.length ≤ 40 := by rw [hperm.length_eq, List.length_map]; simp only [List.length_nil] at hml; omega
  have eD2 := s2 _ _ eD
  have dr2 := dr1.mono s2.tk
  have rv2 := rv1.mono s2.tk
  refine lc_list (xs := ys.map V.str) (fun i H' => Same H2 H' ∧ ∃ zs : List Str, H' D2 = some (.lst (zs.map V.str)) ∧ zs.length ≤ i ∧ ∀ z ∈ zs, NameOk z ∧ ∃ F, lookB N z = some F ∧ Fm.near F f = true) ⟨same_new hD2 (.lst []), [], upd_same, Nat.le_refl _, by simp⟩ (fun i H' _ q => SqL.of (q.1 _ _ el)) (fun i x H9 hx q9 => ?_) (fun H3 q3 => ?_)
  · rw [List.getElem?_map] at hx
    obtain ⟨y, hy, rfl⟩ := Option.map_eq_some_iff.mp hx
    obtain ⟨s9, zs, ez, hz, hzz⟩ := q9
    have hi40 := (List.getElem?_eq_some_iff.mp hy).1
    have hym := hperm.mem_iff.mp (List.mem_of_getElem? hy)
    obtain ⟨F1, hF1⟩ := lookP_of_mem hym
    have hlk := dr2.look y
    rw [hF1] at hlk
    obtain ⟨u, hu1, ru⟩ := hlk
    rw [lookP_merge] at hF1
    have hyN := lookB_mem hF1
    generalize hτ : wipe _ (List.map _ _) = τ
    obtain rfl : τ = [some (.ref p), some (.ref L), some v, some (.int (d : Nat)), some (.ref D), none, none, none, none, none, none, none, none, none] := hτ.symm.trans rfl
    have dg : DGet H9 D (.str y) (some u) := by
      have := DGet.k (k := .inr y) (s9 _ _ eD2)
      rw [hu1] at this
      exact this
    refine ⟨rfl, _, rfl, _, rfl, D, u, rfl, dg, _, rfl, u, v, F1, f, rfl, ru.mono s9.tk, rv2.mono s9.tk, by have := ta.lo _ hyN; simp only at this; omega, by have := ta.lo _ hyN; simp only at this; omega, by omega, fun H10 s10 => ⟨_, rfl, ?_⟩⟩
    have s910 := s9.trans s10
    cases hnr : Fm.near F1 f with
    | false => exact iteF ⟨s910, zs, s10 _ _ ez, by omega, hzz⟩
    | true =>
      refine iteT ⟨_, rfl, zs.map V.str, s10 _ _ ez, by rw [List.length_map, sizeLine_eq]; omega, s910.upd2 hD2, zs ++ [y], ?_, by rw [List.length_append, List.length_singleton]; omega, fun z hz => ?_⟩
      · rw [upd_same, List.map_append]; rfl
      · rcases List.mem_append.mp hz with hz | hz
        · exact hzz z hz
        · rw [List.mem_singleton.mp hz]
          exact ⟨ta.nm _ hyN, F1, hF1, hnr⟩
  obtain ⟨s3, zs, ez, hz, hzz⟩ := q3
  rw [List.length_map] at hz
  have p3 : PS_ p H H3 := p1.trans (PS_.of p1.2.2 (s2.trans s3))
  clear hpz hdr dr1 dr2 eD eD2 el rv1 rv2 s1 s2 s3
  refine ⟨_, rfl, p, 8, rfl, p3.2.2, by decide, by decide, fun H4 way s4 hway => ?_⟩
  have p4 := p3.trans s4
  have ez4 := s4.1 _ _ hDp ez
  refine ⟨fun σ' H' => σ' = [some (.ref p), some (.ref L), some v, some (.int (d : Nat)), some (.ref D), some (.ref D2), some (.int (way : Nat)), none, none, none, none, none, none, none] ∧ PS_ p H H', ?_, ?_⟩
  · refine ⟨_, rfl, sz0, fun b hb => ?_⟩
    have s5 := same_new hb (.lst [])
    have p5 := p4.trans (PS_.of p4.2.2 s5)
    have ez5 := s5 _ _ ez4
    refine ne_nil ez5 (fun z h => (hzz z h).1) upd_same ⟨_, rfl, ?_⟩
    by_cases h0 : zs = []
    · rw [decide_eq_true h0]
      exact iteF (iteF ⟨rfl, p5⟩)
    rw [decide_eq_false h0]
    have hpos : 0 < zs.length := by cases zs with
      | nil => exact absurd rfl h0
      | cons a b => simp
    refine iteT ⟨_, rfl, _, _, rfl, rfl, _, rfl, ?_⟩
    by_cases h3 : ((way : Nat) : Int) < 3
    · rw [decide_eq_true h3]
      refine iteT (iteT ?_)
      refine ⟨_, rfl, _, rfl, _, rfl, D2, _, rfl, .inl (SqL.of ez5), p, zs.length, by rw [List.length_map]; rfl, p5.2.2, hpos, by omega, fun H6 e s6 he => ?_⟩
      obtain ⟨x, hx⟩ : ∃ x, zs[e]? = some x := ⟨zs[e], List.getElem?_eq_getElem he⟩
      obtain ⟨hx1, F, hx2, hx3⟩ := hzz x (List.mem_of_getElem? hx)
      refine ⟨D2, _, (e : Nat), .str x, rfl, rfl, SqL.of (s6.1 _ _ hDp ez5), atN (by rw [List.getElem?_map, hx]; rfl), sz2, fun q1 hq1 => ?_⟩
      have s7 := same_new hq1 (.tup [.str "name", .str x])
      exact q _ _ (.name x) (p5.trans (s6.trans (PS_.of s6.2.2 s7))) (rp2.mpr ⟨q1, _, _, rfl, upd_same, .str _, .str _⟩) (.name hx2 hx3)
    rw [decide_eq_false h3]
    refine iteF ⟨_, rfl, _, _, rfl, rfl, _, rfl, ?_⟩
    by_cases h1 : ((d : Nat) : Int) < 1
    · rw [decide_eq_true h1]
      refine iteT ?_
      refine ⟨_, rfl, _, rfl, _, rfl, D2, _, rfl, .inl (SqL.of ez5), p, zs.length, by rw [List.length_map]; rfl, p5.2.2, hpos, by omega, fun H6 e s6 he => ?_⟩
      obtain ⟨x, hx⟩ : ∃ x, zs[e]? = some x := ⟨zs[e], List.getElem?_eq_getElem he⟩
      obtain ⟨hx1, F, hx2, hx3⟩ := hzz x (List.mem_of_getElem? hx)
      refine ⟨D2, _, (e : Nat), .str x, rfl, rfl, SqL.of (s6.1 _ _ hDp ez5), atN (by rw [List.getElem?_map, hx]; rfl), sz2, fun q1 hq1 => ?_⟩
      have s7 := same_new hq1 (.tup [.str "name", .str x])
      exact q _ _ (.name x) (p5.trans (s6.trans (PS_.of s6.2.2 s7))) (rp2.mpr ⟨q1, _, _, rfl, upd_same, .str _, .str _⟩) (.name hx2 hx3)
    · rw [decide_eq_false h1]
      exact iteF ⟨rfl, p5⟩
  rintro σ1 H5 ⟨rfl, p5⟩
  refine ⟨fun σ' H' => σ' = [some (.ref p), some (.ref L), some v, some (.int (d : Nat)), some (.ref D), some (.ref D2), some (.int (way : Nat)), none, none, none, none, none, none, none] ∧ PS_ p H H' ∧ 1 ≤ d, ?_, ?_⟩
  · have rv5 := ta.rp.mono p5.tk
    refine ⟨_, rfl, _, _, rfl, rfl, _, rfl, ?_⟩
    by_cases h1 : ((d : Nat) : Int) < 1
    · rw [decide_eq_true h1]
      exact iteT (iteT ⟨_, rfl, _, rfl, p, v, f, rfl, p5.2.2, rv5, by omega, by omega, fun H7 x t s7 r7 g7 => q _ _ t (p5.trans s7) r7 (.plain g7)⟩)
    rw [decide_eq_false h1]
    refine iteF ⟨_, rfl, rfl, _, rfl, ?_⟩
    by_cases h3 : V.int (way : Nat) = V.int 3
    · rw [decide_eq_true h3]
      exact iteT ⟨_, rfl, _, rfl, p, v, f, rfl, p5.2.2, rv5, by omega, by omega, fun H7 x t s7 r7 g7 => q _ _ t (p5.trans s7) r7 (.plain g7)⟩
    · rw [decide_eq_false h3]
      exact iteF ⟨rfl, p5, by omega⟩
  rintro σ2 H6 ⟨rfl, p6, hd1⟩
  obtain ⟨d, rfl⟩ : ∃ d', d = d' + 1 := ⟨d - 1, by omega⟩
  clear p3 p4 p5 ez ez4 hzz hz hDp s4 hd1
  have e0 : (Fm.num).ht = 0 := rfl
  have rv6 := ta.rp.mono p6.tk
  refine ⟨_, rfl, _, rfl, p, v, f, 2, rfl, p6.2.2, rv6, by omega, by omega, by decide, fun H7 y g s7 rg hg => ?_⟩
  have hg2 := hg.2
  have p7 := p6.trans s7
  have rv7 := rv6.mono s7.tk
  refine ⟨_, rfl, rfl, _, rfl, ?_⟩
  by_cases w4 : V.int (way : Nat) = V.int 4
  · rw [decide_eq_true w4]
    refine iteT ⟨_, rfl, _, rfl, _, rfl, _, rfl, _, rfl, _, _, rfl, rfl, p, L, y, N, g, d, by rw [← dm d]; rfl, ta.to p7 rg (by omega) (by omega), by omega, fun H8 x t s8 r8 g8 => ⟨sz3, fun q1 hq1 => ?_⟩⟩
    have s9 := same_new hq1 (.tup [.str "tell", y, x])
    exact q _ _ (.tell g t) (p7.trans (s8.trans (PS_.of s8.2.2 s9))) (rp3.mpr ⟨q1, _, _, _, rfl, upd_same, .str _, (rg.mono s8.tk).mono s9.tk, r8.mono s9.tk⟩) (.tell hg g8)
  rw [decide_eq_false w4]
  refine iteF ⟨_, rfl, rfl, _, rfl, ?_⟩
  by_cases w5 : V.int (way : Nat) = V.int 5
  · rw [decide_eq_true w5]
    refine iteT ⟨2, rfl, by decide, by decide, fun D3 hD3 => ?_⟩
    refine lc_range_rel (rel_pot p) (fun _ y H => ∃ t, RpT H y (.tell .any t) ∧ Gen N f d t) (fun _ y H H' k r => by
      obtain ⟨t, r1, r2⟩ := r
      exact ⟨t, r1.mono k, r2⟩) hD3 (PS_.refl p7.2.2) (by decide) (fun i H8 Nx hi s8 nx => ?_) (fun H' s => PS_.refl s.2.2) (fun H8 es s8 eD3 hel hes => ?_)
    · generalize hτ : wipe _ (List.map _ _) = τ
      obtain rfl : τ = [some (.ref p), some (.ref L), some v, some (.int ((d + 1 : Nat) : Int)), some (.ref D), some (.ref D2), some (.int (way : Nat)), some y, none, none, none, none, none, none] := hτ.symm.trans rfl
      have p8 := p7.trans s8
      refine ⟨rfl, _, rfl, _, rfl, _, rfl, _, rfl, _, _, rfl, rfl, p, L, v, N, f, d, by rw [← dm d]; rfl, ta.to p8 (ta.rp.mono p8.tk) (by omega) (by omega), by omega, fun H9 x t s9 r9 g9 => ⟨sz3, fun q1 hq1 => ?_⟩⟩
      have s10 := same_new hq1 (.tup [.str "tell", .str "any", x])
      exact nx _ _ (s9.trans (PS_.of s9.2.2 s10)) ⟨t, rp3.mpr ⟨q1, _, _, _, rfl, upd_same, .str _, .str _, r9.mono s10.tk⟩, g9⟩
    match es, (hel : es.length = 2) with
    | [x1, x2], _ =>
      obtain ⟨t1, r1, g1⟩ := hes 0 x1 rfl
      obtain ⟨t2, r2, g2⟩ := hes 1 x2 rfl
      have p8 := p7.trans s8
      have hD3p : D3 ≠ p := fun z => p7.2.2.some (z ▸ hD3)
      refine ⟨_, rfl, _, rfl, _, rfl, _, _, rfl, rfl, p, L, .str "num", N, .num, d, by rw [← dm d]; rfl, ta.to p8 (.str _) (by omega) (by omega), by omega, fun H9 x t s9 r9 g9 => ?_⟩
      have eD9 := s9.1 _ _ hD3p eD3
      refine ⟨_, rfl, D3, _, 0, x1, rfl, rfl, SqL.of eD9, at0, _, rfl, D3, _, 1, x2, rfl, rfl, SqL.of eD9, at1, sz4, fun q1 hq1 => ?_⟩
      have s10 := same_new hq1 (.tup [.str "if", x, x1, x2])
      exact q _ _ (.ifT t (.tell .any t1) (.tell .any t2)) (p8.trans (s9.trans (PS_.of s9.2.2 s10))) (rp4.mpr ⟨q1, _, _, _, _, rfl, upd_same, .str _, r9.mono s10.tk, (r1.mono s9.tk).mono s10.tk, (r2.mono s9.tk).mono s10.tk⟩) (.ifT g9 g1 g2)
  rw [decide_eq_false w5]
  refine iteF ⟨_, rfl, rfl, _, rfl, ?_⟩
  by_cases w6 : V.int (way : Nat) = V.int 6
  · rw [decide_eq_true w6]
    refine iteT ⟨_, rfl, p, 1, rfl, p7.2.2, by decide, fun H8 y1 g1 s8 rg1 hg1 => ⟨_, rfl, sz0, fun l0 hl0 => ?_⟩⟩
    have s9 := same_new hl0 (.lst [])
    have p9 := PS_.of s8.2.2 s9
    refine ⟨p, l0, [], rfl, p9.2.2, fun z => s8.2.2.some (z ▸ hl0), upd_same, by simp, by simp, fun H10 nm s10 hnm _ => ⟨_, _, rfl, ?_⟩⟩
    have p10 := p7.trans (s8.trans (p9.trans s10))
    have rg10 := rg1.mono (p9.trans s10).tk
    obtain ⟨vs2, eL2, rL2⟩ := p10.bat ta.ne ta.at_
    have lL := bat_len rL2
    refine ⟨_, rfl, _, rfl, _, rfl, _, rfl, sz2, fun q1 hq1 => ⟨sz1, fun l1 hl1 => ?_⟩⟩
    have s11 := same_new hq1 (.tup [.str nm, y1])
    have s12 := same_new hl1 (.lst [.ref q1])
    refine ⟨L, l1, vs2, [.ref q1], rfl, rfl, s12 _ _ (s11 _ _ eL2), upd_same, by rw [sizeLine_eq]; simp only [List.length_cons, List.length_nil]; omega, fun l2 hl2 => ?_⟩
    have s13 := same_new hl2 (.lst (vs2 ++ [.ref q1]))
    have sa := s11.trans (s12.trans s13)
    have pa := PS_.of s10.2.2 sa
    have hN : BAt (upd (upd (upd H10 q1 (.tup [.str nm, y1])) l1 (.lst [.ref q1])) l2 (.lst (vs2 ++ [.ref q1]))) l2 (N ++ [(nm, g1)]) := bat_snoc (rL2.mono sa.tk) upd_same ((s12.trans s13) _ _ upd_same) (rg10.mono sa.tk)
    have hl2p : l2 ≠ p := fun z => (PS_.of s10.2.2 (s11.trans s12)).2.2.some (z ▸ hl2)
    have p11 := p10.trans pa
    refine ⟨_, rfl, _, rfl, _, _, rfl, rfl, p, l2, v, N ++ [(nm, g1)], f, d, by rw [← dm d]; rfl, ⟨pa.2.2, hl2p, hN, ta.nm.add hnm, ?_, ?_, ta.rp.mono p11.tk, by omega⟩, by omega, fun H12 x t s14 r14 g14 => ?_⟩
    · intro qq hqq
      rcases List.mem_append.mp hqq with hqq | hqq
      · exact ta.lo qq hqq
      · rw [List.mem_singleton.mp hqq]
        show g1.ht ≤ 5
        omega
    · rw [List.length_append, List.length_singleton]; omega
    have p12 := p11.trans s14
    have rg12 := rg10.mono (pa.trans s14).tk
    refine ⟨_, rfl, _, rfl, _, rfl, _, rfl, _, rfl, _, rfl, _, _, rfl, rfl, p, L, y1, N, g1, d, by rw [← dm d]; rfl, ta.to p12 rg12 (by omega) (by omega), by omega, fun H13 x2 t2 s15 r15 g15 => ⟨sz3, fun q2 hq2 => ⟨_, rfl, sz4, fun q3 hq3 => ?_⟩⟩⟩
    have s16 := same_new hq2 (.tup [.str "tell", y1, x2])
    have s17 := same_new hq3 (.tup [.str "let", .str nm, .ref q2, x])
    have sb := s16.trans s17
    exact q _ _ (.letT nm (.tell g1 t2) t) (p12.trans (s15.trans (PS_.of s15.2.2 sb))) (rp4.mpr ⟨q3, _, _, _, _, rfl, upd_same, .str _, .str _, rp3.mpr ⟨q2, _, _, _, rfl, s17 _ _ upd_same, .str _, (rg12.mono s15.tk).mono sb.tk, r15.mono sb.tk⟩, (r14.mono s15.tk).mono sb.tk⟩) (.letT hnm hg1 g15 g14)
  rw [decide_eq_false w6]
  refine iteF ⟨_, rfl, rfl, _, rfl, ?_⟩
  have last : ∀ H8, PS_ p H H8 → tRet (tCall (spByHead n) [] E0 (tCons (tVar 0) (tCons (tVar 1) (tCons (tVar 2) (tCons (tVar 3) tNil))))) { nx := fun x H' => Q V.non H', rt := Q } [some (.ref p), some (.ref L), some v, some (.int ((d + 1 : Nat) : Int)), some (.ref D), some (.ref D2), some (.int (way : Nat)), some y, none, none, none, none, none, none] H8 := fun H8 p8 =>
    ⟨_, rfl, _, rfl, _, rfl, _, rfl, p, L, v, N, f, d, rfl, ta.to p8 (ta.rp.mono p8.tk) hht (Nat.le_refl _), by omega, fun H9 x t s9 r9 g9 => q _ _ t (p8.trans s9) r9 g9⟩
  by_cases w7 : V.int (way : Nat) = V.int 7
  · rw [decide_eq_true w7]
    refine iteT ⟨_, rfl, p, 2, rfl, p7.2.2, by decide, by decide, fun H8 e s8 he => ⟨rfl, _, rfl, ?_⟩⟩
    have p8 := p7.trans s8
    by_cases h0 : V.int (e : Nat) = V.int 0
    · rw [decide_eq_true h0]
      refine iteT ⟨_, rfl, p, 1, rfl, p8.2.2, by decide, fun H9 y1 g1 s9 rg1 hg1 => ?_⟩
      have p9 := p8.trans s9
      refine ⟨_, rfl, _, rfl, _, rfl, _, rfl, sz3, fun q1 hq1 => ?_⟩
      have s10 := same_new hq1 (.tup [.str "deed", y1, v])
      have p10 := PS_.of p9.2.2 s10
      have p910 := p9.trans p10
      have rdd : RpF (upd H9 q1 (.tup [.str "deed", y1, v])) (.ref q1) (.deed g1 f) := rpf_deed.mpr ⟨q1, _, _, rfl, upd_same, rg1.mono s10.tk, ta.rp.mono p910.tk⟩
      have hdh : (Fm.deed g1 f).ht ≤ 1 + max 1 f.ht := by simp only [Fm.ht]; omega
      generalize upd H9 q1 (.tup [.str "deed", y1, v]) = H10 at *
      refine ⟨_, rfl, _, _, rfl, rfl, p, L, .ref q1, N, .deed g1 f, d, by rw [← dm d]; rfl, ta.to p910 rdd (by omega) (by omega), by omega, fun H11 x t s11 r11 g11 => ?_⟩
      have p11 := p910.trans s11
      refine ⟨_, rfl, _, rfl, sz3, fun q2 hq2 => ⟨_, rfl, sz3, fun q3 hq3 => ⟨sz3, fun q4 hq4 => ?_⟩⟩⟩
      have s12 := same_new hq2 (.tup [.str "deed", y1, y])
      have s13 := same_new hq3 (.tup [.str "tell", .str "any", x])
      have s14 := same_new hq4 (.tup [.str "tell", .ref q2, .ref q3])
      have sa := s12.trans (s13.trans s14)
      have pa := PS_.of p11.2.2 sa
      have rg11 := rg1.mono (p10.trans s11).tk
      have ry11 := rg.mono (s8.trans (s9.trans (p10.trans s11))).tk
      have rt1 : RpT (upd (upd (upd H11 q2 (.tup [.str "deed", y1, y])) q3 (.tup [.str "tell", .str "any", x])) q4 (.tup [.str "tell", .ref q2, .ref q3])) (.ref q4) (.tell (.deed g1 g) (.tell .any t)) :=
        rp3.mpr ⟨q4, _, _, _, rfl, upd_same, .str _, rpf_deed.mpr ⟨q2, _, _, rfl, (s13.trans s14) _ _ upd_same, rg11.mono sa.tk, ry11.mono sa.tk⟩, rp3.mpr ⟨q3, _, _, _, rfl, s14 _ _ upd_same, .str _, .str _, r11.mono sa.tk⟩⟩
      generalize upd (upd (upd H11 q2 (.tup [.str "deed", y1, y])) q3 (.tup [.str "tell", .str "any", x])) q4 (.tup [.str "tell", .ref q2, .ref q3]) = H12 at *
      have p12 := p11.trans pa
      refine ⟨_, rfl, _, rfl, _, rfl, _, rfl, _, _, rfl, rfl, p, L, y1, N, g1, d, by rw [← dm d]; rfl, ta.to p12 (rg11.mono pa.tk) (by omega) (by omega), by omega, fun H13 x2 t2 s15 r15 g15 => ⟨sz3, fun q5 hq5 => ?_⟩⟩
      have s16 := same_new hq5 (.tup [.str "call", .ref q4, x2])
      exact q _ _ (.call (.tell (.deed g1 g) (.tell .any t)) t2) (p12.trans (s15.trans (PS_.of s15.2.2 s16))) (rp3.mpr ⟨q5, _, _, _, rfl, upd_same, .str _, (rt1.mono s15.tk).mono s16.tk, r15.mono s16.tk⟩) (.call hg1 hg g11 g15)
    · rw [decide_eq_false h0]
      exact iteF (last H8 p8)
  · rw [decide_eq_false w7]
    exact iteF (iteF (last H7 p7))
theorem ok__law_term (T : Facts w K mg) : ∀ n, Cl P w K mg base CX0 (30 + 2 * n) "_law_term" (spTermG n)
  | 0 => term_zero T
  | n + 1 => term_step T n (ok__law_term T n)
end
end Wt
/-! Halls. -/
namespace Wt
open PySem PySem.Spec PyProof.Rows L2 RZ RT
/-- a hall as it is made -/
def HallG (N : Bd) (h : Hl) : Prop := ∃ a b bd g t, h.t = .deed bd g t ∧ NameOk bd ∧ NearG a 1 g ∧ a.ht ≤ 1 ∧ b.ht ≤ 1 ∧ (h.f = .any ∨ h.f = .deed a b) ∧ Gen (N ++ [(bd, g)]) b 2 t
theorem hall_good {hs : List Hl} (hN : NamesOk (hprs hs)) (hlo : ∀ q ∈ hprs hs, q.2.ht ≤ 2) {h : Hl} (hx : NameOk h.x) (hg : HallG (hprs hs) h) : h.ok ∧ h.t.nodes ≤ 1000 ∧ HallGood (lookP (formsOf hs)) h := by
  obtain ⟨a, b, bd, g, t, ht, hbd, hga, ha, hb, hf, gen⟩ := hg
  have hg2 := hga.2
  have wf := gen.wf (hN.add hbd) (by omega)
  obtain ⟨dp, nd⟩ := gen.dep (by omega)
  have e1 : gDep 2 = 13 := rfl
  have e2 : gNodes 2 = 75 := rfl
  refine ⟨⟨hx, ?_, ?_, ⟨bd, g, t, ht⟩, ?_, ?_⟩, ?_, ?_⟩
  · rcases hf with hf | hf <;> rw [hf] <;> simp only [Fm.ht] <;> omega
  · rcases hf with hf | hf
    · exact .inl hf
    · exact .inr (by rw [hf]; rfl)
  · rw [ht]; exact ⟨hbd, by omega, wf⟩
  · rw [ht]; simp only [Tm.dep]; omega
  · rw [ht]; simp only [Tm.nodes]; omega
  have agree : Agree (lookP (formsOf hs)) (hprs hs) [] := fun x F e => by
    show lookP (mergeP [] (hprs hs)) x = some F
    rw [lookP_merge]
    exact e
  have lowN : LowB (hprs hs ++ [(bd, g)]) 2 := LowB.add (fun q hq => hlo q hq) (by omega)
  obtain ⟨t', F, n', e, hn, hF⟩ := gen.placed (G := lookP (formsOf hs)) (s := h.x) ([] ++ [(bd, g)]) 2 (agree.add bd g) lowN (Nat.le_refl _) (by omega) (by omega) 1
  unfold HallGood
  rw [ht]
  have e3 : plc (lookP (formsOf hs)) h.x [] 1 (.deed bd g t) = .ok (.deed bd g t', .deed g F, n') := by
    simp only [plc, e, Except.bind]
    exact lowM_ok (by simp only [Fm.ht]; omega)
  rw [e3]
  show Fin (walledM (mkM h.x 1) (.deed bd g t') (.deed g F) h.f) _ _
  have hnr : Fm.near (.deed g F) h.f = true := by
    rcases hf with hf | hf
    · rw [hf]; exact Fm.near_any _
    · rw [hf]; simp only [Fm.near, hga.1, hn, Bool.and_self]
  obtain ⟨t2, e4⟩ := walled_ok (m := mkM h.x 1) (t := .deed bd g t') hnr
  rw [e4]
  trivial
/-- a list that S keeps -/
theorem lc_list_relS {S : Hp → Hp → Prop} (rS : Rel S) {K : PySem.W.Frag} {a : Addr} {xs : List V} {g : TG} {te : TE} {vs : List Nat} {σ : L2.St} {H1 : Hp} {D : Addr} {Qd : Hp → Prop} (R : Nat → V → Hp → Prop) (hR : ∀ i y H H', Tk H H' → R i y H → R i y H') (hD : H1 D = none) (hS : S H1 H1) (hT : ∀ H', S H1 H' → SqL K H' a xs) (hz : xs.length ≤ 1000)
    (hs : ∀ (i : Nat) x H' (Nx : VK), xs[i]? = some x → S H1 H' → (∀ y H3, S H' H3 → R i y H3 → Nx y H3) → g x (wipe σ vs) H' fun σ2 H2 => wipe σ2 vs = wipe σ vs ∧ te σ2 H2 Nx) (hrf : ∀ H', S H1 H' → S H' H')
    (hd : ∀ H' ys, S H1 H' → H' D = some (.lst ys) → ys.length = xs.length → (∀ (j : Nat) y, ys[j]? = some y → R j y H') → Qd H') :
    ∃ W : Nat → Nat → Hp → Prop, (∃ m, W 0 m (upd H1 D (.lst []))) ∧ ∀ i m H, W i m H →
      ((Itl K a).stop i H ∧ Qd H) ∨ ((Itl K a).go i H ∧ ∃ Nx : Hp → Prop, (∀ H', Nx H' → ∃ m', m' < m ∧ W (i + 1) m' H') ∧ ∀ x H', (Itl K a).yld i H x H' → g x (wipe σ vs) H' fun σ2 H2 => wipe σ2 vs = wipe σ vs ∧ tYes σ2 H2 fun b H3 =>
        if b = true then te σ2 H3 fun y H4 => ∃ acc, H4 D = some (.lst acc) ∧ acc.length < sizeLine ∧ Nx (upd H4 D (.lst (acc ++ [y]))) else Nx H3) :=
  lc_rel rS (J := Itl K a) (n := xs.length) R hR hD hS hz (fun H' s => ⟨xs, hT _ s, Nat.le_refl _⟩) (fun i H' hi s => ⟨xs, xs[i], hT _ s, List.getElem?_eq_getElem hi⟩)
    (fun i x H' H'' s yl => by rw [yl.1]; exact hrf _ s)
    (fun i x H' H'' Nx hi s yl k => by
      obtain ⟨e, yl⟩ := yl
      subst e
      exact hs i x _ Nx (yl xs (hT _ s)) s k) hd
/-- the forms that stand one by one -/
theorem forms_of {H : Hp} {Pf : Fm → Prop} : ∀ {ys : List V}, (∀ (j : Nat) y, ys[j]? = some y → ∃ f, RpF H y f ∧ Pf f) → ∃ fs : List Fm, fs.length = ys.length ∧ (∀ (j : Nat) y f, ys[j]? = some y → fs[j]? = some f → RpF H y f) ∧ ∀ f ∈ fs, Pf f
  | [], _ => ⟨[], rfl, fun j y f e => by simp at e, fun f h => absurd h (by simp)⟩
  | y :: ys, h => by
    obtain ⟨f, r, pf⟩ := h 0 y rfl
    obtain ⟨fs, l, hr, hp⟩ := forms_of (ys := ys) fun j y e => h (j + 1) y e
    refine ⟨f :: fs, by simp [l], fun j y' f' e1 e2 => ?_, fun g hg => ?_⟩
    · cases j with
      | zero => cases e1; cases e2; exact r
      | succ j => exact hr j y' f' e1 e2
    · rcases List.mem_cons.mp hg with rfl | hg
      · exact pf
      · exact hp g hg
def TellF (f : Fm) : Prop := f = .any ∨ ∃ a b, f = .deed a b ∧ a.ht ≤ 1 ∧ b.ht ≤ 1
theorem TellF.ht {f : Fm} (h : TellF f) : f.ht ≤ 2 := by
  rcases h with rfl | ⟨a, b, rfl, h1, h2⟩
  · exact Nat.zero_le _
  · simp only [Fm.ht]; omega
def spMkHalls : Sp := fun vs H Q _ => ∃ (p : Addr) (n : Nat), vs = [.ref p, .int (n : Nat)] ∧ PotOk H p ∧ n ≤ 3 ∧ ∀ H' l vs hs, PS_ p H H' → H' l = some (.lst vs) → Hls H' vs hs → hs.length = n → (hs.map Hl.x).Nodup → (∀ h ∈ hs, NameOk h.x) → (∀ h ∈ hs, TellF h.f) → (∀ h ∈ hs, HallG (hprs hs) h) → Q (.ref l) H'
section
variable {P : Program} {w : World} {K : PySem.W.Frag} {mg : Str → Option Value} {base : Heap}
theorem sc_law_halls : FnScope ["_law_pot_here", "_law_many", "_law_names", "_law_k", "_law_told", "_law_found", "_law_name_here", "_law_form_here", "_law_parts", "_law_bound", "_law_given", "_law_body"] ["_law_pot_here", "_law_many"] (defScope s_law_halls) := ⟨rfl, rfl, rfl, by decide +kernel, rfl, by decide +kernel, by decide +kernel⟩
set_option maxHeartbeats 16000000 in
theorem ok__law_halls (T : Facts w K mg) : Cl P w K mg base CX0 40 "_law_halls" spMkHalls := by
  have c_law_term := ok__law_term (P := P) (base := base) T 4
  have c_law_pick := ok__law_pick (P := P) (base := base) T
  have c_law_form := ok__law_form (P := P) (base := base) T 3
  have c_law_near := ok__law_near (P := P) (base := base) T 10
  have c_law_name := ok__law_name (P := P) (base := base) T
  obtain ⟨fd, F⟩ := T.f_law_halls
  refine ⟨_, fd, ["_law_pot_here", "_law_many"], T.g_law_halls, ?_, F.kp, F.bindsN fun _ _ _ _ _ _ us hl => match us, hl with | [_, _], _ => rfl⟩
  refine F.ok sc_law_halls (fun vs H Q E h => ?_) (fun cdv A outer s H vs Q E hr h => ?_)
  · obtain ⟨p, n, rfl, _⟩ := h
    rfl
  obtain ⟨p, n, rfl, hp, hn3, q⟩ := h
  have hu64 := hr.units
  refine ⟨_, PSs.nox (pss_cons (ps_set (i := 2) sc_law_halls.nd rfl (Or.inl rfl) (pe_lst pa_nil))
    (pss_cons (ps_for PassesOwn.never rfl (pi_range1 rfl T.z_range (pa_cons (pv 1) pa_nil)) (pg_name (i := 3) sc_law_halls.nd rfl (Or.inl rfl)) (pss_one (ps_expr (pe_bm PySem.F.plainAttrs_list PySem.F.slot_list_append PySem.F.type_list_append mt_append (pv 2) (pa_cons (pe_cl c_law_name hr (by omega) pass0 (pa_cons (pv 0) (pa_cons (pv 2) pa_nil))) pa_nil)))))
    (pss_cons (ps_setLc (i := 4) (own := [("_law_name_here", 6)]) (g := (gName 6)) (tt := tYes) rfl sc_law_halls.nd rfl rfl (sw_true rfl rfl rfl (by decide +kernel)) (pi_list (pv 2)) (blkOk_by (own := [("_law_name_here", 6)]) (N := ["_law_pot_here", "_law_many", "_law_names", "_law_k", "_law_told", "_law_found", "_law_name_here", "_law_form_here", "_law_parts", "_law_bound", "_law_given", "_law_body"]) (sc := defScope s_law_halls) (by decide +kernel)) (fun _ _ _ _ _ => (pg_name (i := 6) sc_law_halls.nd rfl (Or.inl rfl))) (fun _ _ _ _ _ => pts_nil) (fun _ _ _ _ _ => (pe_cl c_law_pick hr (by omega) pass0 (pa_cons (pv 0) (pa_cons (pe_lst (pa_cons pe_str (pa_cons (pe_tup (pa_cons pe_str (pa_cons (pe_cl c_law_form hr (by omega) pass0 (pa_cons (pv 0) (pa_cons pe_int pa_nil))) (pa_cons (pe_cl c_law_form hr (by omega) pass0 (pa_cons (pv 0) (pa_cons pe_int pa_nil))) pa_nil)))) pa_nil))) pa_nil)))))
    (pss_cons (ps_set (i := 5) sc_law_halls.nd rfl (Or.inl rfl) (pe_lst pa_nil))
    (pss_cons (ps_for PassesOwn.never rfl (pi_zipA (by rfl) T.z_zip (pa_cons (pv 2) (pa_cons (pv 4) pa_nil))) (pg_tup (by rfl) (pgs_cons (pg_name (i := 6) sc_law_halls.nd rfl (Or.inl rfl)) (pgs_cons (pg_name (i := 7) sc_law_halls.nd rfl (Or.inl rfl)) pgs_nil))) (pss_mid (ps_set (i := 8) sc_law_halls.nd rfl (Or.inl rfl) (pe_ifExp (pt_cmpR (op_eqD hu64) (pv 7) pe_str (nomark _)) (pe_tup (pa_cons pe_str (pa_cons (pe_cl c_law_form hr (by omega) pass0 (pa_cons (pv 0) (pa_cons pe_int pa_nil))) (pa_cons (pe_cl c_law_form hr (by omega) pass0 (pa_cons (pv 0) (pa_cons pe_int pa_nil))) pa_nil)))) (pv 7)))
    (pss_cons (ps_par (i := 9) (j := 10) (by rfl) sc_law_halls.nd rfl rfl (by decide) rfl rfl (pa_cons (pe_cl c_law_name hr (by omega) pass0 (pa_cons (pv 0) (pa_cons (pe_lst pa_nil) pa_nil))) (pa_cons (pe_cl c_law_near hr (by omega) pass0 (pa_cons (pv 0) (pa_cons (pe_ix ix_tup (pv 8) pe_int (fun _ _ => rfl)) (pa_cons pe_int pa_nil)))) pa_nil)) (by rfl))
    (pss_cons (ps_set (i := 11) sc_law_halls.nd rfl (Or.inl rfl) (pe_cl c_law_term hr (by omega) pass0 (pa_cons (pv 0) (pa_cons (pe_op op_cat (pe_listZip hr T.z_list T.z_zip (pa_cons (pv 2) (pa_cons (pv 4) pa_nil))) (pe_lst (pa_cons (pe_tup (pa_cons (pv 9) (pa_cons (pv 10) pa_nil))) pa_nil))) (pa_cons (pe_ix ix_tup (pv 8) pe_int (fun _ _ => rfl)) (pa_cons pe_int pa_nil))))))
    (pss_one (ps_expr (pe_bm PySem.F.plainAttrs_list PySem.F.slot_list_append PySem.F.type_list_append mt_append (pv 5) (pa_cons (pe_tup (pa_cons (pv 6) (pa_cons (pv 7) (pa_cons (pe_tup (pa_cons pe_str (pa_cons (pv 9) (pa_cons (pv 10) (pa_cons (pv 11) pa_nil))))) pa_nil)))) pa_nil))))))))
    (pss_one (ps_ret (pv 5)))))))), ?_⟩
  refine ⟨sz0, fun D1 hD1 => ?_⟩
  have s1 := same_new hD1 (.lst [])
  have p1 := PS_.of hp s1
  have hD1p : D1 ≠ p := fun z => hp.some (z ▸ hD1)
  refine ⟨_, rfl, (n : Nat), rfl, by omega, by omega, ?_⟩
  refine for_inv (n := ((n : Nat) : Int).toNat) (fun i σ H' => (∃ u, σ = [some (.ref p), some (.int (n : Nat)), some (.ref D1), u, none, none, none, none, none, none, none, none]) ∧ PS_ p H H' ∧ ∃ xs : List Str, H' D1 = some (.lst (xs.map V.str)) ∧ xs.length = i ∧ (∀ x ∈ xs, NameOk x) ∧ xs.Nodup) ⟨⟨_, rfl⟩, p1, [], upd_same, rfl, by simp, List.nodup_nil⟩ (fun σ H' _ => Nat.le_refl _) (fun i σ H' hi _ => hi) (fun i v σ H' H'' hi hq y => ?_) (fun σ H2 hq => ?_)
  · obtain ⟨⟨u, rfl⟩, pp, xs, ex, hxl, hxs, hnd⟩ := hq
    obtain ⟨rfl, rfl⟩ := y
    have hi3 : i < 3 := by omega
    refine ⟨_, rfl, .inl ⟨rfl, _, SqL.of ex⟩, _, rfl, _, rfl, p, D1, xs, rfl, pp.2.2, hD1p, ex, hxs, by omega, fun H3 x s3 hx hnx => ?_⟩
    have ex3 := s3.1 _ _ hD1p ex
    refine ⟨D1, _, .str x, rfl, rfl, ex3, by rw [List.length_map, sizeLine_eq]; omega, ⟨_, rfl⟩, (rel_pot p).put (pp.trans s3) hD1, xs ++ [x], ?_, by rw [List.length_append, hxl]; rfl, fun z hz => ?_, ?_⟩
    · rw [upd_same, List.map_append]; rfl
    · rcases List.mem_append.mp hz with hz | hz
      · exact hxs z hz
      · rw [List.mem_singleton.mp hz]; exact hx
    · rw [List.nodup_append]
      refine ⟨hnd, by simp, fun a ha b hb => ?_⟩
      rw [List.mem_singleton.mp hb]
      exact fun e => hnx (e ▸ ha)
  obtain ⟨⟨u, rfl⟩, p2, xs, ex, hxl, hxs, hnd⟩ := hq
  have hxn : xs.length = n := by omega
  clear hxl p1 s1
  refine ⟨_, rfl, D1, rfl, ⟨_, SqL.of ex⟩, fun D2 hD2 => ?_⟩
  have hD2p : D2 ≠ p := fun z => p2.2.2.some (z ▸ hD2)
  refine lc_list_relS (rel_pot p) (fun _ y H => ∃ f, RpF H y f ∧ TellF f) (fun _ y H H' k r => by
    obtain ⟨f, r1, r2⟩ := r
    exact ⟨f, r1.mono k, r2⟩) hD2 (PS_.refl p2.2.2) (fun H' s => SqL.of (s.1 _ _ hD1p ex)) (by rw [List.length_map]; omega) (fun i x H3 Nx hx s3 nx => ?_) (fun H' s => PS_.refl s.2.2) (fun H3 ys s3 eD2 hyl hys => ?_)
  · generalize hτ : wipe _ (List.map _ _) = τ
    obtain rfl : τ = [some (.ref p), some (.int (n : Nat)), some (.ref D1), u, none, none, none, none, none, none, none, none] := hτ.symm.trans rfl
    refine ⟨rfl, _, rfl, _, rfl, p, 1, rfl, s3.2.2, by decide, fun H4 y1 a s4 ra ha => ?_⟩
    refine ⟨_, rfl, p, 1, rfl, s4.2.2, by decide, fun H5 y2 b s5 rb hb => ⟨sz3, fun t ht => ⟨sz2, fun l hl => ?_⟩⟩⟩
    have s6 := same_new ht (.tup [.str "deed", y1, y2])
    have s7 := same_new hl (.lst [.str "any", .ref t])
    have s67 := s6.trans s7
    have p67 := PS_.of s5.2.2 s67
    have rd : RpF (upd (upd H5 t (.tup [.str "deed", y1, y2])) l (.lst [.str "any", .ref t])) (.ref t) (.deed a b) := rpf_deed.mpr ⟨t, _, _, rfl, s7 _ _ upd_same, (ra.mono s5.tk).mono s67.tk, rb.mono s67.tk⟩
    refine ⟨p, l, _, rfl, p67.2.2, fun z => (PS_.of s5.2.2 s6).2.2.some (z ▸ hl), upd_same, (show 0 < 2 by decide), (show 2 ≤ 1000 by decide), fun H8 d z s8 hz => ?_⟩
    have s48 := s4.trans (s5.trans (p67.trans s8))
    match d, hz with
    | 0, hz => cases hz; exact nx _ _ s48 ⟨.any, .str _, .inl rfl⟩
    | 1, hz => cases hz; exact nx _ _ s48 ⟨.deed a b, rd.mono s8.tk, .inr ⟨a, b, rfl, ha, hb⟩⟩
    | d + 2, hz => simp at hz
  rw [List.length_map] at hyl
  obtain ⟨fs, hfl, hfr, hfp⟩ := forms_of hys
  have ex3 := s3.1 _ _ hD1p ex
  have p3 := p2.trans s3
  clear hys
  -- names and forms
  obtain ⟨N, hNd⟩ : ∃ N : Bd, N = xs.zip fs := ⟨_, rfl⟩
  have hNl : N.length = n := by rw [hNd, List.length_zip]; omega
  have hNg : ∀ (i : Nat) (nm : Str) (f : Fm), xs[i]? = some nm → fs[i]? = some f → N[i]? = some (nm, f) := fun i nm f e1 e2 => by
    rw [hNd, List.getElem?_zip_eq_some]
    exact ⟨e1, e2⟩
  have hNm : NamesOk N := fun r hr => by
    obtain ⟨x, f⟩ := r
    rw [hNd] at hr
    exact hxs _ (List.of_mem_zip hr).1
  have hNt : ∀ r ∈ N, TellF r.2 := fun r hr => by
    obtain ⟨x, f⟩ := r
    rw [hNd] at hr
    exact hfp _ (List.of_mem_zip hr).2
  have hN1 : N.map (·.1) = xs := by rw [hNd]; exact List.map_fst_zip (by omega)
  refine ⟨sz0, fun D3 hD3 => ?_⟩
  have hD3p : D3 ≠ p := fun z => p3.2.2.some (z ▸ hD3)
  have s4 := same_new hD3 (.lst [])
  have p4 := PS_.of p3.2.2 s4
  refine ⟨_, rfl, _, rfl, D1, D2, _, _, rfl, .inl ⟨SqL.of (s4 _ _ ex3), SqL.of (s4 _ _ eD2), ?_⟩⟩
  refine for_inv (n := n) (fun i σ H' => (∃ u6 u7 u8 u9 u10 u11, σ = [some (.ref p), some (.int (n : Nat)), some (.ref D1), u, some (.ref D2), some (.ref D3), u6, u7, u8, u9, u10, u11]) ∧ PS_ p H3 H' ∧ ∃ fvs hs, H' D3 = some (.lst fvs) ∧ Hls H' fvs hs ∧ hprs hs = N.take i ∧ ∀ h ∈ hs, HallG N h) ⟨⟨_, _, _, _, _, _, rfl⟩, p4, [], [], upd_same, .nil, rfl, by simp⟩
    (fun σ H' hq => ⟨_, _, SqL.of (hq.2.1.1 _ _ hD1p ex3), SqL.of (hq.2.1.1 _ _ hD2p eD2), .inl (by rw [List.length_map]; omega)⟩)
    (fun i σ H' hi hq => ⟨_, _, .str (xs[i]'(by omega)), ys[i]'(by omega), SqL.of (hq.2.1.1 _ _ hD1p ex3), SqL.of (hq.2.1.1 _ _ hD2p eD2), by rw [List.getElem?_map, List.getElem?_eq_getElem (by omega)]; rfl, List.getElem?_eq_getElem (by omega)⟩) (fun i v σ H4 H5 hi hq y => ?_) (fun σ H4 hq => ?_)
  · obtain ⟨⟨u6, u7, u8, u9, u10, u11, rfl⟩, p34, fvs, hs, eD3, hfv, hpr, hgd⟩ := hq
    obtain ⟨Tp, x, y, rfl, hTn, rfl, hy1, hy2⟩ := y
    have ex4 := p34.1 _ _ hD1p ex3
    have eD24 := p34.1 _ _ hD2p eD2
    have hx := hy1 _ (SqL.of ex4)
    have hy := hy2 _ (SqL.of eD24)
    rw [List.getElem?_map] at hx
    obtain ⟨nm, hnm, rfl⟩ := Option.map_eq_some_iff.mp hx
    obtain ⟨f, hf⟩ := get_of hy hfl.symm
    have rf3 := hfr i y f hy hf
    have hNi := hNg i nm f hnm hf
    have htf : TellF f := hfp f (List.mem_of_getElem? hf)
    have htf2 := htf.ht
    have s5 := same_new hTn (.tup [.str nm, y])
    have p45 := PS_.of p34.2.2 s5
    have rf5 := rf3.mono (p34.trans p45).tk
    have eT : (upd H4 Tp (.tup [.str nm, y])) Tp = some (.tup [.str nm, y]) := upd_same
    have p35 := p34.trans p45
    have eD35 := s5 _ _ eD3
    have hfv5 := hfv.mono s5.tk
    generalize upd H4 Tp (.tup [.str nm, y]) = H5 at *
    refine ⟨Tp, _, rfl, SqT.of eT, rfl, _, [y], rfl, y, [], rfl, rfl, ?_⟩
    refine ⟨fun σ' H6 => ∃ c x1 y1 a b, σ' = [some (.ref p), some (.int (n : Nat)), some (.ref D1), u, some (.ref D2), some (.ref D3), some (.str nm), some y, some (.ref c), u9, u10, u11] ∧ PS_ p H5 H6 ∧ H6 c = some (.tup [.str "deed", x1, y1]) ∧ RpF H6 x1 a ∧ RpF H6 y1 b ∧ a.ht ≤ 1 ∧ b.ht ≤ 1 ∧ (f = .any ∨ f = .deed a b), ?_, ?_⟩
    · refine ⟨_, rfl, f.d, .str "any", rf5.dp, .str _, Fm.shaped (by omega), shaped_any, _, rfl, ?_⟩
      rw [Fm.any_d]
      by_cases hany : f = .any
      · rw [decide_eq_true hany]
        refine iteT ⟨_, rfl, p, 1, rfl, p45.2.2, by decide, fun H6 x1 a s6 ra ha => ?_⟩
        refine ⟨_, rfl, p, 1, rfl, s6.2.2, by decide, fun H7 y1 b s7 rb hb => ⟨sz3, fun c hc => ?_⟩⟩
        have s8 := same_new hc (.tup [.str "deed", x1, y1])
        exact ⟨c, x1, y1, a, b, rfl, s6.trans (s7.trans (PS_.of s7.2.2 s8)), upd_same, (ra.mono s7.tk).mono s8.tk, rb.mono s8.tk, ha, hb, .inl hany⟩
      · rw [decide_eq_false hany]
        rcases htf with h | ⟨a, b, rfl, ha, hb⟩
        · exact absurd h hany
        obtain ⟨c, x1, y1, rfl, ec, ra, rb⟩ := rpf_deed.mp rf5
        exact iteF ⟨_, rfl, c, x1, y1, a, b, rfl, PS_.refl p45.2.2, ec, ra, rb, ha, hb, .inr rfl⟩
    rintro σ1 H6 ⟨c, x1, y1, a, b, rfl, p56, ec, ra, rb, ha, hb, hfab⟩
    refine ⟨_, rfl, sz0, fun l0 hl0 => ?_⟩
    have s7 := same_new hl0 (.lst [])
    have p67 := PS_.of p56.2.2 s7
    refine ⟨p, l0, [], rfl, p67.2.2, fun z => p56.2.2.some (z ▸ hl0), upd_same, by simp, by simp, fun H8 bd s8 hbd _ => ?_⟩
    have p68 := p67.trans s8
    have ec8 := p68.tk _ _ ec
    refine ⟨_, rfl, _, rfl, c, _, 1, _, rfl, rfl, SqT.of ec8, at1, p, x1, a, 1, rfl, p68.2.2, ra.mono p68.tk, by omega, by omega, by decide, fun H9 g' g s9 rg hg => ⟨_, _, rfl, ?_⟩⟩
    have hg2 := hg.2
    have p69 := p68.trans s9
    have p39 := p35.trans (p56.trans p69)
    have ex9 := p39.1 _ _ hD1p ex3
    have eD29 := p39.1 _ _ hD2p eD2
    refine ⟨_, rfl, _, rfl, _, rfl, D1, D2, _, _, rfl, SqL.of ex9, SqL.of eD29, by rw [List.length_map]; omega, by rw [List.length_map]; omega, fun H10 l zs s10 el hzl prs => ?_⟩
    have p910 := PS_.of p39.2.2 s10
    have rN : RpAll H10 zs (N.map fun q => .tuple [.str q.1, q.2.d]) := rpa_of_get (by rw [hzl, List.length_map, List.length_map, hNl, hxn]) (fun j z d h1 h2 => by
      obtain ⟨T2, x2, y2, rfl, eT2, hx2, hy2⟩ := prs j z h1
      rw [List.getElem?_map] at hx2
      obtain ⟨nm2, hnm2, rfl⟩ := Option.map_eq_some_iff.mp hx2
      obtain ⟨f2, hf2⟩ := get_of hy2 hfl.symm
      rw [List.getElem?_map, hNg j nm2 f2 hnm2 hf2] at h2
      cases h2
      exact rp2.mpr ⟨T2, _, _, rfl, eT2, .str _, (hfr j y2 f2 hy2 hf2).mono (p39.trans p910).tk⟩)
    refine ⟨_, rfl, _, rfl, sz2, fun q1 hq1 => ⟨sz1, fun l1 hl1 => ?_⟩⟩
    have s11 := same_new hq1 (.tup [.str bd, g'])
    have s12 := same_new hl1 (.lst [.ref q1])
    refine ⟨l, l1, zs, [.ref q1], rfl, rfl, s12 _ _ (s11 _ _ el), upd_same, by rw [hzl, List.length_map, hxn, sizeLine_eq]; simp only [List.length_cons, List.length_nil]; omega, fun l2 hl2 => ?_⟩
    have s13 := same_new hl2 (.lst (zs ++ [.ref q1]))
    have sa := s11.trans (s12.trans s13)
    have pa := PS_.of p910.2.2 sa
    have rg10 := rg.mono p910.tk
    have hN2 : BAt (upd (upd (upd H10 q1 (.tup [.str bd, g'])) l1 (.lst [.ref q1])) l2 (.lst (zs ++ [.ref q1]))) l2 (N ++ [(bd, g)]) := bat_snoc (rN.mono sa.tk) upd_same ((s12.trans s13) _ _ upd_same) (rg10.mono sa.tk)
    have hl2p : l2 ≠ p := fun z => (PS_.of p910.2.2 (s11.trans s12)).2.2.some (z ▸ hl2)
    have p611 := p69.trans (p910.trans pa)
    have ec11 := p611.tk _ _ ec
    generalize upd (upd (upd H10 q1 (.tup [.str bd, g'])) l1 (.lst [.ref q1])) l2 (.lst (zs ++ [.ref q1])) = H11 at *
    refine ⟨_, rfl, c, _, 2, _, rfl, rfl, SqT.of ec11, at2, p, l2, y1, N ++ [(bd, g)], b, 2, rfl, ⟨pa.2.2, hl2p, hN2, hNm.add hbd, ?_, ?_, rb.mono p611.tk, by omega⟩, by decide, fun H12 x t s14 r14 g14 => ?_⟩
    · intro qq hqq
      rcases List.mem_append.mp hqq with hqq | hqq
      · have := (hNt qq hqq).ht
        omega
      · rw [List.mem_singleton.mp hqq]
        show g.ht ≤ 5
        omega
    · rw [List.length_append, List.length_singleton, hNl]; omega
    have p512 := p56.trans (p611.trans s14)
    have eD312 := p512.1 _ _ hD3p eD35
    refine ⟨_, rfl, .inl ⟨rfl, _, SqL.of eD312⟩, _, rfl, _, rfl, _, rfl, _, rfl, _, rfl, sz4, fun q2 hq2 => ⟨sz3, fun q3 hq3 => ?_⟩⟩
    have s15 := same_new hq2 (.tup [.str "deed", .str bd, g', x])
    have s16 := same_new hq3 (.tup [.str nm, y, .ref q2])
    have sb := s15.trans s16
    have hfl2 := hfv5.len
    have hhl : hs.length = i := by
      have := congrArg List.length hpr
      rw [List.length_take, hNl] at this
      unfold hprs at this
      rw [List.length_map] at this
      omega
    have eD314 := sb _ _ eD312
    refine ⟨D3, fvs, .ref q3, rfl, rfl, eD314, by rw [sizeLine_eq]; omega, ⟨_, _, _, _, _, _, rfl⟩, (rel_pot p).put (p35.trans (p512.trans (PS_.of s14.2.2 sb))) hD3, fvs ++ [.ref q3], hs ++ [⟨nm, f, .deed bd g t⟩], upd_same, ?_, ?_, ?_⟩
    · have k2 := tk_put (o := .lst (fvs ++ [.ref q3])) eD314
      have r0 : Rp (upd (upd H12 q2 (.tup [.str "deed", .str bd, g', x])) q3 (.tup [.str nm, y, .ref q2])) (.ref q3) (Hl.d ⟨nm, f, .deed bd g t⟩) := rp3.mpr ⟨q3, _, _, _, rfl, upd_same, .str _, (rf5.mono p512.tk).mono sb.tk, rp4.mpr ⟨q2, _, _, _, _, rfl, s16 _ _ upd_same, .str _, .str _, (rg10.mono (pa.trans s14).tk).mono sb.tk, r14.mono sb.tk⟩⟩
      have key : ∀ {H : Hp} {vs : List V} {ds : List PyData} {v : V} {d : PyData}, RpAll H vs ds → Rp H v d → RpAll H (vs ++ [v]) (ds ++ [d]) := by
        intro H vs
        induction vs with
        | nil => intro ds v d h r; cases h; exact .cons r .nil
        | cons a vs ih => intro ds v d h r; cases h with | cons r1 r2 => exact .cons r1 (ih r2 r)
      show RpAll _ _ ((hs ++ [_]).map Hl.d)
      rw [List.map_append]
      exact key (((hfv5.mono p512.tk).mono sb.tk).mono k2) (r0.mono k2)
    · unfold hprs at hpr ⊢
      rw [List.map_append, hpr, List.take_add_one, hNi]
      rfl
    · intro h hh
      rcases List.mem_append.mp hh with hh | hh
      · exact hgd h hh
      · rw [List.mem_singleton.mp hh]
        exact ⟨a, b, bd, g, t, rfl, hbd, hg, ha, hb, hfab, g14⟩
  · obtain ⟨⟨u6, u7, u8, u9, u10, u11, rfl⟩, p34, fvs, hs, eD3, hfv, hpr, hgd⟩ := hq
    rw [List.take_of_length_le (by omega)] at hpr
    have e1 : hs.map Hl.x = xs := by
      have := congrArg (List.map (·.1)) hpr
      rw [hN1] at this
      rw [← this]
      unfold hprs
      rw [List.map_map]
      rfl
    have hm : ∀ h ∈ hs, (h.x, h.f) ∈ N := fun h hh => by
      rw [← hpr]
      exact List.mem_map.mpr ⟨h, hh, rfl⟩
    refine ⟨_, rfl, q _ _ fvs hs (p3.trans p34) eD3 hfv ?_ (by rw [e1]; exact hnd) (fun h hh => hNm _ (hm h hh)) (fun h hh => hNt _ (hm h hh)) (fun h hh => by rw [hpr]; exact hgd h hh)⟩
    have := congrArg List.length hpr
    unfold hprs at this
    rw [List.length_map] at this
    omega
end
end Wt
/-! A term's spots. -/
namespace Wt
open PySem PySem.Spec PyProof.Rows L2 RZ RT
def Tm.pre : Tm → List PyData
  | .number n => [.int n]
  | .text z => [.str z]
  | .name x => [.str x]
  | .deed x A _ => [.str x, A.d]
  | .letT x _ _ => [.str x]
  | .tell A _ => [A.d]
  | .box A _ => [A.d]
  | .wall m A B _ => [.str m, A.d, B.d]
  | _ => []
def Tm.subs : Tm → List Tm
  | .number _ => []
  | .text _ => []
  | .name _ => []
  | .deed _ _ e => [e]
  | .call e f => [e, f]
  | .letT _ e f => [e, f]
  | .tell _ e => [e]
  | .ifT c e f => [c, e, f]
  | .add e f => [e, f]
  | .sub e f => [e, f]
  | .size e => [e]
  | .box _ e => [e]
  | .read e => [e]
  | .write e f => [e, f]
  | .same e f => [e, f]
  | .doT e f => [e, f]
  | .wall _ _ _ e => [e]
/-- the same with other terms in it -/
def Tm.re : Tm → List Tm → Tm
  | .deed x A _, [e] => .deed x A e
  | .call _ _, [e, f] => .call e f
  | .letT x _ _, [e, f] => .letT x e f
  | .tell A _, [e] => .tell A e
  | .ifT _ _ _, [c, e, f] => .ifT c e f
  | .add _ _, [e, f] => .add e f
  | .sub _ _, [e, f] => .sub e f
  | .size _, [e] => .size e
  | .box A _, [e] => .box A e
  | .read _, [e] => .read e
  | .write _ _, [e, f] => .write e f
  | .same _ _, [e, f] => .same e f
  | .doT _ _, [e, f] => .doT e f
  | .wall m A B _, [e] => .wall m A B e
  | t, _ => t
theorem Tm.d_eq (t : Tm) : t.d = .tuple (.str t.wd :: (t.pre ++ t.subs.map Tm.d)) := by cases t <;> rfl
theorem Tm.re_d {t : Tm} {us : List Tm} (h : us.length = t.subs.length) : (t.re us).d = .tuple (.str t.wd :: (t.pre ++ us.map Tm.d)) := by
  cases t <;> rcases us with _ | ⟨a, _ | ⟨b, _ | ⟨c, _ | ⟨d, us⟩⟩⟩⟩ <;> first
      | (exfalso; simp [Tm.subs] at h; done)
      | rfl
theorem Tm.re_wf {t : Tm} {us : List Tm} (h : us.length = t.subs.length) (hw : t.wf) (hu : ∀ u ∈ us, u.wf) : (t.re us).wf := by
  cases t <;> rcases us with _ | ⟨a, _ | ⟨b, _ | ⟨c, _ | ⟨d, us⟩⟩⟩⟩ <;> first
      | (exfalso; simp [Tm.subs] at h; done)
      | exact hw.elim
      | exact hu a (by simp)
      | exact ⟨hw.1, hu a (by simp)⟩
      | exact ⟨hw.1, hw.2.1, hu a (by simp)⟩
      | exact ⟨hu a (by simp), hu b (by simp)⟩
      | exact ⟨hw.1, hu a (by simp), hu b (by simp)⟩
      | exact ⟨hu a (by simp), hu b (by simp), hu c (by simp)⟩
      | exact hw
theorem Tm.re_dep {t : Tm} {us : List Tm} {m : Nat} (h : us.length = t.subs.length) (hu : ∀ u ∈ us, u.dep ≤ m) : (t.re us).dep ≤ 1 + m := by
  cases t <;> rcases us with _ | ⟨a, _ | ⟨b, _ | ⟨c, _ | ⟨d, us⟩⟩⟩⟩ <;> first
      | (exfalso; simp [Tm.subs] at h; done)
      | (have h1 := hu a (by simp); have h2 := hu b (by simp); have h3 := hu c (by simp); simp only [Tm.re, Tm.dep]; omega)
      | (have h1 := hu a (by simp); have h2 := hu b (by simp); simp only [Tm.re, Tm.dep]; omega)
      | (have h1 := hu a (by simp); simp only [Tm.re, Tm.dep]; omega)
      | (simp only [Tm.re, Tm.dep]; omega)
theorem Tm.re_nodes {t : Tm} {us : List Tm} (h : us.length = t.subs.length) : (t.re us).nodes = 1 + (us.map Tm.nodes).sum := by
  cases t <;> rcases us with _ | ⟨a, _ | ⟨b, _ | ⟨c, _ | ⟨d, us⟩⟩⟩⟩ <;> first
      | (exfalso; simp [Tm.subs] at h; done)
      | (simp only [Tm.re, Tm.nodes, List.map_cons, List.map_nil, List.sum_cons, List.sum_nil]; done)
      | (simp only [Tm.re, Tm.nodes, List.map_cons, List.map_nil, List.sum_cons, List.sum_nil]; omega)
theorem Tm.nodes_eq (t : Tm) : t.nodes = 1 + (t.subs.map Tm.nodes).sum := by
  cases t <;> simp only [Tm.subs, Tm.nodes, List.map_cons, List.map_nil, List.sum_cons, List.sum_nil] <;> omega
theorem Tm.subs_ok {t u : Tm} (h : u ∈ t.subs) (hw : t.wf) : u.wf ∧ u.dep + 1 ≤ t.dep := by
  cases t <;> simp only [Tm.subs, List.mem_cons, List.not_mem_nil, or_false] at h <;> simp only [Tm.dep] <;>
    (first
      | exact h.elim
      | exact hw.elim
      | (subst h; exact ⟨hw, by omega⟩)
      | (subst h; exact ⟨hw.2, by omega⟩)
      | (subst h; exact ⟨hw.2.2, by omega⟩)
      | (rcases h with rfl | rfl; exact ⟨hw.1, by omega⟩; exact ⟨hw.2, by omega⟩)
      | (rcases h with rfl | rfl; exact ⟨hw.2.1, by omega⟩; exact ⟨hw.2.2, by omega⟩)
      | (rcases h with rfl | rfl | rfl; exact ⟨hw.1, by omega⟩; exact ⟨hw.2.1, by omega⟩; exact ⟨hw.2.2, by omega⟩))
theorem Tm.subs_len (t : Tm) : t.subs.length ≤ 3 ∧ t.pre.length ≤ 3 := by cases t <;> simp [Tm.subs, Tm.pre]
/-- the written dict -/
def fstK : List (Key × V) := [(.inr "deed", .int 3), (.inr "let", .int 2), (.inr "tell", .int 2), (.inr "box", .int 2), (.inr "number", .int 9), (.inr "text", .int 9), (.inr "name", .int 9)]
theorem fst_of {t : Tm} (hw : t.wf) : (valV (mergeK [] fstK) (.inr t.wd)).getD (.int 1) = .int (((if t.subs = [] then 9 else 1 + t.pre.length : Nat)) : Int) := by
  have k1 : (valV (mergeK [] fstK) (.inr "deed")).getD (.int 1) = .int 3 := by decide +kernel
  have k2 : (valV (mergeK [] fstK) (.inr "let")).getD (.int 1) = .int 2 := by decide +kernel
  have k3 : (valV (mergeK [] fstK) (.inr "tell")).getD (.int 1) = .int 2 := by decide +kernel
  have k4 : (valV (mergeK [] fstK) (.inr "box")).getD (.int 1) = .int 2 := by decide +kernel
  have k5 : (valV (mergeK [] fstK) (.inr "number")).getD (.int 1) = .int 9 := by decide +kernel
  have k6 : (valV (mergeK [] fstK) (.inr "text")).getD (.int 1) = .int 9 := by decide +kernel
  have k7 : (valV (mergeK [] fstK) (.inr "name")).getD (.int 1) = .int 9 := by decide +kernel
  have ot : ∀ x ∈ (["call", "if", "add", "sub", "size", "read", "write", "same", "do"] : List Str), (valV (mergeK [] fstK) (.inr x)).getD (.int 1) = .int 1 := by decide +kernel
  cases t <;> first | exact hw.elim | exact k1 | exact k2 | exact k3 | exact k4 | exact k5 | exact k6 | exact k7 | exact ot _ (by simp [Tm.wd])
theorem rpa_split {H : Hp} : ∀ {d1 d2 : List PyData} {vs : List V}, RpAll H vs (d1 ++ d2) → ∃ v1 v2, vs = v1 ++ v2 ∧ RpAll H v1 d1 ∧ RpAll H v2 d2
  | [], _, vs, h => ⟨[], vs, rfl, .nil, h⟩
  | d :: d1, d2, _, .cons r t => by
    obtain ⟨v1, v2, rfl, h1, h2⟩ := rpa_split (d1 := d1) (d2 := d2) t
    exact ⟨_ :: v1, v2, rfl, .cons r h1, h2⟩
theorem rpa_join {H : Hp} : ∀ {v1 v2 : List V} {d1 d2 : List PyData}, RpAll H v1 d1 → RpAll H v2 d2 → RpAll H (v1 ++ v2) (d1 ++ d2)
  | [], _, [], _, _, h => h
  | _ :: _, _, _ :: _, _, .cons r t, h => .cons r (rpa_join t h)
/-- a term as it stands -/
theorem rp_tm {H : Hp} {v : V} {t : Tm} (h : RpT H v t) : ∃ a pv sv, v = .ref a ∧ H a = some (.tup (.str t.wd :: (pv ++ sv))) ∧ RpAll H pv t.pre ∧ RpAll H sv (t.subs.map Tm.d) := by
  have h' : Rp H v t.d := h
  rw [Tm.d_eq] at h'
  obtain ⟨a, xs, rfl, e, r⟩ := rp_tup.mp h'
  obtain ⟨w, vs, rfl, r1, r2⟩ := rpa_cons.mp r
  obtain rfl := rp_str.mp r1
  obtain ⟨pv, sv, rfl, h1, h2⟩ := rpa_split r2
  exact ⟨a, pv, sv, rfl, e, h1, h2⟩
theorem rp_re {H : Hp} {a : Addr} {pv sv : List V} {t : Tm} {us : List Tm} (hl : us.length = t.subs.length) (e : H a = some (.tup (.str t.wd :: (pv ++ sv)))) (hp : RpAll H pv t.pre) (hs : RpAll H sv (us.map Tm.d)) : RpT H (.ref a) (t.re us) := by
  show Rp H _ (t.re us).d
  rw [Tm.re_d hl]
  exact rp_tup.mpr ⟨a, _, rfl, e, .cons (.str _) (rpa_join hp hs)⟩
/-- the places of the terms in it -/
def spotsV (t : Tm) : List V := (List.range t.subs.length).map fun j => V.int ((1 + t.pre.length + j : Nat) : Int)
def spSpots : Sp := fun vs H Q _ => ∃ v t, vs = [v] ∧ RpT H v t ∧ t.wf ∧ ∀ H' l, Same H H' → H l = none → H' l = some (.lst (spotsV t)) → Q (.ref l) H'
section
variable {P : Program} {w : World} {K : PySem.W.Frag} {mg : Str → Option Value} {base : Heap}
theorem sc_law_spots : FnScope ["_law_piece", "_law_first", "_law_k"] ["_law_piece"] (defScope s_law_spots) := ⟨rfl, rfl, rfl, by decide +kernel, rfl, by decide +kernel, by decide +kernel⟩
theorem ok__law_spots (T : Facts w K mg) : Cl P w K mg base CX0 1 "_law_spots" spSpots := by
  obtain ⟨fd, F⟩ := T.f_law_spots
  refine ⟨_, fd, ["_law_piece"], T.g_law_spots, ?_, F.kp, F.bindsN fun _ _ _ _ _ _ us hl => match us, hl with | [_], _ => rfl⟩
  refine F.ok sc_law_spots (fun vs H Q E h => ?_) (fun cdv A outer s H vs Q E hr h => ?_)
  · obtain ⟨v, t, rfl, _⟩ := h
    rfl
  obtain ⟨v, t, rfl, rt, hw, q⟩ := h
  have hu := hu_of hr
  refine ⟨_, PSs.nox (pss_cons (ps_set (i := 1) sc_law_spots.nd rfl (Or.inl rfl) (pe_dget2 hu (pe_disp (pps_cons pe_str pe_int (pps_cons pe_str pe_int (pps_cons pe_str pe_int (pps_cons pe_str pe_int (pps_cons pe_str pe_int (pps_cons pe_str pe_int (pps_cons pe_str pe_int pps_nil))))))) rfl rfl (List.cons_ne_nil _ _) (by decide)) (pe_ix ix_tup (pv 0) pe_int (fun _ _ => rfl)) pe_int ⟨rfl, rfl, rfl, rfl⟩))
    (pss_one (ps_ret (pe_lc (own := [("_law_k", 2)]) (g := (gName 2)) (tt := tYes) rfl sc_law_spots.nd (pi_range2 rfl T.z_range (pa_cons (pv 1) (pa_cons (pe_callB call_len_seq (by rfl) T.z_len (by decide +kernel) (pa_cons (pv 0) pa_nil)) pa_nil))) (blkOk_by (own := [("_law_k", 2)]) (N := ["_law_piece", "_law_first", "_law_k"]) (sc := defScope s_law_spots) (by decide +kernel)) (fun _ _ _ _ _ => (pg_name (i := 2) sc_law_spots.nd rfl (Or.inl rfl))) (fun _ _ _ _ _ => pts_nil) (fun _ _ _ _ _ => (pv 2)))))), ?_⟩
  obtain ⟨a, pv, sv, rfl, ea, rpv, rsv⟩ := rp_tm rt
  refine fun st hst => ⟨upd_same, fstK, rfl, (show 7 ≤ 15 by decide), ?_⟩
  have s1 : Same H (upd (upd H st (.dK [])) st (.dK (mergeK [] fstK))) := (same_new hst (.dK [])).upd2 hst
  have es : (upd (upd H st (.dK [])) st (.dK (mergeK [] fstK))) st = some (.dK (mergeK [] fstK)) := upd_same
  generalize upd (upd H st (.dK [])) st (.dK (mergeK [] fstK)) = H1 at *
  refine ⟨st, rfl, .inl ⟨_, .inl es⟩, _, rfl, a, _, 0, _, rfl, rfl, SqT.of (s1 _ _ ea), at0, _, DGet.k (k := .inr t.wd) es, ?_⟩
  rw [fst_of hw]
  have l1 := rpa_len rpv
  have l2 := rpa_len rsv
  rw [List.length_map] at l2
  obtain ⟨b1, b2⟩ := t.subs_len
  have fin : ∀ D H2, Same H1 H2 → H1 D = none → H2 D = some (.lst (spotsV t)) → Q (.ref D) H2 := fun D H2 s2 hD e => q H2 D (s1.trans s2) (by
    cases hh : H D with
    | none => rfl
    | some o => exact absurd (s1 _ _ hh) (by rw [hD]; simp)) e
  have hn : ((1 + (pv ++ sv).length : Nat) : Int) - (((if t.subs = [] then 9 else 1 + t.pre.length : Nat)) : Int) ≤ t.subs.length ∧ (((1 + (pv ++ sv).length : Nat) : Int) - (((if t.subs = [] then 9 else 1 + t.pre.length : Nat)) : Int)).toNat = t.subs.length := by
    rw [List.length_append, l1, l2]
    by_cases h0 : t.subs = []
    · rw [if_pos h0, h0]
      simp only [List.length_nil]
      omega
    · rw [if_neg h0]
      omega
  have hle : (if t.subs = [] then 9 else 1 + t.pre.length : Nat) ≤ 9 := by split <;> omega
  have hlen : ((V.str t.wd :: (pv ++ sv)).length : Nat) = 1 + (pv ++ sv).length := by rw [List.length_cons]; omega
  refine ⟨_, rfl, _, rfl, a, _, rfl, .inr (SqT.of (s1 _ _ ea)), _, _, rfl, ⟨by omega, by omega, by rw [hlen, List.length_append, l1, l2]; omega, by rw [hlen, List.length_append, l1, l2]; omega⟩, fun D hD => ?_⟩
  rw [hlen, hn.2]
  refine lc_range_rel rel_same (fun i y _ => y = .int ((((if t.subs = [] then 9 else 1 + t.pre.length : Nat)) : Int) + (i : Nat))) (fun _ _ _ _ _ r => r) hD (Same.refl _) (by omega) (fun i H3 Nx hi s3 nx => ?_) (fun H' s => Same.refl _) (fun H3 ys s3 eD hyl hys => ?_)
  · generalize hτ : wipe _ (List.map _ _) = τ
    obtain rfl : τ = [some (.ref a), some (.int (((if t.subs = [] then 9 else 1 + t.pre.length : Nat)) : Int)), none] := hτ.symm.trans rfl
    exact ⟨rfl, _, rfl, nx _ _ (Same.refl _) rfl⟩
  · refine fin D H3 s3 hD ?_
    rw [eD]
    congr 2
    apply List.ext_getElem?
    intro j
    unfold spotsV
    by_cases hj : j < t.subs.length
    · have hne : t.subs ≠ [] := fun e => by rw [e] at hj; exact absurd hj (Nat.not_lt_zero _)
      rw [List.getElem?_eq_getElem (by omega), hys j _ (List.getElem?_eq_getElem (by omega)), List.getElem?_map, List.getElem?_range hj, if_neg hne]
      rfl
    · rw [List.getElem?_eq_none (by omega), List.getElem?_eq_none (by simp; omega)]
end
end Wt
/-! Terms are bent. -/
namespace Wt
open PySem PySem.Spec PyProof.Rows L2 RZ RT
theorem cut_pre {A B : List V} {x : V} {n : Nat} (h : A.length = n) : cutV (A ++ x :: B) none (some (n : Int)) = A := by
  subst h
  unfold cutV
  have h2 : HT.sIx (A ++ x :: B).length (A ++ x :: B).length (some (A.length : Int)) = A.length := by
    rw [HT.sIx_nat, List.length_append]
    omega
  rw [h2, HT.sIx_none]
  simp
theorem cut_post {A B : List V} {x : V} {n : Nat} (h : A.length = n) : cutV (A ++ x :: B) (some ((n + 1 : Nat) : Int)) none = B := by
  subst h
  unfold cutV
  have h2 : HT.sIx (A ++ x :: B).length 0 (some ((A.length + 1 : Nat) : Int)) = A.length + 1 := by
    rw [HT.sIx_nat, List.length_append, List.length_cons]
    omega
  rw [h2, HT.sIx_none]
  have e : (A ++ x :: B) = (A ++ [x]) ++ B := by simp
  rw [e, List.drop_left' (by simp)]
  rw [List.take_of_length_le (by simp; omega)]
theorem cut_m2 {A : List V} {x y : V} : cutV (A ++ [x, y]) none (some (-2)) = A := by
  unfold cutV
  have h2 : HT.sIx (A ++ [x, y]).length (A ++ [x, y]).length (some (-2)) = A.length := by
    unfold HT.sIx
    simp only [List.length_append, List.length_cons, List.length_nil]
    rw [if_pos (by decide)]
    omega
  rw [h2, HT.sIx_none]
  simp
theorem ne_nilI {K : PySem.W.Frag} {H : Hp} {a b : Addr} {t : Tm} {Q : VK} (e : H a = some (.lst (spotsV t))) (eb : H b = some (.lst [])) (q : Q (.bl (!decide (t.subs = []))) H) : rNeD K (.ref a) (.ref b) H Q := by
  have key : ∀ js : List Int, PyData.canLayAll0 (js.map PyData.int) = true ∧ PyData.depthAll (js.map PyData.int) = 0 := by
    intro js
    induction js with
    | nil => exact ⟨by simp [PyData.canLayAll0], rfl⟩
    | cons j js ih => exact ⟨by simp only [List.map_cons, PyData.canLayAll0, PyData.canLay0, ih.1, Bool.and_self], by simp [PyData.depthAll, PyData.depth, ih.2]⟩
  have dp : ∀ js : List Int, DpAll K H (js.map V.int) (js.map PyData.int) := by
    intro js
    induction js with
    | nil => exact .nil
    | cons j js ih => exact .cons (.int j) ih
  have es : spotsV t = ((List.range t.subs.length).map fun j => ((1 + t.pre.length + j : Nat) : Int)).map V.int := by
    unfold spotsV
    rw [List.map_map]
    rfl
  generalize hjs : (List.range t.subs.length).map (fun j => ((1 + t.pre.length + j : Nat) : Int)) = js at es
  have hjl : js.length = t.subs.length := by rw [← hjs]; simp
  rw [es] at e
  obtain ⟨h1, h2⟩ := key js
  refine ⟨.list (js.map PyData.int), .list [], .lst (SqL.of e) (dp js), .lst (SqL.of eb) .nil, by unfold SeqAt.shaped; simp [PyData.canLay0, PyData.depth, h1, h2], shaped_names (xs := []) (by simp), ?_⟩
  rw [eqv_nil, show decide (js.map PyData.int = []) = decide (t.subs = []) by
    cases js with
    | nil => rw [decide_eq_true (by rfl), decide_eq_true (List.length_eq_zero_iff.mp hjl.symm)]
    | cons a b => rw [decide_eq_false (by simp), decide_eq_false (fun z => by rw [z] at hjl; simp at hjl)]]
  exact q
theorem sp_get {t : Tm} {j : Nat} {x : V} (h : (spotsV t)[j]? = some x) : j < t.subs.length ∧ x = .int ((1 + t.pre.length + j : Nat) : Int) := by
  unfold spotsV at h
  rw [List.getElem?_map] at h
  obtain ⟨k, hk, rfl⟩ := Option.map_eq_some_iff.mp h
  obtain ⟨hj, e⟩ := List.getElem?_eq_some_iff.mp hk
  rw [List.length_range] at hj
  rw [List.getElem_range] at e
  subst e
  exact ⟨hj, rfl⟩
def hiF : Fm := .box (.deed .any (.box (.box (.deed .num .any))))
theorem hiF_ht : hiF.ht = 5 := rfl
/-- what a bent term is -/
def Bnt (t t' : Tm) : Prop := t'.wf ∧ t'.dep ≤ t.dep + 2 ∧ t'.nodes ≤ t.nodes + 2
def spBent (n : Nat) : Sp := fun vs H Q _ => ∃ (p L : Addr) (v : V) (t : Tm) (xs : List Str), vs = [.ref p, v, .ref L] ∧ PotOk H p ∧ L ≠ p ∧ H L = some (.lst (xs.map V.str)) ∧ (∀ x ∈ xs, NameOk x) ∧ xs.length ≤ 12 ∧ RpT H v t ∧ t.wf ∧ t.dep < n ∧ ∀ H' x t', PS_ p H H' → RpT H' x t' → Bnt t t' → Q x H'
theorem sm_name {x : String} (h : ∀ c ∈ ((x : Str)).cps.toList, 97 ≤ c ∧ c ≤ 122) (h1 : 1 ≤ ((x : Str)).length ∧ ((x : Str)).length ≤ 8) : NameOk (x : Str) := ⟨h, h1.1, h1.2⟩
theorem nm_x : NameOk ("x" : Str) := sm_name (by decide) (by decide)
theorem nm_q : NameOk ("q" : Str) := sm_name (by decide) (by decide)
theorem nm_zz : NameOk ("zz" : Str) := sm_name (by decide) (by decide)
theorem nm_no : NameOk ("nobody" : Str) := sm_name (by decide) (by decide)
theorem tx_ab : TextOk ("ab" : Str) := ⟨fun c hc => (by decide : ∀ c ∈ (("ab" : Str)).cps.toList, 97 ≤ c ∧ c ≤ 122) c hc, by decide⟩
/-- one term in it bent -/
theorem bnt_sub {t u u' : Tm} {l1 l2 : List Tm} (hs : t.subs = l1 ++ u :: l2) (hw : t.wf) (hb : Bnt u u') : (l1 ++ u' :: l2).length = t.subs.length ∧ Bnt t (t.re (l1 ++ u' :: l2)) := by
  have hl : (l1 ++ u' :: l2).length = t.subs.length := by rw [hs]; simp
  have hu := Tm.subs_ok (t := t) (u := u) (by rw [hs]; simp) hw
  have ho : ∀ z ∈ l1 ++ u' :: l2, z.wf ∧ z.dep ≤ t.dep + 1 := fun z hz => by
    rcases List.mem_append.mp hz with h | h
    · have := Tm.subs_ok (t := t) (u := z) (by rw [hs]; exact List.mem_append_left _ h) hw
      exact ⟨this.1, by omega⟩
    · rcases List.mem_cons.mp h with rfl | h
      · exact ⟨hb.1, by have := hb.2.1; omega⟩
      · have := Tm.subs_ok (t := t) (u := z) (by rw [hs]; exact List.mem_append_right _ (List.mem_cons_of_mem _ h)) hw
        exact ⟨this.1, by omega⟩
  refine ⟨hl, Tm.re_wf hl hw (fun z hz => (ho z hz).1), ?_, ?_⟩
  · have := Tm.re_dep (m := t.dep + 1) hl fun z hz => (ho z hz).2
    omega
  · rw [Tm.re_nodes hl, Tm.nodes_eq t, hs]
    have := hb.2.2
    simp only [List.map_append, List.map_cons, List.sum_append, List.sum_cons]
    omega
theorem bnt_swap {t u v : Tm} {l : List Tm} (hs : t.subs = l ++ [u, v]) (hw : t.wf) : (l ++ [v, u]).length = t.subs.length ∧ Bnt t (t.re (l ++ [v, u])) := by
  have hl : (l ++ [v, u]).length = t.subs.length := by rw [hs]; simp
  have ho : ∀ z ∈ l ++ [v, u], z.wf ∧ z.dep + 1 ≤ t.dep := fun z hz => Tm.subs_ok (by rw [hs]; simp only [List.mem_append, List.mem_cons, List.not_mem_nil, or_false] at hz ⊢; rcases hz with h | h | h <;> simp [h]) hw
  refine ⟨hl, Tm.re_wf hl hw (fun z hz => (ho z hz).1), ?_, ?_⟩
  · have := Tm.re_dep (m := t.dep) hl fun z hz => by have := (ho z hz).2; omega
    omega
  · rw [Tm.re_nodes hl, Tm.nodes_eq t, hs]
    simp only [List.map_append, List.map_cons, List.map_nil, List.sum_append, List.sum_cons, List.sum_nil]
    omega
section
variable {P : Program} {w : World} {K : PySem.W.Frag} {mg : Str → Option Value} {base : Heap}
theorem sc_law_bent : FnScope ["_law_pot_here", "_law_piece", "_law_names", "_law_spots_here", "_law_k", "_law_way", "_law_high", "_law_some"] ["_law_pot_here", "_law_piece", "_law_names"] (defScope s_law_bent) := ⟨rfl, rfl, rfl, by decide +kernel, rfl, by decide +kernel, by decide +kernel⟩
theorem bent_zero (T : Facts w K mg) : Cl P w K mg base CX0 15 "_law_bent" (spBent 0) := by
  obtain ⟨fd, F⟩ := T.f_law_bent
  exact ⟨_, fd, ["_law_pot_here", "_law_piece", "_law_names"], T.g_law_bent, ⟨fun vs H Q E ⟨_, _, _, _, _, _, _, _, _, _, _, _, _, h, _⟩ => absurd h (Nat.not_lt_zero _), fun A outer s H args us vs Q E _ _ _ _ h => by obtain ⟨_, _, _, _, _, _, _, _, _, _, _, _, _, h, _⟩ := h; exact absurd h (Nat.not_lt_zero _)⟩, F.kp, F.bindsN fun _ _ _ _ _ _ us hl => match us, hl with | [_, _, _], _ => rfl⟩
set_option maxHeartbeats 16000000 in
theorem bent_step (T : Facts w K mg) (n : Nat) (c_law_bent : Cl P w K mg base CX0 (15 + n) "_law_bent" (spBent n)) : Cl P w K mg base CX0 (15 + (n + 1)) "_law_bent" (spBent (n + 1)) := by
  have c_law_digit := ok__law_digit (P := P) (base := base) T
  have c_law_form := ok__law_form (P := P) (base := base) T 3
  have c_law_pick := ok__law_pick (P := P) (base := base) T
  have c_law_name := ok__law_name (P := P) (base := base) T
  have c_law_spots := ok__law_spots (P := P) (base := base) T
  obtain ⟨fd, F⟩ := T.f_law_bent
  refine ⟨_, fd, ["_law_pot_here", "_law_piece", "_law_names"], T.g_law_bent, ?_, F.kp, F.bindsN fun _ _ _ _ _ _ us hl => match us, hl with | [_, _, _], _ => rfl⟩
  show FnOk P w K mg base CX0 (15 + n + 1) _ _ _ _
  refine F.ok sc_law_bent (fun vs H Q E h => ?_) (fun cdv A outer s H vs Q E hr h => ?_)
  · obtain ⟨p, L, v, t, xs, rfl, _⟩ := h
    rfl
  obtain ⟨p, L, v, t, xs, rfl, hp, hne, eL, hxs, hx12, rt, hw, hd, q⟩ := h
  have hu64 := hr.units
  refine ⟨_, PSs.nox (pss_cons (ps_set (i := 3) sc_law_bent.nd rfl (Or.inl rfl) (pe_cl c_law_spots hr (by omega) pass0 (pa_cons (pv 1) pa_nil)))
    (pss_mid (ps_if (PW.pt (pw_and (pt_cmpR (op_neD hu64) (pv 3) (pe_lst pa_nil) (nomark _)) (pw_and1 (pt_cmpR op_gt (pe_cl c_law_digit hr (by omega) pass0 (pa_cons (pv 0) (pa_cons pe_int pa_nil))) pe_int (nomark _))))) (pss_cons (ps_set (i := 4) sc_law_bent.nd rfl (Or.inl rfl) (pe_cl c_law_pick hr (by omega) pass0 (pa_cons (pv 0) (pa_cons (pv 3) pa_nil))))
    (pss_one (ps_ret (pe_op op_catA (pe_op op_catA (pe_slice sl_tupA (pv 1) po_none (po_some (pv 4))) (pe_tup (pa_cons (pe_cl c_law_bent hr (by omega) pass0 (pa_cons (pv 0) (pa_cons (pe_ix ix_tup (pv 1) (pv 4) (fun _ _ => rfl)) (pa_cons (pv 2) pa_nil)))) pa_nil))) (pe_slice sl_tupA (pv 1) (po_some (pe_op op_add (pv 4) pe_int)) po_none))))) pss_nil)
    (pss_cons (ps_set (i := 5) sc_law_bent.nd rfl (Or.inl rfl) (pe_cl c_law_digit hr (by omega) pass0 (pa_cons (pv 0) (pa_cons pe_int pa_nil))))
    (pss_mid (ps_if (PW.pt (pw_and (pt_cmpR op_lt (pv 5) pe_int (nomark _)) (pw_and1 (pt_cmpR op_in_seq (pe_ix ix_tup (pv 1) pe_int (fun _ _ => rfl)) (pe_tup (pa_cons pe_str (pa_cons pe_str pa_nil))) (by rfl))))) (pss_one (ps_ret (pe_op op_catA (pe_tup (pa_cons (pe_ix ix_tup (pv 1) pe_int (fun _ _ => rfl)) (pa_cons (pe_cl c_law_form hr (by omega) pass0 (pa_cons (pv 0) (pa_cons pe_int pa_nil))) pa_nil))) (pe_slice sl_tupA (pv 1) (po_some pe_int) po_none)))) pss_nil)
    (pss_mid (ps_if (PW.pt (pw_and (pt_cmpR op_lt (pv 5) pe_int (nomark _)) (pw_and1 (pt_cmpR op_gt (pe_callB call_len_seq (by rfl) T.z_len (by decide +kernel) (pa_cons (pv 3) pa_nil)) pe_int (nomark _))))) (pss_one (ps_ret (pe_op op_catA (pe_slice sl_tupA (pv 1) po_none (po_some (pe_un un_neg pe_int))) (pe_back (pv 1))))) pss_nil)
    (pss_cons (ps_if (pt_cmpR op_eq (pv 5) pe_int (nomark _)) (pss_one (ps_ret (pe_tup (pa_cons pe_str (pa_cons (pe_ix ix_list (pe_lst (pa_cons (pe_cl c_law_name hr (by omega) pass0 (pa_cons (pv 0) (pa_cons (pe_lst pa_nil) pa_nil))) (pa_cons (pe_cl c_law_pick hr (by omega) pass0 (pa_cons (pv 0) (pa_cons (pe_op op_cat (pv 2) (pe_lst (pa_cons pe_str pa_nil))) pa_nil))) pa_nil))) (pe_cl c_law_digit hr (by omega) pass0 (pa_cons (pv 0) (pa_cons pe_int pa_nil))) (fun _ _ => rfl)) pa_nil))))) pss_nil)
    (pss_cons (ps_set (i := 6) sc_law_bent.nd rfl (Or.inl rfl) (pe_tup (pa_cons pe_str (pa_cons (pe_tup (pa_cons pe_str (pa_cons pe_str (pa_cons (pe_tup (pa_cons pe_str (pa_cons (pe_tup (pa_cons pe_str (pa_cons (pe_tup (pa_cons pe_str (pa_cons pe_str (pa_cons pe_str pa_nil)))) pa_nil))) pa_nil))) pa_nil)))) pa_nil))))
    (pss_cons (ps_set (i := 7) sc_law_bent.nd rfl (Or.inl rfl) (pe_lst (pa_cons (pe_tup (pa_cons pe_str (pa_cons pe_int pa_nil))) (pa_cons (pe_tup (pa_cons pe_str (pa_cons pe_str pa_nil))) (pa_cons (pe_tup (pa_cons pe_str (pa_cons (pv 6) (pa_cons (pe_tup (pa_cons pe_str (pa_cons pe_str (pa_cons (pv 1) pa_nil)))) pa_nil)))) (pa_cons (pe_tup (pa_cons pe_str (pa_cons pe_str (pa_cons (pv 6) (pa_cons (pv 1) pa_nil))))) pa_nil))))))
    (pss_cons (ps_set (i := 7) sc_law_bent.nd rfl (Or.inl rfl) (pe_op op_cat (pv 7) (pe_lst (pa_cons (pe_tup (pa_cons pe_str (pa_cons pe_str (pa_cons (pe_cl c_law_form hr (by omega) pass0 (pa_cons (pv 0) (pa_cons pe_int pa_nil))) (pa_cons (pv 1) pa_nil))))) (pa_cons (pe_tup (pa_cons pe_str (pa_cons pe_str (pa_cons (pe_tup (pa_cons pe_str (pa_cons pe_str (pa_cons (pv 1) pa_nil)))) pa_nil)))) pa_nil)))))
    (pss_one (ps_ret (pe_cl c_law_pick hr (by omega) pass0 (pa_cons (pv 0) (pa_cons (pe_op op_cat (pv 7) (pe_lst (pa_cons (pe_tup (pa_cons pe_str (pa_cons (pv 1) pa_nil))) (pa_cons (pe_tup (pa_cons pe_str (pa_cons (pv 1) (pa_cons (pe_tup (pa_cons pe_str (pa_cons pe_int pa_nil))) pa_nil)))) (pa_cons (pe_tup (pa_cons pe_str (pa_cons (pe_tup (pa_cons pe_str (pa_cons pe_str pa_nil))) (pa_cons (pv 1) pa_nil)))) pa_nil))))) pa_nil)))))))))))))), ?_⟩
  obtain ⟨a, pv', sv, rfl, ea, rpv, rsv⟩ := rp_tm rt
  have l1 := rpa_len rpv
  have l2 := rpa_len rsv
  rw [List.length_map] at l2
  obtain ⟨b1, b2⟩ := t.subs_len
  refine ⟨_, rfl, _, t, rfl, rt, hw, fun H1 D s1 hD eD => ?_⟩
  have hDp : D ≠ p := fun z => hp.some (z ▸ hD)
  have p1 := PS_.of hp s1
  refine ⟨fun σ' H' => σ' = [some (.ref p), some (.ref a), some (.ref L), some (.ref D), none, none, none, none] ∧ PS_ p H H' ∧ H' D = some (.lst (spotsV t)), ?_, ?_⟩
  · refine ⟨_, rfl, sz0, fun b hb => ?_⟩
    have s2 := same_new hb (.lst [])
    have p2 := p1.trans (PS_.of p1.2.2 s2)
    have eD2 := s2 _ _ eD
    refine ne_nilI eD2 upd_same ⟨_, rfl, ?_⟩
    by_cases h0 : t.subs = []
    · rw [decide_eq_true h0]
      exact iteF (iteF ⟨rfl, p2, eD2⟩)
    rw [decide_eq_false h0]
    have hpos : 0 < t.subs.length := List.length_pos_iff.mpr h0
    refine iteT ⟨_, rfl, p, 4, rfl, p2.2.2, by decide, by decide, fun H3 d s3 hd3 => ⟨_, _, rfl, rfl, _, rfl, ?_⟩⟩
    have p3 := p2.trans s3
    have eD3 := s3.1 _ _ hDp eD2
    by_cases h1 : ((d : Nat) : Int) > 0
    · rw [decide_eq_true h1]
      refine iteT ⟨_, rfl, _, rfl, p, D, _, rfl, p3.2.2, hDp, eD3, by unfold spotsV; rw [List.length_map, List.length_range]; exact hpos, by unfold spotsV; rw [List.length_map, List.length_range]; omega, fun H4 j x s4 hx => ?_⟩
      obtain ⟨hj, rfl⟩ := sp_get hx
      obtain ⟨k0, hk0⟩ : ∃ k0, k0 = 1 + t.pre.length + j := ⟨_, rfl⟩
      rw [← hk0]
      have hsub : t.subs = t.subs.take j ++ t.subs[j] :: t.subs.drop (j + 1) := by
        rw [← List.drop_eq_getElem_cons hj, List.take_append_drop]
      generalize hl1 : t.subs.take j = m1 at hsub
      generalize t.subs.drop (j + 1) = m2 at hsub
      generalize t.subs[j] = u at hsub
      have hm1 : m1.length = j := by rw [← hl1, List.length_take]; omega
      have p4 := p3.trans s4
      have rsv4 := rsv.mono p4.tk
      have rpv4 := rpv.mono p4.tk
      have ea4 := p4.tk _ _ ea
      rw [hsub, List.map_append, List.map_cons] at rsv4
      obtain ⟨s1', s2', hsv, r1, r2⟩ := rpa_split rsv4
      obtain ⟨x, s3', rfl, rx, r3⟩ := rpa_cons.mp r2
      have ls1 := rpa_len r1
      rw [List.length_map] at ls1
      have hA : V.str t.wd :: (pv' ++ sv) = (V.str t.wd :: (pv' ++ s1')) ++ x :: s3' := by rw [hsv]; simp
      rw [hA] at ea4
      have hAl : (V.str t.wd :: (pv' ++ s1')).length = k0 := by rw [List.length_cons, List.length_append]; omega
      have hA1 : (V.str t.wd :: (pv' ++ s1')).length ≤ 10 := by rw [hAl]; omega
      have l3 : s3'.length ≤ 3 := by
        have := congrArg List.length hsv
        rw [List.length_append, List.length_cons] at this
        omega
      refine ⟨_, rfl, _, rfl, (k0 : Nat), rfl, sl_use ea4 (cut_pre hAl) fun b5 H5 s5 e5 => ?_⟩
      have p5 := PS_.of s4.2.2 s5
      have ea5 := s5 _ _ ea4
      have hud := Tm.subs_ok (t := t) (u := u) (by rw [hsub]; simp) hw
      refine ⟨_, rfl, _, rfl, _, rfl, a, _, (k0 : Nat), x, rfl, rfl, SqT.of ea5, atN (by rw [List.getElem?_append_right (by omega), hAl, Nat.sub_self]; rfl), _, rfl, p, L, x, u, xs, rfl, p5.2.2, hne, (p4.trans p5).1 _ _ hne eL, hxs, hx12, rx.mono s5.tk, hud.1, by omega, fun H6 y t1 s6 r6 hb6 => ⟨sz1, fun q1 hq1 => ?_⟩⟩
      have s7 := same_new hq1 (.tup [y])
      have p7 := PS_.of s6.2.2 s7
      have p67 := s6.trans p7
      refine cat_use (p67.tk _ _ e5) upd_same (by simp only [List.length_cons, List.length_nil] at hA1 ⊢; omega) fun c H8 s8 e8 => ?_
      have p8 := PS_.of p7.2.2 s8
      refine ⟨_, rfl, _, rfl, _, _, rfl, rfl, ((k0 + 1 : Nat) : Int), congrArg V.int (by omega), ?_⟩
      have p58 := p67.trans p8
      refine sl_lo (p58.tk _ _ ea5) (cut_post hAl) fun c9 H9 s9 e9 => ?_
      have p9 := PS_.of p8.2.2 s9
      refine cat_use (s9 _ _ e8) e9 (by simp only [List.length_append, List.length_cons, List.length_nil] at hA1 ⊢; omega) fun c10 H10 s10 e10 => ?_
      have p10 := PS_.of p9.2.2 s10
      have p510 := p58.trans (p9.trans p10)
      have p410 := p5.trans p510
      obtain ⟨hl, hbt⟩ := bnt_sub hsub hw hb6
      refine q _ _ _ (p4.trans p410) (rp_re (pv := pv') (sv := s1' ++ y :: s3') hl ?_ (rpv4.mono p410.tk) ?_) hbt
      · rw [e10]; simp
      · rw [List.map_append, List.map_cons]
        exact rpa_join (r1.mono p410.tk) (.cons (r6.mono (p7.trans (p8.trans (p9.trans p10))).tk) (r3.mono p410.tk))
    · rw [decide_eq_false h1]
      exact iteF ⟨rfl, p3, eD3⟩
  rintro σ1 H2 ⟨rfl, p2, eD2⟩
  refine ⟨_, rfl, p, 10, rfl, p2.2.2, by decide, by decide, fun H3 way s3 hway => ?_⟩
  have p3 := p2.trans s3
  have eD3 := s3.1 _ _ hDp eD2
  clear p2 eD2 s1 eD p1
  refine ⟨fun σ' H' => σ' = [some (.ref p), some (.ref a), some (.ref L), some (.ref D), none, some (.int (way : Nat)), none, none] ∧ PS_ p H H' ∧ H' D = some (.lst (spotsV t)), ?_, ?_⟩
  · refine ⟨_, rfl, _, _, rfl, rfl, _, rfl, ?_⟩
    by_cases h2 : ((way : Nat) : Int) < 2
    · rw [decide_eq_true h2]
      have ea3 := p3.tk _ _ ea
      refine iteT ⟨_, rfl, a, _, 0, _, rfl, rfl, SqT.of ea3, at0, sz2, fun q1 hq1 => ?_⟩
      have s4 := same_new hq1 (.tup [.str "tell", .str "box"])
      have p4 := p3.trans (PS_.of p3.2.2 s4)
      have eD4 := s4 _ _ eD3
      refine ⟨q1, (["tell", "box"] : List Str).map V.str, rfl, .inr (SqT.of upd_same), rfl, rfl, _, rfl, ?_⟩
      rw [if_neg Bool.false_ne_true, in_names]
      by_cases hin : t.wd ∈ (["tell", "box"] : List Str)
      · rw [decide_eq_true hin]
        have ea4 := s4 _ _ ea3
        refine iteT ⟨_, rfl, a, _, 0, _, rfl, rfl, SqT.of ea4, at0, _, rfl, p, 2, rfl, p4.2.2, by decide, fun H5 y g s5 rg hg => ⟨sz2, fun q2 hq2 => ?_⟩⟩
        have s6 := same_new hq2 (.tup [.str t.wd, y])
        have p6 := PS_.of s5.2.2 s6
        have p56 := s5.trans p6
        obtain ⟨x1, x2, hpv, hsv, tm, htm, hb⟩ : ∃ x1 x2, pv' = [x1] ∧ sv = [x2] ∧ ∃ tm : Tm, (∀ H' c, H' c = some (.tup [.str t.wd, y, x2]) → RpF H' y g → RpAll H' [x2] (t.subs.map Tm.d) → RpT H' (.ref c) tm) ∧ Bnt t tm := by
          cases t <;> first
            | exact absurd hin (by simp only [Tm.wd]; decide)
            | (rename_i A e
               obtain ⟨x1, r1, rfl, _, r2⟩ := rpa_cons.mp rpv
               obtain rfl := rpa_nil.mp r2
               obtain ⟨x2, r3, rfl, _, r4⟩ := rpa_cons.mp rsv
               obtain rfl := rpa_nil.mp r4
               refine ⟨x1, x2, rfl, rfl, .tell g e, fun H' c e1 rg' rs => ?_, ⟨by omega, hw.2⟩, by simp only [Tm.dep]; omega, by simp only [Tm.nodes]; omega⟩
               obtain ⟨_, _, e2, r5, _⟩ := rpa_cons.mp rs
               cases e2
               exact rp3.mpr ⟨c, _, _, _, rfl, e1, .str _, rg', r5⟩)
            | (rename_i A e
               obtain ⟨x1, r1, rfl, _, r2⟩ := rpa_cons.mp rpv
               obtain rfl := rpa_nil.mp r2
               obtain ⟨x2, r3, rfl, _, r4⟩ := rpa_cons.mp rsv
               obtain rfl := rpa_nil.mp r4
               refine ⟨x1, x2, rfl, rfl, .box g e, fun H' c e1 rg' rs => ?_, ⟨by omega, hw.2⟩, by simp only [Tm.dep]; omega, by simp only [Tm.nodes]; omega⟩
               obtain ⟨_, _, e2, r5, _⟩ := rpa_cons.mp rs
               cases e2
               exact rp3.mpr ⟨c, _, _, _, rfl, e1, .str _, rg', r5⟩)
        subst hpv hsv
        have ea6 := p56.tk _ _ ea4
        refine ⟨_, rfl, 2, rfl, ?_⟩
        refine sl_lo ea6 (show cutV ([V.str t.wd] ++ x1 :: [x2]) (some ((1 + 1 : Nat) : Int)) none = [x2] from cut_post rfl) fun c7 H7 s7 e7 => ?_
        have p7 := PS_.of p6.2.2 s7
        refine cat_use (s7 _ _ upd_same) e7 (show 2 + 1 ≤ 1000 by decide) fun c8 H8 s8 e8 => ?_
        have p48 := p56.trans (p7.trans (PS_.of p7.2.2 s8))
        exact q _ _ tm (p4.trans p48) (htm H8 c8 e8 (rg.mono (p6.trans (p7.trans (PS_.of p7.2.2 s8))).tk) (rsv.mono (p4.trans p48).tk)) hb
      · rw [decide_eq_false hin]
        exact iteF ⟨rfl, p4, eD4⟩
    · rw [decide_eq_false h2]
      exact iteF (iteF ⟨rfl, p3, eD3⟩)
  rintro σ2 H4 ⟨rfl, p4, eD4⟩
  clear p3 eD3 s3
  refine ⟨fun σ' H' => σ' = [some (.ref p), some (.ref a), some (.ref L), some (.ref D), none, some (.int (way : Nat)), none, none] ∧ PS_ p H H', ?_, ?_⟩
  · refine ⟨_, rfl, _, _, rfl, rfl, _, rfl, ?_⟩
    by_cases h2 : ((way : Nat) : Int) < 4
    · rw [decide_eq_true h2]
      refine iteT ⟨_, rfl, D, _, rfl, .inl (SqL.of eD4), _, _, rfl, rfl, _, rfl, ?_⟩
      rw [show (spotsV t).length = t.subs.length by unfold spotsV; rw [List.length_map, List.length_range]]
      by_cases h3 : ((t.subs.length : Nat) : Int) > 1
      · rw [decide_eq_true h3]
        obtain ⟨m, u, v, hsub⟩ : ∃ m u v, t.subs = m ++ [u, v] := by
          cases t <;> first
            | (simp [Tm.subs] at h3; done)
            | exact ⟨[], _, _, rfl⟩
            | exact ⟨[_], _, _, rfl⟩
        have rsv4 := rsv.mono p4.tk
        have rpv4 := rpv.mono p4.tk
        have ea4 := p4.tk _ _ ea
        rw [hsub, List.map_append] at rsv4
        obtain ⟨s1', s2', hsv, r1, r2⟩ := rpa_split rsv4
        obtain ⟨x, s3', rfl, rx, r3⟩ := rpa_cons.mp r2
        obtain ⟨y, s4', rfl, ry, r4⟩ := rpa_cons.mp r3
        obtain rfl := rpa_nil.mp r4
        have hA : V.str t.wd :: (pv' ++ sv) = (V.str t.wd :: (pv' ++ s1')) ++ [x, y] := by rw [hsv]; simp
        rw [hA] at ea4
        have l3 : s1'.length ≤ 3 := by
          have := congrArg List.length hsv
          rw [List.length_append] at this
          omega
        refine iteT ⟨_, rfl, 2, rfl, _, rfl, sl_use ea4 cut_m2 fun b5 H5 s5 e5 => ?_⟩
        have p5 := PS_.of p4.2.2 s5
        refine ⟨_, rfl, a, _, x, y, rfl, s5 _ _ ea4, by simp, fun b6 H6 s6 e6 => ?_⟩
        have p6 := PS_.of p5.2.2 s6
        refine cat_use (s6 _ _ e5) e6 (by simp only [List.length_append, List.length_cons, List.length_nil]; omega) fun c7 H7 s7 e7 => ?_
        have p47 := p5.trans (p6.trans (PS_.of p6.2.2 s7))
        obtain ⟨hl, hbt⟩ := bnt_swap hsub hw
        refine q _ _ _ (p4.trans p47) (rp_re (pv := pv') (sv := s1' ++ [y, x]) hl ?_ (rpv4.mono p47.tk) ?_) hbt
        · rw [e7]; simp
        · rw [List.map_append]
          exact rpa_join (r1.mono p47.tk) (.cons (ry.mono p47.tk) (.cons (rx.mono p47.tk) .nil))
      · rw [decide_eq_false h3]
        exact iteF ⟨rfl, p4⟩
    · rw [decide_eq_false h2]
      exact iteF (iteF ⟨rfl, p4⟩)
  rintro σ3 H5 ⟨rfl, p5⟩
  clear p4 eD4
  refine ⟨_, rfl, rfl, _, rfl, ?_⟩
  by_cases w4 : V.int (way : Nat) = V.int 4
  · rw [decide_eq_true w4]
    refine iteT ⟨_, rfl, sz0, fun l0 hl0 => ?_⟩
    have s6 := same_new hl0 (.lst [])
    have p6 := PS_.of p5.2.2 s6
    refine ⟨p, l0, [], rfl, p6.2.2, fun z => p5.2.2.some (z ▸ hl0), upd_same, by simp, by simp, fun H7 nm s7 hnm _ => ?_⟩
    have p57 := p5.trans (p6.trans s7)
    refine ⟨_, rfl, _, rfl, sz1, fun l1 hl1 => ?_⟩
    have s8 := same_new hl1 (.lst [.str "zz"])
    refine ⟨L, l1, xs.map V.str, [.str "zz"], rfl, rfl, s8 _ _ (p57.1 _ _ hne eL), upd_same, by rw [List.length_map, sizeLine_eq]; simp only [List.length_cons, List.length_nil]; omega, fun l2 hl2 => ?_⟩
    have s9 := same_new hl2 (.lst (xs.map V.str ++ [.str "zz"]))
    have p79 := PS_.of s7.2.2 (s8.trans s9)
    refine ⟨p, l2, xs.map V.str ++ [.str "zz"], rfl, p79.2.2, fun z => (PS_.of s7.2.2 s8).2.2.some (z ▸ hl2), upd_same, by simp, by rw [List.length_append, List.length_map]; simp only [List.length_cons, List.length_nil]; omega, fun H10 d x s10 hx => ?_⟩
    obtain ⟨z, rfl, hz⟩ : ∃ z, x = .str z ∧ NameOk z := by
      have hm := List.mem_of_getElem? hx
      rcases List.mem_append.mp hm with hm | hm
      · obtain ⟨z, hz, rfl⟩ := List.mem_map.mp hm
        exact ⟨z, rfl, hxs z hz⟩
      · rw [List.mem_singleton.mp hm]
        exact ⟨_, rfl, nm_zz⟩
    have p510 := p57.trans (p79.trans s10)
    refine ⟨sz2, fun l3 hl3 => ?_⟩
    have s11 := same_new hl3 (.lst [.str nm, .str z])
    have p11 := p510.trans (PS_.of s10.2.2 s11)
    have hl3p : l3 ≠ p := fun z => s10.2.2.some (z ▸ hl3)
    refine ⟨_, rfl, p, 2, rfl, p11.2.2, by decide, by decide, fun H12 e s12 he => ?_⟩
    have el3 := s12.1 _ _ hl3p upd_same
    obtain ⟨y, hy, hyo⟩ : ∃ y, ([V.str nm, V.str z] : List V)[e]? = some (.str y) ∧ NameOk y := by
      match e, he with
      | 0, _ => exact ⟨nm, rfl, hnm⟩
      | 1, _ => exact ⟨z, rfl, hz⟩
      | e + 2, h => exact absurd h (by omega)
    refine ⟨l3, _, (e : Nat), .str y, rfl, rfl, SqL.of el3, atN hy, sz2, fun q1 hq1 => ?_⟩
    have s13 := same_new hq1 (.tup [.str "name", .str y])
    have hnd : 1 ≤ t.nodes := by rw [Tm.nodes_eq]; omega
    exact q _ _ (.name y) (p11.trans (s12.trans (PS_.of s12.2.2 s13))) (rp2.mpr ⟨q1, _, _, rfl, upd_same, .str _, .str _⟩) ⟨hyo, by simp only [Tm.dep]; omega, by simp only [Tm.nodes]; omega⟩
  rw [decide_eq_false w4]
  have rt5 : RpT H5 (.ref a) t := rt.mono p5.tk
  have hnd : 1 ≤ t.nodes := by rw [Tm.nodes_eq]; omega
  have tany : (Fm.any).ht ≤ 5 := by decide
  -- the high form
  refine iteF ⟨sz3, fun q1 hq1 => ⟨sz2, fun q2 hq2 => ⟨sz2, fun q3 hq3 => ⟨sz3, fun q4 hq4 => ⟨sz2, fun q5 hq5 => ?_⟩⟩⟩⟩⟩
  have s1 := same_new hq1 (.tup [.str "deed", .str "num", .str "any"])
  have s2 := same_new hq2 (.tup [.str "box", .ref q1])
  have s3 := same_new hq3 (.tup [.str "box", .ref q2])
  have s4 := same_new hq4 (.tup [.str "deed", .str "any", .ref q3])
  have s5 := same_new hq5 (.tup [.str "box", .ref q4])
  have s15 := s1.trans (s2.trans (s3.trans (s4.trans s5)))
  have rhi : RpF (upd (upd (upd (upd (upd H5 q1 (.tup [.str "deed", .str "num", .str "any"])) q2 (.tup [.str "box", .ref q1])) q3 (.tup [.str "box", .ref q2])) q4 (.tup [.str "deed", .str "any", .ref q3])) q5 (.tup [.str "box", .ref q4])) (.ref q5) hiF :=
    rpf_box.mpr ⟨q5, _, rfl, upd_same, rpf_deed.mpr ⟨q4, _, _, rfl, s5 _ _ upd_same, .str _, rpf_box.mpr ⟨q3, _, rfl, (s4.trans s5) _ _ upd_same, rpf_box.mpr ⟨q2, _, rfl, (s3.trans (s4.trans s5)) _ _ upd_same, rpf_deed.mpr ⟨q1, _, _, rfl, (s2.trans (s3.trans (s4.trans s5))) _ _ upd_same, .str _, .str _⟩⟩⟩⟩⟩
  have p6 := p5.trans (PS_.of p5.2.2 s15)
  have rt6 := rt5.mono s15.tk
  generalize upd (upd (upd (upd (upd H5 q1 (.tup [.str "deed", .str "num", .str "any"])) q2 (.tup [.str "box", .ref q1])) q3 (.tup [.str "box", .ref q2])) q4 (.tup [.str "deed", .str "any", .ref q3])) q5 (.tup [.str "box", .ref q4]) = H6 at *
  clear s1 s2 s3 s4 s5 s15
  -- four
  refine ⟨sz2, fun q1 hq1 => ⟨sz2, fun q2 hq2 => ⟨_, rfl, _, rfl, sz3, fun q3 hq3 => ⟨sz3, fun q4 hq4 => ⟨_, rfl, _, rfl, sz4, fun q6 hq6 => ⟨sz4, fun l1 hl1 => ?_⟩⟩⟩⟩⟩⟩
  have s1 := same_new hq1 (.tup [.str "number", .int 3])
  have s2 := same_new hq2 (.tup [.str "text", .str "ab"])
  have s3 := same_new hq3 (.tup [.str "tell", .str "any", .ref a])
  have s4 := same_new hq4 (.tup [.str "box", .ref q5, .ref q3])
  have s5 := same_new hq6 (.tup [.str "deed", .str "x", .ref q5, .ref a])
  have s6 := same_new hl1 (.lst [.ref q1, .ref q2, .ref q4, .ref q6])
  have s36 := s3.trans (s4.trans (s5.trans s6))
  have s16 := s1.trans (s2.trans s36)
  obtain ⟨T1, hT1⟩ : ∃ T1 : List Tm, T1 = [.number 3, .text "ab", .box hiF (.tell .any t), .deed "x" hiF t] := ⟨_, rfl⟩
  have R1 : RpAll (upd (upd (upd (upd (upd (upd H6 q1 (.tup [.str "number", .int 3])) q2 (.tup [.str "text", .str "ab"])) q3 (.tup [.str "tell", .str "any", .ref a])) q4 (.tup [.str "box", .ref q5, .ref q3])) q6 (.tup [.str "deed", .str "x", .ref q5, .ref a])) l1 (.lst [.ref q1, .ref q2, .ref q4, .ref q6])) [.ref q1, .ref q2, .ref q4, .ref q6] (T1.map Tm.d) := by
    rw [hT1]
    exact .cons (rp2.mpr ⟨q1, _, _, rfl, (s2.trans s36) _ _ upd_same, .str _, .int _⟩) (.cons (rp2.mpr ⟨q2, _, _, rfl, s36 _ _ upd_same, .str _, .str _⟩) (.cons (rp3.mpr ⟨q4, _, _, _, rfl, (s5.trans s6) _ _ upd_same, .str _, rhi.mono s16.tk, rp3.mpr ⟨q3, _, _, _, rfl, (s4.trans (s5.trans s6)) _ _ upd_same, .str _, .str _, rt6.mono s16.tk⟩⟩) (.cons (rp4.mpr ⟨q6, _, _, _, _, rfl, s6 _ _ upd_same, .str _, .str _, rhi.mono s16.tk, rt6.mono s16.tk⟩) .nil)))
  have p7 := p6.trans (PS_.of p6.2.2 s16)
  have rt7 := rt6.mono s16.tk
  have el1 : (upd (upd (upd (upd (upd (upd H6 q1 (.tup [.str "number", .int 3])) q2 (.tup [.str "text", .str "ab"])) q3 (.tup [.str "tell", .str "any", .ref a])) q4 (.tup [.str "box", .ref q5, .ref q3])) q6 (.tup [.str "deed", .str "x", .ref q5, .ref a])) l1 (.lst [.ref q1, .ref q2, .ref q4, .ref q6])) l1 = some (.lst [.ref q1, .ref q2, .ref q4, .ref q6]) := upd_same
  have hl1p : l1 ≠ p := fun z => by
    have := (PS_.of p6.2.2 (s1.trans (s2.trans (s3.trans (s4.trans s5))))).2.2.some
    exact this (z ▸ hl1)
  generalize upd (upd (upd (upd (upd (upd H6 q1 (.tup [.str "number", .int 3])) q2 (.tup [.str "text", .str "ab"])) q3 (.tup [.str "tell", .str "any", .ref a])) q4 (.tup [.str "box", .ref q5, .ref q3])) q6 (.tup [.str "deed", .str "x", .ref q5, .ref a])) l1 (.lst [.ref q1, .ref q2, .ref q4, .ref q6]) = H7 at *
  generalize hL1 : ([.ref q1, .ref q2, .ref q4, .ref q6] : List V) = L1 at *
  have hL1l : L1.length = 4 := by rw [← hL1]; rfl
  clear s1 s2 s3 s4 s5 s6 s36 s16
  -- two more
  refine ⟨_, rfl, _, rfl, p, 1, rfl, p7.2.2, by decide, fun H8 y g s8 rg hg => ⟨_, rfl, sz4, fun q1 hq1 => ⟨_, rfl, sz3, fun q2 hq2 => ⟨sz3, fun q3 hq3 => ⟨sz2, fun l2 hl2 => ?_⟩⟩⟩⟩⟩
  have el18 := s8.1 _ _ hl1p el1
  have rt8 := rt7.mono s8.tk
  have s1 := same_new hq1 (.tup [.str "deed", .str "q", y, .ref a])
  have s2 := same_new hq2 (.tup [.str "tell", .str "any", .ref a])
  have s3 := same_new hq3 (.tup [.str "box", .str "any", .ref q2])
  have s4 := same_new hl2 (.lst [.ref q1, .ref q3])
  have s14 := s1.trans (s2.trans (s3.trans s4))
  refine ⟨l1, l2, L1, [.ref q1, .ref q3], rfl, rfl, s14 _ _ el18, upd_same, by rw [hL1l]; exact (show 4 + 2 ≤ sizeLine by decide), fun l3 hl3 => ?_⟩
  have s5 := same_new hl3 (.lst (L1 ++ [.ref q1, .ref q3]))
  have s15 := s14.trans s5
  obtain ⟨T2, hT2⟩ : ∃ T2 : List Tm, T2 = [.deed "q" g t, .box .any (.tell .any t)] := ⟨_, rfl⟩
  have R2 : RpAll (upd (upd (upd (upd (upd H8 q1 (.tup [.str "deed", .str "q", y, .ref a])) q2 (.tup [.str "tell", .str "any", .ref a])) q3 (.tup [.str "box", .str "any", .ref q2])) l2 (.lst [.ref q1, .ref q3])) l3 (.lst (L1 ++ [.ref q1, .ref q3]))) [.ref q1, .ref q3] (T2.map Tm.d) := by
    rw [hT2]
    exact .cons (rp4.mpr ⟨q1, _, _, _, _, rfl, (s2.trans (s3.trans (s4.trans s5))) _ _ upd_same, .str _, .str _, rg.mono s15.tk, rt8.mono s15.tk⟩) (.cons (rp3.mpr ⟨q3, _, _, _, rfl, (s4.trans s5) _ _ upd_same, .str _, .str _, rp3.mpr ⟨q2, _, _, _, rfl, (s3.trans (s4.trans s5)) _ _ upd_same, .str _, .str _, rt8.mono s15.tk⟩⟩) .nil)
  have R12 := rpa_join (R1.mono (s8.trans (PS_.of s8.2.2 s15)).tk) R2
  have p8 := (p7.trans s8).trans (PS_.of s8.2.2 s15)
  have rt9 := rt8.mono s15.tk
  have el3 : (upd (upd (upd (upd (upd H8 q1 (.tup [.str "deed", .str "q", y, .ref a])) q2 (.tup [.str "tell", .str "any", .ref a])) q3 (.tup [.str "box", .str "any", .ref q2])) l2 (.lst [.ref q1, .ref q3])) l3 (.lst (L1 ++ [.ref q1, .ref q3]))) l3 = some (.lst (L1 ++ [.ref q1, .ref q3])) := upd_same
  generalize upd (upd (upd (upd (upd H8 q1 (.tup [.str "deed", .str "q", y, .ref a])) q2 (.tup [.str "tell", .str "any", .ref a])) q3 (.tup [.str "box", .str "any", .ref q2])) l2 (.lst [.ref q1, .ref q3])) l3 (.lst (L1 ++ [.ref q1, .ref q3])) = H9 at *
  generalize hL2 : (L1 ++ [.ref q1, .ref q3] : List V) = L2' at *
  have hL2l : L2'.length = 6 := by rw [← hL2, List.length_append, hL1l]; rfl
  clear s1 s2 s3 s4 s5 s14 s15 R1 R2 el1 el18
  -- the last three
  refine ⟨_, rfl, _, rfl, _, rfl, sz2, fun q1 hq1 => ⟨_, rfl, sz2, fun q2 hq2 => ⟨sz3, fun q3 hq3 => ⟨sz2, fun q4 hq4 => ⟨_, rfl, sz3, fun q6 hq6 => ⟨sz3, fun l4 hl4 => ?_⟩⟩⟩⟩⟩⟩
  have s1 := same_new hq1 (.tup [.str "read", .ref a])
  have s2 := same_new hq2 (.tup [.str "number", .int 1])
  have s3 := same_new hq3 (.tup [.str "call", .ref a, .ref q2])
  have s4 := same_new hq4 (.tup [.str "name", .str "nobody"])
  have s5 := same_new hq6 (.tup [.str "do", .ref q4, .ref a])
  have s6 := same_new hl4 (.lst [.ref q1, .ref q3, .ref q6])
  have s16 := s1.trans (s2.trans (s3.trans (s4.trans (s5.trans s6))))
  refine ⟨l3, l4, L2', [.ref q1, .ref q3, .ref q6], rfl, rfl, s16 _ _ el3, upd_same, by rw [hL2l]; exact (show 6 + 3 ≤ sizeLine by decide), fun l5 hl5 => ?_⟩
  have s7 := same_new hl5 (.lst (L2' ++ [.ref q1, .ref q3, .ref q6]))
  have s17 := s16.trans s7
  obtain ⟨T3, hT3⟩ : ∃ T3 : List Tm, T3 = [.read t, .call t (.number 1), .doT (.name "nobody") t] := ⟨_, rfl⟩
  have R3 : RpAll (upd (upd (upd (upd (upd (upd (upd H9 q1 (.tup [.str "read", .ref a])) q2 (.tup [.str "number", .int 1])) q3 (.tup [.str "call", .ref a, .ref q2])) q4 (.tup [.str "name", .str "nobody"])) q6 (.tup [.str "do", .ref q4, .ref a])) l4 (.lst [.ref q1, .ref q3, .ref q6])) l5 (.lst (L2' ++ [.ref q1, .ref q3, .ref q6]))) [.ref q1, .ref q3, .ref q6] (T3.map Tm.d) := by
    rw [hT3]
    exact .cons (rp2.mpr ⟨q1, _, _, rfl, (s2.trans (s3.trans (s4.trans (s5.trans (s6.trans s7))))) _ _ upd_same, .str _, rt9.mono s17.tk⟩) (.cons (rp3.mpr ⟨q3, _, _, _, rfl, (s4.trans (s5.trans (s6.trans s7))) _ _ upd_same, .str _, rt9.mono s17.tk, rp2.mpr ⟨q2, _, _, rfl, (s3.trans (s4.trans (s5.trans (s6.trans s7)))) _ _ upd_same, .str _, .int _⟩⟩) (.cons (rp3.mpr ⟨q6, _, _, _, rfl, (s6.trans s7) _ _ upd_same, .str _, rp2.mpr ⟨q4, _, _, rfl, (s5.trans (s6.trans s7)) _ _ upd_same, .str _, .str _⟩, rt9.mono s17.tk⟩) .nil))
  have R := rpa_join (R12.mono s17.tk) R3
  have p9 := p8.trans (PS_.of p8.2.2 s17)
  refine ⟨p, l5, L2' ++ [.ref q1, .ref q3, .ref q6], rfl, p9.2.2, fun z => (PS_.of p8.2.2 s16).2.2.some (z ▸ hl5), upd_same, by simp, by rw [List.length_append, hL2l]; exact (show 6 + 3 ≤ 1000 by decide), fun H10 d x s10 hx => ?_⟩
  rw [← List.map_append, ← List.map_append] at R
  have R10 := R.mono s10.tk
  obtain ⟨t', ht', rx⟩ : ∃ t', (T1 ++ T2 ++ T3)[d]? = some t' ∧ RpT H10 x t' := by
    obtain ⟨hd1, hd2⟩ := List.getElem?_eq_some_iff.mp hx
    have hl := rpa_len R10
    rw [List.length_map] at hl
    have e := List.getElem?_eq_getElem (l := T1 ++ T2 ++ T3) (i := d) (by omega)
    exact ⟨_, e, rpa_get R10 hx (by rw [List.getElem?_map, e]; rfl)⟩
  have hm := List.mem_of_getElem? ht'
  have n3 : NumOk 3 := by unfold NumOk; decide
  have n1 : NumOk 1 := by unfold NumOk; decide
  refine q _ _ t' (p9.trans s10) rx ?_
  rw [hT1, hT2, hT3] at hm
  simp only [List.cons_append, List.nil_append, List.mem_cons, List.not_mem_nil, or_false] at hm
  have h5 : hiF.ht ≤ 5 := by decide
  rcases hm with rfl | rfl | rfl | rfl | rfl | rfl | rfl | rfl | rfl
  · exact ⟨n3, by simp only [Tm.dep]; omega, by simp only [Tm.nodes]; omega⟩
  · exact ⟨tx_ab, by simp only [Tm.dep]; omega, by simp only [Tm.nodes]; omega⟩
  · exact ⟨⟨h5, tany, hw⟩, by simp only [Tm.dep]; omega, by simp only [Tm.nodes]; omega⟩
  · exact ⟨⟨nm_x, h5, hw⟩, by simp only [Tm.dep]; omega, by simp only [Tm.nodes]; omega⟩
  · exact ⟨⟨nm_q, by omega, hw⟩, by simp only [Tm.dep]; omega, by simp only [Tm.nodes]; omega⟩
  · exact ⟨⟨tany, tany, hw⟩, by simp only [Tm.dep]; omega, by simp only [Tm.nodes]; omega⟩
  · exact ⟨hw, by simp only [Tm.dep]; omega, by simp only [Tm.nodes]; omega⟩
  · exact ⟨⟨hw, n1⟩, by simp only [Tm.dep]; omega, by simp only [Tm.nodes]; omega⟩
  · exact ⟨⟨nm_no, hw⟩, by simp only [Tm.dep]; omega, by simp only [Tm.nodes]; omega⟩
theorem ok__law_bent (T : Facts w K mg) : ∀ n, Cl P w K mg base CX0 (15 + n) "_law_bent" (spBent n)
  | 0 => bent_zero T
  | n + 1 => bent_step T n (ok__law_bent T n)
end
end Wt
/-! Terms are placed right. -/
namespace Wt
open PySem PySem.Spec PyProof.Rows L2 RZ RT
theorem same_unl {H H' : Hp} {d : Addr} {o : Obj} {kvs : List (Key × V)} (e : H d = some (.dK kvs)) (s : Same (upd H d (.frz o (.dK kvs))) H') : Same H (upd H' d (.dK kvs)) := fun a u h => by
  by_cases z : a = d
  · subst z
    rw [e] at h
    cases h
    exact upd_same
  · rw [upd_ne z]
    exact s a u (by rw [upd_ne z]; exact h)
theorem DR.get {H : Hp} {kvs : List (Key × V)} {fs : FD} (h : DR H kvs fs) : ∀ {i : Nat} {k : Key} {v : V}, kvs[i]? = some (k, v) → ∃ q, fs[i]? = some q ∧ k = .inr q.1 ∧ RpF H v q.2 := by
  induction h with
  | nil => intro i k v e; simp at e
  | @cons x v f kvs fs r _ ih =>
    intro i k u e
    cases i with
    | zero => cases e; exact ⟨_, rfl, rfl, r⟩
    | succ i => exact ih (i := i) (by simpa using e)
theorem PS_.dk {p : Addr} {H H' : Hp} (s : PS_ p H H') {a : Addr} {kvs : List (Key × V)} (e : H a = some (.dK kvs)) : H' a = some (.dK kvs) := s.1 _ _ (fun z => by
  obtain ⟨x, y, e2, _⟩ := s.2.1
  rw [← z, e] at e2
  cases e2) e
theorem PS_.none {p : Addr} {H H' : Hp} (s : PS_ p H H') {a : Addr} (e : H' a = none) : H a = none := by
  cases h : H a with
  | none => rfl
  | some o =>
    by_cases z : a = p
    · exact absurd e (z ▸ s.2.2.some)
    · rw [s.1 _ _ z h] at e
      cases e
theorem PS_.pg {K : PySem.W.Frag} {p : Addr} {H H' : Hp} (s : PS_ p H H') {pr : Addr} {fs : FD} (h : PgAt K H pr fs) : PgAt K H' pr fs := by
  obtain ⟨dx, oh, tm, fa, kvs, h1, h2, h3⟩ := h
  refine ⟨dx, oh, tm, fa, kvs, s.1 _ _ (fun z => ?_) h1, s.dk h2, h3.mono s.tk⟩
  obtain ⟨x, y, e2, _⟩ := s.2.1
  rw [← z, h1] at e2
  cases e2
theorem PS_.kept {p : Addr} {H H' : Hp} (s : PS_ p H H') {v : V} {ms : Option FD} (h : KeptAt H v ms) : KeptAt H' v ms := by
  cases ms with
  | none => exact h
  | some ml =>
    obtain ⟨k, more, rfl, e, h⟩ := h
    exact ⟨k, more, rfl, s.dk e, h.mono s.tk⟩
theorem KeptAt.same {H H' : Hp} {v : V} {ms : Option FD} (h : KeptAt H v ms) (s : Same H H') : KeptAt H' v ms := by
  cases ms with
  | none => exact h
  | some ml =>
    obtain ⟨k, more, rfl, e, h⟩ := h
    exact ⟨k, more, rfl, s _ _ e, h.mono s.tk⟩
theorem putP_all {Pd : Str × Fm → Prop} {fs : FD} {x : Str} {f : Fm} (h : ∀ q ∈ fs, Pd q) (hf : Pd (x, f)) : ∀ q ∈ putP fs x f, Pd q := by
  intro q hq
  unfold putP at hq
  split at hq
  · obtain ⟨p, hp, rfl⟩ := List.mem_map.mp hq
    split
    · rename_i e
      rw [e]
      exact hf
    · exact h p hp
  · rcases List.mem_append.mp hq with hq | hq
    · exact h q hq
    · rw [List.mem_singleton.mp hq]; exact hf
theorem mergeP_all {Pd : Str × Fm → Prop} : ∀ {ms fs : FD}, (∀ q ∈ fs, Pd q) → (∀ q ∈ ms, Pd q) → ∀ q ∈ mergeP fs ms, Pd q
  | [], _, h, _ => h
  | p :: ms, fs, h, hm => mergeP_all (ms := ms) (putP_all h (hm p List.mem_cons_self)) fun q hq => hm q (List.mem_cons_of_mem _ hq)
/-- what is kept: few names, low forms -/
def KOk (ml : FD) : Prop := ml.length ≤ 5 ∧ ∀ q ∈ ml, NameOk q.1 ∧ q.2.ht ≤ 3
theorem kvd_show {ml : FD} (h : KOk ml) : Show (.dict (kvD ml)) := by
  have key : ∀ ml : FD, (∀ q ∈ ml, NameOk q.1 ∧ q.2.ht ≤ 3) → PyData.leavesShortKv 33 (kvD ml) = true ∧ PyData.showableKv (kvD ml) = true ∧ PyData.depthKv (kvD ml) ≤ 10 ∧ PyData.bulkKv (kvD ml) ≤ 400 * ml.length := by
    intro ml
    induction ml with
    | nil => exact fun _ => ⟨rfl, rfl, Nat.zero_le _, Nat.zero_le _⟩
    | cons q ml ih =>
      intro h
      obtain ⟨h1, h2, h3, h4⟩ := ih fun d hd => h d (List.mem_cons_of_mem _ hd)
      obtain ⟨hn, hf⟩ := h q List.mem_cons_self
      have s1 := q.2.shw
      have s2 : Shw (.str q.1) := shw_str (lw_ch hn.1)
      have s3 := Fm.bulk5 (f := q.2) (by omega)
      have s4 := Fm.depth_d q.2
      have s5 := name_sz hn
      refine ⟨?_, ?_, ?_, ?_⟩
      · show (PyData.leavesShort 33 (.str q.1) && PyData.leavesShort 33 q.2.d && PyData.leavesShortKv 33 (kvD ml)) = true
        rw [s2.lv, s1.lv, h1]; rfl
      · show (PyData.showable (.str q.1) && PyData.showable q.2.d && PyData.showableKv (kvD ml)) = true
        rw [s2.sh, s1.sh, h2]; rfl
      · show max (max 0 q.2.d.depth) (PyData.depthKv (kvD ml)) ≤ 10
        omega
      · show q.1.cps.size + q.2.d.bulk + 2 + PyData.bulkKv (kvD ml) ≤ 400 * (ml.length + 1)
        omega
  obtain ⟨h1, h2, h3, h4⟩ := key ml h.2
  have hl := h.1
  refine show_of ⟨h1, h2⟩ ?_ ?_
  · show PyData.depthKv (kvD ml) + 1 ≤ 100
    omega
  · show PyData.bulkKv (kvD ml) ≤ 400000
    omega
theorem pairs_ex {H : Hp} {Pd : Str × Fm → Prop} : ∀ {ys : List V}, (∀ (j : Nat) y, ys[j]? = some y → ∃ q : Str × Fm, Rp H y (.tuple [.str q.1, q.2.d]) ∧ Pd q) → ∃ fs : FD, RpAll H ys (fs.map fun q => .tuple [.str q.1, q.2.d]) ∧ ∀ q ∈ fs, Pd q
  | [], _ => ⟨[], .nil, by simp⟩
  | y :: ys, h => by
    obtain ⟨q, h1, h2⟩ := h 0 y rfl
    obtain ⟨fs, h3, h4⟩ := pairs_ex (ys := ys) fun j z e => h (j + 1) z (by simpa using e)
    exact ⟨q :: fs, .cons h1 h3, fun r hr => by
      rcases List.mem_cons.mp hr with rfl | hr
      · exact h2
      · exact h4 r hr⟩
/-- the pairs of a dict, taken one by one -/
theorem lc_items {Hb : Hp} {d D : Addr} {o : Obj} {kvs : List (Key × V)} {ml : FD} {g : TG} {te : TE} {vs : List Nat} {σ : L2.St} {Qd : Hp → Prop} (hv : ∀ x H (Nx : VK), Nx x H → g x (wipe σ vs) H fun σ2 H2 => wipe σ2 vs = wipe σ vs ∧ te σ2 H2 Nx)
    (e : Hb d = some (.dK kvs)) (hdr : DR Hb kvs ml) (hl : ml.length ≤ 1000) (hD : (upd Hb d (.frz o (.dK kvs))) D = none)
    (hd : ∀ H' ys, Same (upd Hb d (.frz o (.dK kvs))) H' → H' D = some (.lst ys) → RpAll H' ys (ml.map fun q => .tuple [.str q.1, q.2.d]) → Qd H') :
    ∃ W : Nat → Nat → Hp → Prop, (∃ m, W 0 m (upd (upd Hb d (.frz o (.dK kvs))) D (.lst []))) ∧ ∀ i m H, W i m H →
      ((Iti d o kvs).stop i H ∧ Qd H) ∨ ((Iti d o kvs).go i H ∧ ∃ Nx : Hp → Prop, (∀ H', Nx H' → ∃ m', m' < m ∧ W (i + 1) m' H') ∧ ∀ x H', (Iti d o kvs).yld i H x H' → g x (wipe σ vs) H' fun σ2 H2 => wipe σ2 vs = wipe σ vs ∧ tYes σ2 H2 fun b H3 =>
        if b = true then te σ2 H3 fun y H4 => ∃ acc, H4 D = some (.lst acc) ∧ acc.length < sizeLine ∧ Nx (upd H4 D (.lst (acc ++ [y]))) else Nx H3) := by
  have hln := hdr.len
  have hdr1 := hdr.mono (tk_at (o := .frz o (.dK kvs)) e)
  have e1 : (upd Hb d (.frz o (.dK kvs))) d = some (.frz o (.dK kvs)) := upd_same
  generalize upd Hb d (.frz o (.dK kvs)) = H1 at *
  refine lc_rel rel_same (n := kvs.length) (fun i y H => ∀ q, ml[i]? = some q → Rp H y (.tuple [.str q.1, q.2.d])) (fun i y H H' k r q hq => (r q hq).mono k) hD (Same.refl _) (by omega) (fun H' s => ⟨s _ _ e1, Nat.le_refl _⟩) (fun i H' hi s => ⟨s _ _ e1, hi⟩) (fun i x H' H'' _ y => ?_) (fun i x H' H'' Nx hi s y nx => ?_) (fun H' ys s eD hyl hys => ?_)
  · obtain ⟨T, k, v, _, _, hT, rfl⟩ := y
    exact same_new hT _
  · obtain ⟨T, k, v, hkv, rfl, hT, rfl⟩ := y
    refine hv _ _ _ (nx _ _ (Same.refl _) fun q hq => ?_)
    obtain ⟨q2, hq2, rfl, r⟩ := hdr1.get hkv
    rw [hq] at hq2
    cases hq2
    have s2 := same_new hT (.tup [kV (.inr q.1), v])
    exact rp2.mpr ⟨T, _, _, rfl, upd_same, .str _, r.mono (s.trans s2).tk⟩
  · exact hd H' ys s eD (rpa_of_get (by rw [List.length_map]; omega) fun j y d h1 h2 => by
      rw [List.getElem?_map] at h2
      obtain ⟨q, hq, rfl⟩ := Option.map_eq_some_iff.mp h2
      exact hys j y h1 q hq)
/-- how a kept thing reads -/
def msD : Option FD → PyData
  | none => .none
  | some ml => .dict (kvD ml)
theorem kept_rd {H : Hp} {v : V} {ms : Option FD} (h : KeptAt H v ms) : RdsAt H v (msD ms) := by
  cases ms with
  | none =>
    obtain rfl : v = .non := h
    exact .inl .non
  | some ml =>
    obtain ⟨k, more, rfl, e, h⟩ := h
    exact .inr ⟨k, more, ml, rfl, e, h, rfl⟩
theorem ms_show {ms : Option FD} (h : ∀ ml, ms = some ml → KOk ml) : Show (msD ms) := by
  cases ms with
  | none => exact show_of shw_non (by decide) (by decide)
  | some ml => exact kvd_show (h ml rfl)
theorem look_g5 {fs : FD} {ms : Option FD} (h : ∀ q ∈ fs, q.2.ht ≤ 5) (hm : ∀ ml, ms = some ml → KOk ml) : G5 (lookM fs ms) := lookP_low (mergeP_low h (by
  cases ms with
  | none => exact fun q hq => absurd hq (by simp)
  | some ml => exact fun q hq => by have := ((hm ml rfl).2 q hq).2; omega))
def spRight (K : PySem.W.Frag) : Sp := fun vs H Q _ => ∃ (p L pr : Addr) (hv : List V) (hs : List Hl), vs = [.ref p, .ref L, .ref pr] ∧ PotOk H p ∧ L ≠ p ∧ H L = some (.lst hv) ∧ Hls H hv hs ∧ hs.length ≤ 3 ∧ (∀ h ∈ hs, NameOk h.x) ∧ (∀ h ∈ hs, TellF h.f) ∧ (∀ h ∈ hs, h.ok) ∧ PgAt K H pr (formsOf hs) ∧
  ∀ H', PS_ p H H' → Q (.bl true) H'
section
variable {P : Program} {w : World} {K : PySem.W.Frag} {mg : Str → Option Value} {base : Heap}
theorem sc_law_terms_right : FnScope ["_law_pot_here", "_law_halls_here", "_law_program", "_law_names", "_law_given", "_law_seen", "_law_good", "_law_sign", "_law_piece", "_law_shown", "_law_turn", "_law_one", "_law_name_here", "_law_form_here", "_law_body", "_law_k", "_law_pair"] ["_law_pot_here", "_law_halls_here", "_law_program"] (defScope s_law_terms_right) := ⟨rfl, rfl, rfl, by decide +kernel, rfl, by decide +kernel, by decide +kernel⟩
set_option maxHeartbeats 16000000 in
theorem ok__law_terms_right (T : Facts w K mg) : ∃ f fd, mg "_law_terms_right" = some (.ref f) ∧ FnG P w K mg base CX0 121 f fd ["_law_pot_here", "_law_halls_here", "_law_program"] (spRight K) ∧ PySem.W.keepIn K (.ref f) = true ∧ Binds K fd ["_law_pot_here", "_law_halls_here", "_law_program"] [] := by
  have c_law_digit := ok__law_digit (P := P) (base := base) T
  have c_law_form := ok__law_form (P := P) (base := base) T 4
  have c_law_pick := ok__law_pick (P := P) (base := base) T
  have c_law_name := ok__law_name (P := P) (base := base) T
  have c_law_term := ok__law_term (P := P) (base := base) T 4
  have c_law_bent := ok__law_bent (P := P) (base := base) T 25
  have c_law_placed_told := ok__law_placed_told (P := P) (base := base) T
  have c_law_due := ok__law_due (P := P) (base := base) T
  obtain ⟨fd, F⟩ := T.f_law_terms_right
  refine ⟨_, fd, T.g_law_terms_right, ?_, F.kp, F.bindsN fun _ _ _ _ _ _ us hl => match us, hl with | [_, _, _], _ => rfl⟩
  refine F.okG sc_law_terms_right (fun vs H Q E h => ?_) (fun cdv A outer s H vs Q E hgu hr h => ?_)
  · obtain ⟨p, L, pr, hv, hs, rfl, _⟩ := h
    rfl
  obtain ⟨p, L, pr, hv, hs, rfl, hp, hne, eL, hx, h3, hnm, htf, hok, hpg, q⟩ := h
  have hu64 := hr.units
  have hu := r1 hr
  have hlen := hx.len
  refine ⟨_, PSs.nox (pss_cons (ps_setLc (i := 3) (own := [("_law_name_here", 12), ("_law_form_here", 13), ("_law_body", 14)]) (g := (gTup K 3 (gCons (gName 12) (gCons (gName 13) (gCons (gName 14) gNil))))) (tt := tYes) rfl sc_law_terms_right.nd rfl rfl (sw_true rfl rfl rfl (by decide +kernel)) (pi_list (pv 1)) (blkOk_by (own := [("_law_name_here", 12), ("_law_form_here", 13), ("_law_body", 14)]) (N := ["_law_pot_here", "_law_halls_here", "_law_program", "_law_names", "_law_given", "_law_seen", "_law_good", "_law_sign", "_law_piece", "_law_shown", "_law_turn", "_law_one", "_law_name_here", "_law_form_here", "_law_body", "_law_k", "_law_pair"]) (sc := defScope s_law_terms_right) (by decide +kernel)) (fun _ _ _ _ _ => (pg_tup (by rfl) (pgs_cons (pg_name (i := 12) sc_law_terms_right.nd rfl (Or.inl rfl)) (pgs_cons (pg_name (i := 13) sc_law_terms_right.nd rfl (Or.inl rfl)) (pgs_cons (pg_name (i := 14) sc_law_terms_right.nd rfl (Or.inl rfl)) pgs_nil))))) (fun _ _ _ _ _ => pts_nil) (fun _ _ _ _ _ => (pv 12)))
    (pss_cons (ps_set (i := 4) sc_law_terms_right.nd rfl (Or.inl rfl) pe_non)
    (pss_mid (ps_if (pt_cmpR op_gt (pe_cl c_law_digit hr (by omega) pass0 (pa_cons (pv 0) (pa_cons pe_int pa_nil))) pe_int (nomark _)) (pss_cons (ps_set (i := 4) sc_law_terms_right.nd rfl (Or.inl rfl) (pe_callTy (call_dictP rfl) (by rfl) T.z_dict (by decide +kernel) (pa_cons (pe_lc (own := [("_law_k", 15)]) (g := (gName 15)) (tt := tYes) rfl sc_law_terms_right.nd (pi_range1 rfl T.z_range (pa_cons (pe_cl c_law_digit hr (by omega) pass0 (pa_cons (pv 0) (pa_cons pe_int pa_nil))) pa_nil)) (blkOk_by (own := [("_law_k", 15)]) (N := ["_law_pot_here", "_law_halls_here", "_law_program", "_law_names", "_law_given", "_law_seen", "_law_good", "_law_sign", "_law_piece", "_law_shown", "_law_turn", "_law_one", "_law_name_here", "_law_form_here", "_law_body", "_law_k", "_law_pair"]) (sc := defScope s_law_terms_right) (by decide +kernel)) (fun _ _ _ _ _ => (pg_name (i := 15) sc_law_terms_right.nd rfl (Or.inl rfl))) (fun _ _ _ _ _ => pts_nil) (fun _ _ _ _ _ => (pe_tup (pa_cons (pe_cl c_law_name hr (by omega) pass0 (pa_cons (pv 0) (pa_cons (pe_lst pa_nil) pa_nil))) (pa_cons (pe_cl c_law_form hr (by omega) pass0 (pa_cons (pv 0) (pa_cons pe_int pa_nil))) pa_nil))))) pa_nil)))
    (pss_one (ps_if (PW.pt (pw_and (pt_cmpR (op_neD hu64) (pv 3) (pe_lst pa_nil) (nomark _)) (pw_and1 (pt_cmpR op_eq (pe_cl c_law_digit hr (by omega) pass0 (pa_cons (pv 0) (pa_cons pe_int pa_nil))) pe_int (nomark _))))) (pss_one (ps_dput hu (pv 4) (pe_ix ix_list (pv 3) pe_int (fun _ _ => rfl)) (pe_cl c_law_form hr (by omega) pass0 (pa_cons (pv 0) (pa_cons pe_int pa_nil))) rfl)) pss_nil))) pss_nil)
    (pss_mid (ps_set (i := 5) sc_law_terms_right.nd rfl (Or.inl rfl) (pe_op op_cat (pe_lc (own := [("_law_name_here", 12), ("_law_form_here", 13), ("_law_body", 14)]) (g := (gTup K 3 (gCons (gName 12) (gCons (gName 13) (gCons (gName 14) gNil))))) (tt := tYes) rfl sc_law_terms_right.nd (pi_list (pv 1)) (blkOk_by (own := [("_law_name_here", 12), ("_law_form_here", 13), ("_law_body", 14)]) (N := ["_law_pot_here", "_law_halls_here", "_law_program", "_law_names", "_law_given", "_law_seen", "_law_good", "_law_sign", "_law_piece", "_law_shown", "_law_turn", "_law_one", "_law_name_here", "_law_form_here", "_law_body", "_law_k", "_law_pair"]) (sc := defScope s_law_terms_right) (by decide +kernel)) (fun _ _ _ _ _ => (pg_tup (by rfl) (pgs_cons (pg_name (i := 12) sc_law_terms_right.nd rfl (Or.inl rfl)) (pgs_cons (pg_name (i := 13) sc_law_terms_right.nd rfl (Or.inl rfl)) (pgs_cons (pg_name (i := 14) sc_law_terms_right.nd rfl (Or.inl rfl)) pgs_nil))))) (fun _ _ _ _ _ => pts_nil) (fun _ _ _ _ _ => (pe_tup (pa_cons (pv 12) (pa_cons (pv 13) pa_nil))))) (pe_unl (pe_lc (own := [("_law_pair", 16)]) (g := (gName 16)) (tt := tYes) rfl sc_law_terms_right.nd (pi_itemsN (pe_ifExp (pt_cmpR op_isN (pv 4) pe_non (nomark _)) pe_dnewK (pv 4))) (blkOk_by (own := [("_law_pair", 16)]) (N := ["_law_pot_here", "_law_halls_here", "_law_program", "_law_names", "_law_given", "_law_seen", "_law_good", "_law_sign", "_law_piece", "_law_shown", "_law_turn", "_law_one", "_law_name_here", "_law_form_here", "_law_body", "_law_k", "_law_pair"]) (sc := defScope s_law_terms_right) (by decide +kernel)) (fun _ _ _ _ _ => (pg_name (i := 16) sc_law_terms_right.nd rfl (Or.inl rfl))) (fun _ _ _ _ _ => pts_nil) (fun _ _ _ _ _ => (pv 16))))))
    (pss_mid (ps_set (i := 6) sc_law_terms_right.nd rfl (Or.inl rfl) (pe_cl c_law_term hr (by omega) pass0 (pa_cons (pv 0) (pa_cons (pv 5) (pa_cons (pe_cl c_law_form hr (by omega) pass0 (pa_cons (pv 0) (pa_cons pe_int pa_nil))) (pa_cons (pe_ix ix_list (pe_lst (pa_cons pe_int (pa_cons pe_int (pa_cons pe_int (pa_cons pe_int pa_nil))))) (pe_cl c_law_digit hr (by omega) pass0 (pa_cons (pv 0) (pa_cons pe_int pa_nil))) (fun _ _ => rfl)) pa_nil))))))
    (pss_mid (ps_set (i := 7) sc_law_terms_right.nd rfl (Or.inl rfl) (pe_cl c_law_pick hr (by omega) pass0 (pa_cons (pv 0) (pa_cons (pe_lst (pa_cons pe_str (pa_cons pe_str (pa_cons pe_str (pa_cons pe_str (pa_cons pe_str (pa_cons pe_str pa_nil))))))) pa_nil))))
    (pss_cons (ps_par (i := 8) (j := 9) (by rfl) sc_law_terms_right.nd rfl rfl (by decide) rfl rfl (pa_cons (pv 6) (pa_cons (pe_callB (call_reprG hgu hr) (by rfl) T.z_repr (by decide +kernel) (pa_cons (pv 4) pa_nil)) pa_nil)) (by rfl))
    (pss_cons (ps_for PassesOwn.never rfl (pi_range1 rfl T.z_range (pa_cons pe_int pa_nil)) (pg_name (i := 10) sc_law_terms_right.nd rfl (Or.inl rfl)) (pss_cons (ps_set (i := 8) sc_law_terms_right.nd rfl (Or.inl rfl) (pe_cl c_law_bent hr (by omega) pass0 (pa_cons (pv 0) (pa_cons (pv 8) (pa_cons (pe_op op_cat (pv 3) (pe_lst (pa_cons pe_str pa_nil))) pa_nil)))))
    (pss_one (ps_for PassesOwn.never rfl (pi_list (pe_lst (pa_cons (pv 8) (pa_cons (pv 6) pa_nil)))) (pg_name (i := 11) sc_law_terms_right.nd rfl (Or.inl rfl)) (pss_one (ps_if (pt_cmpR op_ne (pe_callB (call_reprG hgu hr) (by rfl) T.z_repr (by decide +kernel) (pa_cons (pe_cl c_law_placed_told hr (by omega) pass0 (pa_cons (pv 2) (pa_cons (pv 11) (pa_cons (pv 4) (pa_cons (pv 7) pa_nil))))) pa_nil)) (pe_callB (call_reprG hgu hr) (by rfl) T.z_repr (by decide +kernel) (pa_cons (pe_cl c_law_due hr (by omega) pass0 (pa_cons (pv 1) (pa_cons (pv 4) (pa_cons (pv 11) (pa_cons (pv 7) pa_nil))))) pa_nil)) (nomark _)) (pss_one (ps_ret pe_bl)) pss_nil))))))
    (pss_one (ps_ret (pe_cmpR op_eq (pe_callB (call_reprG hgu hr) (by rfl) T.z_repr (by decide +kernel) (pa_cons (pv 4) pa_nil)) (pv 9) (nomark _)))))))))))), ?_⟩
  refine ⟨_, rfl, L, rfl, ⟨_, SqL.of eL⟩, fun D hD => ?_⟩
  have hDp : D ≠ p := fun z => hp.some (z ▸ hD)
  refine lc_list_rel (fun i y H => ∀ h, hs[i]? = some h → y = .str h.x) (fun i y H H' k r => r) hD (SqL.of eL) (by omega) (fun i x H1 Nx hi hxi s1 nx => ?_) (fun H1 ys s1 eD hl hys => ?_)
  · obtain ⟨h, hh, rh⟩ := hx.get hxi
    obtain ⟨a, y1, y2, rfl, ea, rf, rt'⟩ := rp_hl.mp (rh.mono s1.tk)
    generalize hτ : wipe _ (List.map _ _) = τ
    obtain rfl : τ = [some (.ref p), some (.ref L), some (.ref pr), none, none, none, none, none, none, none, none, none, none, none, none, none, none] := hτ.symm.trans rfl
    refine ⟨a, _, rfl, SqT.of ea, rfl, _, [y1, y2], rfl, y1, [y2], rfl, y2, [], rfl, rfl, rfl, _, rfl, nx _ _ (Same.refl _) fun h2 hh2 => ?_⟩
    rw [hh] at hh2
    cases hh2
    rfl
  have eys : ys = (hs.map Hl.x).map V.str := by
    apply List.ext_getElem?
    intro j
    rw [List.map_map, List.getElem?_map]
    by_cases hj : j < ys.length
    · obtain ⟨h, hh⟩ : ∃ h, hs[j]? = some h := ⟨hs[j]'(by omega), List.getElem?_eq_getElem (by omega)⟩
      rw [List.getElem?_eq_getElem hj, hh, hys j _ (List.getElem?_eq_getElem hj) h hh]
      rfl
    · rw [List.getElem?_eq_none (by omega), List.getElem?_eq_none (by omega)]
      rfl
  subst eys
  have p1 := PS_.of hp s1
  have eL1 := s1 _ _ eL
  have hx1 := hx.mono s1.tk
  have hpg1 := hpg.same s1
  clear hys
  have hns : ∀ x ∈ hs.map Hl.x, NameOk x := fun x hx => by
    obtain ⟨h, hh, rfl⟩ := List.mem_map.mp hx
    exact hnm h hh
  -- what is kept
  refine ⟨fun σ' H' => ∃ gv ms, σ' = [some (.ref p), some (.ref L), some (.ref pr), some (.ref D), some gv, none, none, none, none, none, none, none, none, none, none, none, none] ∧ PS_ p H1 H' ∧ KeptAt H' gv ms ∧ ∀ ml, ms = some ml → KOk ml, ?_, ?_⟩
  · refine ⟨_, rfl, p, 3, rfl, p1.2.2, by decide, by decide, fun H2 d s2 hd => ⟨_, _, rfl, rfl, _, rfl, ?_⟩⟩
    by_cases h0 : ((d : Nat) : Int) > 0
    · rw [decide_eq_true h0]
      refine iteT ⟨_, rfl, p, 4, rfl, s2.2.2, by decide, by decide, fun H3 n s3 hn => ⟨(n : Nat), rfl, by omega, by omega, fun D2 hD2 => ?_⟩⟩
      have p3 := s2.trans s3
      refine lc_range_rel (rel_pot p) (fun _ y H => ∃ q : Str × Fm, Rp H y (.tuple [.str q.1, q.2.d]) ∧ NameOk q.1 ∧ q.2.ht ≤ 3) (fun _ y H H' k r => by
        obtain ⟨r, r1, r2⟩ := r
        exact ⟨r, r1.mono k, r2⟩) hD2 (PS_.refl s3.2.2) (by omega) (fun i H4 Nx hi s4 nx => ?_) (fun H' s => PS_.refl s.2.2) (fun H4 ys s4 eD2 hyl hys => ?_)
      · generalize hτ : wipe _ (List.map _ _) = τ
        obtain rfl : τ = [some (.ref p), some (.ref L), some (.ref pr), some (.ref D), some .non, none, none, none, none, none, none, none, none, none, none, none, none] := hτ.symm.trans rfl
        refine ⟨rfl, _, rfl, sz0, fun b hb => ?_⟩
        have s5 := same_new hb (.lst [])
        have p5 := PS_.of s4.2.2 s5
        refine ⟨p, b, [], rfl, p5.2.2, fun z => s4.2.2.some (z ▸ hb), upd_same, by simp, by simp, fun H6 x s6 hx6 _ => ?_⟩
        refine ⟨_, rfl, p, 3, rfl, s6.2.2, by decide, fun H7 y f s7 rf hf => ⟨sz2, fun q1 hq1 => ?_⟩⟩
        have s8 := same_new hq1 (.tup [.str x, y])
        exact nx _ _ (p5.trans (s6.trans (s7.trans (PS_.of s7.2.2 s8)))) ⟨(x, f), rp2.mpr ⟨q1, _, _, rfl, upd_same, .str _, rf.mono s8.tk⟩, hx6, hf⟩
      obtain ⟨fs, rfs, hfs⟩ := pairs_ex hys
      have hfl := rpa_len rfs
      rw [List.length_map] at hfl
      obtain ⟨ps, kvs, rfl, hpz, hdr⟩ := pairs_of (K := K) rfs
      refine ⟨D2, ps, kvs, rfl, SqL.of eD2, hpz, fun F1 hF1 => ?_⟩
      have s5 := same_new hF1 (.dK (mergeK [] kvs))
      have p5 := PS_.of s4.2.2 s5
      have hdr5 : DR (upd H4 F1 (.dK (mergeK [] kvs))) (mergeK [] kvs) (mergeP [] fs) := DR.merge (hdr.mono s5.tk) .nil
      have e5 : (upd H4 F1 (.dK (mergeK [] kvs))) F1 = some (.dK (mergeK [] kvs)) := upd_same
      have p15 := p3.trans (s4.trans p5)
      have k5 : KOk (mergeP [] fs) := ⟨by have := mergeP_len fs []; rw [List.length_nil] at this; omega, mergeP_all (by simp) hfs⟩
      have k4 : (mergeP [] fs).length ≤ 3 := by have := mergeP_len fs []; rw [List.length_nil] at this; omega
      have eD5 := p15.1 _ _ hDp eD
      generalize mergeP [] fs = ml at *
      generalize mergeK [] kvs = kv at *
      generalize upd H4 F1 (.dK kv) = H5 at *
      refine ⟨_, rfl, sz0, fun b hb => ?_⟩
      have s6 := same_new hb (.lst [])
      have p6 := PS_.of p15.2.2 s6
      have p16 := p15.trans p6
      have e6 := s6 _ _ e5
      have hdr6 := hdr5.mono s6.tk
      have eD6 := s6 _ _ eD5
      have eb6 : (upd H5 b (.lst [])) b = some (.lst []) := upd_same
      generalize upd H5 b (.lst []) = H6 at *
      refine ne_nil eD6 hns eb6 ⟨_, rfl, ?_⟩
      by_cases h1 : hs.map Hl.x = []
      · rw [decide_eq_true h1]
        exact iteF (iteF ⟨_, some ml, rfl, p16, ⟨F1, kv, rfl, e6, hdr6⟩, fun z hz => by cases hz; exact k5⟩)
      rw [decide_eq_false h1]
      obtain ⟨nm, ns, hnn⟩ : ∃ nm ns, hs.map Hl.x = nm :: ns := by
        cases hh : hs.map Hl.x with
        | nil => exact absurd hh h1
        | cons a b => exact ⟨a, b, rfl⟩
      refine iteT ⟨_, rfl, p, 2, rfl, p16.2.2, by decide, by decide, fun H7 d2 s7 hd2 => ⟨rfl, _, rfl, ?_⟩⟩
      have p17 := p16.trans s7
      have e7 := s7.dk e6
      have hdr7 := hdr6.mono s7.tk
      by_cases h2 : V.int (d2 : Nat) = V.int 0
      · rw [decide_eq_true h2]
        refine iteT ⟨_, rfl, p, 2, rfl, p17.2.2, by decide, fun H8 y f s8 rf hf => ?_⟩
        have e8 := s8.dk e7
        have hdr8 := hdr7.mono s8.tk
        have p18 := p17.trans s8
        have eD8 := p18.1 _ _ hDp eD
        rw [hnn, List.map_cons] at eD8
        have hkl := hdr8.len
        refine ⟨_, rfl, _, rfl, D, _, 0, .str nm, rfl, rfl, SqL.of eD8, at0, F1, _, rfl, DPut.k (k := .inr nm) e8 (by rw [sizeLine_eq]; omega), ?_⟩
        refine ⟨_, some (putP ml nm f), rfl, ?_, ⟨F1, putK kv (.inr nm) y, rfl, upd_same, (hdr8.put rf).mono (tk_at e8)⟩, fun z hz => ?_⟩
        · exact (rel_pot p).put p18 ((p3.trans s4).none hF1)
        · cases hz
          exact ⟨by have := putP_len ml nm f; omega, putP_all k5.2 ⟨hns nm (by rw [hnn]; simp), by show f.ht ≤ 3; omega⟩⟩
      · rw [decide_eq_false h2]
        exact iteF ⟨_, some ml, rfl, p17, ⟨F1, kv, rfl, e7, hdr7⟩, fun z hz => by cases hz; exact k5⟩
    · rw [decide_eq_false h0]
      exact iteF ⟨.non, none, rfl, s2, rfl, fun ml z => nomatch z⟩
  rintro σ1 H2 ⟨gv, ms, rfl, p2, hk, hko⟩
  have eD2 := p2.1 _ _ hDp eD
  have eL2 := p2.1 _ _ hne eL1
  have hx2 := hx1.mono p2.tk
  have hpg2 := p2.pg hpg1
  have p02 := p1.trans p2
  clear p1 p2 eD eL1 hx1 hpg1 s1 eL hx hpg hp hD
  -- what is seen
  refine ⟨fun σ' H' => ∃ z, σ' = [some (.ref p), some (.ref L), some (.ref pr), some (.ref D), some gv, some (.ref z), none, none, none, none, none, none, none, none, none, none, none] ∧ PS_ p H2 H' ∧ z ≠ p ∧ BAt H' z (hprs hs ++ ms.getD []), ?_, ?_⟩
  · refine ⟨_, rfl, L, rfl, ⟨_, SqL.of eL2⟩, fun D2 hD2 => ?_⟩
    refine lc_list_rel (fun i y H => ∀ h, hs[i]? = some h → Rp H y (.tuple [.str h.x, h.f.d])) (fun i y H H' k r h hh => (r h hh).mono k) hD2 (SqL.of eL2) (by omega) (fun i x H3 Nx hi hxi s3 nx => ?_) (fun H3 ys s3 eD3 hl hys => ?_)
    · obtain ⟨h, hh, rh⟩ := hx2.get hxi
      obtain ⟨a, y1, y2, rfl, ea, rf, rt'⟩ := rp_hl.mp (rh.mono s3.tk)
      generalize hτ : wipe _ (List.map _ _) = τ
      obtain rfl : τ = [some (.ref p), some (.ref L), some (.ref pr), some (.ref D), some gv, none, none, none, none, none, none, none, none, none, none, none, none] := hτ.symm.trans rfl
      refine ⟨a, _, rfl, SqT.of ea, rfl, _, [y1, y2], rfl, y1, [y2], rfl, y2, [], rfl, rfl, rfl, _, rfl, _, rfl, sz2, fun q1 hq1 => ?_⟩
      have s2 := same_new hq1 (.tup [.str h.x, y1])
      refine nx _ _ s2 fun h2 hh2 => ?_
      rw [hh] at hh2
      cases hh2
      exact rp2.mpr ⟨q1, _, _, rfl, upd_same, .str _, rf.mono s2.tk⟩
    have rp : RpAll H3 ys ((hprs hs).map fun q => .tuple [.str q.1, q.2.d]) := rpa_of_get (by rw [List.length_map]; unfold hprs; rw [List.length_map]; omega) (fun j y d h1 h2 => by
      unfold hprs at h2
      rw [List.map_map, List.getElem?_map] at h2
      obtain ⟨h, hh, rfl⟩ := Option.map_eq_some_iff.mp h2
      exact hys j y h1 h hh)
    clear hys
    have hyl : ys.length ≤ 3 := by omega
    have cat : ∀ (H4 : Hp) (z : Addr) (zs : List V) (ml : FD), Same H3 H4 → H4 z = some (.lst zs) → RpAll H4 zs (ml.map fun q => .tuple [.str q.1, q.2.d]) → ∀ c, H4 c = none → PS_ p H2 (upd H4 c (.lst (ys ++ zs))) ∧ c ≠ p ∧ BAt (upd H4 c (.lst (ys ++ zs))) c (hprs hs ++ ml) := by
      intro H4 z zs ml s4 ez rz c hc
      have s5 := same_new hc (.lst (ys ++ zs))
      refine ⟨PS_.of p02.2.2 ((s3.trans s4).trans s5), fun w => ?_, _, upd_same, ?_⟩
      · exact ((PS_.of p02.2.2 (s3.trans s4)).2.2).some (w ▸ hc)
      · rw [List.map_append]
        exact rpa_join (rp.mono (s4.trans s5).tk) (rz.mono s5.tk)
    refine ⟨_, rfl, rfl, _, rfl, ?_⟩
    cases ms with
    | none =>
      obtain rfl : gv = .non := hk
      refine iteT fun d hd => ⟨d, [], rfl, upd_same, fun o D3 hD3 => ?_⟩
      refine lc_items (ml := []) (fun x H Nx h => ?_) upd_same .nil (by simp) hD3 (fun H4 zs s4 ez rz => ?_)
      · generalize hτ : wipe _ (List.map _ _) = τ
        obtain rfl : τ = [some (.ref p), some (.ref L), some (.ref pr), some (.ref D), some .non, none, none, none, none, none, none, none, none, none, none, none, none] := hτ.symm.trans rfl
        exact ⟨rfl, _, rfl, h⟩
      have s5 := same_unl upd_same s4
      have s35 := (same_new hd (.dK [])).trans s5
      have hz : D3 ≠ d := fun z => by rw [z, upd_same] at hD3; cases hD3
      have ez5 : (upd H4 d (.dK [])) D3 = some (.lst zs) := by rw [upd_ne hz]; exact ez
      have hzl := rpa_len rz
      have rz5 : RpAll (upd H4 d (.dK [])) zs (List.map (fun q : Str × Fm => PyData.tuple [.str q.1, q.2.d]) []) := by
        match zs, hzl with
        | [], _ => exact .nil
      rw [List.length_map, List.length_nil] at hzl
      refine ⟨d, o, .dK [], fun o' u' w => (by rw [hd] at w; cases w), s4 _ _ upd_same, D2, D3, ys, zs, rfl, rfl, s35 _ _ eD3, ez5, by rw [sizeLine_eq]; omega, fun c hc => ?_⟩
      obtain ⟨c1, c2, c3⟩ := cat _ D3 zs [] s35 ez5 rz5 c hc
      exact ⟨c, rfl, c1, c2, c3⟩
    | some ml =>
      obtain ⟨d, kvs, rfl, ed, hdr⟩ := hk
      have ed3 := s3 _ _ ed
      have hdr3 := hdr.mono s3.tk
      have hkl := (hko ml rfl).1
      refine iteF ⟨_, rfl, d, kvs, rfl, ed3, fun o D3 hD3 => ?_⟩
      refine lc_items (ml := ml) (fun x H Nx h => ?_) ed3 hdr3 (by omega) hD3 (fun H4 zs s4 ez rz => ?_)
      · generalize hτ : wipe _ (List.map _ _) = τ
        obtain rfl : τ = [some (.ref p), some (.ref L), some (.ref pr), some (.ref D), some (.ref d), none, none, none, none, none, none, none, none, none, none, none, none] := hτ.symm.trans rfl
        exact ⟨rfl, _, rfl, h⟩
      have s35 := same_unl ed3 s4
      have hz : D3 ≠ d := fun z => by rw [z, upd_same] at hD3; cases hD3
      have ez5 : (upd H4 d (.dK kvs)) D3 = some (.lst zs) := by rw [upd_ne hz]; exact ez
      have hzl := rpa_len rz
      have e4 := s4 d _ upd_same
      have rz5 : RpAll (upd H4 d (.dK kvs)) zs (ml.map fun q => .tuple [.str q.1, q.2.d]) := rz.mono fun a xs h => by
        rw [upd_ne fun w => by rw [w, e4] at h; cases h]
        exact h
      rw [List.length_map] at hzl
      refine ⟨d, o, .dK kvs, fun o' u' w => (by rw [ed3] at w; cases w), e4, D2, D3, ys, zs, rfl, rfl, s35 _ _ eD3, ez5, by rw [sizeLine_eq]; omega, fun c hc => ?_⟩
      obtain ⟨c1, c2, c3⟩ := cat _ D3 zs ml s35 ez5 rz5 c hc
      exact ⟨c, rfl, c1, c2, c3⟩
  rintro σ1 H3 ⟨z, rfl, p23, hzp, bz⟩
  have hk3 := p23.kept hk
  have eD3 := p23.1 _ _ hDp eD2
  have eL3 := p23.1 _ _ hne eL2
  have hx3 := hx2.mono p23.tk
  have hpg3 := p23.pg hpg2
  have p03 := p02.trans p23
  clear p02 p23 eD2 eL2 hx2 hpg2 hk H1 H2
  -- the good term
  refine ⟨fun σ' H' => ∃ x t, σ' = [some (.ref p), some (.ref L), some (.ref pr), some (.ref D), some gv, some (.ref z), some x, none, none, none, none, none, none, none, none, none, none] ∧ PS_ p H3 H' ∧ RpT H' x t ∧ t.wf ∧ t.dep ≤ 16 ∧ t.nodes ≤ 228, ?_, ?_⟩
  · have nN : NamesOk (hprs hs ++ ms.getD []) := fun q hq => by
      rcases List.mem_append.mp hq with hq | hq
      · obtain ⟨h, hh, rfl⟩ := List.mem_map.mp hq
        exact hnm h hh
      · cases ms with
        | none => exact absurd hq (by simp)
        | some ml => exact ((hko ml rfl).2 q hq).1
    have lN : ∀ q ∈ hprs hs ++ ms.getD [], q.2.ht ≤ 5 := fun q hq => by
      rcases List.mem_append.mp hq with hq | hq
      · obtain ⟨h, hh, rfl⟩ := List.mem_map.mp hq
        exact Nat.le_trans (htf h hh).ht (by decide)
      · cases ms with
        | none => exact absurd hq (by simp)
        | some ml => exact Nat.le_trans ((hko ml rfl).2 q hq).2 (by decide)
    have kN : (hprs hs ++ ms.getD []).length ≤ 8 := by
      have h1 : (hprs hs).length = hs.length := by unfold hprs; rw [List.length_map]
      have h2 : (ms.getD []).length ≤ 5 := by
        cases ms with
        | none => exact Nat.zero_le _
        | some ml => exact (hko ml rfl).1
      rw [List.length_append]
      omega
    refine ⟨_, rfl, _, rfl, _, rfl, p, 2, rfl, p03.2.2, by decide, fun H4 y f s4 rf hf => ⟨sz4, fun l hl => ?_⟩⟩
    have s5 := same_new hl (.lst [.int 1, .int 2, .int 2, .int 3])
    have p5 := PS_.of s4.2.2 s5
    have hlp : l ≠ p := fun w => s4.2.2.some (w ▸ hl)
    refine ⟨_, rfl, p, 4, rfl, p5.2.2, by decide, by decide, fun H6 d s6 hd => ?_⟩
    have el6 := s6.1 _ _ hlp upd_same
    obtain ⟨dv, hdv, hle⟩ : ∃ dv : Nat, ([V.int 1, V.int 2, V.int 2, V.int 3] : List V)[d]? = some (.int (dv : Nat)) ∧ dv ≤ 3 := by
      match d, hd with
      | 0, _ => exact ⟨1, rfl, by decide⟩
      | 1, _ => exact ⟨2, rfl, by decide⟩
      | 2, _ => exact ⟨2, rfl, by decide⟩
      | 3, _ => exact ⟨3, rfl, by decide⟩
      | d + 4, h => exact absurd h (by omega)
    have p36 := s4.trans (p5.trans s6)
    refine ⟨l, _, (d : Nat), _, rfl, rfl, SqL.of el6, atN hdv, p, z, y, hprs hs ++ ms.getD [], f, dv, rfl, ⟨p36.2.2, hzp, p36.bat hzp bz, nN, lN, by omega, (rf.mono p5.tk).mono s6.tk, by omega⟩, by omega, fun H7 x t s7 r7 g7 => ?_⟩
    have hm : max f.ht 2 + dv ≤ 5 := by omega
    obtain ⟨g1, g2⟩ := g7.dep hm
    refine ⟨x, t, rfl, p36.trans s7, r7, g7.wf nN hm, ?_, ?_⟩
    · unfold gDep at g1; omega
    · refine Nat.le_trans g2 ?_
      match dv, hle with
      | 0, _ => decide
      | 1, _ => decide
      | 2, _ => decide
      | 3, _ => decide
      | d + 4, h => exact absurd h (by omega)
  rintro σ1 H4 ⟨x, t, rfl, p34, rt, hw, hd, hn⟩
  have hk4 := p34.kept hk3
  have eD4 := p34.1 _ _ hDp eD3
  have eL4 := p34.1 _ _ hne eL3
  have hx4 := hx3.mono p34.tk
  have hpg4 := p34.pg hpg3
  have p04 := p03.trans p34
  clear p03 p34 eD3 eL3 hx3 hpg3 hk3 bz H3
  -- the sign
  refine ⟨fun σ' H' => ∃ sg : Str, σ' = [some (.ref p), some (.ref L), some (.ref pr), some (.ref D), some gv, some (.ref z), some x, some (.str sg), none, none, none, none, none, none, none, none, none] ∧ PS_ p H4 H' ∧ SgOk sg, ?_, ?_⟩
  · refine ⟨_, rfl, sz6, fun l hl => ?_⟩
    have s5 := same_new hl (.lst [.str "0", .str "0", .str "7", .str "a", .str "x9x9x9x9", .str "12345678"])
    have p5 := PS_.of p04.2.2 s5
    refine ⟨p, l, _, rfl, p5.2.2, fun w => p04.2.2.some (w ▸ hl), upd_same, by decide, by decide, fun H6 d y s6 hy => ?_⟩
    have hm := List.mem_of_getElem? hy
    simp only [List.mem_cons, List.not_mem_nil, or_false] at hm
    rcases hm with rfl | rfl | rfl | rfl | rfl | rfl <;> exact ⟨_, rfl, p5.trans s6, ofS_ch _, by decide⟩
  rintro σ1 H5 ⟨sg, rfl, p45, hsg⟩
  have hk5 := p45.kept hk4
  have eD5 := p45.1 _ _ hDp eD4
  have eL5 := p45.1 _ _ hne eL4
  have hx5 := hx4.mono p45.tk
  have hpg5 := p45.pg hpg4
  have rt5 := rt.mono p45.tk
  have p05 := p04.trans p45
  clear p04 p45 eD4 eL4 hx4 hpg4 hk4 rt H4
  have hms := ms_show hko
  have hg5 := look_g5 (fs := formsOf hs) (ms := ms) (formsOf_low hok) hko
  refine ⟨_, rfl, _, rfl, gv, msD ms, rfl, kept_rd hk5, hms, _, _, rfl, ?_⟩
  generalize hσ : List.set _ 9 _ = σ9
  obtain rfl : σ9 = [some (.ref p), some (.ref L), some (.ref pr), some (.ref D), some gv, some (.ref z), some x, some (.str sg), some x, some (.str (msD ms).shown), none, none, none, none, none, none, none] := hσ.symm.trans rfl
  refine ⟨4, rfl, by decide, by decide, ?_⟩
  refine for_inv (n := 4) (fun i σ H' => ∃ u8 u10 u11 t', σ = [some (.ref p), some (.ref L), some (.ref pr), some (.ref D), some gv, some (.ref z), some x, some (.str sg), some u8, some (.str (msD ms).shown), u10, u11, none, none, none, none, none] ∧ PS_ p H5 H' ∧ RpT H' u8 t' ∧ t'.wf ∧ t'.dep ≤ 16 + 2 * i ∧ t'.nodes ≤ 228 + 2 * i) ⟨_, _, _, t, rfl, PS_.refl p05.2.2, rt5, hw, hd, hn⟩ (fun σ H' _ => Nat.le_refl _) (fun i σ H' hi _ => hi) (fun i v σ H' H'' hi hq y => ?_) (fun σ H6 hq => ?_)
  · obtain ⟨u8, u10, u11, t', rfl, p56, r8, hw8, hd8, hn8⟩ := hq
    obtain ⟨rfl, rfl⟩ := y
    have eD6 := p56.1 _ _ hDp eD5
    refine ⟨_, rfl, _, rfl, _, rfl, sz1, fun l hl => ?_⟩
    have s7 := same_new hl (.lst [.str "p"])
    refine ⟨D, l, _, [.str "p"], rfl, rfl, s7 _ _ eD6, upd_same, by rw [List.length_map, List.length_map, sizeLine_eq]; show hs.length + 1 ≤ _; omega, fun l2 hl2 => ?_⟩
    have s8 := s7.trans (same_new hl2 (.lst ((hs.map Hl.x).map V.str ++ [.str "p"])))
    have p68 := PS_.of p56.2.2 s8
    have ecat : ((hs.map Hl.x).map V.str ++ [V.str "p"] : List V) = (hs.map Hl.x ++ [("p" : Str)]).map V.str := by rw [List.map_append]; rfl
    refine ⟨p, l2, u8, t', hs.map Hl.x ++ [("p" : Str)], rfl, p68.2.2, fun w => ((PS_.of p56.2.2 s7).2.2).some (w ▸ hl2), by rw [← ecat]; exact upd_same, ?_, by rw [List.length_append, List.length_map]; show hs.length + 1 ≤ 12; omega, r8.mono p68.tk, hw8, by omega, fun H7 y t7 s78 r7 b7 => ?_⟩
    · intro n hn
      rcases List.mem_append.mp hn with hn | hn
      · exact hns n hn
      · rw [List.mem_singleton.mp hn]
        exact sm_name (by decide) (by decide)
    have p57 := p56.trans (p68.trans s78)
    obtain ⟨w7, d7, n7⟩ := b7
    have rt7 := rt5.mono p57.tk
    have hk7 := p57.kept hk5
    have hx7 := hx5.mono p57.tk
    have eL7 := p57.1 _ _ hne eL5
    have hpg7 := p57.pg hpg5
    refine ⟨_, rfl, _, rfl, sz2, fun l3 hl3 => ⟨l3, rfl, ⟨_, SqL.of upd_same⟩, ?_⟩⟩
    have s9 := same_new hl3 (.lst [y, x])
    have el3 : (upd H7 l3 (.lst [y, x])) l3 = some (.lst [y, x]) := upd_same
    generalize upd H7 l3 (.lst [y, x]) = H9 at *
    refine for_inv (n := 2) (fun j σ H' => (∃ u11, σ = [some (.ref p), some (.ref L), some (.ref pr), some (.ref D), some gv, some (.ref z), some x, some (.str sg), some y, some (.str (msD ms).shown), some (.int (0 + (i : Nat))), u11, none, none, none, none, none]) ∧ Same H9 H') ⟨⟨_, rfl⟩, Same.refl _⟩ (fun σ H' hq => ⟨_, SqL.of (hq.2 _ _ el3), Nat.le_refl _⟩) (fun j σ H' hj hq => ⟨_, ([y, x] : List V)[j], SqL.of (hq.2 _ _ el3), List.getElem?_eq_getElem hj⟩) (fun j v σ H10 H11 hj hq y2 => ?_) (fun σ H10 hq => ?_)
    · obtain ⟨⟨u11', rfl⟩, s10⟩ := hq
      obtain ⟨rfl, y2⟩ := y2
      have hvv := y2 _ (SqL.of (s10 _ _ el3))
      have s710 := s9.trans s10
      obtain ⟨tv, rv, wv, dv, nv⟩ : ∃ tv, RpT H11 v tv ∧ tv.wf ∧ tv.dep < 25 ∧ tv.nodes ≤ 300 := by
        have hm := List.mem_of_getElem? hvv
        simp only [List.mem_cons, List.not_mem_nil, or_false] at hm
        rcases hm with rfl | rfl
        · exact ⟨t7, r7.mono s710.tk, w7, by omega, by omega⟩
        · exact ⟨t, rt7.mono s710.tk, hw, by omega, by omega⟩
      have hsh : Show (outD (plc (lookM (formsOf hs) ms) sg [] 0 tv)) := out_show hg5 hsg wv dv nv
      have hm100 : ∀ ml, ms = some ml → ml.length ≤ 100 := fun ml h => by have := (hko ml h).1; omega
      have hm5 : ∀ ml, ms = some ml → ∀ q ∈ ml, q.2.ht ≤ 5 := fun ml h q hq => by have := ((hko ml h).2 q hq).2; omega
      have hfl := formsOf_len hs
      refine ⟨_, rfl, _, rfl, _, rfl, _, rfl, pr, v, sg, gv, formsOf hs, ms, tv, rfl, hpg7.same s710, hk7.same s710, rv, wv, dv, by omega, hsg.2, by omega, hm100, formsOf_low hok, hm5, fun H12 x12 s12 r12 => ⟨x12, _, rfl, .inl r12, hsh, ?_⟩⟩
      have s712 := s710.trans s12
      refine ⟨_, rfl, _, rfl, _, rfl, _, rfl, L, hv, hs, gv, v, sg, ms, tv, rfl, s712 _ _ eL7, hx7.mono s712.tk, hok, by omega, hk7.same s712, rv.mono s12.tk, wv, dv, by omega, hsg.2, hm100, hm5, fun H13 x13 s13 r13 => ⟨x13, _, rfl, .inl r13, hsh, ?_⟩⟩
      refine ⟨rfl, _, rfl, ?_⟩
      rw [decide_eq_true rfl]
      exact iteF ⟨⟨_, rfl⟩, s10.trans (s12.trans s13)⟩
    · obtain ⟨⟨u11', rfl⟩, s10⟩ := hq
      exact ⟨y, _, _, t7, rfl, p57.trans (PS_.of p57.2.2 (s9.trans s10)), r7.mono (s9.trans s10).tk, w7, by omega, by omega⟩
  · obtain ⟨u8, u10, u11, t', rfl, p56, r8, hw8, hd8, hn8⟩ := hq
    refine ⟨_, rfl, gv, msD ms, rfl, kept_rd (p56.kept hk5), hms, _, rfl, rfl, ?_⟩
    rw [decide_eq_true rfl]
    exact q _ (p05.trans p56)
end
end Wt
/-! The law. -/
namespace Wt
open PySem PySem.Spec PyProof.Rows L2 RZ RT
/-- the script: nothing of it is ever stored -/
def ScAt (K : PySem.W.Frag) (H : Hp) (a : Addr) (xs : List V) : Prop := (∃ o, H a = some (.frz o (.lst xs))) ∨ ∀ H', SqL K H' a xs
theorem ScAt.sq {K : PySem.W.Frag} {H : Hp} {a : Addr} {xs : List V} (h : ScAt K H a xs) : SqL K H a xs := by
  rcases h with ⟨o, h⟩ | h
  · exact .inl (.inr ⟨o, h⟩)
  · exact h H
theorem ScAt.same {K : PySem.W.Frag} {H H' : Hp} {a : Addr} {xs : List V} (h : ScAt K H a xs) (s : Same H H') : ScAt K H' a xs := by
  rcases h with ⟨o, h⟩ | h
  · exact .inl ⟨o, s _ _ h⟩
  · exact .inr h
theorem ScAt.kp {K : PySem.W.Frag} {H H' : Hp} {a p : Addr} {xs : List V} (h : ScAt K H a xs) (s : Kp p H H') (n : ∀ o, H p ≠ some (.frz o (.lst xs))) : ScAt K H' a xs := by
  rcases h with ⟨o, h⟩ | h
  · exact .inl ⟨o, s _ _ (fun z => n o (z ▸ h)) h⟩
  · exact .inr h
theorem ScAt.ps {K : PySem.W.Frag} {H H' : Hp} {a p : Addr} {xs : List V} (h : ScAt K H a xs) (s : PS_ p H H') : ScAt K H' a xs := h.kp s.1 fun o e => by
  obtain ⟨x, y, e2, _⟩ := s.2.1
  rw [e] at e2
  cases e2
theorem ScAt.only {K : PySem.W.Frag} {H : Hp} {a : Addr} {xs : List V} (h : SqL K H a xs) (o : Only H) : ScAt K H a xs := by
  rcases h with h | h
  · rcases h with h | h
    · rcases o a with z | ⟨_, _, z⟩
      · rw [h] at z; cases z
      · rw [h] at z; cases z
    · exact .inl h
  · exact .inr fun H' => .inr h
def spLaw (K : PySem.W.Frag) : Sp := fun vs H Q _ => ∃ (a : Addr) (ns : List Int), vs = [.ref a] ∧ ScAt K H a (ns.map V.int) ∧ ∀ H', Q (.bl true) H'
section
variable {P : Program} {w : World} {K : PySem.W.Frag} {mg : Str → Option Value} {base : Heap}
theorem sc_law : FnScope ["_law_script", "_law_k", "_law_pot_here", "_law_halls_here"] ["_law_script"] (defScope s_law) := ⟨rfl, rfl, rfl, by decide +kernel, rfl, by decide +kernel, by decide +kernel⟩
set_option maxHeartbeats 16000000 in
theorem ok_law (T : Facts w K mg) {fd : FuncData} (F : FnP K "law" "law" s_law (He.ga K "law") fd) : FnG P w K mg base CX0 182 (He.ga K "law") fd ["_law_script"] (spLaw K) := by
  have c_law_digit := ok__law_digit (P := P) (base := base) T
  have c_law_pot := ok__law_pot (P := P) (base := base) T
  have c_law_halls := ok__law_halls (P := P) (base := base) T
  obtain ⟨fdp, prF, prB⟩ := ok_Program_init (P := P) (base := base) T
  obtain ⟨fR, fdR, mR, gR, kR, bR⟩ := ok__law_terms_right (P := P) (base := base) T
  refine F.okG sc_law (fun vs H Q E h => ?_) (fun cdv A outer s H vs Q E hgu hr h => ?_)
  · obtain ⟨a, ns, rfl, _⟩ := h
    rfl
  obtain ⟨a, ns, rfl, hS, q⟩ := h
  refine ⟨_, PSs.nox (pss_cons (ps_for PassesOwn.never rfl (pi_range1 rfl T.z_range (pa_cons (pe_callB (call_max2 rfl) (by rfl) T.z_max (by decide +kernel) (pa_cons pe_int (pa_cons (pe_callB (call_min2 rfl) (by rfl) T.z_min (by decide +kernel) (pa_cons pe_int (pa_cons (pe_callB call_len_seq (by rfl) T.z_len (by decide +kernel) (pa_cons (pv 0) pa_nil)) pa_nil))) pa_nil))) pa_nil)) (pg_name (i := 1) sc_law.nd rfl (Or.inl rfl)) (pss_cons (ps_set (i := 2) sc_law.nd rfl (Or.inl rfl) (pe_cl c_law_pot hr (by omega) pass0 (pa_cons (pv 0) (pa_cons (pv 1) pa_nil))))
    (pss_cons (ps_set (i := 3) sc_law.nd rfl (Or.inl rfl) (pe_cl c_law_halls hr (by omega) pass0 (pa_cons (pv 2) (pa_cons (pe_cl c_law_digit hr (by omega) pass0 (pa_cons (pv 2) (pa_cons pe_int pa_nil))) pa_nil))))
    (pss_one (ps_if (pt_not (pt_val (pe_clG gR hgu (hr.mono (by decide)) mR kR bR pass0 (pa_cons (pv 2) (pa_cons (pv 3) (pa_cons (pe_make T.mk_Program prF hr (by rfl) T.g_Program prB .nil pass0 (pa_cons (pe_callTy call_list_of (by rfl) T.z_list (by decide +kernel) (pa_cons (pv 3) pa_nil)) pa_nil)) pa_nil)))))) (pss_one (ps_ret pe_bl)) pss_nil)))))
    (pss_one (ps_ret pe_bl))), ?_⟩
  refine ⟨_, rfl, a, _, rfl, .inl hS.sq, _, _, rfl, _, _, rfl, ?_⟩
  rw [List.length_map]
  generalize hm : (if (if ((ns.length : Nat) : Int) < 4 then ((ns.length : Nat) : Int) else 4) > 1 then (if ((ns.length : Nat) : Int) < 4 then ((ns.length : Nat) : Int) else 4) else 1) = m
  have hm1 : 1 ≤ m ∧ m ≤ 4 := by
    rw [← hm]
    split <;> split <;> omega
  refine ⟨m, rfl, by omega, by omega, ?_⟩
  refine for_inv (n := m.toNat) (fun i σ H' => (∃ u1 u2 u3, σ = [some (.ref a), u1, u2, u3]) ∧ ScAt K H' a (ns.map V.int)) ⟨⟨_, _, _, rfl⟩, hS⟩ (fun σ H' _ => Nat.le_refl _) (fun i σ H' hi _ => hi) (fun i v σ H' H'' hi hq y => ?_) (fun σ H6 hq => ?_)
  · obtain ⟨⟨u1, u2, u3, rfl⟩, hS1⟩ := hq
    obtain ⟨rfl, rfl⟩ := y
    refine ⟨_, rfl, _, rfl, a, ns, i, by rw [Int.zero_add]; rfl, hS1.sq, by omega, fun H1 p s1 hp => ?_⟩
    have hS2 := hS1.same s1
    refine ⟨_, rfl, _, rfl, p, 4, rfl, hp, by decide, by decide, fun H2 d s2 hd => ⟨p, d, rfl, s2.2.2, by omega, fun H3 l hv hs s3 el hx hln hnd hnm htf hg => ?_⟩⟩
    have hS3 := (hS2.ps s2).ps s3
    have hp3 := s3.2.2
    have hlen := hx.len
    have hlp : l ≠ p := fun z => by
      obtain ⟨x1, x2, e, _⟩ := hp3
      rw [← z, el] at e
      cases e
      obtain ⟨h, hh, rh⟩ := hx.get (i := 0) rfl
      obtain ⟨_, _, _, z, _⟩ := rp_hl.mp rh
      cases z
    have hlo : ∀ q ∈ hprs hs, q.2.ht ≤ 2 := fun q hq => by
      obtain ⟨h, hh, rfl⟩ := List.mem_map.mp hq
      exact (htf h hh).ht
    have hN : NamesOk (hprs hs) := fun q hq => by
      obtain ⟨h, hh, rfl⟩ := List.mem_map.mp hq
      exact hnm h hh
    have good := fun h (hh : h ∈ hs) => hall_good hN hlo (hnm h hh) (hg h hh)
    clear s2 s1 hS2 hS1
    refine ⟨_, rfl, _, rfl, _, rfl, l, hv, rfl, .inl (SqL.of el), fun c hc => ?_⟩
    have s4 := same_new hc (.lst hv)
    have ec : (upd H3 c (.lst hv)) c = some (.lst hv) := upd_same
    have hp4 := (PS_.of hp3 s4).2.2
    have hS4 := hS3.same s4
    have el4 := s4 _ _ el
    have hx4 := hx.mono s4.tk
    generalize upd H3 c (.lst hv) = H4 at *
    refine fun x dy hx0 hdy hne => ?_
    have ex : (upd (upd H4 dy (.own x)) x (.ins (He.ga K "Program") dy [])) x = some (.ins (He.ga K "Program") dy []) := upd_same
    have s5 : Same H4 (upd (upd H4 dy (.own x)) x (.ins (He.ga K "Program") dy [])) := (same_new hdy (.own x)).upd2 hx0
    refine ⟨x, c, dy, hv, hs, rfl, ex, s5 _ _ ec, hx4.mono s5.tk, fun h hh => (good h hh).1, fun h hh => (good h hh).2.1, hnd, by omega, fun h hh => (good h hh).2.2, fun H7 k7 pg => ?_⟩
    have s7 : Same H4 H7 := same_kp s5 k7 hx0
    exact ⟨rfl, p, l, x, hv, hs, rfl, (PS_.of hp4 s7).2.2, hlp, s7 _ _ el4, hx4.mono s7.tk, by omega, hnm, htf, fun h hh => (good h hh).1, pg, fun H8 p8 => ⟨true, rfl, iteF ⟨⟨_, _, _, rfl⟩, (hS4.same s7).ps p8⟩⟩⟩
  · exact q _
end
end Wt
/-! The end: a law whose promise holds where no repr is under way. -/
namespace Wt
open PySem PySem.Spec PyProof.Rows L2 RZ RT
/-- what is tracked as the law begins: the script, unless the module owns it -/
def Hst (K : PySem.W.Frag) (a : Addr) (o : Obj) (xs : List V) : Hp := fun b => if b = a ∧ K.lookup a = none then some (.frz o (.lst xs)) else none
theorem hst_some {K : PySem.W.Frag} {a b : Addr} {o : Obj} {xs : List V} {u : HO} (h : Hst K a o xs b = some u) : b = a ∧ K.lookup a = none ∧ u = .frz o (.lst xs) := by
  unfold Hst at h
  split at h
  · rename_i c
    cases h
    exact ⟨c.1, c.2, rfl⟩
  · cases h
section
variable {P : Program} {w : World} {K : PySem.W.Frag} {mg mb : Str → Option Value} {a : Addr} {s : Shared} {vs : List Value} {ns : List Int}
theorem hst_scr (KX : K.In s.heap) (ha : s.heap.get? a = some { cls := .type "list", data := .seq vs.toArray }) (hi : IntsAre vs ns) (hl : ns.length ≤ sizeLine) : ScAt K (Hst K a { cls := .type "list", data := .seq vs.toArray } (ns.map V.int)) a (ns.map V.int) := by
  cases hk : K.lookup a with
  | none => exact .inl ⟨_, if_pos ⟨rfl, hk⟩⟩
  | some o =>
    obtain rfl := Option.some.inj ((KX a o hk).symm.trans ha)
    have e : vs.toArray.size ≤ sizeLine := by
      rw [List.size_toArray, hi.length]
      exact hl
    exact .inr fun H' => .inr ⟨_, _, _, hk, rfl, rfl, rfl, e, vals_ints hi⟩
theorem hst_ok (ha : s.heap.get? a = some { cls := .type "list", data := .seq vs.toArray }) (hi : IntsAre vs ns) (hl : ns.length ≤ sizeLine) : HOk P w (Hst K a { cls := .type "list", data := .seq vs.toArray } (ns.map V.int)) s.heap := fun b u h => by
  obtain ⟨rfl, _, rfl⟩ := hst_some h
  exact ⟨ha, by rw [List.length_map]; exact hl, vs, _, vals_ints hi, ha⟩
/-- the law's first frame -/
theorem env_first (KX : K.In s.heap) (hns : s.heap.Ns mainGlobals mg) (hb : s.heap.Ns builtinsNs mb) (hbb : ∀ x : Str, x ≠ "__name__" → mb x = bootBuiltins x) (hlim : s.heap.NoLimit) (hg : s.gens = #[])
    (ha : s.heap.get? a = some { cls := .type "list", data := .seq vs.toArray }) (hi : IntsAre vs ns) (hl : ns.length ≤ sizeLine) :
    ∃ base, K.In base ∧ base.Ns mainGlobals mg ∧ Env0 P w K mg base callerA [] s (Hst K a { cls := .type "list", data := .seq vs.toArray } (ns.map V.int)) := by
  have ok := hst_ok (P := P) (w := w) (K := K) ha hi hl
  have free : ∀ {b : Addr} {o : Obj}, s.heap.get? b = some o → (K.lookup b = some o ∨ ∃ es ep, o.data = .dict es ep) → Hst K a { cls := .type "list", data := .seq vs.toArray } (ns.map V.int) b = none := fun {b o} e h => by
    cases q : Hst K a { cls := .type "list", data := .seq vs.toArray } (ns.map V.int) b with
    | none => rfl
    | some u =>
      obtain ⟨rfl, hk, _⟩ := hst_some q
      rcases h with h | ⟨es, ep, h⟩
      · rw [hk] at h; cases h
      · rw [ha] at e
        cases e
        cases (h : Data.seq vs.toArray _ = Data.dict es ep)
  generalize Hst K a { cls := .type "list", data := .seq vs.toArray } (ns.map V.int) = H at *
  have ns' : ∀ {b : Addr} {m : Str → Option Value}, s.heap.Ns b m → (hidT s.heap H).Ns b m := fun {b m} h => by
    obtain ⟨o, es, ep, e, d, r⟩ := h
    exact ⟨o, es, ep, hidT_get e (free e (.inr ⟨es, ep, d⟩)), d, r⟩
  have kin : K.In (hidT s.heap H) := fun b o e => hidT_get (KX b o e) (free (KX b o e) (.inl e))
  obtain ⟨mc, l1, l2⟩ := hlim
  exact ⟨hidT s.heap H, kin, ns' hns, rfl, ⟨kin, ns' hns, ⟨mb, ns' hb, hbb⟩, ⟨mc, ns' l1, l2⟩⟩, fun b o e => of_hidT e, Nat.le_of_eq (hidT_size _ _), trivial, fun b hb => (by cases hb), ok, .of_eq hg⟩
/-- the law told True: what was there is there -/
theorem end_true {H : Hp} {u : Value} {s' : Shared} (hH : ∀ b v, H b = some v → ∃ o xs, v = .frz o (.lst xs)) (ok : HOk P w H s.heap) (h : CE [] P w H s (fun v _ => v = .bl true) u s') : u = .bool true ∧ OldK s.heap s'.heap ∧ s'.os = s.os ∧ AllBare s'.gens := by
  obtain ⟨v, H', os, bare, un, ok', r, rfl⟩ := h
  refine ⟨r, OldK.of_keep fun b o e => ?_, os, bare⟩
  cases q : H b with
  | none => exact un.keep b o e q (fun z => by cases z) (fun z => by cases z)
  | some v =>
    obtain ⟨ob, xs, rfl⟩ := hH b v q
    obtain ⟨e1, _⟩ := ok b _ q
    obtain ⟨e2, _⟩ := ok' b _ (un.frzs b ob _ q)
    rw [e] at e1
    cases e1
    exact e2
theorem law_told {k : Nat} {fa : Addr} {fd : FuncData} {x : Str} {sp : Sp} (KX : K.In s.heap) (hns : s.heap.Ns mainGlobals mg) (hb : s.heap.Ns builtinsNs mb) (hbb : ∀ x : Str, x ≠ "__name__" → mb x = bootBuiltins x) (hlim : s.heap.NoLimit) (hg : s.gens = #[])
    (ha : s.heap.get? a = some { cls := .type "list", data := .seq vs.toArray }) (hi : IntsAre vs ns) (hl : ns.length ≤ sizeLine) (hr : Room k callerA)
    (F : ∀ base : Heap, K.In base → base.Ns mainGlobals mg → FnG P w K mg base CX0 k fa fd [x] sp) (hbind : ∀ (s : Shared) (u : Value), BindsTo s fd ⟨[u], []⟩ [(x, u)])
    (hsp : ∀ H : Hp, ScAt K H a (ns.map V.int) → sp [.ref a] H (fun v _ => v = .bl true) fun _ _ _ => False) :
    codeAny (model P w) callerA (.call (.ref fa) ⟨[.ref a], []⟩) (fun r s' => r = .ok (.ret (.bool true)) ∧ OldK s.heap s'.heap ∧ s'.os = s.os ∧ AllBare s'.gens) s := by
  obtain ⟨base, kin, bns, e0⟩ := env_first (P := P) (w := w) KX hns hb hbb hlim hg ha hi hl
  refine codeAny_mono ((F base kin bns).go callerA [] s _ ⟨[.ref a], []⟩ [.ref a] [.ref a] _ _ rfl hr e0 (hbind s (.ref a)) (.cons rfl .nil) (hsp _ (hst_scr KX ha hi hl))) fun r s' h => ?_
  match r, h with
  | .ok (.ret u), h =>
    obtain ⟨rfl, h2⟩ := end_true (fun b v q => ⟨_, _, (hst_some q).2.2⟩) e0.hok h
    exact ⟨rfl, h2⟩
  | .ok .next, h => exact False.elim h
  | .ok .brk, h => exact False.elim h
  | .ok .cont, h => exact False.elim h
  | .error e, h => exact False.elim h
end
theorem roomy : Room 182 callerA := ⟨rfl, by decide, by decide⟩
end Wt
namespace Wt
open PySem PySem.Spec PyProof.Rows L2 RZ RT
/-- the law, walked: what stands behind the top says the facts -/
theorem walk_told {q : Program} {loose : List Str} {XP : (Str → Option Value) → Heap → Prop} {d : DefRec} (hn : d.name = ("law" : Str)) (hdf : d.params.defaults = []) :
    PySem.W.WalkO q loose XP (fun w h => hookW.says w h) PySem.Challenge.rw_wallseal_k52_whole_terms_placed.row.toRowW d [] (fun f vs => PySem.call f vs) := by
  refine Att.attach_call (l := PySem.Challenge.rw_wallseal_k52_whole_terms_placed) (n := 63) rfl hdf fun w s₀ s₁ mg mb fa o pm cd doc a vs ns G Y ho hd hcd hmg hobj hints hlen hg => ?_
  obtain ⟨K, KX, c⟩ := Y
  have T : Facts w K mg := facts_of KX G.T.g c
  rw [hn] at hmg
  obtain rfl : fa = He.ga K "law" := by
    have e := hmg.symm.trans T.g_law
    injection e with e
    injection e
  obtain ⟨fd, F⟩ := T.f_law
  have hb : ∀ (s : Shared) (u : Value), BindsTo s fd ⟨[u], []⟩ [("_law_script", u)] := fun s u => FunD.bindsA (ps := ["_law_script"]) F (fun _ _ _ _ _ _ us hl => match us, hl with | [_], _ => rfl) s [u] rfl
  refine law_told (P := PySem.Challenge.rw_wallseal_k52_whole_terms_placed.prog) (sp := spLaw K) KX G.T.g G.T.b G.T.builtins G.T.nolimit hg hobj hints (Nat.le_trans hlen (by decide)) roomy (fun base _ _ => ok_law T F) hb fun H hS => ⟨a, ns, rfl, hS, fun _ => rfl⟩
end Wt
open PySem PySem.W PySem.Calls PyProof.Rows
theorem PySem.Challenge.cw_wallseal_k52_whole_terms_placed_holds : PySem.Challenge.rw_wallseal_k52_whole_terms_placed.Holds := by
  w_on; o_law
  refine HandSHeadRun.head_any (r := OpenLaw.row PySem.Challenge.rw_wallseal_k52_whole_terms_placed) (q := view (OpenLaw.row PySem.Challenge.rw_wallseal_k52_whole_terms_placed).prog [100]) (H := Wt.hookW) (ob := Wt.obW) (M := 8000) (loose := Wt.loose) (d := HandSHeadRun.topDef (OpenLaw.row PySem.Challenge.rw_wallseal_k52_whole_terms_placed).prog 100) (kwd := []) Wt.obW_eq
    (by kernel_rfl) (fun s => by kernel_rfl) Wt.runW (by kernel_rfl) (by kernel_rfl) (by kernel_rfl) (by rfl) (by first | assumption | decide +kernel) (by decide +kernel) ⟨rfl, rfl, rfl, rfl, rfl, by decide +kernel⟩ ?hw ?hc
  case hw => w_witness2
  case hc => exact Wt.walk_told (by kernel_rfl) (by kernel_rfl)
