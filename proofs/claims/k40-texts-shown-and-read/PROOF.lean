import PyProof.Rows.All
import KE.KStateDown
import HandS.Head0
import HandS.Head1
import HandS.Head2
import HandS.HeadEnd
import HandS.HeadHook1
import HandS.HeadHook2
import Wide.All
import OpenK.AllK
import Wide.FinOn
import HandS.ForMost
import HandS.ForExc
import HandS.Wide
import HandS.WideBits
import HandS.Property
import HandS.IsInst
import HandS.CallSlots
import HandS.ExcInit
import HandS.Flow
import HandS.Style
import HandS.SortInts
import HandS.Conv
import HandS.OwnEq
import HandS.Text
import HandS.Words
import HandS.Codes
import KE.GoesEnum
import HandS.Star
import HandS.SetFor
import HandS.Zip
import HandS.TupAny
import HandS.DictComp
import KE.KDictKeyed
import KE.KDictDisplayH
import KE.KDictWalk
import KE.DataMinMax
import KE.SortData
import PyProof.Rows.RowBridgeK
import KE.KExcIs
import HandS.ExcValue
import HandS.DictTup
import HandS.SortKw
import PySem.Challenge.RW_lacekeys_k40_texts_shown_and_read
set_option Elab.async false
set_option linter.all false
set_option maxRecDepth 100000
set_option maxHeartbeats 4000000
namespace PyV
open PySem
section
open PySem PySem.Spec PyProof.Rows L2
structure DX where
  ad : PySem.W.Frag → Addr
  name : Str
  qual : Str
  params : Arguments
  body : List Stmt
  scope : Scope
def DX.val (d : DX) : He.FnW := some (d.name, d.qual, d.params, .stmts d.body, d.scope, mainGlobals, [], builtinsNs)
def fnX (K : PySem.W.Frag) (a : Addr) : He.FnW := match K.lookup a with
  | some ⟨_, _, .func fd, _⟩ => some (fd.name, fd.qualname, fd.params, fd.body, fd.scope, fd.globals, fd.closure, fd.builtins)
  | _ => none
def noDf : Value → Bool
  | .none => true
  | _ => false
def okX (K : PySem.W.Frag) (a : Addr) (q : Str) : Bool := PySem.W.keepIn K (.ref a) && (match K.lookup a with
  | some ⟨_, _, .func fd, _⟩ => PySem.W.codeIn K fd.code q && noDf fd.defaults
  | _ => false)
def obX (fn : List DX) (ck : PySem.W.Frag → Bool) (K : PySem.W.Frag) : Bool × List He.FnW := (ck K && fn.all fun d => okX K (d.ad K) d.qual, fn.map fun d => fnX K (d.ad K))
def vaX (fn : List DX) : Bool × List He.FnW := (true, fn.map DX.val)
def hookX (n : Nat) (fn : List DX) (ck : PySem.W.Frag → Bool) : PySem.W.Hook where
  α := Bool × List He.FnW
  obs := fun s => obX fn ck (He.frG s.heap.get? (He.asD s.heap.get? n))
  val := fun _ => vaX fn
  says := fun _ h => ∃ K : PySem.W.Frag, K.In h ∧ obX fn ck K = vaX fn
  of := fun _ s e => ⟨_, He.frG_in, e⟩
  keeps := fun _ h h' ⟨K, hK, e⟩ k => ⟨K, fun a o z => k a o (hK a o z), e⟩
def obT (n : Nat) (fn : List DX) (ck : PySem.W.Frag → Bool) (s : PySem.W.SharedT) : Bool × List He.FnW := obX fn ck (He.frG (HandSHeadRun.getT s) (He.asD (HandSHeadRun.getT s) n))
theorem obT_eq (n : Nat) (fn : List DX) (ck : PySem.W.Frag → Bool) (s : PySem.W.SharedT) : obT n fn ck s = (hookX n fn ck).obs s.abs := by
  have e : HandSHeadRun.getT s = s.abs.heap.get? := funext fun a => HandSHeadRun.getT_eq s a
  unfold obT
  rw [e]
  rfl
def uaX (K : PySem.W.Frag) (x : Str) : Value := match PySem.W.nsIn K mainGlobals x with
  | some (some u) => u
  | _ => .none
def isIV (i : Int) : Value → Bool
  | .int j _ => decide (j = i)
  | _ => false
end
open PySem L2 in
def topS (i : Nat) : Stmt := PySem.Challenge.pw_lacekeys_k40_texts_shown_and_read.main.body.getD i (.Pass ⟨0, 0, 0, 0⟩)
abbrev st_is_int : Stmt := topS 2
abbrev st_is_whole : Stmt := topS 3
abbrev st_is_box : Stmt := topS 4
abbrev st_is_load_item : Stmt := topS 5
abbrev st_require_bits : Stmt := topS 13
abbrev st_require_load_2 : Stmt := topS 16
abbrev st_numbers_text : Stmt := topS 20
abbrev st_load_text : Stmt := topS 21
abbrev st_show_load : Stmt := topS 22
abbrev st_whole_in : Stmt := topS 23
abbrev st_item_in : Stmt := topS 24
abbrev st_read_load : Stmt := topS 25
abbrev st_law_bag : Stmt := topS 27
abbrev st_law_pick : Stmt := topS 28
abbrev st_law_box_3 : Stmt := topS 37
abbrev st_law_text : Stmt := topS 38
abbrev st_law_37 : Stmt := topS 39
open PySem PySem.Spec PyProof.Rows L2 in
abbrev hg0 (K : PySem.W.Frag) : Prop := (PySem.W.nsIn K mainGlobals (Str.ofString "LaceError") = some (some (.ref (He.ga K (Str.ofString "LaceError"))))) ∧
  (PySem.W.nsIn K mainGlobals (Str.ofString "InvalidBits") = some (some (.ref (He.ga K (Str.ofString "InvalidBits"))))) ∧
  (PySem.W.nsIn K mainGlobals (Str.ofString "is_int") = some (some (.ref (He.ga K (Str.ofString "is_int"))))) ∧
  (PySem.W.nsIn K mainGlobals (Str.ofString "is_whole") = some (some (.ref (He.ga K (Str.ofString "is_whole"))))) ∧
  (PySem.W.nsIn K mainGlobals (Str.ofString "is_box") = some (some (.ref (He.ga K (Str.ofString "is_box"))))) ∧
  (PySem.W.nsIn K mainGlobals (Str.ofString "is_load_item") = some (some (.ref (He.ga K (Str.ofString "is_load_item"))))) ∧
  (PySem.W.nsIn K mainGlobals (Str.ofString "require_bits") = some (some (.ref (He.ga K (Str.ofString "require_bits"))))) ∧
  (PySem.W.nsIn K mainGlobals (Str.ofString "require_load") = some (some (.ref (He.ga K (Str.ofString "require_load"))))) ∧
  (PySem.W.nsIn K mainGlobals (Str.ofString "numbers_text") = some (some (.ref (He.ga K (Str.ofString "numbers_text"))))) ∧
  (PySem.W.nsIn K mainGlobals (Str.ofString "load_text") = some (some (.ref (He.ga K (Str.ofString "load_text"))))) ∧
  (PySem.W.nsIn K mainGlobals (Str.ofString "show_load") = some (some (.ref (He.ga K (Str.ofString "show_load"))))) ∧
  (PySem.W.nsIn K mainGlobals (Str.ofString "whole_in") = some (some (.ref (He.ga K (Str.ofString "whole_in"))))) ∧
  (PySem.W.nsIn K mainGlobals (Str.ofString "item_in") = some (some (.ref (He.ga K (Str.ofString "item_in"))))) ∧
  (PySem.W.nsIn K mainGlobals (Str.ofString "read_load") = some (some (.ref (He.ga K (Str.ofString "read_load"))))) ∧
  (PySem.W.nsIn K mainGlobals (Str.ofString "_law_bag") = some (some (.ref (He.ga K (Str.ofString "_law_bag"))))) ∧
  (PySem.W.nsIn K mainGlobals (Str.ofString "_law_pick") = some (some (.ref (He.ga K (Str.ofString "_law_pick"))))) ∧
  (PySem.W.nsIn K mainGlobals (Str.ofString "_law_box") = some (some (.ref (He.ga K (Str.ofString "_law_box"))))) ∧
  (PySem.W.nsIn K mainGlobals (Str.ofString "_law_text") = some (some (.ref (He.ga K (Str.ofString "_law_text"))))) ∧
  (PySem.W.nsIn K mainGlobals (Str.ofString "law") = some (some (.ref (He.ga K (Str.ofString "law"))))) ∧
  (PySem.W.isClsIn K (He.ga K (Str.ofString "LaceError")) = true) ∧
  (PySem.W.typeIn K (.ref (He.ga K (Str.ofString "LaceError"))) = some (.type "type")) ∧
  (PySem.W.subIn K (.ref (He.ga K (Str.ofString "LaceError"))) (.type "BaseException") = some true) ∧
  (PySem.W.isClsIn K (He.ga K (Str.ofString "InvalidBits")) = true) ∧
  (PySem.W.typeIn K (.ref (He.ga K (Str.ofString "InvalidBits"))) = some (.type "type"))
open PySem PySem.Spec PyProof.Rows L2 in
abbrev hg1 (K : PySem.W.Frag) : Prop := (PySem.W.subIn K (.ref (He.ga K (Str.ofString "InvalidBits"))) (.type "BaseException") = some true) ∧
  (PySem.W.excIn K (He.ga K (Str.ofString "InvalidBits")) [.type "ValueError", .type "Exception", .type "BaseException", .type "object"] "ValueError.__new__" = true) ∧
  (PySem.W.keepIn K (.ref (He.ga K (Str.ofString "InvalidBits"))) = true) ∧
  (PySem.W.findIn K (.ref (He.ga K (Str.ofString "InvalidBits"))) "__getattribute__" = some (some (.builtin "BaseException.__getattribute__"))) ∧
  (PySem.W.findIn K (.ref (He.ga K (Str.ofString "InvalidBits"))) "__getattr__" = some none) ∧
  (PySem.W.findIn K (.ref (He.ga K (Str.ofString "InvalidBits"))) "__class__" = some (some (.builtin "object.__class__"))) ∧
  (PySem.W.mroIn K (He.ga K (Str.ofString "InvalidBits")) (.type "object") = some true) ∧
  (PySem.W.subIn K (.ref (He.ga K (Str.ofString "InvalidBits"))) (.ref (He.ga K (Str.ofString "LaceError"))) = some true) ∧
  (PySem.W.specialIn K (.builtin "object.__class__") "__get__" = some (some (.builtin "getset_descriptor.__get__"))) ∧
  (PySem.W.takesIn K (.builtin "object.__class__") = some true) ∧
  (PySem.W.subIn K (.type "NoneType") (.type "int") = some false) ∧
  (PySem.W.subIn K (.type "bool") (.type "int") = some true) ∧
  (PySem.W.subIn K (.type "str") (.type "int") = some false) ∧
  (PySem.W.subIn K (.type "tuple") (.type "int") = some false) ∧
  (PySem.W.subIn K (.type "list") (.type "int") = some false) ∧
  (PySem.W.subIn K (.type "dict") (.type "int") = some false) ∧
  (PySem.W.subIn K (.ref (He.ga K (Str.ofString "InvalidBits"))) (.type "int") = some false) ∧
  (PySem.W.subIn K (.type "NoneType") (.type "bool") = some false) ∧
  (PySem.W.subIn K (.type "int") (.type "bool") = some false) ∧
  (PySem.W.subIn K (.type "str") (.type "bool") = some false) ∧
  (PySem.W.subIn K (.type "tuple") (.type "bool") = some false) ∧
  (PySem.W.subIn K (.type "list") (.type "bool") = some false) ∧
  (PySem.W.subIn K (.type "dict") (.type "bool") = some false) ∧
  (PySem.W.subIn K (.ref (He.ga K (Str.ofString "InvalidBits"))) (.type "bool") = some false)
open PySem PySem.Spec PyProof.Rows L2 in
abbrev hg2 (K : PySem.W.Frag) : Prop := (PySem.W.subIn K (.type "NoneType") (.type "str") = some false) ∧
  (PySem.W.subIn K (.type "bool") (.type "str") = some false) ∧
  (PySem.W.subIn K (.type "int") (.type "str") = some false) ∧
  (PySem.W.subIn K (.type "tuple") (.type "str") = some false) ∧
  (PySem.W.subIn K (.type "list") (.type "str") = some false) ∧
  (PySem.W.subIn K (.type "dict") (.type "str") = some false) ∧
  (PySem.W.subIn K (.ref (He.ga K (Str.ofString "InvalidBits"))) (.type "str") = some false) ∧
  (PySem.W.subIn K (.type "NoneType") (.type "tuple") = some false) ∧
  (PySem.W.subIn K (.type "bool") (.type "tuple") = some false) ∧
  (PySem.W.subIn K (.type "int") (.type "tuple") = some false) ∧
  (PySem.W.subIn K (.type "str") (.type "tuple") = some false) ∧
  (PySem.W.subIn K (.type "list") (.type "tuple") = some false) ∧
  (PySem.W.subIn K (.type "dict") (.type "tuple") = some false) ∧
  (PySem.W.subIn K (.ref (He.ga K (Str.ofString "InvalidBits"))) (.type "tuple") = some false) ∧
  (PySem.W.subIn K (.type "NoneType") (.type "list") = some false) ∧
  (PySem.W.subIn K (.type "bool") (.type "list") = some false) ∧
  (PySem.W.subIn K (.type "int") (.type "list") = some false) ∧
  (PySem.W.subIn K (.type "str") (.type "list") = some false) ∧
  (PySem.W.subIn K (.type "tuple") (.type "list") = some false) ∧
  (PySem.W.subIn K (.type "dict") (.type "list") = some false) ∧
  (PySem.W.subIn K (.ref (He.ga K (Str.ofString "InvalidBits"))) (.type "list") = some false) ∧
  (PySem.W.subIn K (.ref (He.ga K (Str.ofString "LaceError"))) (.ref (He.ga K (Str.ofString "LaceError"))) = some true) ∧
  (PySem.W.subIn K (.type "NoneType") (.ref (He.ga K (Str.ofString "LaceError"))) = some false) ∧
  (PySem.W.subIn K (.type "bool") (.ref (He.ga K (Str.ofString "LaceError"))) = some false)
open PySem PySem.Spec PyProof.Rows L2 in
abbrev hg3 (K : PySem.W.Frag) : Prop := (PySem.W.subIn K (.type "int") (.ref (He.ga K (Str.ofString "LaceError"))) = some false) ∧
  (PySem.W.subIn K (.type "str") (.ref (He.ga K (Str.ofString "LaceError"))) = some false) ∧
  (PySem.W.subIn K (.type "tuple") (.ref (He.ga K (Str.ofString "LaceError"))) = some false) ∧
  (PySem.W.subIn K (.type "list") (.ref (He.ga K (Str.ofString "LaceError"))) = some false) ∧
  (PySem.W.subIn K (.type "dict") (.ref (He.ga K (Str.ofString "LaceError"))) = some false) ∧
  (PySem.W.nsIn K mainGlobals (Str.ofString "len") = some none) ∧
  (PySem.W.nsIn K mainGlobals (Str.ofString "abs") = some none) ∧
  (PySem.W.nsIn K mainGlobals (Str.ofString "int") = some none) ∧
  (PySem.W.nsIn K mainGlobals (Str.ofString "str") = some none) ∧
  (PySem.W.nsIn K mainGlobals (Str.ofString "repr") = some none) ∧
  (PySem.W.nsIn K mainGlobals (Str.ofString "list") = some none) ∧
  (PySem.W.nsIn K mainGlobals (Str.ofString "tuple") = some none) ∧
  (PySem.W.nsIn K mainGlobals (Str.ofString "max") = some none) ∧
  (PySem.W.nsIn K mainGlobals (Str.ofString "min") = some none) ∧
  (PySem.W.nsIn K mainGlobals (Str.ofString "sum") = some none) ∧
  (PySem.W.nsIn K mainGlobals (Str.ofString "all") = some none) ∧
  (PySem.W.nsIn K mainGlobals (Str.ofString "any") = some none) ∧
  (PySem.W.nsIn K mainGlobals (Str.ofString "sorted") = some none) ∧
  (PySem.W.nsIn K mainGlobals (Str.ofString "isinstance") = some none) ∧
  (PySem.W.nsIn K mainGlobals (Str.ofString "range") = some none) ∧
  (PySem.W.nsIn K mainGlobals (Str.ofString "enumerate") = some none) ∧
  (PySem.W.nsIn K mainGlobals (Str.ofString "zip") = some none) ∧
  (PySem.W.nsIn K mainGlobals (Str.ofString "bool") = some none) ∧
  (PySem.W.nsIn K mainGlobals (Str.ofString "set") = some none)
open PySem PySem.Spec PyProof.Rows L2 in
abbrev hg4 (K : PySem.W.Frag) : Prop := (PySem.W.nsIn K mainGlobals (Str.ofString "divmod") = some none) ∧
  (PySem.W.nsIn K mainGlobals (Str.ofString "ValueError") = some none) ∧
  (PySem.W.nsIn K mainGlobals (Str.ofString "MOST_BITS") = some (some (uaX K (Str.ofString "MOST_BITS")))) ∧
  (PySem.W.nsIn K mainGlobals (Str.ofString "MOST_DIGITS") = some (some (uaX K (Str.ofString "MOST_DIGITS")))) ∧
  (PySem.W.nsIn K mainGlobals (Str.ofString "MOST_WEIGHT") = some (some (uaX K (Str.ofString "MOST_WEIGHT")))) ∧
  (PySem.W.nsIn K mainGlobals (Str.ofString "MOST_ITEMS_boxes") = some (some (uaX K (Str.ofString "MOST_ITEMS_boxes")))) ∧
  (PySem.W.nsIn K mainGlobals (Str.ofString "MOST_ITEMS_texts") = some (some (uaX K (Str.ofString "MOST_ITEMS_texts")))) ∧
  (isIV (100) (uaX K (Str.ofString "MOST_BITS")) = true) ∧
  (isIV (100) (uaX K (Str.ofString "MOST_DIGITS")) = true) ∧
  (isIV (1000000000000000000000000000000) (uaX K (Str.ofString "MOST_WEIGHT")) = true) ∧
  (isIV (20) (uaX K (Str.ofString "MOST_ITEMS_boxes")) = true) ∧
  (isIV (20) (uaX K (Str.ofString "MOST_ITEMS_texts")) = true)
def ckL (K : PySem.W.Frag) : Bool := decide (hg0 K) && (decide (hg1 K) && (decide (hg2 K) && (decide (hg3 K) && (decide (hg4 K)))))
open PySem PySem.Spec PyProof.Rows L2 in
def dX_is_int : DX := ⟨fun K => (He.ga K (Str.ofString "is_int")), Str.ofString "is_int", Str.ofString "is_int", defArgs st_is_int, defBody st_is_int, defScope st_is_int⟩
open PySem PySem.Spec PyProof.Rows L2 in
def dX_is_whole : DX := ⟨fun K => (He.ga K (Str.ofString "is_whole")), Str.ofString "is_whole", Str.ofString "is_whole", defArgs st_is_whole, defBody st_is_whole, defScope st_is_whole⟩
open PySem PySem.Spec PyProof.Rows L2 in
def dX_is_box : DX := ⟨fun K => (He.ga K (Str.ofString "is_box")), Str.ofString "is_box", Str.ofString "is_box", defArgs st_is_box, defBody st_is_box, defScope st_is_box⟩
open PySem PySem.Spec PyProof.Rows L2 in
def dX_is_load_item : DX := ⟨fun K => (He.ga K (Str.ofString "is_load_item")), Str.ofString "is_load_item", Str.ofString "is_load_item", defArgs st_is_load_item, defBody st_is_load_item, defScope st_is_load_item⟩
open PySem PySem.Spec PyProof.Rows L2 in
def dX_require_bits : DX := ⟨fun K => (He.ga K (Str.ofString "require_bits")), Str.ofString "require_bits", Str.ofString "require_bits", defArgs st_require_bits, defBody st_require_bits, defScope st_require_bits⟩
open PySem PySem.Spec PyProof.Rows L2 in
def dX_require_load_2 : DX := ⟨fun K => (He.ga K (Str.ofString "require_load")), Str.ofString "require_load", Str.ofString "require_load", defArgs st_require_load_2, defBody st_require_load_2, defScope st_require_load_2⟩
open PySem PySem.Spec PyProof.Rows L2 in
def dX_numbers_text : DX := ⟨fun K => (He.ga K (Str.ofString "numbers_text")), Str.ofString "numbers_text", Str.ofString "numbers_text", defArgs st_numbers_text, defBody st_numbers_text, defScope st_numbers_text⟩
open PySem PySem.Spec PyProof.Rows L2 in
def dX_load_text : DX := ⟨fun K => (He.ga K (Str.ofString "load_text")), Str.ofString "load_text", Str.ofString "load_text", defArgs st_load_text, defBody st_load_text, defScope st_load_text⟩
open PySem PySem.Spec PyProof.Rows L2 in
def dX_show_load : DX := ⟨fun K => (He.ga K (Str.ofString "show_load")), Str.ofString "show_load", Str.ofString "show_load", defArgs st_show_load, defBody st_show_load, defScope st_show_load⟩
open PySem PySem.Spec PyProof.Rows L2 in
def dX_whole_in : DX := ⟨fun K => (He.ga K (Str.ofString "whole_in")), Str.ofString "whole_in", Str.ofString "whole_in", defArgs st_whole_in, defBody st_whole_in, defScope st_whole_in⟩
open PySem PySem.Spec PyProof.Rows L2 in
def dX_item_in : DX := ⟨fun K => (He.ga K (Str.ofString "item_in")), Str.ofString "item_in", Str.ofString "item_in", defArgs st_item_in, defBody st_item_in, defScope st_item_in⟩
open PySem PySem.Spec PyProof.Rows L2 in
def dX_read_load : DX := ⟨fun K => (He.ga K (Str.ofString "read_load")), Str.ofString "read_load", Str.ofString "read_load", defArgs st_read_load, defBody st_read_load, defScope st_read_load⟩
open PySem PySem.Spec PyProof.Rows L2 in
def dX_law_bag : DX := ⟨fun K => (He.ga K (Str.ofString "_law_bag")), Str.ofString "_law_bag", Str.ofString "_law_bag", defArgs st_law_bag, defBody st_law_bag, defScope st_law_bag⟩
open PySem PySem.Spec PyProof.Rows L2 in
def dX_law_pick : DX := ⟨fun K => (He.ga K (Str.ofString "_law_pick")), Str.ofString "_law_pick", Str.ofString "_law_pick", defArgs st_law_pick, defBody st_law_pick, defScope st_law_pick⟩
open PySem PySem.Spec PyProof.Rows L2 in
def dX_law_box_3 : DX := ⟨fun K => (He.ga K (Str.ofString "_law_box")), Str.ofString "_law_box", Str.ofString "_law_box", defArgs st_law_box_3, defBody st_law_box_3, defScope st_law_box_3⟩
open PySem PySem.Spec PyProof.Rows L2 in
def dX_law_text : DX := ⟨fun K => (He.ga K (Str.ofString "_law_text")), Str.ofString "_law_text", Str.ofString "_law_text", defArgs st_law_text, defBody st_law_text, defScope st_law_text⟩
open PySem PySem.Spec PyProof.Rows L2 in
def dX_law_37 : DX := ⟨fun K => (He.ga K (Str.ofString "law")), Str.ofString "law", Str.ofString "law", defArgs st_law_37, defBody st_law_37, defScope st_law_37⟩
def fnL0 : List DX := [dX_is_int, dX_is_whole, dX_is_box, dX_is_load_item, dX_require_bits, dX_require_load_2, dX_numbers_text, dX_load_text, dX_show_load, dX_whole_in, dX_item_in, dX_read_load, dX_law_bag, dX_law_pick, dX_law_box_3, dX_law_text, dX_law_37]
def fnL : List DX := fnL0
def topN0 : List PySem.Str := ["MOST_WEIGHT", "is_int", "is_whole", "is_box", "is_load_item", "LaceError", "InvalidLoad", "InvalidText", "InvalidBits", "MOST_BITS", "require_bits", "MOST_ITEMS_boxes", "require_load", "MOST_DIGITS", "MOST_ITEMS_texts", "numbers_text", "load_text", "show_load", "whole_in", "item_in", "read_load", "_law_bag", "_law_pick", "_law_word", "_law_key", "_law_keys", "_law_runs", "_law_words", "_law_total", "_law_best"]
def topN1 : List PySem.Str := ["_law_least", "_law_box", "_law_text"]
def topN : List PySem.Str := topN0 ++ topN1
open PySem PySem.W PySem.Calls PyProof.Rows in
theorem run_top (w : World) : HandSHeadRun.RunEq (OpenLaw.row PySem.Challenge.rw_lacekeys_k40_texts_shown_and_read) (view (OpenLaw.row PySem.Challenge.rw_lacekeys_k40_texts_shown_and_read).prog [39]) (hookX 6 fnL ckL) (obT 6 fnL ckL) 20000 topN w := by
  intro os
  kernel_rfl
end PyV
set_option Elab.async false
set_option linter.all false
set_option maxRecDepth 100000
set_option maxHeartbeats 2000000
namespace PyV
open PySem

inductive D where
  | non | bl (b : Bool) | int (i : Int) | str (s : List Nat)
  | lst (ds : List D) | tup (ds : List D) | dct (t : Bool) (ks vs : List D)
  | obj (c : Nat) (ns : List Str) (vs : List D) | exc (c : Nat) (ns : List Str) (vs : List D)
  /-- no value of the program's: this object stands there -/
  | gho (o : L2.HO)

inductive Sl where
  | emp | val (d : D) | own (d : D)
abbrev Ss := List Sl
inductive Rv where
  | val (d : D) | own (d : D) | ali (i : Nat)
structure Ex where
  c : Nat
  ns : List Str
  vs : List D
inductive R (α : Type) where
  | ok (a : α) (s : Ss) | ex (x : Ex) (s : Ss) | bad
@[simp] def R.bind {α β : Type} (r : R α) (f : α → Ss → R β) : R β := match r with
  | .ok a s => f a s
  | .ex x s => .ex x s
  | .bad => .bad
inductive FR where
  | ok (d : D) (fr : Bool) (io : Option D) | ex (x : Ex) (io : Option D) | bad
abbrev Fn := List D → FR
inductive Fl where
  | nx | rt (d : D) (fr : Bool) | bk | ct

@[simp] def sl? (s : Ss) (i : Nat) : Sl := s.getD i .emp
@[simp] def rd (s : Ss) : Rv → Option D
  | .val d => some d
  | .own d => some d
  | .ali i => match sl? s i with
    | .own d => some d
    | .val d => some d
    | .emp => none
@[simp] def fz (s : Ss) : Rv → Option (D × Ss)
  | .val d => some (d, s)
  | .own d => some (d, s)
  | .ali i => match sl? s i with
    | .own d => some (d, s.set i (.val d))
    | .val d => some (d, s)
    | .emp => none
@[simp] def fzs : Ss → List Rv → Option (List D × Ss)
  | s, [] => some ([], s)
  | s, r :: rs => match fz s r with
    | none => none
    | some (d, s1) => match fzs s1 rs with
      | none => none
      | some (ds, s2) => some (d :: ds, s2)
@[simp] def rds (s : Ss) : List Rv → Option (List D)
  | [] => some []
  | r :: rs => match rd s r, rds s rs with
    | some d, some ds => some (d :: ds)
    | _, _ => none

inductive Op where | add | sub | mul | fdiv | mod | pow | shl | shr | band | bor | bxor
inductive Co where | eq | ne | lt | le | gt | ge | inn | nin

@[simp] def lim : Nat := 16777216
def smallI (i : Int) : Bool := decide (i.natAbs < 2 ^ 64)
def mulOk (i j : Int) : Bool := smallI i || smallI j || decide (i.natAbs.log2 + j.natAbs.log2 < 1000000)
def divOk (j : Int) : Bool := decide (0 < j) && decide (j.natAbs.log2 < 9000)
def powOk (i j : Int) : Bool := decide (0 ≤ j) && decide ((Builtin.Int.intBits i : Int) * j ≤ 2 ^ 27)
def shlOk (i j : Int) : Bool := decide (0 ≤ j) && decide ((Builtin.Int.intBits i : Int) + j ≤ 2 ^ 27)

def reps {α : Type} (k : Nat) (xs : List α) : List α := (List.replicate k xs).flatten
@[simp] def out : D → Rv
  | .lst ds => .own (.lst ds)
  | .dct t ks vs => .own (.dct t ks vs)
  | d => .val d

@[simp] def binD : Op → D → D → Option D
  | .add, .int i, .int j => some (.int (i + j))
  | .add, .str a, .str b => if a.length + b.length ≤ lim then some (.str (a ++ b)) else none
  | .add, .lst a, .lst b => if a.length + b.length ≤ lim then some (.lst (a ++ b)) else none
  | .add, .tup a, .tup b => if a.length + b.length ≤ lim then some (.tup (a ++ b)) else none
  | .sub, .int i, .int j => some (.int (i - j))
  | .mul, .int i, .int j => if mulOk i j = true then some (.int (i * j)) else none
  | .mul, .str a, .int j => if a.length * j.toNat ≤ lim ∧ -(lim : Int) ≤ j ∧ j ≤ (lim : Int) then some (.str (reps j.toNat a)) else none
  | .mul, .lst a, .int j => if a.length * j.toNat ≤ lim ∧ -(lim : Int) ≤ j ∧ j ≤ (lim : Int) then some (.lst (reps j.toNat a)) else none
  | .fdiv, .int i, .int j => if divOk j = true then some (.int (i / j)) else none
  | .mod, .int i, .int j => if 0 < j then some (.int (i % j)) else none
  | .pow, .int i, .int j => if powOk i j = true then some (.int (i ^ j.toNat)) else none
  | .shl, .int i, .int j => if shlOk i j = true then some (.int (i * 2 ^ j.toNat)) else none
  | .shr, .int i, .int j => if 0 ≤ j then some (.int (i / 2 ^ j.toNat)) else none
  | .band, .int i, .int j => some (.int (Builtin.bitAnd i j))
  | .bor, .int i, .int j => some (.int (Builtin.bitOr i j))
  | .bxor, .int i, .int j => some (.int (Builtin.bitXor i j))
  | _, _, _ => none

mutual
def D.py : D → PyData
  | .non => .none
  | .bl b => .bool b
  | .int i => .int i
  | .str s => .str ⟨s.toArray⟩
  | .lst ds => .list (D.pys ds)
  | .tup ds => .tuple (D.pys ds)
  | .dct _ _ _ => .none
  | .obj _ _ _ => .none
  | .exc _ _ _ => .none
  | .gho _ => .none
def D.pys : List D → List PyData
  | [] => []
  | d :: ds => D.py d :: D.pys ds
end
def ck : Nat → D → Bool
  | _, .non => true
  | _, .bl _ => true
  | _, .int _ => true
  | _, .str _ => true
  | 0, _ => false
  | n + 1, .lst ds => ds.all (ck n)
  | n + 1, .tup ds => ds.all (ck n)
  | _, _ => false
def eqD (d e : D) : Bool := PyData.eqv d.py e.py
def flat : D → Bool
  | .non => true
  | .bl _ => true
  | .int _ => true
  | .str _ => true
  | _ => false
def inD (d : D) (ds : List D) : Bool := ds.any fun e => eqD e d
mutual
@[simp] def nkD : D → Option NestedKey
  | .non => some .none
  | .int i => some (.num i)
  | .str s => some (.text ⟨s.toArray⟩)
  | .tup ds => match nksD ds with
    | some ks => some (.tup ks)
    | none => none
  | _ => none
@[simp] def nksD : List D → Option (List NestedKey)
  | [] => some []
  | d :: ds => match nkD d, nksD ds with
    | some k, some ks => some (k :: ks)
    | _, _ => none
end
mutual
@[simp] def keqD : D → D → Bool
  | .non, .non => true
  | .int i, .int j => decide (i = j)
  | .str s, .str t => decide (s = t)
  | .tup ds, .tup es => keqsD ds es
  | _, _ => false
@[simp] def keqsD : List D → List D → Bool
  | [], [] => true
  | d :: ds, e :: es => keqD d e && keqsD ds es
  | _, _ => false
end
@[simp] def okK : Bool → D → Bool
  | false, .int _ => true
  | false, .str _ => true
  | true, .tup ds => ck 8 (.tup ds) && (nksD ds).isSome
  | _, _ => false
@[simp] def dget : List D → List D → D → Option D
  | k :: ks, v :: vs, x => if keqD k x = true then some v else dget ks vs x
  | _, _, _ => none
@[simp] def dputK : List D → D → List D
  | k :: ks, x => if keqD k x = true then k :: ks else k :: dputK ks x
  | [], x => [x]
@[simp] def dputV : List D → List D → D → D → List D
  | k :: ks, v :: vs, x, y => if keqD k x = true then y :: vs else v :: dputV ks vs x y
  | _, _, _, y => [y]
@[simp] def dpairs (t : Bool) : List D → List D → List D → Option (List D × List D)
  | ks, vs, k :: v :: r => if okK t k = true then dpairs t (dputK ks k) (dputV ks vs k v) r else none
  | ks, vs, [] => some (ks, vs)
  | _, _, _ => none
@[simp] def cmpD : Co → D → D → Option Bool
  | .eq, d, e => if ck 8 d = true ∧ ck 8 e = true then some (eqD d e) else none
  | .ne, d, e => if ck 8 d = true ∧ ck 8 e = true then some (!eqD d e) else none
  | .lt, .int i, .int j => some (decide (i < j))
  | .le, .int i, .int j => some (decide (i ≤ j))
  | .gt, .int i, .int j => some (decide (j < i))
  | .ge, .int i, .int j => some (decide (j ≤ i))
  | .inn, d, .lst es => if flat d = true ∧ es.all flat = true then some (inD d es) else none
  | .inn, d, .tup es => if flat d = true ∧ es.all flat = true then some (inD d es) else none
  | .nin, d, .lst es => if flat d = true ∧ es.all flat = true then some (!inD d es) else none
  | .nin, d, .tup es => if flat d = true ∧ es.all flat = true then some (!inD d es) else none
  | .inn, .str [c], .str z => some (decide (c ∈ z))
  | _, _, _ => none

def atD {α : Type} (xs : List α) (i : Int) : Option α := if 0 ≤ i then xs[i.toNat]? else if -(xs.length : Int) ≤ i then xs[(i + xs.length).toNat]? else none
def placeD (n : Nat) (i : Int) : Option Nat := if 0 ≤ i then (if i < n then some i.toNat else none) else if -(n : Int) ≤ i then some (i + n).toNat else none
@[simp] def subD : D → D → Option D
  | .lst ds, .int i => atD ds i
  | .tup ds, .int i => atD ds i
  | .str s, .int i => if s.length ≤ lim then (atD s i).map fun c => .str [c] else none
  | .dct t ks vs, d => if okK t d = true then dget ks vs d else none
  | _, _ => none
def clipD (n : Nat) (d : Nat) : Option Int → Nat
  | none => d
  | some i => if i < 0 then (i + (n : Int)).toNat else min i.toNat n
def cutD {α : Type} (xs : List α) (lo hi : Option Int) : List α := (xs.drop (clipD xs.length 0 lo)).take (clipD xs.length xs.length hi - clipD xs.length 0 lo)
@[simp] def slcD : D → Option Int → Option Int → Option D
  | .lst ds, lo, hi => some (.lst (cutD ds lo hi))
  | .str s, lo, hi => if s.length ≤ lim then some (.str (cutD s lo hi)) else none
  | .tup ds, lo, hi => some (.tup (cutD ds lo hi))
  | _, _, _ => none
@[simp] def revD : D → Option D
  | .lst ds => some (.lst ds.reverse)
  | .str s => if s.length ≤ lim then some (.str s.reverse) else none
  | .tup ds => some (.tup ds.reverse)
  | _ => none

inductive Bi where
  | len | abs | int | str | repr | list | tuple | max | min | sum | all | any | sorted | sortedR | set | bool | divmod
inductive Mt where
  | count | join | split | partition | upper | find | index

mutual
/-- room for the text of it -/
def szD : D → Nat
  | .non => 5
  | .bl _ => 6
  | .int _ => 1921
  | .str s => 10 * s.length + 3
  | .lst ds => szs ds + 3
  | .tup ds => szs ds + 4
  | .dct _ _ _ => 2
  | .obj _ _ _ => 0
  | .exc _ _ _ => 0
  | .gho _ => 0
def szs : List D → Nat
  | [] => 0
  | d :: ds => szD d + 2 + szs ds
end
mutual
def showOk : D → Bool
  | .int i => decide (i.natAbs.log2 < 1920)
  | .lst ds => showOks ds
  | .tup ds => showOks ds
  | .non => true
  | .bl _ => true
  | .str _ => true
  | .dct _ _ _ => false
  | .obj _ _ _ => false
  | .exc _ _ _ => false
  | .gho _ => false
def showOks : List D → Bool
  | [] => true
  | d :: ds => showOk d && showOks ds
end
def reprD (d : D) : List Nat := d.py.shown.cps.toList
mutual
/-- as plain data, an empty dict in it, too -/
def pyR : D → PyData
  | .non => .none
  | .bl b => .bool b
  | .int i => .int i
  | .str s => .str ⟨s.toArray⟩
  | .lst ds => .list (pysR ds)
  | .tup ds => .tuple (pysR ds)
  | .dct _ _ _ => .dict []
  | .obj _ _ _ => .none
  | .exc _ _ _ => .none
  | .gho _ => .none
def pysR : List D → List PyData
  | [] => []
  | d :: ds => pyR d :: pysR ds
end
def okR : Nat → D → Bool
  | _, .non => true
  | _, .bl _ => true
  | _, .int i => decide (i.natAbs.log2 < 1920)
  | _, .str _ => true
  | 0, _ => false
  | n + 1, .lst ds => ds.all (okR n)
  | n + 1, .tup ds => ds.all (okR n)
  | _, .dct _ ks _ => ks.isEmpty
  | _, _ => false
def reprR (d : D) : List Nat := (pyR d).shown.cps.toList

@[simp] def allI : List D → Option (List Int)
  | [] => some []
  | .int i :: ds => (allI ds).map (i :: ·)
  | _ :: _ => none
@[simp] def allB : List D → Option (List Bool)
  | [] => some []
  | .bl i :: ds => (allB ds).map (i :: ·)
  | _ :: _ => none
@[simp] def allS : List D → Option (List (List Nat))
  | [] => some []
  | .str i :: ds => (allS ds).map (i :: ·)
  | _ :: _ => none
@[simp] def allP : List D → Option (List (Int × Int))
  | [] => some []
  | .tup [.int i, .int j] :: ds => (allP ds).map ((i, j) :: ·)
  | _ :: _ => none
def leP (p q : Int × Int) : Bool := decide (p.1 < q.1 ∨ (p.1 = q.1 ∧ p.2 ≤ q.2))
def leC (a b : List Nat) : Bool := !PySem.Spec.ltCps b a
def sortS (ss : List (List Nat)) : List (List Nat) := ss.mergeSort leC
def sortP (ps : List (Int × Int)) : List (Int × Int) := ps.mergeSort leP
def pairI (p : Int × Int) : D := .tup [.int p.1, .int p.2]
def maxI : List Int → Int
  | [] => 0
  | [n] => n
  | n :: m :: ns => if n ≤ maxI (m :: ns) then maxI (m :: ns) else n
def minI : List Int → Int
  | [] => 0
  | [n] => n
  | n :: m :: ns => if minI (m :: ns) ≤ n then minI (m :: ns) else n
def sortI (ns : List Int) : List Int := ns.mergeSort fun i j => decide (i ≤ j)
def ltD (d e : D) : Bool := PySem.W.dataLt d.py e.py
def minDD (d : D) (r : List D) : D := r.foldl (fun a y => if ltD y a = true then y else a) d
def isTup : D → Bool
  | .tup _ => true
  | _ => false
def alkD (ds : List D) : Bool := ds.all fun d => isTup d && ck 8 d && ds.all fun e => PySem.W.alike d.py e.py
def strI (i : Int) : List Nat := (Str.ofString (toString i)).cps.toList
@[simp] def biD : Bi → List D → Option D
  | .len, [.lst ds] => some (.int ds.length)
  | .len, [.tup ds] => some (.int ds.length)
  | .len, [.str s] => if s.length ≤ lim then some (.int s.length) else none
  | .int, [.int i] => some (.int i)
  | .int, [.bl b] => some (.int (if b = true then 1 else 0))
  | .int, [.str s] => if s.length ≤ 640 then (PySem.intText? ⟨s.toArray⟩).map .int else none
  | .abs, [.int i] => some (.int (if i < 0 then -i else i))
  | .max, [.int i, .int j] => some (.int (if j > i then j else i))
  | .min, [.int i, .int j] => some (.int (if j < i then j else i))
  | .max, [.lst ds] => match allI ds with
    | some (n :: ns) => some (.int (maxI (n :: ns)))
    | _ => none
  | .min, [.lst ds] => match allI ds with
    | some (n :: ns) => some (.int (minI (n :: ns)))
    | _ => match ds with
      | d :: r => if alkD (d :: r) = true then some (minDD d r) else none
      | [] => none
  | .sum, [.lst ds] => (allI ds).map fun ns => .int ns.sum
  | .all, [.lst ds] => (allB ds).map fun bs => .bl (bs.all id)
  | .any, [.lst ds] => (allB ds).map fun bs => .bl (bs.any id)
  | .sorted, [.lst ds] => match allI ds with
    | some ns => some (.lst ((sortI ns).map .int))
    | none => match allP ds with
      | some ps => some (.lst ((sortP ps).map pairI))
      | none => match allS ds with
        | some ss => if ss.length < 64 then some (.lst ((sortS ss).map .str)) else none
        | none => none
  | .list, [.lst ds] => some (.lst ds)
  | .list, [.tup ds] => some (.lst ds)
  | .list, [.str s] => if s.length ≤ lim then some (.lst (s.map fun c => .str [c])) else none
  | .tuple, [.lst ds] => some (.tup ds)
  | .tuple, [.tup ds] => some (.tup ds)
  | .str, [.int i] => if i.natAbs.log2 < 1920 then some (.str (strI i)) else none
  | .divmod, [.int i, .int j] => if divOk j = true then some (.tup [.int (i / j), .int (i % j)]) else none
  | .repr, [d] => if ck 8 d = true ∧ showOk d = true ∧ szD d ≤ lim then some (.str (reprD d)) else none
  | _, _ => none
@[simp] def cntD (s : List Nat) : List D → Option D
  | [.str [c]] => some (.int (s.count c : Nat))
  | _ => none
@[simp] def joinD (s : List Nat) : List D → Option D
  | [.lst ds] => match allS ds with
    | some xs => if (xs.map List.length).sum + xs.length * s.length ≤ lim then some (.str (TL.joinL s xs)) else none
    | none => none
  | _ => none
def splL (s b : List Nat) : List (List Nat) := (PySem.Txt.split ⟨s.toArray⟩ ⟨b.toArray⟩).map fun z => z.cps.toList
def parL (s b : List Nat) : List Nat × List Nat × List Nat := ((PySem.Txt.partition ⟨s.toArray⟩ ⟨b.toArray⟩).1.cps.toList, (PySem.Txt.partition ⟨s.toArray⟩ ⟨b.toArray⟩).2.1.cps.toList, (PySem.Txt.partition ⟨s.toArray⟩ ⟨b.toArray⟩).2.2.cps.toList)
@[simp] def splD (s : List Nat) : List D → Option D
  | [.str b] => if b.isEmpty = false ∧ s.length + 2 ≤ lim then some (.lst ((splL s b).map .str)) else none
  | _ => none
@[simp] def parD (s : List Nat) : List D → Option D
  | [.str b] => if b.isEmpty = false ∧ s.length ≤ lim then some (.tup [.str (parL s b).1, .str (parL s b).2.1, .str (parL s b).2.2]) else none
  | _ => none
@[simp] def mtD (m : Mt) (s : List Nat) (ds : List D) : Option D := match m with
  | .count => cntD s ds
  | .join => joinD s ds
  | .split => splD s ds
  | .partition => parD s ds
  | _ => none

inductive T where
  | v (i : Nat) | tup (ts : List T)
inductive Ik where | plain | rng | enm | zip | itm | vls
def ddI : List Int → List Int
  | [] => []
  | a :: l => if a ∈ l then ddI l else a :: ddI l
theorem ddI_mem : ∀ (l : List Int) (k : Int), k ∈ ddI l ↔ k ∈ l
  | [], k => Iff.rfl
  | a :: l, k => by
    rw [ddI]
    split
    · rename_i h
      rw [ddI_mem l, List.mem_cons]
      constructor
      · exact .inr
      · rintro (rfl | h2)
        · exact h
        · exact h2
    · rw [List.mem_cons, List.mem_cons, ddI_mem l]
theorem ddI_nodup : ∀ l : List Int, (ddI l).Nodup
  | [] => List.nodup_nil
  | a :: l => by
    rw [ddI]
    split
    · exact ddI_nodup l
    · rename_i h
      exact List.nodup_cons.mpr ⟨fun m => h ((ddI_mem l a).mp m), ddI_nodup l⟩
theorem perm_ddI {l m : List Int} (nd : m.Nodup) (h : ∀ k, k ∈ m ↔ k ∈ l) : m.Perm (ddI l) := (List.perm_ext_iff_of_nodup nd (ddI_nodup l)).mpr fun k => (h k).trans (ddI_mem l k).symm
inductive Ty where | tint | tbool | tstr | ttuple | tlist | tval | cls (c : Nat)
inductive E where
  | var (i : Nat) | non | bl (b : Bool) | int (i : Int) | str (s : List Nat) | glb (g : Nat)
  | bin (o : Op) (a b : E) | neg (a : E)
  | cmp (o : Co) (a b : E) | ch2 (a : E) (o : Co) (b : E) (p : Co) (c : E) | ch3 (a : E) (o : Co) (b : E) (p : Co) (c : E) (q : Co) (d : E) | ch4 (a : E) (o : Co) (b : E) (p : Co) (c : E) (q : Co) (d : E) (r : Co) (e : E)
  | isn (a : E) | nsn (a : E)
  | and (a b : E) | or (a b : E) | not (a : E) | ite (c a b : E) | itt (c a b : E)
  | tup (es : List E) | lst (es : List E) | lstS (k : Nat) (es : List E)
  | att (a : E) (f : Str) | sub (a b : E) | nop | slc (a lo hi : E) | rev (a : E)
  | call (f : Nat) (es : List E) | cbr (f : Nat) (es : List E) | bi (b : Bi) (es : List E) | mth (m : Mt) (a : E) (es : List E) | bits (a : E) | sst (b : Bool) (a : E)
  | prp (f : Nat) (a : E) | umt (f : Nat) (a : E) (es : List E) | new (c : Nat) (es : List E)
  | isi (a : E) (t : Ty)
  | lc (elt : E) (t : T) (k : Ik) (its : List E) (c : E) (own : List Nat)
  | dct (t : Bool) (es : List E) | get2 (a k x : E) | get1 (a k : E) | emq (a : E) | rpr (a : E) | srt (b : Bool) (a : E) | lrg (a : E) | dc (t : Bool) (ke ve : E) (tg : T) (k : Ik) (its : List E) (c : E) (own : List Nat)
inductive S where
  | asg (t : T) (e : E) | par (is : List Nat) (es : List E) | parT (is : List Nat) (es : List E) | parU (t : T) (is : List Nat) (es : List E)
  | aug (i : Nat) (o : Op) (e : E) | app (i : Nat) (e : E) | ext (i : Nat) (e : E) | set (i : Nat) (k e : E) | fld (i : Nat) (f : Str) (e : E)
  | exp (e : E) | ife (c : E) (a b : List S) | for_ (t : T) (k : Ik) (its : List E) (b : List S) | whl (c : E) (b : List S)
  | ret (e : E) | rtn | brk | cnt | pas | rse (c : Nat) | tya (i j : Nat) (b : List S) | nev
end PyV
set_option Elab.async false
set_option linter.all false
set_option maxRecDepth 100000
set_option maxHeartbeats 2000000
namespace PyV
open PySem

structure Tab where
  G : Nat → Fn
  io : Nat → Option Nat
  gl : Nat → D
  ini : Nat → Nat
  eqf : Nat → Option Nat
  mem : Nat → Nat → Bool
  nm : Nat → Str

@[simp] def mkv (d : D) (fr : Bool) : Rv := if fr = true then .own d else .val d
@[simp] def nxio : Option Nat → Option Nat
  | some (k + 1) => some k
  | _ => none
@[simp] def fzx : Option Nat → Ss → List Rv → Option (List D × Ss)
  | _, s, [] => some ([], s)
  | some 0, s, _ :: rs => match fzx none s rs with
    | none => none
    | some (ds, s2) => some (.non :: ds, s2)
  | none, s, r :: rs => match fz s r with
    | none => none
    | some (d, s1) => match fzx none s1 rs with
      | none => none
      | some (ds, s2) => some (d :: ds, s2)
  | some (k + 1), s, r :: rs => match fz s r with
    | none => none
    | some (d, s1) => match fzx (some k) s1 rs with
      | none => none
      | some (ds, s2) => some (d :: ds, s2)
@[simp] def lendD (T : Tab) (f j : Nat) (ds : List D) (r : Option Rv) (s1 : Ss) : R Rv := match r with
  | some (.ali i) => match sl? s1 i with
    | .own d => match T.G f (ds.set j d) with
      | .ok r fr (some d') => .ok (mkv r fr) (s1.set i (.own d'))
      | .ex x (some d') => .ex x (s1.set i (.own d'))
      | _ => .bad
    | _ => .bad
  | some (.own d) => match T.G f (ds.set j d) with
    | .ok r fr (some _) => .ok (mkv r fr) s1
    | .ex x (some _) => .ex x s1
    | _ => .bad
  | _ => .bad
@[simp] def gdP (p : Option Nat) (i : Nat) : Prop := (p = some i ∧ i ≠ 1000) ∨ (p = some 1000 ∧ i < 2)
instance gdPDec (p : Option Nat) (i : Nat) : Decidable (gdP p i) := by unfold gdP; exact inferInstance
@[simp] def lend2 (T : Tab) (f : Nat) : List Rv → Ss → R Rv
  | .ali i :: .ali j :: rs, s => (match fzx none s rs with
    | none => .bad
    | some (ds, s1) => match sl? s1 i, sl? s1 j with
      | .own d, .own e => if i = j then .bad else (match T.G f (d :: e :: ds) with
        | .ok r fr (some (.tup [d', e'])) => .ok (mkv r fr) ((s1.set i (.own d')).set j (.own e'))
        | .ex x (some (.tup [d', e'])) => .ex x ((s1.set i (.own d')).set j (.own e'))
        | _ => .bad)
      | _, _ => .bad)
  | _, _ => .bad
@[simp] def callD (T : Tab) (f : Nat) (rs : List Rv) (s : Ss) : R Rv :=
  if T.io f = some 1000 then lend2 T f rs s else
  match fzx (T.io f) s rs with
  | none => .bad
  | some (ds, s1) => match T.io f with
    | none => match T.G f ds with
      | .ok d fr none => .ok (mkv d fr) s1
      | .ex x none => .ex x s1
      | _ => .bad
    | some j => lendD T f j ds rs[j]? s1
@[simp] def scalD : D → Bool
  | .non => true
  | .bl _ => true
  | .int _ => true
  | .str _ => true
  | _ => false
@[simp] def cbrD (T : Tab) (f : Nat) (rs : List Rv) (s : Ss) : R Rv := match T.io f with
  | some _ => .bad
  | none => match rds s rs with
    | none => .bad
    | some ds => match T.G f ds with
      | .ok d _ none => if scalD d = true then .ok (.val d) s else .bad
      | _ => .bad
@[simp] def newD (T : Tab) (c : Nat) (rs : List Rv) (s : Ss) : R Rv :=
  match fzs s rs with
  | none => .bad
  | some (ds, s1) => match T.G (T.ini c) (.obj c [] [] :: ds) with
    | .ok .non _ (some d') => .ok (.own d') s1
    | .ex x (some _) => .ex x s1
    | _ => .bad

@[simp] def isiD : D → Ty → Option Bool
  | .non, _ => some false
  | .bl _, .tint => some true
  | .bl _, .tbool => some true
  | .bl _, _ => some false
  | .int _, .tint => some true
  | .int _, _ => some false
  | .str _, .tstr => some true
  | .str _, _ => some false
  | .lst _, .tlist => some true
  | .lst _, _ => some false
  | .tup _, .ttuple => some true
  | .tup _, _ => some false
  | .obj c _ _, .cls k => some (c == k)
  | .obj _ _ _, _ => some false
  | .dct _ _ _, _ => some false
  | .exc c _ _, .cls k => some (c == k || k == 4)
  | .exc _ _ _, .tval => some true
  | .exc _ _ _, _ => some false
  | _, _ => none

@[simp] def stS (p : Option Nat) (i : Nat) (x : Sl) (s : Ss) : Option Ss := if gdP p i ∨ s.length ≤ i then none else some (s.set i x)
mutual
def asgT (p : Option Nat) : T → D → Ss → Option Ss
  | .v i, d, s => stS p i (.val d) s
  | .tup ts, .tup ds, s => asgTs p ts ds s
  | .tup ts, .lst ds, s => asgTs p ts ds s
  | _, _, _ => none
def asgTs (p : Option Nat) : List T → List D → Ss → Option Ss
  | [], [], s => some s
  | t :: ts, d :: ds, s => match asgT p t d s with
    | none => none
    | some s1 => asgTs p ts ds s1
  | _, _, _ => none
end
@[simp] def irange (lo : Int) (n : Nat) (c : Int) : List D := (List.range n).map fun (k : Nat) => .int (lo + (k : Int) * c)
def big62 (i : Int) : Bool := decide (-(2 ^ 62) ≤ i) && decide (i < 2 ^ 62)
@[simp] def enumD : Nat → List D → List D
  | _, [] => []
  | k, d :: ds => .tup [.int (k : Int), d] :: enumD (k + 1) ds
@[simp] def zipD : List D → List D → List D
  | d :: ds, e :: es => .tup [d, e] :: zipD ds es
  | _, _ => []
@[simp] def itemsD : Ik → List D → Option (List D)
  | .plain, [.lst ds] => some ds
  | .plain, [.tup ds] => some ds
  | .plain, [.str s] => some (s.map fun c => .str [c])
  | .rng, [.int j] => if big62 j = true then some (irange 0 j.toNat 1) else none
  | .rng, [.int i, .int j] => if big62 i = true ∧ big62 j = true then some (irange i (j - i).toNat 1) else none
  | .rng, [.int i, .int j, .int (.negSucc 0)] => if big62 i = true ∧ big62 j = true then some (irange i (i - j).toNat (-1)) else none
  | .enm, [.lst ds] => some (enumD 0 ds)
  | .enm, [.str s] => some (enumD 0 (s.map fun c => .str [c]))
  | .enm, [.tup ds] => some (enumD 0 ds)
  | .zip, [.lst a, .lst b] => some (zipD a b)
  | .plain, [.dct _ ks _] => some ks
  | .itm, [.dct _ ks vs] => some (zipD ks vs)
  | .vls, [.dct _ _ vs] => some vs
  | _, _ => none
def wipeS : List Nat → Ss → Ss
  | [], s => s
  | v :: vs, s => (wipeS vs s).set v .emp
def restS (s : Ss) : List Nat → Ss → Ss
  | [], s' => s'
  | v :: vs, s' => (restS s vs s').set v (sl? s v)
def noOwn (p : Option Nat) (own : List Nat) (s : Ss) : Bool := own.all fun i => decide (¬ gdP p i) && match sl? s i with
  | .own _ => false
  | _ => true
def lcL (st : D → Ss → Option Ss) (cond : Ss → R Bool) (elt : Ss → R Rv) (wp : Ss → Ss) : List D → List D → Ss → R (List D)
  | [], acc, s => .ok acc s
  | d :: ds, acc, s => match st d s with
    | none => .bad
    | some s1 => match cond s1 with
      | .ok true s2 => match elt s2 with
        | .ok r s3 => match fz s3 r with
          | none => .bad
          | some (z, s4) => if acc.length < lim then lcL st cond elt wp ds (acc ++ [z]) (wp s4) else .bad
        | _ => .bad
      | .ok false s2 => lcL st cond elt wp ds acc (wp s2)
      | _ => .bad

def dcL (t : Bool) (st : D → Ss → Option Ss) (cond : Ss → R Bool) (ke ve : Ss → R Rv) (wp : Ss → Ss) : List D → List D → List D → Ss → R (List D × List D)
  | [], ks, vs, s => .ok (ks, vs) s
  | d :: ds, ks, vs, s => match st d s with
    | none => .bad
    | some s1 => match cond s1 with
      | .ok true s2 => match ke s2 with
        | .ok (.val k) s3 => match ve s3 with
          | .ok r s4 => match fz s4 r with
            | none => .bad
            | some (z, s5) => if okK t k = true ∧ ks.length < lim then dcL t st cond ke ve wp ds (dputK ks k) (dputV ks vs k z) (wp s5) else .bad
          | _ => .bad
        | _ => .bad
      | .ok false s2 => dcL t st cond ke ve wp ds ks vs (wp s2)
      | _ => .bad

@[simp] def fgetD (f : Str) : List Str → List D → Option D
  | n :: ns, d :: ds => if n = f then some d else fgetD f ns ds
  | _, _ => none
def objQ (T : Tab) (d e : D) : Option Bool := match d, e with
  | .obj c ns vs, .obj c2 ms ws => if c = c2 then (match T.eqf c with
    | some f => (match T.io f, T.G f [.obj c ns vs, .obj c2 ms ws] with
      | none, .ok (.bl k) false none => some k
      | _, _ => none)
    | none => none) else none
  | _, _ => none
@[simp] def eqO (T : Tab) (o : Co) (x y : Rv) (s : Ss) : R Rv := match o with
  | .eq => match fz s x with
    | some (d, s1) => match fz s1 y with
      | some (e, s2) => match objQ T d e with
        | some k => .ok (.val (.bl k)) s2
        | none => .bad
      | none => .bad
    | none => .bad
  | .inn => match rd s x, rd s y with
    | some d, some (.dct t ks vs) => if okK t d = true then .ok (.val (.bl (dget ks vs d).isSome)) s else .bad
    | _, _ => .bad
  | .nin => match rd s x, rd s y with
    | some d, some (.dct t ks vs) => if okK t d = true then .ok (.val (.bl (!(dget ks vs d).isSome))) s else .bad
    | _, _ => .bad
  | _ => .bad
mutual
def evE (T : Tab) (p : Option Nat) : E → Ss → R Rv
  | .var i, s => match sl? s i with
    | .emp => .bad
    | .val d => .ok (.val d) s
    | .own _ => .ok (.ali i) s
  | .non, s => .ok (.val .non) s
  | .bl b, s => .ok (.val (.bl b)) s
  | .int i, s => .ok (.val (.int i)) s
  | .str x, s => .ok (.val (.str x)) s
  | .glb g, s => .ok (.val (T.gl g)) s
  | .bin o a b, s => (evE T p a s).bind fun x s1 => (evE T p b s1).bind fun y s2 =>
    match rd s2 x, rd s2 y with
    | some d, some e => (match binD o d e with
      | some z => .ok (out z) s2
      | none => .bad)
    | _, _ => .bad
  | .neg a, s => (evE T p a s).bind fun x s1 => match x with
    | .val (.int i) => .ok (.val (.int (-i))) s1
    | _ => .bad
  | .cmp o a b, s => (evE T p a s).bind fun x s1 => (evE T p b s1).bind fun y s2 =>
    match rd s2 x, rd s2 y with
    | some d, some e => (match cmpD o d e with
      | some z => .ok (.val (.bl z)) s2
      | none => eqO T o x y s2)
    | _, _ => .bad
  | .att a f, s => (evE T p a s).bind fun x s1 => match rd s1 x with
    | some (.obj _ ns vs) => (match fgetD f ns vs with
      | some z => .ok (.val z) s1
      | none => .bad)
    | _ => .bad
  | .ch2 a o b q c, s => (evE T p a s).bind fun x s1 => (evE T p b s1).bind fun y s2 =>
    match x, y with
    | .val d, .val e => (match cmpD o d e with
      | some true => (evE T p c s2).bind fun z s3 => match z with
        | .val g => (match cmpD q e g with
          | some k => .ok (.val (.bl k)) s3
          | none => .bad)
        | _ => .bad
      | some false => .ok (.val (.bl false)) s2
      | none => .bad)
    | _, _ => .bad
  | .ch3 a o b q c r d', s => (evE T p a s).bind fun x s1 => (evE T p b s1).bind fun y s2 =>
    match x, y with
    | .val d, .val e => (match cmpD o d e with
      | some true => (evE T p c s2).bind fun z s3 => match z with
        | .val g => (match cmpD q e g with
          | some true => (evE T p d' s3).bind fun w s4 => match w with
            | .val h => (match cmpD r g h with
              | some k => .ok (.val (.bl k)) s4
              | none => .bad)
            | _ => .bad
          | some false => .ok (.val (.bl false)) s3
          | none => .bad)
        | _ => .bad
      | some false => .ok (.val (.bl false)) s2
      | none => .bad)
    | _, _ => .bad
  | .ch4 a o b q c r d' t f', s => (evE T p a s).bind fun x s1 => (evE T p b s1).bind fun y s2 =>
    match x, y with
    | .val d, .val e => (match cmpD o d e with
      | some true => (evE T p c s2).bind fun z s3 => match z with
        | .val g => (match cmpD q e g with
          | some true => (evE T p d' s3).bind fun w s4 => match w with
            | .val h => (match cmpD r g h with
              | some true => (evE T p f' s4).bind fun u s5 => match u with
                | .val i => (match cmpD t h i with
                  | some k => .ok (.val (.bl k)) s5
                  | none => .bad)
                | _ => .bad
              | some false => .ok (.val (.bl false)) s4
              | none => .bad)
            | _ => .bad
          | some false => .ok (.val (.bl false)) s3
          | none => .bad)
        | _ => .bad
      | some false => .ok (.val (.bl false)) s2
      | none => .bad)
    | _, _ => .bad
  | .isn a, s => (evE T p a s).bind fun x s1 => match rd s1 x with
    | some .non => .ok (.val (.bl true)) s1
    | some _ => .ok (.val (.bl false)) s1
    | none => .bad
  | .nsn a, s => (evE T p a s).bind fun x s1 => match rd s1 x with
    | some .non => .ok (.val (.bl false)) s1
    | some _ => .ok (.val (.bl true)) s1
    | none => .bad
  | .and a b, s => (evE T p a s).bind fun x s1 => match x with
    | .val (.bl true) => (evE T p b s1).bind fun y s2 => (match y with
      | .val (.bl k) => .ok (.val (.bl k)) s2
      | _ => .bad)
    | .val (.bl false) => .ok (.val (.bl false)) s1
    | _ => .bad
  | .or a b, s => (evE T p a s).bind fun x s1 => match x with
    | .val (.bl false) => (evE T p b s1).bind fun y s2 => (match y with
      | .val (.bl k) => .ok (.val (.bl k)) s2
      | _ => .bad)
    | .val (.bl true) => .ok (.val (.bl true)) s1
    | _ => .bad
  | .not a, s => (evE T p a s).bind fun x s1 => match x with
    | .val (.bl k) => .ok (.val (.bl (!k))) s1
    | _ => .bad
  | .ite c a b, s => (evE T p c s).bind fun x s1 => match x with
    | .val (.bl true) => evE T p a s1
    | .val (.bl false) => evE T p b s1
    | _ => .bad
  | .itt c a b, s => (evE T p c s).bind fun x s1 => match x with
    | .val (.int i) => if i = 0 then evE T p b s1 else evE T p a s1
    | _ => .bad
  | .tup es, s => (evEs T p es s).bind fun rs s1 => match fzs s1 rs with
    | some (ds, s2) => if ds.length ≤ lim then .ok (.val (.tup ds)) s2 else .bad
    | none => .bad
  | .lst es, s => (evEs T p es s).bind fun rs s1 => match fzs s1 rs with
    | some (ds, s2) => if ds.length ≤ lim then .ok (.own (.lst ds)) s2 else .bad
    | none => .bad
  | .lstS k es, s => (evXs T p k es s).bind fun rs s1 => match fzs s1 rs with
    | some (ds, s2) => if ds.length ≤ lim then .ok (.own (.lst ds)) s2 else .bad
    | none => .bad
  | .sub a b, s => (evE T p a s).bind fun x s1 => (evE T p b s1).bind fun y s2 =>
    match rd s2 x, rd s2 y with
    | some d, some e => (match subD d e with
      | some z => .ok (.val z) s2
      | none => .bad)
    | _, _ => .bad
  | .nop, _ => .bad
  | .slc a lo hi, s => (evE T p a s).bind fun x s1 =>
    (match lo with
     | .nop => R.ok none s1
     | lo => (evE T p lo s1).bind fun y s2 => match y with
       | .val (.int i) => .ok (some i) s2
       | _ => .bad).bind fun l s2 =>
    (match hi with
     | .nop => R.ok none s2
     | hi => (evE T p hi s2).bind fun y s3 => match y with
       | .val (.int i) => .ok (some i) s3
       | _ => .bad).bind fun h s3 =>
    match rd s3 x with
    | some d => (match slcD d l h with
      | some z => .ok (out z) s3
      | none => .bad)
    | none => .bad
  | .rev a, s => (evE T p a s).bind fun x s1 => match rd s1 x with
    | some d => (match revD d with
      | some z => .ok (out z) s1
      | none => .bad)
    | none => .bad
  | .call f es, s => (evEs T p es s).bind fun rs s1 => callD T f rs s1
  | .cbr f es, s => (evEs T p es s).bind fun rs s1 => cbrD T f rs s1
  | .bi b es, s => (evEs T p es s).bind fun rs s1 => match rds s1 rs with
    | some ds => (match biD b ds with
      | some z => .ok (out z) s1
      | none => .bad)
    | none => .bad
  | .mth m a es, s => (evE T p a s).bind fun x s1 => match x with
    | .val (.str t) => (evEs T p es s1).bind fun rs s2 => (match rds s2 rs with
      | some ds => (match mtD m t ds with
        | some z => .ok (out z) s2
        | none => .bad)
      | none => .bad)
    | _ => .bad
  | .bits a, s => (evE T p a s).bind fun x s1 => match x with
    | .val (.int i) => .ok (.val (.int (Builtin.Int.intBits i : Nat))) s1
    | _ => .bad
  | .sst b a, s => (evE T p a s).bind fun x s1 => match rd s1 x with
    | some (.lst ds) => (match allI ds with
      | some ns => if ns.length ≤ 4000 then .ok (if b = true then .own (.lst ((sortI (ddI ns)).map .int)) else .val (.int (ddI ns).length)) s1 else .bad
      | none => .bad)
    | _ => .bad
  | .prp f a, s => (evE T p a s).bind fun x s1 => match rd s1 x with
    | some (.obj c _ _) => if T.mem f c = true then (match callD T f [x] s1 with
      | .ok z s2 => .ok z s2
      | _ => .bad) else .bad
    | _ => .bad
  | .umt f a es, s => (evE T p a s).bind fun x s1 => match rd s1 x with
    | some (.obj c ns _) => if T.mem f c = true ∧ ns.contains (T.nm f) = false then (evEs T p es s1).bind fun rs s2 => callD T f (x :: rs) s2 else .bad
    | _ => .bad
  | .new c es, s => (evEs T p es s).bind fun rs s1 => newD T c rs s1
  | .isi a t, s => (evE T p a s).bind fun x s1 => match rd s1 x with
    | some d => (match isiD d t with
      | some k => .ok (.val (.bl k)) s1
      | none => .bad)
    | none => .bad
  | .lc elt t k its c own, s => (evEs T p its s).bind fun rs s1 => match fzs s1 rs with
    | none => .bad
    | some (ds, s2) => match itemsD k ds with
      | none => .bad
      | some xs => if noOwn p own s2 = true then
          match lcL (asgT p t) (match c with
              | .nop => fun s => .ok true s
              | c => fun s => (evE T p c s).bind fun y s' => match y with
                | .val (.bl b) => .ok b s'
                | _ => .bad) (evE T p elt) (wipeS own) xs [] (wipeS own s2) with
          | .ok acc s3 => .ok (.own (.lst acc)) (restS s2 own s3)
          | _ => .bad
        else .bad
  | .dct t es, s => (evEs T p es s).bind fun rs s1 => match fzs s1 rs with
    | some (ds, s2) => (match dpairs t [] [] ds with
      | some (ks, vs) => if ds.length ≤ 30 then .ok (.own (.dct t ks vs)) s2 else .bad
      | none => .bad)
    | none => .bad
  | .get2 a k x, s => (evE T p a s).bind fun r s1 => match rd s1 r with
    | some (.dct _ _ _) => (evE T p k s1).bind fun rk s2 => (evE T p x s2).bind fun rx s3 =>
      (match rd s3 r, rk, rx with
      | some (.dct t ks vs), .val kd, .val xd => if okK t kd = true then .ok (.val ((dget ks vs kd).getD xd)) s3 else .bad
      | _, _, _ => .bad)
    | _ => .bad
  | .get1 a k, s => (evE T p a s).bind fun r s1 => match rd s1 r with
    | some (.dct _ _ _) => (evE T p k s1).bind fun rk s2 =>
      (match rd s2 r, rk with
      | some (.dct t ks vs), .val kd => if okK t kd = true then .ok (.val ((dget ks vs kd).getD .non)) s2 else .bad
      | _, _ => .bad)
    | _ => .bad
  | .emq a, s => (evE T p a s).bind fun r s1 => match rd s1 r with
    | some (.dct _ ks _) => .ok (.val (.bl ks.isEmpty)) s1
    | _ => .bad
  | .rpr a, s => (evE T p a s).bind fun x s1 => match rd s1 x with
    | some d => if okR 8 d = true ∧ szD d ≤ lim then .ok (.val (.str (reprR d))) s1 else .bad
    | none => .bad
  | .lrg a, s => (evE T p a s).bind fun x s1 => match x with
    | .val (.int j) => if big62 j = true ∧ j ≤ 16777216 then .ok (.own (.lst (irange 0 j.toNat 1))) s1 else .bad
    | _ => .bad
  | .srt b a, s => (evE T p a s).bind fun r s1 => match rd s1 r with
    | some (.dct false ks vs) => (match allP (zipD ks vs) with
      | some ps => if ps.length ≤ 4000 then .ok (.own (.lst ((if b = true then (sortP ps).reverse else sortP ps).map pairI))) s1 else .bad
      | none => .bad)
    | _ => .bad
  | .dc t ke ve tg k its c own, s => (evEs T p its s).bind fun rs s1 => match fzs s1 rs with
    | none => .bad
    | some (ds, s2) => match itemsD k ds with
      | none => .bad
      | some xs => if noOwn p own s2 = true then
          match dcL t (asgT p tg) (match c with
              | .nop => fun s => .ok true s
              | c => fun s => (evE T p c s).bind fun y s' => match y with
                | .val (.bl b) => .ok b s'
                | _ => .bad) (evE T p ke) (evE T p ve) (wipeS own) xs [] [] (wipeS own s2) with
          | .ok (ks, vs) s3 => .ok (.own (.dct t ks vs)) (restS s2 own s3)
          | _ => .bad
        else .bad
def evEs (T : Tab) (p : Option Nat) : List E → Ss → R (List Rv)
  | [], s => .ok [] s
  | e :: es, s => (evE T p e s).bind fun x s1 => (evEs T p es s1).bind fun rs s2 => .ok (x :: rs) s2
/-- *a, .., b, ..: so many with a star ahead -/
def evXs (T : Tab) (p : Option Nat) : Nat → List E → Ss → R (List Rv)
  | _, [], s => .ok [] s
  | 0, e :: es, s => (evE T p e s).bind fun x s1 => (evXs T p 0 es s1).bind fun rs s2 => .ok (x :: rs) s2
  | k + 1, a :: es, s => (evE T p a s).bind fun x s1 => match rd s1 x with
    | some (.lst ds) => (evXs T p k es s1).bind fun rs s2 => .ok (ds.map .val ++ rs) s2
    | _ => .bad
end

@[simp] def retD (p : Option Nat) (r : Rv) (s : Ss) : Option (D × Bool × Ss) := match r with
  | .val d => some (d, false, s)
  | .own d => some (d, true, s)
  | .ali i => match sl? s i with
    | .own d => if gdP p i then none else some (d, true, s.set i .emp)
    | .val d => some (d, false, s)
    | .emp => none
@[simp] def slR (s : Ss) : Rv → Option (Sl × Ss)
  | .own d => some (.own d, s)
  | .val d => some (.val d, s)
  | .ali i => match fz s (.ali i) with
    | some (d, s1) => some (.val d, s1)
    | none => none
@[simp] def slRs : Ss → List Rv → Option (List Sl × Ss)
  | s, [] => some ([], s)
  | s, r :: rs => match slR s r with
    | none => none
    | some (x, s1) => match slRs s1 rs with
      | none => none
      | some (xs, s2) => some (x :: xs, s2)
@[simp] def putR (p : Option Nat) (i : Nat) (r : Rv) (s : Ss) : Option Ss := match slR s r with
  | some (x, s1) => stS p i x s1
  | none => none
@[simp] def stSs (p : Option Nat) : List Nat → List Sl → Ss → Option Ss
  | [], [], s => some s
  | i :: is, x :: xs, s => match stS p i x s with
    | none => none
    | some s1 => stSs p is xs s1
  | _, _, _ => none
@[simp] def putRs (p : Option Nat) (is : List Nat) (rs : List Rv) (s : Ss) : Option Ss := match slRs s rs with
  | some (xs, s1) => stSs p is xs s1
  | none => none
@[simp] def augD : Op → D → D → Option D
  | .add, .int i, .int j => some (.int (i + j))
  | .add, .str a, .str b => if a.length + b.length ≤ lim then some (.str (a ++ b)) else none
  | .sub, .int i, .int j => some (.int (i - j))
  | .bor, .int i, .int j => some (.int (Builtin.bitOr i j))
  | _, _, _ => none
def forL (st : D → Ss → Option Ss) (body : Ss → R Fl) : List D → Ss → R Fl
  | [], s => .ok .nx s
  | d :: ds, s => match st d s with
    | none => .bad
    | some s1 => match body s1 with
      | .ok .nx s2 => forL st body ds s2
      | .ok .ct s2 => forL st body ds s2
      | .ok .bk s2 => .ok .nx s2
      | r => r
def whlN (cond : Ss → R Bool) (body : Ss → R Fl) : Nat → Ss → R Fl
  | 0, _ => .bad
  | n + 1, s => match cond s with
    | .ok true s1 => (match body s1 with
      | .ok .nx s2 => whlN cond body n s2
      | .ok .ct s2 => whlN cond body n s2
      | .ok .bk s2 => .ok .nx s2
      | r => r)
    | .ok false s1 => .ok .nx s1
    | .ex x s1 => .ex x s1
    | .bad => .bad
@[simp] def tstR (r : R Rv) : R Bool := r.bind fun y s' => match y with
  | .val (.bl b) => .ok b s'
  | _ => .bad
@[simp] def nxO (o : Option Ss) : R Fl := match o with
  | some s => .ok .nx s
  | none => .bad
@[simp] def fputD (f : Str) (v : D) : List Str → List D → List Str × List D
  | n :: ns, d :: ds => if n = f then (n :: ns, v :: ds) else (n :: (fputD f v ns ds).1, d :: (fputD f v ns ds).2)
  | _, _ => ([f], [v])

mutual
def evS (T : Tab) (p : Option Nat) (n : Nat) : S → Ss → R Fl
  | .asg (.v i) e, s => (evE T p e s).bind fun x s1 => nxO (putR p i x s1)
  | .asg t e, s => (evE T p e s).bind fun x s1 => match fz s1 x with
    | some (d, s2) => nxO (asgT p t d s2)
    | none => .bad
  | .par is es, s => (evEs T p es s).bind fun rs s1 => nxO (putRs p is rs s1)
  | .parT is es, s => (evEs T p es s).bind fun rs s1 => if is.length ≤ lim then nxO (putRs p is rs s1) else .bad
  | .parU t is es, s => (evEs T p es s).bind fun rs s1 => match rs with
    | r :: rs => (match fz s1 r with
      | some (d, s2) => (match slRs s2 rs with
        | some (xs, s3) => (match asgT p t d s3 with
          | some s4 => if is.length < lim then nxO (stSs p is xs s4) else .bad
          | none => .bad)
        | none => .bad)
      | none => .bad)
    | [] => .bad
  | .aug i o e, s => match sl? s i with
    | .val d => (evE T p e s).bind fun y s1 => (match y with
      | .val d' => (match augD o d d' with
        | some z => nxO (stS p i (.val z) s1)
        | none => .bad)
      | _ => .bad)
    | _ => .bad
  | .app i e, s => match sl? s i with
    | .own (.lst _) => (evE T p e s).bind fun y s1 => (match fz s1 y with
      | some (d, s2) => (match sl? s2 i with
        | .own (.lst ds) => if ds.length < lim then .ok .nx (s2.set i (.own (.lst (ds ++ [d])))) else .bad
        | _ => .bad)
      | none => .bad)
    | _ => .bad
  | .ext i e, s => match sl? s i with
    | .own (.lst _) => (evE T p e s).bind fun y s1 => (match y with
      | .own (.lst es) => (match sl? s1 i with
        | .own (.lst ds) => if ds.length + es.length ≤ lim then .ok .nx (s1.set i (.own (.lst (ds ++ es)))) else .bad
        | _ => .bad)
      | _ => .bad)
    | _ => .bad
  | .set i k e, s => (evE T p e s).bind fun y s1 => match fz s1 y with
    | some (d, s2) => (match sl? s2 i with
      | .own (.lst _) => (evE T p k s2).bind fun z s3 => (match z, sl? s3 i with
        | .val (.int j), .own (.lst ds) => (match placeD ds.length j with
          | some m => .ok .nx (s3.set i (.own (.lst (ds.set m d))))
          | none => .bad)
        | _, _ => .bad)
      | .own (.dct _ _ _) => (evE T p k s2).bind fun z s3 => (match z, sl? s3 i with
        | .val kd, .own (.dct t ks vs) => if okK t kd = true ∧ ks.length < lim then .ok .nx (s3.set i (.own (.dct t (dputK ks kd) (dputV ks vs kd d)))) else .bad
        | _, _ => .bad)
      | _ => .bad)
    | none => .bad
  | .fld i f e, s => (evE T p e s).bind fun y s1 => match fz s1 y with
    | some (d, s2) => (match sl? s2 i with
      | .own (.obj c ns vs) => if ns.length < 900 then .ok .nx (s2.set i (.own (.obj c (fputD f d ns vs).1 (fputD f d ns vs).2))) else .bad
      | _ => .bad)
    | none => .bad
  | .exp e, s => (evE T p e s).bind fun _ s1 => .ok .nx s1
  | .ife c a b, s => (tstR (evE T p c s)).bind fun k s1 => if k = true then evB T p n a s1 else evB T p n b s1
  | .for_ t k its b, s => (evEs T p its s).bind fun rs s1 => match fzs s1 rs with
    | none => .bad
    | some (ds, s2) => match itemsD k ds with
      | none => .bad
      | some xs => forL (asgT p t) (evB T p n b) xs s2
  | .whl c b, s => whlN (fun s => tstR (evE T p c s)) (evB T p n b) n s
  | .ret e, s => (evE T p e s).bind fun x s1 => match retD p x s1 with
    | some (d, fr, s2) => .ok (.rt d fr) s2
    | none => .bad
  | .rtn, s => .ok (.rt .non false) s
  | .brk, s => .ok .bk s
  | .cnt, s => .ok .ct s
  | .pas, s => .ok .nx s
  | .rse c, s => .ex ⟨c, [], []⟩ s
  | .tya i j b, s => match evB T p n b s with
    | .ex x s1 => (match stS p j (.val (.exc x.c [] [])) s1 with
      | none => .bad
      | some s2 => match stS p i .emp s2 with
        | none => .bad
        | some s3 => .ok .nx s3)
    | r => r
  | .nev, _ => .bad
def evB (T : Tab) (p : Option Nat) (n : Nat) : List S → Ss → R Fl
  | [], s => .ok .nx s
  | st :: r, s => match evS T p n st s with
    | .ok .nx s1 => evB T p n r s1
    | x => x
end

structure Df where
  np : Nat
  ns : Nat
  body : List S
@[simp] def lent (p : Option Nat) (s : Ss) : Option (Option D) := match p with
  | none => some none
  | some j => if j = 1000 then (match sl? s 0, sl? s 1 with
    | .own d, .own e => some (some (.tup [d, e]))
    | _, _ => none) else match sl? s j with
    | .own d => some (some d)
    | _ => none
@[simp] def start0 : Option Nat → List D → Ss
  | _, [] => []
  | none, d :: ds => .val d :: start0 none ds
  | some 0, d :: ds => .own d :: start0 none ds
  | some (k + 1), d :: ds => .val d :: start0 (some k) ds
@[simp] def startP (p : Option Nat) (ds : List D) : Ss := if p = some 1000 then (match ds with
  | d :: e :: ds => .own d :: .own e :: start0 none ds
  | ds => start0 none ds) else start0 p ds
def runD (T : Tab) (p : Option Nat) (n : Nat) (f : Df) (args : List D) : FR :=
  if args.length = f.np then
    match evB T p n f.body (startP p args ++ List.replicate (f.ns - f.np) .emp) with
    | .ok .nx s => (match lent p s with
      | some o => .ok .non false o
      | none => .bad)
    | .ok (.rt d fr) s => (match lent p s with
      | some o => .ok d fr o
      | none => .bad)
    | .ex x s => (match lent p s with
      | some o => .ex x o
      | none => .bad)
    | _ => .bad
  else .bad
end PyV
set_option Elab.async false
set_option linter.all false
set_option maxRecDepth 100000
set_option maxHeartbeats 2000000
namespace PyV
open PySem L2

structure Kx where
  K : PySem.W.Frag
  cls : Nat → Addr
  n : Nat
  w : World
  x : Nat → Bool
def SqX (K : PySem.W.Frag) (h : Hp) (a : Addr) (xs : List V) : Prop := Rd h a (.lst xs) ∨
  ∃ (its : Array Value) (n : Nat), K.lookup a = some { cls := .type "list", data := .seq its n } ∧ its.size ≤ sizeLine ∧ Vals xs its.toList
theorem SqX.sq {K : PySem.W.Frag} {h : Hp} {a : Addr} {xs : List V} (q : SqX K h a xs) : SqL K h a xs := by
  rcases q with q | ⟨its, n, e, z, r⟩
  · exact .inl q
  · exact .inr ⟨_, its, n, e, rfl, rfl, rfl, z, r⟩
theorem SqX.mono {K : PySem.W.Frag} {h h' : Hp} {a : Addr} {xs : List V} (e : Same h h') (q : SqX K h a xs) : SqX K h' a xs := by
  rcases q with (q | ⟨o, q⟩) | q
  · exact .inl (.inl (e _ _ q))
  · exact .inl (.inr ⟨o, e _ _ q⟩)
  · exact .inr q
def ExZ (cls : Value) (d : Option Addr) (a : Addr) : HO := .ext fun hp => ∃ oe vs, hp.get? a = some oe ∧ oe.cls = cls ∧ oe.dict = d ∧ oe.data = .fields vs
def atO (a : Addr) (o : Obj) : HO := .ext fun hp => hp.get? a = some o
def entIs (w : World) (t : Bool) (x : D × V × V) (e : DictEntry) : Prop := ∃ k, nkD x.1 = some k ∧ okK t x.1 = true ∧ e.hash = k.hash w ∧ RelV x.2.1 e.key ∧ RelV x.2.2 e.val
structure DctO (w : World) (t : Bool) (o : Obj) (tr : List (D × V × V)) : Prop where
  ex : o.ExactDict
  dat : ∃ es ep, o.data = .dict es ep ∧ Paired (entIs w t) tr es.toList
  nd : (tr.map fun x => nkD x.1).Nodup
  sz : tr.length ≤ sizeLine
mutual
inductive Rep (κ : Kx) (h : Hp) : V → D → Prop where
  | non : Rep κ h .non .non
  | bl (b : Bool) : Rep κ h (.bl b) (.bl b)
  | int (i : Int) : Rep κ h (.int i) (.int i)
  | str (s : List Nat) (ok : ∀ c ∈ s, c < 1114112) : Rep κ h (.str ⟨s.toArray⟩) (.str s)
  | lst {a : Addr} {vs : List V} {ds : List D} : SqX κ.K h a vs → Reps κ h vs ds → Rep κ h (.ref a) (.lst ds)
  | tup {a : Addr} {vs : List V} {ds : List D} : SqT κ.K h a vs → Reps κ h vs ds → Rep κ h (.ref a) (.tup ds)
  | obj {a dx : Addr} {c : Nat} {ns : List Str} {vs : List V} {ds : List D} : c < κ.n → h a = some (.ins (κ.cls c) dx (ns.zip vs)) → ns.length = vs.length → Reps κ h vs ds → Rep κ h (.ref a) (.obj c ns ds)
  | dct {a : Addr} {o : Obj} {t : Bool} {tr : List (D × V × V)} {ks ds : List D} : h a = some (atO a o) → (a == sysModules) = false → DctO κ.w t o tr → ks = tr.map (·.1) → Reps κ h (tr.map (·.2.1)) ks → Reps κ h (tr.map (·.2.2)) ds → Rep κ h (.ref a) (.dct t ks ds)
  | exc {a : Addr} {d : Option Addr} {c : Nat} {ns : List Str} {vs : List V} {ds : List D} : h a = some (ExZ (.ref (κ.cls c)) d a) → κ.x c = true →
      ((d = none ∧ ns = []) ∨ ∃ dd, d = some dd ∧ h dd = some (.xd (ns.zip vs))) → ns.length = vs.length → Reps κ h vs ds → Rep κ h (.ref a) (.exc c ns ds)
  | gho {a : Addr} {o : HO} : h a = some o → Rep κ h (.ref a) (.gho o)
inductive Reps (κ : Kx) (h : Hp) : List V → List D → Prop where
  | nil : Reps κ h [] []
  | cons {v : V} {vs : List V} {d : D} {ds : List D} : Rep κ h v d → Reps κ h vs ds → Reps κ h (v :: vs) (d :: ds)
end
inductive Own (κ : Kx) (f h : Hp) (a : Addr) : D → Prop where
  | lst {vs : List V} {ds : List D} : h a = some (.lst vs) → Reps κ f vs ds → Own κ f h a (.lst ds)
  | obj {dx : Addr} {c : Nat} {ns : List Str} {vs : List V} {ds : List D} : c < κ.n → h a = some (.ins (κ.cls c) dx (ns.zip vs)) → ns.length = vs.length → Reps κ f vs ds → Own κ f h a (.obj c ns ds)
  | dct {o : Obj} {t : Bool} {tr : List (D × V × V)} {ks ds : List D} : h a = some (atO a o) → (a == sysModules) = false → DctO κ.w t o tr → ks = tr.map (·.1) → Reps κ f (tr.map (·.2.1)) ks → Reps κ f (tr.map (·.2.2)) ds → Own κ f h a (.dct t ks ds)

section
variable {κ : Kx} {f f' h h' : Hp}
theorem sqT_mono {K : PySem.W.Frag} {a : Addr} {xs : List V} (e : Same h h') (q : SqT K h a xs) : SqT K h' a xs := by
  rcases q with (q | ⟨o, q⟩) | q
  · exact .inl (.inl (e _ _ q))
  · exact .inl (.inr ⟨o, e _ _ q⟩)
  · exact .inr q
mutual
theorem Rep.mono (e : Same h h') : ∀ {v : V} {d : D}, Rep κ h v d → Rep κ h' v d
  | _, _, .non => .non
  | _, _, .bl b => .bl b
  | _, _, .int i => .int i
  | _, _, .str s ok => .str s ok
  | _, _, .lst q r => .lst (q.mono e) (Reps.mono e r)
  | _, _, .tup q r => .tup (sqT_mono e q) (Reps.mono e r)
  | _, _, .obj c q l r => .obj c (e _ _ q) l (Reps.mono e r)
  | _, _, .dct q n o k r1 r2 => .dct (e _ _ q) n o k (Reps.mono e r1) (Reps.mono e r2)
  | _, _, .exc q c dd l r => .exc (e _ _ q) c (dd.imp id fun ⟨d, h1, h2⟩ => ⟨d, h1, e _ _ h2⟩) l (Reps.mono e r)
  | _, _, .gho q => .gho (e _ _ q)
theorem Reps.mono (e : Same h h') : ∀ {vs : List V} {ds : List D}, Reps κ h vs ds → Reps κ h' vs ds
  | _, _, .nil => .nil
  | _, _, .cons r t => .cons (Rep.mono e r) (Reps.mono e t)
end
theorem Reps.length : ∀ {vs : List V} {ds : List D}, Reps κ h vs ds → vs.length = ds.length
  | _, _, .nil => rfl
  | _, _, .cons _ t => congrArg (· + 1) (Reps.length t)
theorem Reps.append : ∀ {vs ws : List V} {ds es : List D}, Reps κ h vs ds → Reps κ h ws es → Reps κ h (vs ++ ws) (ds ++ es)
  | _, _, _, _, .nil, s => s
  | _, _, _, _, .cons r t, s => .cons r (Reps.append t s)
theorem Reps.get : ∀ {vs : List V} {ds : List D} {i : Nat} {d : D}, Reps κ h vs ds → ds[i]? = some d → ∃ v, vs[i]? = some v ∧ Rep κ h v d
  | _, _, i, _, .nil, e => by simp at e
  | _, _, 0, _, .cons r _, e => by simp at e; subst e; exact ⟨_, rfl, r⟩
  | _, _, i + 1, _, .cons _ t, e => by
    obtain ⟨v, h1, h2⟩ := Reps.get (i := i) t (by simpa using e)
    exact ⟨v, by simpa using h1, h2⟩
theorem Reps.getV {vs : List V} {ds : List D} {i : Nat} {v : V} (r : Reps κ h vs ds) (e : vs[i]? = some v) : ∃ d, ds[i]? = some d ∧ Rep κ h v d := by
  obtain ⟨hi, _⟩ := List.getElem?_eq_some_iff.mp e
  have hl := r.length
  obtain ⟨v', h1, h2⟩ := r.get (i := i) (d := ds[i]'(by omega)) (by simp)
  rw [e] at h1
  cases h1
  exact ⟨_, by simp, h2⟩
theorem Reps.set {v : V} {d : D} (r : Rep κ h v d) : ∀ {vs : List V} {ds : List D} (i : Nat), Reps κ h vs ds → Reps κ h (vs.set i v) (ds.set i d)
  | _, _, _, .nil => .nil
  | _, _, 0, .cons _ t => .cons r t
  | _, _, i + 1, .cons q t => .cons q (Reps.set r i t)
theorem Reps.take : ∀ {vs : List V} {ds : List D} (n : Nat), Reps κ h vs ds → Reps κ h (vs.take n) (ds.take n)
  | _, _, 0, _ => .nil
  | _, _, _ + 1, .nil => .nil
  | _, _, n + 1, .cons r t => .cons r (Reps.take n t)
theorem Reps.drop : ∀ {vs : List V} {ds : List D} (n : Nat), Reps κ h vs ds → Reps κ h (vs.drop n) (ds.drop n)
  | _, _, 0, r => r
  | _, _, _ + 1, .nil => .nil
  | _, _, n + 1, .cons _ t => Reps.drop n t
theorem Reps.rep {vs : List V} {ds : List D} (r : Reps κ h vs ds) : ∀ k : Nat, Reps κ h (List.replicate k vs).flatten (List.replicate k ds).flatten
  | 0 => .nil
  | k + 1 => by
    rw [List.replicate_succ, List.replicate_succ, List.flatten_cons, List.flatten_cons]
    exact r.append (Reps.rep r k)
theorem Reps.snoc {vs : List V} {ds : List D} {v : V} {d : D} (r : Reps κ h vs ds) (q : Rep κ h v d) : Reps κ h (vs ++ [v]) (ds ++ [d]) := r.append (.cons q .nil)
theorem Reps.reverse : ∀ {vs : List V} {ds : List D}, Reps κ h vs ds → Reps κ h vs.reverse ds.reverse
  | _, _, .nil => .nil
  | _, _, .cons r t => by
    rw [List.reverse_cons, List.reverse_cons]
    exact (Reps.reverse t).snoc r
theorem Reps.of {F : Nat → V} {G : Nat → D} (n : Nat) (q : ∀ i, Rep κ h (F i) (G i)) : Reps κ h ((List.range n).map F) ((List.range n).map G) := by
  generalize List.range n = l
  induction l with
  | nil => exact .nil
  | cons a l ih => exact .cons (q a) ih
theorem Own.mono {a : Addr} {d : D} (e : Same f f') (k : h' a = h a) (o : Own κ f h a d) : Own κ f' h' a d := by
  cases o with
  | lst q r => exact .lst (k.trans q) (r.mono e)
  | obj c q l r => exact .obj c (k.trans q) l (r.mono e)
  | dct q n o k' r1 r2 => exact .dct (k.trans q) n o k' (r1.mono e) (r2.mono e)
theorem same_upd {a : Addr} {u : HO} (hf : f a = none) : Same f (upd f a u) := fun b o hb => by
  rw [upd_ne (ne_of_none hb hf)]
  exact hb
theorem Own.froze {a : Addr} {d : D} (hf : f a = none) (o : Own κ f h a d) : ∃ u, h a = some u ∧ Same f (upd f a u) ∧ Rep κ (upd f a u) (.ref a) d := by
  cases o with
  | lst q r => exact ⟨_, q, same_upd hf, .lst (.inl (.inl upd_same)) (r.mono (same_upd hf))⟩
  | obj c q l r => exact ⟨_, q, same_upd hf, .obj c upd_same l (r.mono (same_upd hf))⟩
  | dct q n o k r1 r2 => exact ⟨_, q, same_upd hf, .dct upd_same n o k (r1.mono (same_upd hf)) (r2.mono (same_upd hf))⟩
end

abbrev En := Option V × Sl
def entOk (κ : Kx) (f h : Hp) : En → Prop
  | (_, .emp) => True
  | (ov, .val d) => ∃ v, ov = some v ∧ Rep κ f v d
  | (ov, .own d) => ∃ a, ov = some (.ref a) ∧ f a = none ∧ Own κ f h a d
def ownA : En → Option Addr
  | (some (.ref a), .own _) => some a
  | _ => none
structure RelF (κ : Kx) (f h : Hp) (L : List En) : Prop where
  same : Same f h
  ent : ∀ e ∈ L, entOk κ f h e
  nd : (L.filterMap ownA).Nodup
def Rel (κ : Kx) (h : Hp) (L : List En) : Prop := ∃ f, RelF κ f h L

section
variable {κ : Kx} {f h : Hp} {L M : List En}
theorem RelF.perm (p : L.Perm M) (r : RelF κ f h L) : RelF κ f h M :=
  ⟨r.same, fun e he => r.ent e (p.mem_iff.mpr he), (p.filterMap ownA).nodup_iff.mp r.nd⟩
theorem Rel.perm (p : L.Perm M) (r : Rel κ h L) : Rel κ h M := let ⟨f, r⟩ := r; ⟨f, r.perm p⟩
theorem RelF.sub (p : M.Sublist L) (r : RelF κ f h L) : RelF κ f h M :=
  ⟨r.same, fun e he => r.ent e (p.mem he), r.nd.sublist (p.filterMap ownA)⟩
theorem Rel.sub (p : M.Sublist L) (r : Rel κ h L) : Rel κ h M := let ⟨f, r⟩ := r; ⟨f, r.sub p⟩
theorem Rel.tail {e : En} (r : Rel κ h (e :: L)) : Rel κ h L := r.sub (List.sublist_cons_self ..)
theorem RelF.tail {e : En} (r : RelF κ f h (e :: L)) : RelF κ f h L := r.sub (List.sublist_cons_self ..)
theorem RelF.free {e : En} {a : Addr} (r : RelF κ f h (e :: L)) (he : ownA e = some a) : ∀ x ∈ L, ownA x ≠ some a := fun x hx z => by
  have nd := r.nd
  rw [List.filterMap_cons, he] at nd
  exact (List.nodup_cons.mp nd).1 (List.mem_filterMap.mpr ⟨x, hx, z⟩)
theorem RelF.val {v : V} {d : D} (r : RelF κ f h L) (q : Rep κ f v d) : RelF κ f h ((some v, .val d) :: L) :=
  ⟨r.same, fun e he => by
    rcases List.mem_cons.mp he with rfl | he
    · exact ⟨v, rfl, q⟩
    · exact r.ent e he, by
    rw [List.filterMap_cons]
    have z : ownA (some v, .val d) = none := by unfold ownA; cases v <;> rfl
    rw [z]
    exact r.nd⟩
theorem RelF.emp {o : Option V} (r : RelF κ f h L) : RelF κ f h ((o, .emp) :: L) :=
  ⟨r.same, fun e he => by
    rcases List.mem_cons.mp he with rfl | he
    · exact trivial
    · exact r.ent e he, by
    rw [List.filterMap_cons]
    have z : ownA (o, .emp) = none := by
      rcases o with _ | v
      · rfl
      · cases v <;> rfl
    rw [z]
    exact r.nd⟩
theorem Rel.emp {o : Option V} (r : Rel κ h L) : Rel κ h ((o, .emp) :: L) := let ⟨f, r⟩ := r; ⟨f, r.emp⟩
theorem RelF.at (r : RelF κ f h L) {ov : Option V} {d : D} (he : (ov, .val d) ∈ L) : ∃ v, ov = some v ∧ Rep κ f v d := r.ent _ he
theorem RelF.atO (r : RelF κ f h L) {ov : Option V} {d : D} (he : (ov, .own d) ∈ L) : ∃ a, ov = some (.ref a) ∧ f a = none ∧ Own κ f h a d := r.ent _ he
theorem Rel.dup {v : V} {d : D} (r : Rel κ h L) (he : (some v, .val d) ∈ L) : Rel κ h ((some v, .val d) :: L) := by
  obtain ⟨f, r⟩ := r
  obtain ⟨v', e, q⟩ := r.at he
  cases e
  exact ⟨f, r.val q⟩
theorem Rel.scal {v : V} {d : D} (r : Rel κ h L) (q : ∀ g, Rep κ g v d) : Rel κ h ((some v, .val d) :: L) := let ⟨f, r⟩ := r; ⟨f, r.val (q f)⟩
theorem RelF.grow {h' : Hp} (e : Same h h') (r : RelF κ f h L) : RelF κ f h' L :=
  ⟨r.same.trans e, fun x hx => by
    have z := r.ent x hx
    obtain ⟨ov, sl⟩ := x
    cases sl with
    | emp => exact trivial
    | val d => exact z
    | own d =>
      obtain ⟨a, e1, hf, o⟩ := z
      refine ⟨a, e1, hf, ?_⟩
      cases o with
      | lst q s => exact .lst (e _ _ q) s
      | obj c q l s => exact .obj c (e _ _ q) l s
      | dct q n o k r1 r2 => exact .dct (e _ _ q) n o k r1 r2, r.nd⟩
theorem Rel.grow {h' : Hp} (e : Same h h') (r : Rel κ h L) : Rel κ h' L := let ⟨f, r⟩ := r; ⟨f, r.grow e⟩
theorem RelF.more {a : Addr} {u : HO} (hf : f a = none) (hh : h a = some u) (no : ∀ x ∈ L, ownA x ≠ some a) (r : RelF κ f h L) : RelF κ (upd f a u) h L := by
  have e : Same f (upd f a u) := fun b o hb => by rw [upd_ne (ne_of_none hb hf)]; exact hb
  refine ⟨fun b o hb => ?_, fun x hx => ?_, r.nd⟩
  · by_cases hba : b = a
    · subst hba
      rw [upd_same] at hb
      cases hb
      exact hh
    · rw [upd_ne hba] at hb
      exact r.same b o hb
  · have z := r.ent x hx
    obtain ⟨ov, sl⟩ := x
    cases sl with
    | emp => exact trivial
    | val d =>
      obtain ⟨v, e1, q⟩ := z
      exact ⟨v, e1, q.mono e⟩
    | own d =>
      obtain ⟨b, e1, hb, o⟩ := z
      have hne : b ≠ a := fun z => no _ hx (by rw [e1, ← z]; rfl)
      exact ⟨b, e1, by rw [upd_ne hne]; exact hb, o.mono e rfl⟩
theorem Rel.froze {v : V} {d : D} (r : Rel κ h ((some v, .own d) :: L)) : Rel κ h ((some v, .val d) :: L) := by
  obtain ⟨f, r⟩ := r
  obtain ⟨a, e, hf, o⟩ := r.atO List.mem_cons_self
  cases e
  obtain ⟨u, hu, e2, q⟩ := o.froze hf
  have no := r.free (e := (some (.ref a), .own d)) rfl
  exact ⟨_, (r.tail.more hf hu no).val q⟩
theorem RelF.laid {p : Addr} {u : HO} {d : D} (hp : h p = none) (o : Own κ f (upd h p u) p d) (r : RelF κ f h L) : RelF κ f (upd h p u) ((some (.ref p), .own d) :: L) := by
  have e : Same h (upd h p u) := fun b o hb => by rw [upd_ne (ne_of_none hb hp)]; exact hb
  have r' := r.grow e
  have hf : f p = none := r.same.free hp
  refine ⟨r'.same, fun x hx => ?_, ?_⟩
  · rcases List.mem_cons.mp hx with rfl | hx
    · exact ⟨p, rfl, hf, o⟩
    · exact r'.ent x hx
  · rw [List.filterMap_cons]
    show (p :: L.filterMap ownA).Nodup
    refine List.nodup_cons.mpr ⟨fun hm => ?_, r.nd⟩
    obtain ⟨x, hx, q⟩ := List.mem_filterMap.mp hm
    have z := r.ent x hx
    obtain ⟨ov, sl⟩ := x
    cases sl with
    | emp => simp [ownA] at q
    | val d => simp [ownA] at q
    | own d' =>
      obtain ⟨b, e1, hb, ob⟩ := z
      rw [e1] at q
      simp [ownA] at q
      subst q
      cases ob with
      | lst q _ => rw [hp] at q; cases q
      | obj _ q _ _ => rw [hp] at q; cases q
      | dct q _ _ _ _ _ => rw [hp] at q; cases q
theorem RelF.laidV {p : Addr} {u : HO} {d : D} (hp : h p = none) (q : Rep κ (upd f p u) (.ref p) d) (r : RelF κ f h L) : RelF κ (upd f p u) (upd h p u) ((some (.ref p), .val d) :: L) := by
  have e : Same h (upd h p u) := fun b o hb => by rw [upd_ne (ne_of_none hb hp)]; exact hb
  have hf : f p = none := r.same.free hp
  refine ((r.grow e).more hf upd_same fun x hx z => ?_).val q
  have y := r.ent x hx
  obtain ⟨ov, sl⟩ := x
  cases sl with
  | emp => simp [ownA] at z
  | val d => simp [ownA] at z
  | own d' =>
    obtain ⟨b, e1, hb, ob⟩ := y
    rw [e1] at z
    simp [ownA] at z
    subst z
    cases ob with
    | lst q _ => rw [hp] at q; cases q
    | obj _ q _ _ => rw [hp] at q; cases q
    | dct q _ _ _ _ _ => rw [hp] at q; cases q
theorem RelF.mut {a : Addr} {u : HO} {d d' : D} (o : Own κ f (upd h a u) a d') (r : RelF κ f h ((some (.ref a), .own d) :: L)) : RelF κ f (upd h a u) ((some (.ref a), .own d') :: L) := by
  obtain ⟨a', e, hf, _⟩ := r.atO (ov := some (.ref a)) List.mem_cons_self
  cases e
  have no := r.free (e := (some (.ref a), .own d)) rfl
  refine ⟨fun b o hb => by rw [upd_ne (ne_of_none hb hf)]; exact r.same b o hb, fun x hx => ?_, r.nd⟩
  rcases List.mem_cons.mp hx with rfl | hx
  · exact ⟨a, rfl, hf, o⟩
  · have z := r.ent x (List.mem_cons_of_mem _ hx)
    obtain ⟨ov, sl⟩ := x
    cases sl with
    | emp => exact trivial
    | val d => exact z
    | own e =>
      obtain ⟨b, e1, hb, ob⟩ := z
      have hne : b ≠ a := fun z => no _ hx (by rw [e1, ← z]; rfl)
      exact ⟨b, e1, hb, ob.mono (Same.refl _) (upd_ne hne)⟩
end

theorem zip_split {σ : List (Option V)} {δ : List Sl} {i : Nat} (hl : σ.length = δ.length) (hi : i < δ.length) (τ : List En) :
    ∃ ρ : List En, (σ.zip δ ++ τ).Perm (((σ[i]?).getD none, δ.getD i .emp) :: ρ) ∧ (∀ x, (σ.zip (δ.set i x) ++ τ).Perm (((σ[i]?).getD none, x) :: ρ)) ∧ ∀ v x, ((σ.set i v).zip (δ.set i x) ++ τ).Perm ((v, x) :: ρ) := by
  induction σ generalizing δ i with
  | nil =>
    have : δ.length = 0 := by simpa using hl.symm
    omega
  | cons a σ ih =>
    cases δ with
    | nil => simp at hi
    | cons b δ =>
      cases i with
      | zero => exact ⟨σ.zip δ ++ τ, by simp, fun x => by simp, fun v x => by simp⟩
      | succ i =>
        obtain ⟨ρ, h1, h2, h3⟩ := ih (δ := δ) (i := i) (by simpa using hl) (by simpa using hi)
        refine ⟨(a, b) :: ρ, ?_, fun x => ?_, fun v x => ?_⟩
        · simp only [List.zip_cons_cons, List.cons_append, List.getElem?_cons_succ, List.getD_cons_succ]
          exact ((h1.cons (a, b)).trans (List.Perm.swap ..))
        · simp only [List.zip_cons_cons, List.cons_append, List.getElem?_cons_succ, List.set_cons_succ]
          exact (((h2 x).cons (a, b)).trans (List.Perm.swap ..))
        · simp only [List.zip_cons_cons, List.cons_append, List.set_cons_succ]
          exact (((h3 v x).cons (a, b)).trans (List.Perm.swap ..))
end PyV
set_option Elab.async false
set_option linter.all false
set_option maxRecDepth 100000
set_option maxHeartbeats 2000000
namespace PyV
open PySem L2 PySem.Spec PyProof.Rows

section
variable {X : Cx} {pins : List (Addr × Obj)} {σ : L2.St} {H : Hp} {s : Shared}
theorem lineEq : sizeLine = 16777216 := sizeLine_eq
theorem Inv.lx {l : Addr} {xs : List V} (I : Inv X pins σ H s) (h : SqX X.K H l xs) :
    xs.length ≤ sizeLine ∧ ∃ (its : List Value) (n : Nat), Vals xs its ∧ xs.length = its.length ∧ s.heap.get? l = some { cls := .type "list", data := .seq its.toArray n } := by
  rcases h with h | ⟨its, n, hk, hz, r⟩
  · obtain ⟨z, its, n, r, e⟩ := h.ok I.hok
    exact ⟨z, its, n, r, r.length, e⟩
  · have hl := r.length
    simp only [Array.length_toList] at hl
    exact ⟨by omega, its.toList, n, r, by simpa using hl, by simpa using I.kIn l _ hk⟩
def rCatX (K : PySem.W.Frag) : R2 := fun x y H Q => ∃ l b xs zs, x = .ref l ∧ y = .ref b ∧ SqX K H l xs ∧ SqX K H b zs ∧ xs.length + zs.length ≤ 16777216 ∧ ∀ p, H p = none → Q (.ref p) (upd H p (.lst (xs ++ zs)))
theorem op_catX : OpR X (binaryOp .Add) (rCatX X.K) := by
  rintro pins s σ H x y v u Q I rx ry ⟨l, b, xs, zs, rfl, rfl, hH, hB, hz, q⟩
  cases rx
  cases ry
  obtain ⟨z, its, n, r, hl, e⟩ := Inv.lx I hH
  obtain ⟨z2, its2, n2, r2, hl2, e2⟩ := Inv.lx I hB
  refine PySem.P.add_list e e2 ?_ (by rw [List.size_toArray, List.size_toArray, lineEq]; omega)
  rw [show its.toArray ++ its2.toArray = (its ++ its2).toArray by simp]
  exact ⟨.ref _, _, I.lnew (t' := s.toks) (r.append r2) (by rw [List.length_append, lineEq]; omega), rfl, q _ I.fresh⟩
def rRepX (K : PySem.W.Frag) : R2 := fun x y H Q => ∃ l k xs, x = .ref l ∧ y = .int k ∧ SqX K H l xs ∧ -16777216 ≤ k ∧ k ≤ 16777216 ∧ xs.length * k.toNat ≤ 16777216 ∧
  ∀ p, H p = none → Q (.ref p) (upd H p (.lst (List.replicate k.toNat xs).flatten))
theorem op_repX : OpR X (binaryOp .Mult) (rRepX X.K) := by
  rintro pins s σ H x y v u Q I rx ry ⟨l, k, xs, rfl, rfl, hH, h1, h2, hz, q⟩
  cases rx
  obtain ⟨t, rfl⟩ := ry
  obtain ⟨z, its, n, r, hl, e⟩ := Inv.lx I hH
  have size : its.toArray.size * k.toNat ≤ sizeLine := by
    rw [List.size_toArray, ← hl, lineEq]
    exact hz
  have line : (sizeLine : Nat) ≤ (2 ^ 63 - 1) / 8 := by decide
  have all : List.foldl (fun a b => a ++ b) #[] (List.replicate (if its.toArray.isEmpty = true then 0 else k.toNat) its.toArray) = (List.replicate k.toNat its).flatten.toArray := by
    have rep (m : Nat) : List.foldl (fun a b => a ++ b) #[] (List.replicate m its.toArray) = (List.replicate m its).flatten.toArray := by
      have z := foldl_rep its m []
      rwa [List.nil_append] at z
    rw [rep]
    cases its with
    | nil => simp
    | cons a r' => simp
  refine wpAny_binaryOp_repeat_ref (T := "list") (U := "int") (by decide) ⟨_, e, rfl⟩ (fun s' => typeIs_int s' k t) noFill_list_mul F.fills_int_mul F.slot_int_rmul repeat_list F.slot_int_index.lookup
    (call_meets F.slot_int_rmul (typeIs_int s k t) F.entry_int_rmul (F.args_int_rmul_2 _ _) (int___rmul___int_list k t l its.toArray n)
      ⟨e, rfl, ⟨_, e, rfl⟩, call_meets F.slot_list_mul ⟨_, e, rfl⟩ F.entry_list_mul (F.args_list_mul_2 _ _)
        (AutoListH.list___mul___list_int_3 l its.toArray n k t (by rw [fitsIndex_both (by omega) (by omega)]; exact Bool.false_ne_true) (by omega) (by rw [notLongL size]; exact Bool.false_ne_true)) ⟨e, ?_⟩⟩)
  rw [all]
  exact ⟨.ref _, _, I.lnew (t' := s.toks) (r.rep k.toNat) (by rw [PyProof.Rows.lm_len_rep_flat, Nat.mul_comm, lineEq]; exact hz), rfl, q _ I.fresh⟩
theorem fold_rep (a : Array Nat) : ∀ (m : Nat) (b : Array Nat), ((List.replicate m a).foldl (fun x y => x ++ y) b).toList = b.toList ++ (List.replicate m a.toList).flatten
  | 0, b => by simp
  | m + 1, b => by
    rw [List.replicate_succ, List.foldl_cons, fold_rep a m, List.replicate_succ, List.flatten_cons]
    simp
theorem len_rep (a : List Nat) (m : Nat) : (List.replicate m a).flatten.length = m * a.length := by simp
def rMulS : R2 := fun x y H Q => ∃ (z : List Nat) (k : Int), x = .str ⟨z.toArray⟩ ∧ y = .int k ∧ -16777216 ≤ k ∧ k ≤ 16777216 ∧ z.length * k.toNat ≤ 16777216 ∧ Q (.str ⟨(List.replicate k.toNat z).flatten.toArray⟩) H
theorem op_mulS : OpR X (binaryOp .Mult) rMulS := by
  rintro pins s σ H x y v u Q I rx ry ⟨z, k, rfl, rfl, h1, h2, hz, q⟩
  obtain ⟨t, rfl⟩ := rx
  obtain ⟨t', rfl⟩ := ry
  have lz : (⟨z.toArray⟩ : Str).length = z.length := by simp [Str.length]
  refine PySem.P.mul_str (by rw [decide_eq_false (by omega), decide_eq_false (by omega)]; rfl) (fun a b => ?_) (fun a b => ?_) ?_
  · rw [lz]
    have hk : 0 < k := by omega
    have hk2 : (z.length : Int) * k ≤ 16777216 := by
      have e : ((z.length * k.toNat : Nat) : Int) = (z.length : Int) * k := by
        rw [Int.natCast_mul, Int.toNat_of_nonneg (by omega)]
      rw [← e]
      omega
    have : (z.length : Int) ≤ (2 ^ 63 - 1) / k := (Int.le_ediv_iff_mul_le hk).mpr (by omega)
    omega
  · rw [lz]
    exact decide_eq_false (by rw [lineEq]; omega)
  · by_cases c1 : k < 1
    · rw [if_pos c1]
      have e : k.toNat = 0 := by omega
      rw [e] at q
      exact ⟨by decide, .str Str.empty, H, I.tok _, ⟨_, rfl⟩, q⟩
    · rw [if_neg c1]
      by_cases c2 : (k == 1 || (⟨z.toArray⟩ : Str).length == 0) = true
      · rw [if_pos c2]
        have e : (List.replicate k.toNat z).flatten = z := by
          rcases Bool.or_eq_true_iff.mp c2 with c | c
          · have : k = 1 := by simpa using c
            subst this
            simp
          · have : z = [] := by
              have : z.length = 0 := by rw [← lz]; simpa using c
              exact List.eq_nil_of_length_eq_zero this
            subst this
            simp
        rw [e] at q
        exact ⟨.str ⟨z.toArray⟩, H, I, ⟨_, rfl⟩, q⟩
      · rw [if_neg c2]
        have e : (List.foldl (fun x y => x ++ y) #[] (List.replicate k.toNat z.toArray)) = (List.replicate k.toNat z).flatten.toArray := by
          apply Array.ext'
          rw [fold_rep]
          simp
        show _ ∧ _
        rw [e]
        refine ⟨?_, .str ⟨(List.replicate k.toNat z).flatten.toArray⟩, H, I.tok _, ⟨_, rfl⟩, q⟩
        show (List.replicate k.toNat z).flatten.toArray.size ≤ sizeLine
        rw [List.size_toArray, len_rep, lineEq, Nat.mul_comm]
        exact hz
def CMulV (i j : Int) : Prop := mulOk i j = true
theorem op_mulV : OpR X (binaryOp .Mult) (rI CMulV fun i j => .int (i * j)) := opI fun i j _ _ _ _ _ hc q => by
  refine mul_int q ?_
  unfold CMulV mulOk smallI at hc
  simp only [Bool.or_eq_true, decide_eq_true_eq] at hc
  rcases hc with (hc | hc) | hc
  · exact .of_left (intBits_le_64 (by omega) (by omega))
  · exact .of_right (intBits_le_64 (by omega) (by omega))
  · exact CMulW.ok hc
def CDivV (_ j : Int) : Prop := divOk j = true
theorem op_fdivV : OpR X (binaryOp .FloorDiv) (rI CDivV fun i j => .int (i / j)) := by
  intro pins s σ H x y v u Q I rx ry ⟨i, j, e1, e2, hc, q⟩
  refine op_fdivW pins s σ H x y v u Q I rx ry ⟨i, j, e1, e2, ?_, q⟩
  unfold CDivV divOk at hc
  simp only [Bool.and_eq_true, decide_eq_true_eq] at hc
  exact hc
def CPowV (i j : Int) : Prop := powOk i j = true
theorem op_powV : OpR X (binaryOp .Pow) (rI CPowV fun i j => .int (i ^ j.toNat)) := opI fun i j _ _ _ _ _ hc q => by
  unfold CPowV powOk at hc
  simp only [Bool.and_eq_true, decide_eq_true_eq] at hc
  exact pow_int hc.1 hc.2 q
def CShlV (i j : Int) : Prop := shlOk i j = true
theorem shlV {i j : Int} (hc : CShlV i j) : CShl i j := by
  unfold CShlV shlOk at hc
  simp only [Bool.and_eq_true, decide_eq_true_eq] at hc
  exact hc
theorem op_shlV : OpR X (binaryOp .LShift) (rI CShlV fun i j => .int (i * 2 ^ j.toNat)) := by
  intro pins s σ H x y v u Q I rx ry ⟨i, j, e1, e2, hc, q⟩
  exact op_shlW pins s σ H x y v u Q I rx ry ⟨i, j, e1, e2, shlV hc, q⟩

def opP : Op → Operator
  | .add => .Add | .sub => .Sub | .mul => .Mult | .fdiv => .FloorDiv | .mod => .Mod | .pow => .Pow | .shl => .LShift | .shr => .RShift | .band => .BitAnd | .bor => .BitOr | .bxor => .BitXor
def rAddS : R2 := fun x y H Q => ∃ i j, x = .str i ∧ y = .str j ∧ i.length + j.length ≤ sizeLine ∧ Q (.str (i ++ j)) H
def rBin (K : PySem.W.Frag) : Op → R2
  | .add => fun x y H Q => (rI0 (fun i j => .int (i + j)) x y H Q ∨ rAddS x y H Q) ∨ (rCatX K x y H Q ∨ rCatA K x y H Q)
  | .sub => rI0 fun i j => .int (i - j)
  | .mul => fun x y H Q => rI CMulV (fun i j => .int (i * j)) x y H Q ∨ (rMulS x y H Q ∨ rRepX K x y H Q)
  | .fdiv => rI CDivV fun i j => .int (i / j)
  | .mod => rI (fun _ j => 0 < j) fun i j => .int (i % j)
  | .pow => rI CPowV fun i j => .int (i ^ j.toNat)
  | .shl => rI CShlV fun i j => .int (i * 2 ^ j.toNat)
  | .shr => rI (fun _ j => 0 ≤ j) fun i j => .int (i / 2 ^ j.toNat)
  | .band => rI0 fun i j => .int (Builtin.bitAnd i j)
  | .bor => rI0 fun i j => .int (Builtin.bitOr i j)
  | .bxor => rI0 fun i j => .int (Builtin.bitXor i j)
theorem op_bin (o : Op) : OpR X (binaryOp (opP o)) (rBin X.K o) := by
  cases o with
  | add => exact (op_add.or op_add_str).or (op_catX.or op_catA)
  | sub => exact op_sub
  | mul => exact op_mulV.or (op_mulS.or op_repX)
  | fdiv => exact op_fdivV
  | mod => exact op_mod
  | pow => exact op_powV
  | shl => exact op_shlV
  | shr => exact op_shr
  | band => exact op_and
  | bor => exact op_or
  | bxor => exact op_xor
end
end PyV
set_option Elab.async false
set_option linter.all false
set_option maxRecDepth 100000
set_option maxHeartbeats 2000000
namespace PyV
open PySem PySem.Spec PyProof.Rows L2

def slotOf : Rv → Sl
  | .val d => .val d
  | .own d => .own d
  | .ali _ => .emp
def ent (r : Rv) (v : V) : En := (some v, slotOf r)
def AliOk (σ : L2.St) (r : Rv) (v : V) : Prop := ∀ i, r = .ali i → σ[i]? = some (some v)
structure SR (κ : Kx) (io : Nat → V → Prop) (σ : L2.St) (H : Hp) (δ : Ss) (τ : List En) : Prop where
  len : σ.length = δ.length
  rel : Rel κ H (σ.zip δ ++ τ)
  io : ∀ j v, io j v → σ[j]? = some (some v)
def ExR (κ : Kx) (cls : Value) (d : Option Addr) (x : Ex) : Prop := cls = .ref (κ.cls x.c) ∧ x.ns = [] ∧ κ.x x.c = true ∧ d = none
def post {α : Type} (κ : Kx) (io : Nat → V → Prop) (W : WX) (σ : L2.St) (τ : List En) (K : α → Ss → Prop) : R α → Prop
  | .ok a δ => K a δ
  | .ex x δ => ∀ cls d H, SR κ io σ H δ τ → ExR κ cls d x → W cls d σ H
  | .bad => False
def okE (κ : Kx) (io : Nat → V → Prop) (σ : L2.St) (τ : List En) (Q : VK) : Rv → Ss → Prop := fun r δ => ∀ v H, SR κ io σ H δ (ent r v :: τ) → AliOk σ r v → Q v H
def tD (κ : Kx) (io : Nat → V → Prop) (W : WX) (den : Ss → R Rv) : TE := fun σ H Q => ∃ δ τ, SR κ io σ H δ τ ∧ post κ io W σ τ (okE κ io σ τ Q) (den δ)
def okT (κ : Kx) (io : Nat → V → Prop) (σ : L2.St) (τ : List En) (Q : Bool → Hp → Prop) : Bool → Ss → Prop := fun b δ => ∀ H, SR κ io σ H δ τ → Q b H
def tDT (κ : Kx) (io : Nat → V → Prop) (W : WX) (den : Ss → R Bool) : TT := fun σ H Q => ∃ δ τ, SR κ io σ H δ τ ∧ post κ io W σ τ (okT κ io σ τ Q) (den δ)
def ents : List Rv → List V → List En
  | r :: rs, v :: vs => ents rs vs ++ [ent r v]
  | _, _ => []
inductive Alis (σ : L2.St) : List Rv → List V → Prop where
  | nil : Alis σ [] []
  | cons {r : Rv} {v : V} {rs : List Rv} {vs : List V} : AliOk σ r v → Alis σ rs vs → Alis σ (r :: rs) (v :: vs)
def okA (κ : Kx) (io : Nat → V → Prop) (σ : L2.St) (τ : List En) (Q : List V → Hp → Prop) : List Rv → Ss → Prop := fun rs δ => ∀ vs H, SR κ io σ H δ (ents rs vs ++ τ) → Alis σ rs vs → Q vs H
def tDA (κ : Kx) (io : Nat → V → Prop) (W : WX) (den : Ss → R (List Rv)) : TA := fun σ H Q => ∃ δ τ, SR κ io σ H δ τ ∧ post κ io W σ τ (okA κ io σ τ Q) (den δ)

theorem PE.imp {X : Cx} {e : Expr} {t t' : TE} (h : PE X e t) (k : ∀ σ H Q, t' σ H Q → t σ H Q) : PE X e t' := ⟨fun pins s σ H Q I q => h.run pins s σ H Q I (k σ H Q q)⟩
theorem PT.imp {X : Cx} {e : Expr} {t t' : TT} (h : PT X e t) (k : ∀ σ H Q, t' σ H Q → t σ H Q) : PT X e t' := ⟨fun pins s σ H Q I q => h.run pins s σ H Q I (k σ H Q q)⟩
theorem PW.imp {X : Cx} {e : Expr} {t t' : TT} (h : PW X e t) (k : ∀ σ H Q, t' σ H Q → t σ H Q) : PW X e t' := ⟨fun wh pins s σ H Q I q => h.run wh pins s σ H Q I (k σ H Q q)⟩
theorem PA.imp {X : Cx} {e : List Expr} {t t' : TA} (h : PA X e t) (k : ∀ σ H Q, t' σ H Q → t σ H Q) : PA X e t' := ⟨fun pos pins s σ H Q I q => h.run pos pins s σ H Q I (k σ H Q q)⟩

section
variable {κ : Kx} {io : Nat → V → Prop} {W : WX} {σ : L2.St} {H : Hp} {δ : Ss} {τ ρ : List En}
theorem SR.cut (s : SR κ io σ H δ (ρ ++ τ)) : SR κ io σ H δ τ := ⟨s.len, s.rel.sub ((List.sublist_append_right ρ τ).append_left _), s.io⟩
theorem SR.tl {e : En} (s : SR κ io σ H δ (e :: τ)) : SR κ io σ H δ τ := SR.cut (ρ := [e]) s
theorem SR.push {e : En} (s : SR κ io σ H δ τ) (h : ∀ L, Rel κ H L → Rel κ H (e :: L)) : SR κ io σ H δ (e :: τ) :=
  ⟨s.len, (h _ s.rel).perm List.perm_middle.symm, s.io⟩
theorem SR.grow {H' : Hp} (s : SR κ io σ H δ τ) (e : Same H H') : SR κ io σ H' δ τ := ⟨s.len, s.rel.grow e, s.io⟩
theorem seqD {α : Type} {den : Ss → R Rv} {f : Rv → Ss → R α} {Kf : α → Ss → Prop} {K : V → Hp → Prop} (hp : post κ io W σ τ Kf ((den δ).bind f)) (hs : SR κ io σ H δ (ρ ++ τ))
    (k : ∀ r δ1 v H1, SR κ io σ H1 δ1 (ent r v :: (ρ ++ τ)) → AliOk σ r v → post κ io W σ τ Kf (f r δ1) → K v H1) : tD κ io W den σ H K := by
  refine ⟨δ, ρ ++ τ, hs, ?_⟩
  cases e : den δ with
  | ok r δ1 =>
    rw [e] at hp
    exact fun v H1 s1 a => k r δ1 v H1 s1 a hp
  | ex x δ1 =>
    rw [e] at hp
    exact fun cls d H1 s1 xr => hp cls d H1 s1.cut xr
  | bad =>
    rw [e] at hp
    exact hp
theorem seqT {α : Type} {den : Ss → R Bool} {f : Bool → Ss → R α} {Kf : α → Ss → Prop} {K : Bool → Hp → Prop} (hp : post κ io W σ τ Kf ((den δ).bind f)) (hs : SR κ io σ H δ (ρ ++ τ))
    (k : ∀ b δ1 H1, SR κ io σ H1 δ1 (ρ ++ τ) → post κ io W σ τ Kf (f b δ1) → K b H1) : tDT κ io W den σ H K := by
  refine ⟨δ, ρ ++ τ, hs, ?_⟩
  cases e : den δ with
  | ok r δ1 =>
    rw [e] at hp
    exact fun H1 s1 => k r δ1 H1 s1 hp
  | ex x δ1 =>
    rw [e] at hp
    exact fun cls d H1 s1 xr => hp cls d H1 s1.cut xr
  | bad =>
    rw [e] at hp
    exact hp
theorem seqA {α : Type} {den : Ss → R (List Rv)} {f : List Rv → Ss → R α} {Kf : α → Ss → Prop} {K : List V → Hp → Prop} (hp : post κ io W σ τ Kf ((den δ).bind f)) (hs : SR κ io σ H δ (ρ ++ τ))
    (k : ∀ rs δ1 vs H1, SR κ io σ H1 δ1 (ents rs vs ++ (ρ ++ τ)) → Alis σ rs vs → post κ io W σ τ Kf (f rs δ1) → K vs H1) : tDA κ io W den σ H K := by
  refine ⟨δ, ρ ++ τ, hs, ?_⟩
  cases e : den δ with
  | ok r δ1 =>
    rw [e] at hp
    exact fun vs H1 s1 a => k r δ1 vs H1 s1 a hp
  | ex x δ1 =>
    rw [e] at hp
    exact fun cls d H1 s1 xr => hp cls d H1 s1.cut xr
  | bad =>
    rw [e] at hp
    exact hp
theorem SR.read (s : SR κ io σ H δ τ) {r : Rv} {v : V} {d : D} (he : (some v, slotOf r) ∈ τ) (a : AliOk σ r v) (e : rd δ r = some d) {f : Hp} (rf : RelF κ f H (σ.zip δ ++ τ)) :
    Rep κ f v d ∨ ∃ a, v = .ref a ∧ f a = none ∧ Own κ f H a d := by
  have slot : ∀ x, (some v, x) ∈ σ.zip δ ++ τ → (x = .val d ∨ x = .own d) → Rep κ f v d ∨ ∃ a, v = .ref a ∧ f a = none ∧ Own κ f H a d := fun x hx q => by
    rcases q with rfl | rfl
    · obtain ⟨v', e1, q⟩ := rf.at hx
      cases e1
      exact .inl q
    · obtain ⟨b, e1, h1, o⟩ := rf.atO hx
      exact .inr ⟨b, Option.some.inj e1, h1, o⟩
  cases r with
  | val d' =>
    simp [rd] at e
    subst e
    exact slot _ (List.mem_append_right _ he) (.inl rfl)
  | own d' =>
    simp [rd] at e
    subst e
    exact slot _ (List.mem_append_right _ he) (.inr rfl)
  | ali i =>
    have hi := a i rfl
    simp only [rd, sl?] at e
    have mem : ∀ x, δ.getD i .emp = x → x ≠ .emp → (some v, x) ∈ σ.zip δ ++ τ := fun x hx ne => by
      have hlt : i < δ.length := by
        rcases Nat.lt_or_ge i δ.length with q | q
        · exact q
        · exact absurd (by rw [← hx]; simp [List.getD, List.getElem?_eq_none q]) ne
      refine List.mem_append_left _ (List.mem_of_getElem? (i := i) ?_)
      rw [List.getElem?_zip_eq_some]
      exact ⟨hi, by rw [← hx]; simp [hlt]⟩
    cases q : δ.getD i .emp with
    | emp => rw [q] at e; cases e
    | val d' =>
      rw [q] at e
      cases e
      exact slot _ (mem _ q (by simp)) (.inl rfl)
    | own d' =>
      rw [q] at e
      cases e
      exact slot _ (mem _ q (by simp)) (.inr rfl)
theorem rep_of {f : Hp} {v : V} {d : D} (sm : Same f H) (q : Rep κ f v d ∨ ∃ a, v = .ref a ∧ f a = none ∧ Own κ f H a d) : Rep κ H v d := by
  rcases q with q | ⟨a, rfl, _, o⟩
  · exact q.mono sm
  · cases o with
    | lst q r => exact .lst (.inl (.inl q)) (r.mono sm)
    | obj c q l r => exact .obj c q l (r.mono sm)
    | dct q n o k r1 r2 => exact .dct q n o k (r1.mono sm) (r2.mono sm)
theorem lst_of {f : Hp} {K : PySem.W.Frag} {v : V} {ds : List D} (sm : Same f H) (hK : κ.K = K) (q : Rep κ f v (.lst ds) ∨ ∃ a, v = .ref a ∧ f a = none ∧ Own κ f H a (.lst ds)) : ∃ a vs, v = .ref a ∧ SqX K H a vs ∧ Reps κ f vs ds := by
  subst hK
  rcases q with q | ⟨a, rfl, _, o⟩
  · cases q with
    | lst q r => exact ⟨_, _, rfl, q.mono sm, r⟩
  · cases o with
    | lst q r => exact ⟨_, _, rfl, .inl (.inl q), r⟩
theorem tup_of {f : Hp} {K : PySem.W.Frag} {v : V} {ds : List D} (sm : Same f H) (hK : κ.K = K) (q : Rep κ f v (.tup ds) ∨ ∃ a, v = .ref a ∧ f a = none ∧ Own κ f H a (.tup ds)) : ∃ a vs, v = .ref a ∧ SqT K H a vs ∧ Reps κ f vs ds := by
  subst hK
  rcases q with q | ⟨a, rfl, _, o⟩
  · cases q with
    | tup q r => exact ⟨_, _, rfl, sqT_mono sm q, r⟩
  · cases o
theorem rep_int {f : Hp} {v : V} {i : Int} (q : Rep κ f v (.int i)) : v = .int i := by cases q; rfl
theorem rep_bl {f : Hp} {v : V} {i : Bool} (q : Rep κ f v (.bl i)) : v = .bl i := by cases q; rfl
theorem rep_str {f : Hp} {v : V} {s : List Nat} (q : Rep κ f v (.str s)) : v = .str ⟨s.toArray⟩ ∧ ∀ c ∈ s, c < 1114112 := by cases q; exact ⟨rfl, by assumption⟩
end
end PyV
set_option Elab.async false
set_option linter.all false
set_option maxRecDepth 100000
set_option maxHeartbeats 2000000
namespace PyV
open PySem PySem.Spec PyProof.Rows L2

section
variable {κ : Kx} {io : Nat → V → Prop} {W : WX} {σ : L2.St} {H : Hp} {δ : Ss} {τ ρ : List En} {X : Cx} {a' b' c' : Expr} {pos : Pos} {Q : VK}
theorem SR.scal {v : V} {d : D} (s : SR κ io σ H δ τ) (q : ∀ g, Rep κ g v d) : SR κ io σ H δ (ent (.val d) v :: τ) := s.push fun L r => r.scal q
theorem fin_scal {d : D} {v : V} (s : SR κ io σ H δ τ) (hq : okE κ io σ τ Q (.val d) δ) (q : ∀ g, Rep κ g v d) : Q v H := hq v H (s.scal q) (fun i e => nomatch e)
theorem fin_int {i : Int} (s : SR κ io σ H δ τ) (hq : okE κ io σ τ Q (.val (.int i)) δ) : Q (.int i) H := fin_scal s hq fun _ => .int i
theorem fin_bl {i : Bool} (s : SR κ io σ H δ τ) (hq : okE κ io σ τ Q (.val (.bl i)) δ) : Q (.bl i) H := fin_scal s hq fun _ => .bl i
theorem fin_str {x : List Nat} (s : SR κ io σ H δ τ) (hq : okE κ io σ τ Q (.val (.str x)) δ) (h : ∀ c ∈ x, c < 1114112) : Q (.str ⟨x.toArray⟩) H := fin_scal s hq fun _ => .str x h
theorem fin_lst {f : Hp} {ds : List D} {vs : List V} {p : Addr} (len : σ.length = δ.length) (hio : ∀ j v, io j v → σ[j]? = some (some v)) (rf : RelF κ f H (σ.zip δ ++ τ)) (hq : okE κ io σ τ Q (.own (.lst ds)) δ) (hp : H p = none) (r : Reps κ f vs ds) : Q (.ref p) (upd H p (.lst vs)) :=
  hq (.ref p) _ ⟨len, (show Rel κ (upd H p (.lst vs)) _ from ⟨f, rf.laid hp (.lst upd_same r)⟩).perm List.perm_middle.symm, hio⟩ (fun i e => nomatch e)
theorem fin_tup {f : Hp} {ds : List D} {vs : List V} {p : Addr} (len : σ.length = δ.length) (hio : ∀ j v, io j v → σ[j]? = some (some v)) (rf : RelF κ f H (σ.zip δ ++ τ)) (hq : okE κ io σ τ Q (.val (.tup ds)) δ) (hp : H p = none) (r : Reps κ f vs ds) : Q (.ref p) (upd H p (.tup vs)) := by
  have hf : f p = none := rf.same.free hp
  have e : Same f (upd f p (.tup vs)) := same_upd hf
  exact hq (.ref p) _ ⟨len, (show Rel κ (upd H p (.tup vs)) _ from ⟨_, rf.laidV hp (.tup (.inl (.inl upd_same)) (r.mono e))⟩).perm List.perm_middle.symm, hio⟩ (fun i e => nomatch e)
theorem fin_rep {f : Hp} {d : D} {v : V} (len : σ.length = δ.length) (hio : ∀ j v, io j v → σ[j]? = some (some v)) (rf : RelF κ f H (σ.zip δ ++ τ)) (hq : okE κ io σ τ Q (.val d) δ) (r : Rep κ f v d) : Q v H :=
  hq v _ ⟨len, (show Rel κ H _ from ⟨f, rf.val r⟩).perm List.perm_middle.symm, hio⟩ (fun i e => nomatch e)

theorem bin_use {K : PySem.W.Frag} (hK : κ.K = K) {o : Op} {x y : V} {d e z : D} {f : Hp} (len : σ.length = δ.length) (hio : ∀ j v, io j v → σ[j]? = some (some v)) (rf : RelF κ f H (σ.zip δ ++ τ))
    (hx : Rep κ f x d ∨ ∃ a, x = .ref a ∧ f a = none ∧ Own κ f H a d) (hy : Rep κ f y e ∨ ∃ a, y = .ref a ∧ f a = none ∧ Own κ f H a e) (hz : binD o d e = some z) (hq : okE κ io σ τ Q (out z) δ) : rBin K o x y H Q := by
  have s : SR κ io σ H δ τ := ⟨len, ⟨f, rf⟩, hio⟩
  have sm := rf.same
  have kx := rep_of sm hx
  have ky := rep_of sm hy
  have twoI : ∀ i j, d = .int i → e = .int j → x = .int i ∧ y = .int j := fun i j e1 e2 => by
    subst e1 e2
    exact ⟨rep_int kx, rep_int ky⟩
  cases o with
  | add =>
    unfold binD at hz
    split at hz <;> try (cases hz; done)
    all_goals first | cases ‹Op.add = _›; done | skip
    · obtain ⟨rfl, rfl⟩ := twoI _ _ rfl rfl
      cases hz
      exact .inl (.inl ⟨_, _, rfl, rfl, fin_int s hq⟩)
    · rename_i a b _
      obtain ⟨rfl, v1⟩ := rep_str kx
      obtain ⟨rfl, v2⟩ := rep_str ky
      split at hz
      · rename_i hl
        cases hz
        refine .inl (.inr ⟨_, _, rfl, rfl, by rw [lineEq]; simpa [Str.length] using hl, ?_⟩)
        have q := fin_str (x := a ++ b) s hq (by
          intro c hc
          rcases List.mem_append.mp hc with hc | hc
          · exact v1 c hc
          · exact v2 c hc)
        have ee : (⟨a.toArray⟩ : Str) ++ (⟨b.toArray⟩ : Str) = ⟨(a ++ b).toArray⟩ := by
          show Str.mk (a.toArray ++ b.toArray) = _
          simp
        rw [ee]
        exact q
      · cases hz
    · obtain ⟨l, vs, rfl, q1, r1⟩ := lst_of sm hK hx
      obtain ⟨l2, ws, rfl, q2, r2⟩ := lst_of sm hK hy
      split at hz
      · rename_i hl
        cases hz
        refine .inr (.inl ⟨l, l2, vs, ws, rfl, rfl, q1, q2, by rw [r1.length, r2.length]; exact hl, fun p hp => ?_⟩)
        exact fin_lst len hio rf hq hp (r1.append r2)
      · cases hz
    · obtain ⟨l, vs, rfl, q1, r1⟩ := tup_of sm hK hx
      obtain ⟨l2, ws, rfl, q2, r2⟩ := tup_of sm hK hy
      split at hz
      · rename_i hl
        cases hz
        have tx : ∀ {a : Addr} {l : List D}, (Rep κ f (.ref a) (.tup l) ∨ ∃ b, V.ref a = .ref b ∧ f b = none ∧ Own κ f H b (.tup l)) → Rep κ f (.ref a) (.tup l) := fun h => h.elim id fun ⟨_, _, _, o⟩ => by cases o
        refine .inr (.inr ⟨l, l2, vs, ws, rfl, rfl, q1, q2, by rw [r1.length, r2.length, lineEq]; exact hl, fun z => ?_, fun _ z => ?_, fun _ _ p hp => ?_⟩)
        · subst z
          cases r1
          exact fin_rep len hio rf hq (tx hy)
        · subst z
          cases r2
          rw [List.append_nil] at hq
          exact fin_rep len hio rf hq (tx hx)
        exact fin_tup len hio rf hq hp (r1.append r2)
      · cases hz
  | mul =>
    unfold binD at hz
    split at hz <;> try (cases hz; done)
    all_goals first | cases ‹Op.mul = _›; done | skip
    · obtain ⟨rfl, rfl⟩ := twoI _ _ rfl rfl
      split at hz
      · rename_i hm
        cases hz
        exact .inl ⟨_, _, rfl, rfl, hm, fin_int s hq⟩
      · cases hz
    · rename_i a j _
      obtain ⟨rfl, v1⟩ := rep_str kx
      obtain rfl := rep_int ky
      split at hz
      · rename_i hl
        cases hz
        refine .inr (.inl ⟨_, _, rfl, rfl, by simpa using hl.2.1, by simpa using hl.2.2, hl.1, ?_⟩)
        refine fin_str s hq ?_
        intro c hc
        obtain ⟨l, hl, hc⟩ := List.mem_flatten.mp hc
        rw [List.eq_of_mem_replicate hl] at hc
        exact v1 c hc
      · cases hz
    · obtain ⟨l, vs, rfl, q1, r1⟩ := lst_of sm hK hx
      obtain rfl := rep_int ky
      split at hz
      · rename_i hl
        cases hz
        refine .inr (.inr ⟨l, _, vs, rfl, rfl, q1, by simpa using hl.2.1, by simpa using hl.2.2, by rw [r1.length]; exact hl.1, fun p hp => ?_⟩)
        exact fin_lst len hio rf hq hp (r1.rep _)
      · cases hz
  | sub =>
    unfold binD at hz
    split at hz <;> try (cases hz; done)
    all_goals first | cases ‹Op.sub = _›; done | skip
    obtain ⟨rfl, rfl⟩ := twoI _ _ rfl rfl
    cases hz
    exact ⟨_, _, rfl, rfl, fin_int s hq⟩
  | band =>
    unfold binD at hz
    split at hz <;> try (cases hz; done)
    all_goals first | cases ‹Op.band = _›; done | skip
    obtain ⟨rfl, rfl⟩ := twoI _ _ rfl rfl
    cases hz
    exact ⟨_, _, rfl, rfl, fin_int s hq⟩
  | bor =>
    unfold binD at hz
    split at hz <;> try (cases hz; done)
    all_goals first | cases ‹Op.bor = _›; done | skip
    obtain ⟨rfl, rfl⟩ := twoI _ _ rfl rfl
    cases hz
    exact ⟨_, _, rfl, rfl, fin_int s hq⟩
  | bxor =>
    unfold binD at hz
    split at hz <;> try (cases hz; done)
    all_goals first | cases ‹Op.bxor = _›; done | skip
    obtain ⟨rfl, rfl⟩ := twoI _ _ rfl rfl
    cases hz
    exact ⟨_, _, rfl, rfl, fin_int s hq⟩
  | fdiv =>
    unfold binD at hz
    split at hz <;> try (cases hz; done)
    all_goals first | cases ‹Op.fdiv = _›; done | skip
    obtain ⟨rfl, rfl⟩ := twoI _ _ rfl rfl
    split at hz <;> cases hz
    exact ⟨_, _, rfl, rfl, by assumption, fin_int s hq⟩
  | mod =>
    unfold binD at hz
    split at hz <;> try (cases hz; done)
    all_goals first | cases ‹Op.mod = _›; done | skip
    obtain ⟨rfl, rfl⟩ := twoI _ _ rfl rfl
    split at hz <;> cases hz
    exact ⟨_, _, rfl, rfl, by assumption, fin_int s hq⟩
  | pow =>
    unfold binD at hz
    split at hz <;> try (cases hz; done)
    all_goals first | cases ‹Op.pow = _›; done | skip
    obtain ⟨rfl, rfl⟩ := twoI _ _ rfl rfl
    split at hz <;> cases hz
    exact ⟨_, _, rfl, rfl, by assumption, fin_int s hq⟩
  | shl =>
    unfold binD at hz
    split at hz <;> try (cases hz; done)
    all_goals first | cases ‹Op.shl = _›; done | skip
    obtain ⟨rfl, rfl⟩ := twoI _ _ rfl rfl
    split at hz <;> cases hz
    exact ⟨_, _, rfl, rfl, by assumption, fin_int s hq⟩
  | shr =>
    unfold binD at hz
    split at hz <;> try (cases hz; done)
    all_goals first | cases ‹Op.shr = _›; done | skip
    obtain ⟨rfl, rfl⟩ := twoI _ _ rfl rfl
    split at hz <;> cases hz
    exact ⟨_, _, rfl, rfl, by assumption, fin_int s hq⟩
end
end PyV
set_option Elab.async false
set_option linter.all false
set_option maxRecDepth 100000
set_option maxHeartbeats 2000000
namespace PyV
open PySem PySem.Spec PyProof.Rows L2

section
variable {κ : Kx} {io : Nat → V → Prop} {W : WX} {σ : L2.St} {H : Hp} {δ : Ss} {τ ρ : List En} {X : Cx} {a' b' c' d' : Expr} {pos : Pos} {Q : VK} {T : Tab}
theorem SR.slot (s : SR κ io σ H δ τ) {i : Nat} {x : Sl} (hx : sl? δ i = x) (ne : x ≠ .emp) : ∃ v, σ[i]? = some (some v) ∧ (some v, x) ∈ σ.zip δ := by
  have hlt : i < δ.length := by
    rcases Nat.lt_or_ge i δ.length with q | q
    · exact q
    · exact absurd (by rw [← hx]; simp [List.getD, List.getElem?_eq_none q]) ne
  have hls : i < σ.length := by rw [s.len]; exact hlt
  have mem : (σ[i], x) ∈ σ.zip δ := by
    refine List.mem_of_getElem? (i := i) ?_
    rw [List.getElem?_zip_eq_some]
    refine ⟨by simp, ?_⟩
    rw [← hx]
    simp [hlt]
  obtain ⟨f, rf⟩ := s.rel
  have e := rf.ent _ (List.mem_append_left τ mem)
  cases x with
  | emp => exact absurd rfl ne
  | val d =>
    obtain ⟨v, e1, _⟩ := e
    have e1 : σ[i] = some v := e1
    exact ⟨v, by rw [← e1]; simp, by rw [← e1]; exact mem⟩
  | own d =>
    obtain ⟨a, e1, _⟩ := e
    have e1 : σ[i] = some (.ref a) := e1
    exact ⟨.ref a, by rw [← e1]; simp, by rw [← e1]; exact mem⟩
theorem snd_var {i : Nat} {x : Str} (hN : X.N[i]? = some x) (hv : Vis X.env.scope x) (hd : (x == ("__debug__" : Str)) = false) (hc : (x == ("__classdict__" : Str)) = false) {p : Option Nat} :
    PE X (.Name x pos) (tD κ io W (evE T p (.var i))) := by
  refine PE.imp (pe_var hN hv hd hc) fun σ H Q ⟨δ, τ, s, h⟩ => ?_
  simp only [evE] at h
  cases q : sl? δ i with
  | emp => rw [q] at h; exact h.elim
  | val d =>
    rw [q] at h
    obtain ⟨v, e, m⟩ := s.slot q (by simp)
    refine ⟨v, e, h v H ?_ (fun i e => nomatch e)⟩
    exact ⟨s.len, (s.rel.dup (List.mem_append_left _ m)).perm List.perm_middle.symm, s.io⟩
  | own d =>
    rw [q] at h
    obtain ⟨v, e, m⟩ := s.slot q (by simp)
    refine ⟨v, e, h v H (s.push fun L r => r.emp) fun j e2 => ?_⟩
    cases e2
    exact e
theorem snd_non {p : Option Nat} {j : Nat} : PE X (.Constant .none j pos) (tD κ io W (evE T p .non)) :=
  PE.imp pe_non fun σ H Q ⟨δ, τ, s, h⟩ => fin_scal s h fun _ => .non
theorem snd_bl {p : Option Nat} {j : Nat} {b : Bool} : PE X (.Constant (.bool b) j pos) (tD κ io W (evE T p (.bl b))) :=
  PE.imp pe_bl fun σ H Q ⟨δ, τ, s, h⟩ => fin_scal s h fun _ => .bl b
theorem snd_int {p : Option Nat} {j : Nat} {b : Int} : PE X (.Constant (.int b) j pos) (tD κ io W (evE T p (.int b))) :=
  PE.imp pe_int fun σ H Q ⟨δ, τ, s, h⟩ => fin_scal s h fun _ => .int b
theorem snd_str {p : Option Nat} {j : Nat} {x : Str} {z : List Nat} (e : x.cps.toList = z) (ok : ∀ c ∈ z, c < 1114112) : PE X (.Constant (.str x) j pos) (tD κ io W (evE T p (.str z))) := by
  refine PE.imp pe_str fun σ H Q ⟨δ, τ, s, h⟩ => ?_
  have ex : x = ⟨z.toArray⟩ := by
    cases x
    simp at e
    subst e
    simp
  rw [ex]
  exact fin_scal s h fun _ => .str z ok
theorem snd_glb {p : Option Nat} {g : Nat} {x : Str} {v : V} {u : Value} (hg : Gl X x) (hm : X.mg x = some u) (r : RelV v u) (q : ∀ f, Rep κ f v (T.gl g)) (hd : (x == ("__debug__" : Str)) = false) :
    PE X (.Name x pos) (tD κ io W (evE T p (.glb g))) :=
  PE.imp (pe_glob hg hm r hd) fun σ H Q ⟨δ, τ, s, h⟩ => fin_scal s h q
theorem snd_bin {p : Option Nat} {o : Op} {a b : E} (hK : X.K = κ.K) (ha : PE X a' (tD κ io W (evE T p a))) (hb : PE X b' (tD κ io W (evE T p b))) : PE X (.BinOp a' (opP o) b' pos) (tD κ io W (evE T p (.bin o a b))) := by
  refine PE.imp (pe_op (op_bin o) ha hb) fun σ H Q ⟨δ, τ, s, h⟩ => ?_
  simp only [evE] at h
  refine seqD (ρ := []) h s fun r δ1 v H1 s1 a1 h1 => seqD (ρ := [ent r v]) h1 s1 fun r2 δ2 v2 H2 s2 a2 h2 => ?_
  split at h2
  · rename_i d e hd he
    split at h2
    · rename_i z hz
      obtain ⟨f, rf⟩ := s2.rel
      have x1 := s2.read (by simp [ent]) a1 hd rf
      have x2 := s2.read (by simp [ent]) a2 he rf
      have s3 := s2.tl.tl
      exact bin_use hK.symm s3.len s3.io (rf.sub (List.Sublist.append_left (by simp) _)) x1 x2 hz h2
    · exact h2.elim
  · exact h2.elim
theorem snd_neg {p : Option Nat} {a : E} (ha : PE X a' (tD κ io W (evE T p a))) : PE X (.UnaryOp .USub a' pos) (tD κ io W (evE T p (.neg a))) := by
  refine PE.imp (pe_un un_neg ha) fun σ H Q ⟨δ, τ, s, h⟩ => ?_
  simp only [evE] at h
  refine seqD (ρ := []) h s fun r δ1 v H1 s1 a1 h1 => ?_
  split at h1
  · rename_i i
    obtain ⟨f, rf⟩ := s1.rel
    obtain ⟨v', e1, q⟩ := rf.at (ov := some v) (d := .int i) (by simp [ent, slotOf])
    cases e1
    obtain rfl := rep_int q
    exact ⟨i, rfl, fin_int s1.tl h1⟩
  · exact h1.elim
theorem SR.top {v : V} {d : D} (s : SR κ io σ H δ (ent (.val d) v :: τ)) : ∃ f, Same f H ∧ Rep κ f v d := by
  obtain ⟨f, rf⟩ := s.rel
  obtain ⟨v', e1, q⟩ := rf.at (ov := some v) (d := d) (by simp [ent, slotOf])
  cases e1
  exact ⟨f, rf.same, q⟩
theorem SR.topI {v : V} {i : Int} (s : SR κ io σ H δ (ent (.val (.int i)) v :: τ)) : v = .int i := let ⟨_, _, q⟩ := s.top; rep_int q
theorem SR.topB {v : V} {i : Bool} (s : SR κ io σ H δ (ent (.val (.bl i)) v :: τ)) : v = .bl i := let ⟨_, _, q⟩ := s.top; rep_bl q

theorem snd_test {p : Option Nat} {a : E} (ha : PE X a' (tD κ io W (evE T p a))) (he : ∀ whole, isTrue a' X.env whole = (do let v ← whole; standAt a'.pos; holding [v] (truthy v))) :
    PT X a' (tDT κ io W fun s => tstR (evE T p a s)) := by
  refine PT.imp (pt_val ha he) fun σ H Q ⟨δ, τ, s, h⟩ => ?_
  simp only [tstR] at h
  refine seqD (ρ := []) h s fun r δ1 v H1 s1 a1 h1 => ?_
  split at h1
  · rename_i b
    obtain rfl := s1.topB
    exact ⟨b, rfl, h1 H1 s1.tl⟩
  · exact h1.elim
theorem tst_and {p : Option Nat} {a b : E} {s : Ss} : tstR (evE T p (.and a b) s) = (tstR (evE T p a s)).bind fun k s1 => if k = true then tstR (evE T p b s1) else .ok false s1 := by
  simp only [tstR, evE]
  cases evE T p a s with
  | bad => rfl
  | ex x s => rfl
  | ok r s1 =>
    simp only [R.bind]
    cases r with
    | val d =>
      cases d with
      | bl k =>
        cases k with
        | true =>
          simp only [R.bind, if_true]
          cases evE T p b s1 with
          | bad => rfl
          | ex x s => rfl
          | ok r s1 =>
            simp only [R.bind]
            cases r with
            | val d => cases d <;> rfl
            | own d => rfl
            | ali i => rfl
        | false => rfl
      | _ => rfl
    | _ => rfl
theorem tst_or {p : Option Nat} {a b : E} {s : Ss} : tstR (evE T p (.or a b) s) = (tstR (evE T p a s)).bind fun k s1 => if k = true then .ok true s1 else tstR (evE T p b s1) := by
  simp only [tstR, evE]
  cases evE T p a s with
  | bad => rfl
  | ex x s => rfl
  | ok r s1 =>
    simp only [R.bind]
    cases r with
    | val d =>
      cases d with
      | bl k =>
        cases k with
        | false =>
          simp only [R.bind]
          cases evE T p b s1 with
          | bad => rfl
          | ex x s => rfl
          | ok r s1 =>
            simp only [R.bind]
            cases r with
            | val d => cases d <;> rfl
            | own d => rfl
            | ali i => rfl
        | true => rfl
      | _ => rfl
    | _ => rfl
theorem tst_not {p : Option Nat} {a : E} {s : Ss} : tstR (evE T p (.not a) s) = (tstR (evE T p a s)).bind fun k s1 => .ok (!k) s1 := by
  simp only [tstR, evE]
  cases evE T p a s with
  | bad => rfl
  | ex x s => rfl
  | ok r s1 =>
    simp only [R.bind]
    cases r with
    | val d => cases d <;> rfl
    | _ => rfl
theorem sndT_and {p : Option Nat} {a b : E} {rest : List Expr} (ha : PT X a' (tDT κ io W fun s => tstR (evE T p a s))) (hb : PW X (.BoolOp .And (b' :: rest) pos) (tDT κ io W fun s => tstR (evE T p b s))) :
    PW X (.BoolOp .And (a' :: b' :: rest) pos) (tDT κ io W fun s => tstR (evE T p (.and a b) s)) := by
  refine PW.imp (pw_and ha hb) fun σ H Q ⟨δ, τ, s, h⟩ => ?_
  simp only [tst_and] at h
  refine seqT (den := fun s => tstR (evE T p a s)) (ρ := []) h s fun k δ1 H1 s1 h1 => ?_
  cases k with
  | true => exact ⟨δ1, τ, s1, h1⟩
  | false => exact h1 H1 s1
theorem sndT_or {p : Option Nat} {a b : E} {rest : List Expr} (ha : PT X a' (tDT κ io W fun s => tstR (evE T p a s))) (hb : PW X (.BoolOp .Or (b' :: rest) pos) (tDT κ io W fun s => tstR (evE T p b s))) :
    PW X (.BoolOp .Or (a' :: b' :: rest) pos) (tDT κ io W fun s => tstR (evE T p (.or a b) s)) := by
  refine PW.imp (pw_or ha hb) fun σ H Q ⟨δ, τ, s, h⟩ => ?_
  simp only [tst_or] at h
  refine seqT (den := fun s => tstR (evE T p a s)) (ρ := []) h s fun k δ1 H1 s1 h1 => ?_
  cases k with
  | false => exact ⟨δ1, τ, s1, h1⟩
  | true => exact h1 H1 s1
theorem sndT_not {p : Option Nat} {a : E} (ha : PT X a' (tDT κ io W fun s => tstR (evE T p a s))) : PT X (.UnaryOp .Not a' pos) (tDT κ io W fun s => tstR (evE T p (.not a) s)) := by
  refine PT.imp (pt_not ha) fun σ H Q ⟨δ, τ, s, h⟩ => ?_
  simp only [tst_not] at h
  exact seqT (den := fun s => tstR (evE T p a s)) (ρ := []) h s fun k δ1 H1 s1 h1 => h1 H1 s1
theorem snd_and {p : Option Nat} {a b : E} {rest : List Expr} (ha : PE X a' (tD κ io W (evE T p a))) (hb : PE X (.BoolOp .And (b' :: rest) pos) (tD κ io W (evE T p b))) :
    PE X (.BoolOp .And (a' :: b' :: rest) pos) (tD κ io W (evE T p (.and a b))) := by
  refine PE.imp (pe_and ha hb) fun σ H Q ⟨δ, τ, s, h⟩ => ?_
  simp only [evE] at h
  refine seqD (ρ := []) h s fun r δ1 v H1 s1 a1 h1 => ?_
  split at h1
  · obtain rfl := s1.topB
    refine ⟨true, rfl, ?_⟩
    rw [if_pos rfl]
    refine seqD (ρ := []) h1 s1.tl fun r2 δ2 v2 H2 s2 a2 h2 => ?_
    split at h2
    · exact h2 _ _ s2 (fun i e => nomatch e)
    · exact h2.elim
  · obtain rfl := s1.topB
    refine ⟨false, rfl, ?_⟩
    rw [if_neg Bool.false_ne_true]
    exact fin_bl s1.tl h1
  · exact h1.elim
theorem snd_or {p : Option Nat} {a b : E} {rest : List Expr} (ha : PE X a' (tD κ io W (evE T p a))) (hb : PE X (.BoolOp .Or (b' :: rest) pos) (tD κ io W (evE T p b))) :
    PE X (.BoolOp .Or (a' :: b' :: rest) pos) (tD κ io W (evE T p (.or a b))) := by
  refine PE.imp (pe_or ha hb) fun σ H Q ⟨δ, τ, s, h⟩ => ?_
  simp only [evE] at h
  refine seqD (ρ := []) h s fun r δ1 v H1 s1 a1 h1 => ?_
  split at h1
  · obtain rfl := s1.topB
    refine ⟨false, rfl, ?_⟩
    rw [if_neg Bool.false_ne_true]
    refine seqD (ρ := []) h1 s1.tl fun r2 δ2 v2 H2 s2 a2 h2 => ?_
    split at h2
    · exact h2 _ _ s2 (fun i e => nomatch e)
    · exact h2.elim
  · obtain rfl := s1.topB
    refine ⟨true, rfl, ?_⟩
    rw [if_pos rfl]
    exact fin_bl s1.tl h1
  · exact h1.elim
theorem snd_not {p : Option Nat} {a : E} (ha : PE X a' (tD κ io W (evE T p a))) : PE X (.UnaryOp .Not a' pos) (tD κ io W (evE T p (.not a))) := by
  refine PE.imp (pe_not ha) fun σ H Q ⟨δ, τ, s, h⟩ => ?_
  simp only [evE] at h
  refine seqD (ρ := []) h s fun r δ1 v H1 s1 a1 h1 => ?_
  split at h1
  · obtain rfl := s1.topB
    exact ⟨_, rfl, fin_bl s1.tl h1⟩
  · exact h1.elim
theorem ite_tst {p : Option Nat} {c a b : E} {s : Ss} : evE T p (.ite c a b) s = (tstR (evE T p c s)).bind fun k s1 => if k = true then evE T p a s1 else evE T p b s1 := by
  simp only [tstR, evE]
  cases evE T p c s with
  | bad => rfl
  | ex x s => rfl
  | ok r s1 =>
    simp only [R.bind]
    cases r with
    | val d =>
      cases d with
      | bl k => cases k <;> rfl
      | _ => rfl
    | _ => rfl
theorem snd_ite {p : Option Nat} {c a b : E} (hc : PT X c' (tDT κ io W fun s => tstR (evE T p c s))) (ha : PE X a' (tD κ io W (evE T p a))) (hb : PE X b' (tD κ io W (evE T p b))) :
    PE X (.IfExp c' a' b' pos) (tD κ io W (evE T p (.ite c a b))) := by
  refine PE.imp (pe_ifExp hc ha hb) fun σ H Q ⟨δ, τ, s, h⟩ => ?_
  rw [ite_tst] at h
  refine seqT (den := fun s => tstR (evE T p c s)) (ρ := []) h s fun k δ1 H1 s1 h1 => ?_
  cases k with
  | true => exact ⟨δ1, τ, s1, h1⟩
  | false => exact ⟨δ1, τ, s1, h1⟩
theorem snd_itt {p : Option Nat} {c a b : E} (hc : PE X c' (tD κ io W (evE T p c))) (he : ∀ whole, isTrue c' X.env whole = (do let v ← whole; standAt c'.pos; holding [v] (truthy v))) (ha : PE X a' (tD κ io W (evE T p a))) (hb : PE X b' (tD κ io W (evE T p b))) :
    PE X (.IfExp c' a' b' pos) (tD κ io W (evE T p (.itt c a b))) := by
  refine PE.imp (pe_ifExp (pt_truth hc he) ha hb) fun σ H Q ⟨δ, τ, s, h⟩ => ?_
  simp only [evE] at h
  refine seqD (ρ := []) h s fun r δ1 v H1 s1 a1 h1 => ?_
  split at h1
  · obtain rfl := s1.topI
    rename_i i
    refine ⟨!(i == 0), by first | rfl | exact Or.inl rfl | simp [TruV], ?_⟩
    have s2 := s1.tl
    by_cases hi : i = 0
    · rw [if_pos hi] at h1
      subst hi
      exact ⟨δ1, τ, s2, h1⟩
    · rw [if_neg hi] at h1
      have : (!(i == 0)) = true := by simp [hi]
      rw [this]
      exact ⟨δ1, τ, s2, h1⟩
  · exact h1.elim
end
end PyV
set_option Elab.async false
set_option linter.all false
set_option maxRecDepth 100000
set_option maxHeartbeats 2000000
namespace PyV
open PySem PySem.Spec PyProof.Rows L2

section
variable {κ : Kx} {H : Hp}
theorem strOk_of {s : List Nat} (ok : ∀ c ∈ s, c < 1114112) : PyData.strOk ⟨s.toArray⟩ = true := by
  unfold PyData.strOk
  rw [Array.all_eq_true']
  intro x hx
  simpa using ok x (by simpa using hx)
mutual
theorem Rep.dp : ∀ {n : Nat} {v : V} {d : D}, Rep κ H v d → ck n d = true → Dp κ.K H v d.py ∧ d.py.canLay0 = true ∧ d.py.depth ≤ n
  | _, _, _, .non, _ => ⟨.non, rfl, Nat.zero_le _⟩
  | _, _, _, .bl b, _ => ⟨.bl b, rfl, Nat.zero_le _⟩
  | _, _, _, .int b, _ => ⟨.int b, rfl, Nat.zero_le _⟩
  | _, _, _, .str s ok, _ => ⟨.str _, strOk_of ok, Nat.zero_le _⟩
  | 0, _, _, .lst _ _, h => by simp [ck] at h
  | 0, _, _, .tup _ _, h => by simp [ck] at h
  | n + 1, _, _, .lst q r, h => by
    obtain ⟨a, b, c⟩ := Reps.dp (n := n) r (by simpa [ck] using h)
    exact ⟨.lst q.sq a, b, Nat.succ_le_succ c⟩
  | n + 1, _, _, .tup q r, h => by
    obtain ⟨a, b, c⟩ := Reps.dp (n := n) r (by simpa [ck] using h)
    exact ⟨.tup q a, b, Nat.succ_le_succ c⟩
  | 0, _, _, .obj _ _ _ _, h => by simp [ck] at h
  | n + 1, _, _, .obj _ _ _ _, h => by simp [ck] at h
  | 0, _, _, .dct _ _ _ _ _ _, h => by simp [ck] at h
  | n + 1, _, _, .dct _ _ _ _ _ _, h => by simp [ck] at h
  | 0, _, _, .exc _ _ _ _ _, h => by simp [ck] at h
  | n + 1, _, _, .exc _ _ _ _ _, h => by simp [ck] at h
  | 0, _, _, .gho _, h => by simp [ck] at h
  | n + 1, _, _, .gho _, h => by simp [ck] at h
theorem Reps.dp : ∀ {n : Nat} {vs : List V} {ds : List D}, Reps κ H vs ds → (∀ d ∈ ds, ck n d = true) → DpAll κ.K H vs (D.pys ds) ∧ PyData.canLayAll0 (D.pys ds) = true ∧ PyData.depthAll (D.pys ds) ≤ n
  | _, _, _, .nil, _ => ⟨.nil, rfl, Nat.zero_le _⟩
  | n, _, _, .cons r t, h => by
    obtain ⟨a, b, c⟩ := Rep.dp r (h _ List.mem_cons_self)
    obtain ⟨a', b', c'⟩ := Reps.dp t fun d hd => h d (List.mem_cons_of_mem _ hd)
    refine ⟨.cons a a', ?_, Nat.max_le.mpr ⟨c, c'⟩⟩
    show (PyData.canLay0 _ && PyData.canLayAll0 _) = true
    rw [b, b']
    rfl
end
theorem Rep.shaped {v : V} {d : D} (r : Rep κ H v d) (h : ck 8 d = true) : Dp κ.K H v d.py ∧ SeqAt.shaped d.py = true := by
  obtain ⟨a, b, c⟩ := r.dp h
  refine ⟨a, ?_⟩
  unfold SeqAt.shaped
  rw [b, decide_eq_true (by omega)]
  rfl
theorem Rep.flatV {v : V} {d : D} (r : Rep κ H v d) (h : flat d = true) : L2.flatV v = true := by
  cases r <;> first | rfl | (simp [flat] at h; done)
theorem Rep.eqV {v w : V} {d e : D} (r : Rep κ H v d) (q : Rep κ H w e) (h : flat d = true) (h' : flat e = true) : L2.eqV v w = eqD d e := by
  cases r <;> cases q <;> first | (simp [flat] at h h'; done) | simp [L2.eqV, eqD, D.py, PyData.eqv]
theorem Reps.inV {w : V} {e : D} (q : Rep κ H w e) (h' : flat e = true) : ∀ {vs : List V} {ds : List D}, Reps κ H vs ds → ds.all flat = true → L2.inV w vs = inD e ds ∧ vs.all L2.flatV = true
  | _, _, .nil, _ => ⟨rfl, rfl⟩
  | _, _, .cons r t, h => by
    rw [List.all_cons, Bool.and_eq_true] at h
    obtain ⟨a, b⟩ := Reps.inV q h' t h.2
    unfold L2.inV inD at a ⊢
    rw [List.any_cons, List.any_cons, List.all_cons, a, b, r.eqV q h.1 h', r.flatV h.1]
    exact ⟨rfl, rfl⟩
end
def coP : Co → CmpOp
  | .eq => .Eq | .ne => .NotEq | .lt => .Lt | .le => .LtE | .gt => .Gt | .ge => .GtE | .inn => .In | .nin => .NotIn
def rCmp (K : PySem.W.Frag) : Co → R2
  | .eq => rEqD K
  | .ne => rNeD K
  | .lt => rI0 fun i j => .bl (decide (i < j))
  | .le => rI0 fun i j => .bl (decide (i ≤ j))
  | .gt => rI0 fun i j => .bl (decide (j < i))
  | .ge => rI0 fun i j => .bl (decide (j ≤ i))
  | .inn => fun x y H Q => rIn K false x y H Q ∨ ∃ (c : Nat) (z : Str), x = .str ⟨#[c]⟩ ∧ y = .str z ∧ Q (.bl (decide (c ∈ z.cps.toList))) H
  | .nin => rIn K true
theorem op_cmp {X : Cx} (hu : X.A.units + 64 < cLine) (o : Co) : OpR X (compareOp (coP o)) (rCmp X.K o) := by
  cases o with
  | eq => exact op_eqD hu
  | ne => exact op_neD hu
  | lt => exact op_lt
  | le => exact op_le
  | gt => exact op_gt
  | ge => exact op_ge
  | inn => exact OpR.or op_in_seq op_in_sign
  | nin => exact op_notIn_seq
theorem cmp_use {κ : Kx} {K : PySem.W.Frag} (hK : κ.K = K) {H : Hp} {o : Co} {x y : V} {d e : D} {z : Bool} {Q : VK} (kx : Rep κ H x d) (ky : Rep κ H y e) (hz : cmpD o d e = some z) (hq : Q (.bl z) H) : rCmp K o x y H Q := by
  subst hK
  have twoI : ∀ i j, d = .int i → e = .int j → x = .int i ∧ y = .int j := fun i j e1 e2 => by
    subst e1 e2
    exact ⟨rep_int kx, rep_int ky⟩
  cases o with
  | eq =>
    simp only [cmpD] at hz
    split at hz <;> cases hz
    rename_i h
    obtain ⟨a1, b1⟩ := kx.shaped h.1
    obtain ⟨a2, b2⟩ := ky.shaped h.2
    exact ⟨_, _, a1, a2, b1, b2, hq⟩
  | ne =>
    simp only [cmpD] at hz
    split at hz <;> cases hz
    rename_i h
    obtain ⟨a1, b1⟩ := kx.shaped h.1
    obtain ⟨a2, b2⟩ := ky.shaped h.2
    exact ⟨_, _, a1, a2, b1, b2, hq⟩
  | lt =>
    unfold cmpD at hz
    split at hz <;> try (cases hz; done)
    all_goals first | cases ‹Co.lt = _›; done | skip
    obtain ⟨rfl, rfl⟩ := twoI _ _ rfl rfl
    cases hz
    exact ⟨_, _, rfl, rfl, hq⟩
  | le =>
    unfold cmpD at hz
    split at hz <;> try (cases hz; done)
    all_goals first | cases ‹Co.le = _›; done | skip
    obtain ⟨rfl, rfl⟩ := twoI _ _ rfl rfl
    cases hz
    exact ⟨_, _, rfl, rfl, hq⟩
  | gt =>
    unfold cmpD at hz
    split at hz <;> try (cases hz; done)
    all_goals first | cases ‹Co.gt = _›; done | skip
    obtain ⟨rfl, rfl⟩ := twoI _ _ rfl rfl
    cases hz
    exact ⟨_, _, rfl, rfl, hq⟩
  | ge =>
    unfold cmpD at hz
    split at hz <;> try (cases hz; done)
    all_goals first | cases ‹Co.ge = _›; done | skip
    obtain ⟨rfl, rfl⟩ := twoI _ _ rfl rfl
    cases hz
    exact ⟨_, _, rfl, rfl, hq⟩
  | inn =>
    unfold cmpD at hz
    split at hz <;> try (cases hz; done)
    all_goals first | cases ‹Co.inn = _›; done | skip
    · split at hz <;> cases hz
      rename_i h
      cases ky with
      | lst q r =>
        obtain ⟨a, b⟩ := r.inV kx h.1 h.2
        exact .inl ⟨_, _, rfl, .inl q.sq, kx.flatV h.1, b, by rw [if_neg Bool.false_ne_true, a]; exact hq⟩
    · split at hz <;> cases hz
      rename_i h
      cases ky with
      | tup q r =>
        obtain ⟨a, b⟩ := r.inV kx h.1 h.2
        exact .inl ⟨_, _, rfl, .inr q, kx.flatV h.1, b, by rw [if_neg Bool.false_ne_true, a]; exact hq⟩
    · cases hz
      obtain ⟨rfl, _⟩ := rep_str kx
      obtain ⟨rfl, _⟩ := rep_str ky
      exact .inr ⟨_, _, rfl, rfl, by simpa using hq⟩
  | nin =>
    unfold cmpD at hz
    split at hz <;> try (cases hz; done)
    all_goals first | cases ‹Co.nin = _›; done | skip
    · split at hz <;> cases hz
      rename_i h
      cases ky with
      | lst q r =>
        obtain ⟨a, b⟩ := r.inV kx h.1 h.2
        exact ⟨_, _, rfl, .inl q.sq, kx.flatV h.1, b, by rw [if_pos rfl, a]; exact hq⟩
    · split at hz <;> cases hz
      rename_i h
      cases ky with
      | tup q r =>
        obtain ⟨a, b⟩ := r.inV kx h.1 h.2
        exact ⟨_, _, rfl, .inr q, kx.flatV h.1, b, by rw [if_pos rfl, a]; exact hq⟩
def noSet : Expr → Bool
  | .Set _ _ _ => false
  | _ => true
theorem noSet_mark {op : CmpOp} {b : Expr} (h : noSet b = true) : behindInMarks op b = false := by
  cases b <;> first | rfl | (simp [noSet] at h; done)

section
variable {κ : Kx} {io : Nat → V → Prop} {W : WX} {σ : L2.St} {H : Hp} {δ : Ss} {τ ρ : List En} {X : Cx} {a' b' c' d' : Expr} {pos : Pos} {Q : VK} {T : Tab}
theorem isn_read {p : Option Nat} {a : E} : ∀ σ H Q, tD κ io W (evE T p (.isn a)) σ H Q → tIsN (tD κ io W (evE T p a)) σ H Q := fun σ H Q ⟨δ, τ, s, h⟩ => by
  simp only [evE] at h
  refine seqD (ρ := []) h s fun r δ1 v H1 s1 a1 h1 => ?_
  obtain ⟨f, rf⟩ := s1.rel
  split at h1
  · rename_i hd
    have q := rep_of rf.same (s1.read (by simp [ent]) a1 hd rf)
    cases q
    exact fin_bl s1.tl h1
  · rename_i d ne hd
    have q := rep_of rf.same (s1.read (by simp [ent]) a1 hd rf)
    have e : decide (v = .non) = false := decide_eq_false fun z => by
      subst z
      cases q
      exact ne rfl
    rw [e]
    exact fin_bl s1.tl h1
  · exact h1.elim
theorem snd_isn {p : Option Nat} {a : E} {j : Nat} {pos' : Pos} (ha : PE X a' (tD κ io W (evE T p a))) : PE X (.Compare a' [.Is] [.Constant .none j pos'] pos) (tD κ io W (evE T p (.isn a))) := PE.imp (pe_cmp (pc_isN ha)) isn_read
theorem nsn_read {p : Option Nat} {a : E} : ∀ σ H Q, tD κ io W (evE T p (.nsn a)) σ H Q → tNotN (tD κ io W (evE T p a)) σ H Q := fun σ H Q ⟨δ, τ, s, h⟩ => by
  simp only [evE] at h
  refine seqD (ρ := []) h s fun r δ1 v H1 s1 a1 h1 => ?_
  obtain ⟨f, rf⟩ := s1.rel
  split at h1
  · rename_i hd
    have q := rep_of rf.same (s1.read (by simp [ent]) a1 hd rf)
    cases q
    exact fin_bl s1.tl h1
  · rename_i d ne hd
    have q := rep_of rf.same (s1.read (by simp [ent]) a1 hd rf)
    have e : decide (v = .non) = false := decide_eq_false fun z => by
      subst z
      cases q
      exact ne rfl
    rw [e]
    exact fin_bl s1.tl h1
  · exact h1.elim
theorem snd_nsn {p : Option Nat} {a : E} {j : Nat} {pos' : Pos} (ha : PE X a' (tD κ io W (evE T p a))) : PE X (.Compare a' [.IsNot] [.Constant .none j pos'] pos) (tD κ io W (evE T p (.nsn a))) := PE.imp (pe_cmp (pc_notN ha)) nsn_read
def t3 (r1 r2 r3 : R2) (ta tb tc td : TE) : TE := fun σ H Q => ta σ H fun x H1 => tb σ H1 fun y H2 => r1 x y H2 fun z H3 => ∃ k, z = .bl k ∧ (if k = true then tc σ H3 fun w H4 => r2 y w H4 fun z' H5 => ∃ k', z' = .bl k' ∧
  (if k' = true then td σ H5 fun u H6 => r3 w u H6 Q else Q (.bl false) H5) else Q (.bl false) H3)
theorem pe_chain3 {o1 o2 o3 : CmpOp} {r1 r2 r3 : R2} {ta tb tc td : TE} (h1 : OpR X (compareOp o1) r1) (h2 : OpR X (compareOp o2) r2) (h3 : OpR X (compareOp o3) r3) (ha : PE X a' ta) (hb : PE X b' tb) (hc : PE X c' tc) (hd : PE X d' td)
    (hm : lastMarks [o1, o2, o3] [b', c', d'] = false) : PE X (.Compare a' [o1, o2, o3] [b', c', d'] pos) (t3 r1 r2 r3 ta tb tc td) := by
  refine ⟨fun pins s σ H Q I h => ?_⟩
  refine Compare_chain (thn (ha.run pins s σ H _ I h) fun v s1 ⟨x, H1, I1, r1', q1⟩ => chain_link (thn (hb.run pins s1 σ H1 _ I1 q1) fun u s2 ⟨y, H2, I2, r2', q2⟩ =>
    thn (h1 pins s2 σ H2 x y v u _ I2 r1' r2' q2) fun d s3 ⟨z, H3, I3, r3', k, e, q3⟩ => ?_)) hm
  subst e
  cases r3'
  refine wpAny_truthy_bool ?_
  cases k with
  | false => exact ite_ff ⟨.bl false, H3, I3, rfl, by simpa using q3⟩
  | true =>
    rw [if_pos rfl] at q3
    refine ite_tt (chain_link (thn (hc.run pins s3 σ H3 _ I3 q3) fun w s4 ⟨y2, H4, I4, r4', q4⟩ => thn (h2 pins s4 σ H4 y y2 u w _ I4 r2' r4' q4) fun d2 s5 ⟨z2, H5, I5, r5', k2, e2, q5⟩ => ?_))
    subst e2
    cases r5'
    refine wpAny_truthy_bool ?_
    cases k2 with
    | false => exact ite_ff ⟨.bl false, H5, I5, rfl, by simpa using q5⟩
    | true =>
      rw [if_pos rfl] at q5
      exact ite_tt (chain_last (thn (hd.run pins s5 σ H5 _ I5 q5) fun w' s6 ⟨z', H6, I6, r6', q6⟩ => h3 pins s6 σ H6 y2 z' w w' Q I6 r4' r6' q6))
def t4 (r1 r2 r3 r4 : R2) (ta tb tc td te : TE) : TE := fun σ H Q => ta σ H fun x H1 => tb σ H1 fun y H2 => r1 x y H2 fun z H3 => ∃ k, z = .bl k ∧ (if k = true then tc σ H3 fun w H4 => r2 y w H4 fun z' H5 => ∃ k', z' = .bl k' ∧
  (if k' = true then td σ H5 fun u H6 => r3 w u H6 fun z'' H7 => ∃ k'', z'' = .bl k'' ∧ (if k'' = true then te σ H7 fun v H8 => r4 u v H8 Q else Q (.bl false) H7) else Q (.bl false) H5) else Q (.bl false) H3)
theorem pe_chain4 {f' : Expr} {o1 o2 o3 o4 : CmpOp} {r1 r2 r3 r4 : R2} {ta tb tc td te : TE} (h1 : OpR X (compareOp o1) r1) (h2 : OpR X (compareOp o2) r2) (h3 : OpR X (compareOp o3) r3) (h4 : OpR X (compareOp o4) r4) (ha : PE X a' ta) (hb : PE X b' tb) (hc : PE X c' tc) (hd : PE X d' td) (he : PE X f' te)
    (hm : lastMarks [o1, o2, o3, o4] [b', c', d', f'] = false) : PE X (.Compare a' [o1, o2, o3, o4] [b', c', d', f'] pos) (t4 r1 r2 r3 r4 ta tb tc td te) := by
  refine ⟨fun pins s σ H Q I h => ?_⟩
  refine Compare_chain (thn (ha.run pins s σ H _ I h) fun v s1 ⟨x, H1, I1, r1', q1⟩ => chain_link (thn (hb.run pins s1 σ H1 _ I1 q1) fun u s2 ⟨y, H2, I2, r2', q2⟩ =>
    thn (h1 pins s2 σ H2 x y v u _ I2 r1' r2' q2) fun d s3 ⟨z, H3, I3, r3', k, e, q3⟩ => ?_)) hm
  subst e
  cases r3'
  refine wpAny_truthy_bool ?_
  cases k with
  | false => exact ite_ff ⟨.bl false, H3, I3, rfl, by simpa using q3⟩
  | true =>
    rw [if_pos rfl] at q3
    refine ite_tt (chain_link (thn (hc.run pins s3 σ H3 _ I3 q3) fun w s4 ⟨y2, H4, I4, r4', q4⟩ => thn (h2 pins s4 σ H4 y y2 u w _ I4 r2' r4' q4) fun d2 s5 ⟨z2, H5, I5, r5', k2, e2, q5⟩ => ?_))
    subst e2
    cases r5'
    refine wpAny_truthy_bool ?_
    cases k2 with
    | false => exact ite_ff ⟨.bl false, H5, I5, rfl, by simpa using q5⟩
    | true =>
      rw [if_pos rfl] at q5
      refine ite_tt (chain_link (thn (hd.run pins s5 σ H5 _ I5 q5) fun w2 s6 ⟨y3, H6, I6, r6', q6⟩ => thn (h3 pins s6 σ H6 y2 y3 w w2 _ I6 r4' r6' q6) fun d3 s7 ⟨z3, H7, I7, r7', k3, e3, q7⟩ => ?_))
      subst e3
      cases r7'
      refine wpAny_truthy_bool ?_
      cases k3 with
      | false => exact ite_ff ⟨.bl false, H7, I7, rfl, by simpa using q7⟩
      | true =>
        rw [if_pos rfl] at q7
        exact ite_tt (chain_last (thn (he.run pins s7 σ H7 _ I7 q7) fun w' s8 ⟨z', H8, I8, r8', q8⟩ => h4 pins s8 σ H8 y3 z' w2 w' Q I8 r6' r8' q8))
theorem ch2_read {p : Option Nat} {o q : Co} {a b c : E} : ∀ σ H Q, tD κ io W (evE T p (.ch2 a o b q c)) σ H Q → tChain (rCmp κ.K o) (rCmp κ.K q) (tD κ io W (evE T p a)) (tD κ io W (evE T p b)) (tD κ io W (evE T p c)) σ H Q := fun σ H Q ⟨δ, τ, s, h⟩ => by
  simp only [evE] at h
  refine seqD (ρ := []) h s fun r δ1 v H1 s1 a1 h1 => seqD (ρ := [ent r v]) h1 s1 fun r2 δ2 v2 H2 s2 a2 h2 => ?_
  split at h2
  · rename_i d e
    obtain ⟨f, rf⟩ := s2.rel
    have x1 := rep_of rf.same (s2.read (δ := δ2) (r := .val d) (by simp [ent]) a1 rfl rf)
    have x2 := rep_of rf.same (s2.read (δ := δ2) (r := .val e) (by simp [ent]) a2 rfl rf)
    split at h2
    · rename_i hz
      refine cmp_use rfl x1 x2 hz ⟨true, rfl, ?_⟩
      rw [if_pos rfl]
      refine seqD (ρ := [ent (.val e) v2, ent (.val d) v]) h2 s2 fun r3 δ3 v3 H3 s3 a3 h3 => ?_
      split at h3
      · rename_i g
        obtain ⟨f3, rf3⟩ := s3.rel
        have y2 := rep_of rf3.same (s3.read (δ := δ3) (r := .val e) (v := v2) (by simp [ent]) a2 rfl rf3)
        have y3 := rep_of rf3.same (s3.read (δ := δ3) (r := .val g) (v := v3) (by simp [ent]) a3 rfl rf3)
        split at h3
        · rename_i k hk
          exact cmp_use rfl y2 y3 hk (fin_bl s3.tl.tl.tl h3)
        · exact h3.elim
      · exact h3.elim
    · rename_i hz
      refine cmp_use rfl x1 x2 hz ⟨false, rfl, ?_⟩
      rw [if_neg Bool.false_ne_true]
      exact fin_bl s2.tl.tl h2
    · exact h2.elim
  · exact h2.elim
theorem pt_chain3 {o1 o2 o3 : CmpOp} {r1 r2 r3 : R2} {ta tb tc td : TE} (h1 : OpR X (compareOp o1) r1) (h2 : OpR X (compareOp o2) r2) (h3 : OpR X (compareOp o3) r3) (ha : PE X a' ta) (hb : PE X b' tb) (hc : PE X c' tc) (hd : PE X d' td)
    (hm : lastMarks [o1, o2, o3] [b', c', d'] = false) : PT X (.Compare a' [o1, o2, o3] [b', c', d'] pos) (tTest (t3 r1 r2 r3 ta tb tc td)) := by
  refine ⟨fun pins s σ H Q I h => ?_⟩
  refine isTrue_chain (thn (ha.run pins s σ H _ I h) fun v s1 ⟨x, H1, I1, r1', q1⟩ => test_link (thn (hb.run pins s1 σ H1 _ I1 q1) fun u s2 ⟨y, H2, I2, r2', q2⟩ =>
    thn (h1 pins s2 σ H2 x y v u _ I2 r1' r2' q2) fun d s3 ⟨z, H3, I3, r3', k, e, q3⟩ => ?_)) hm
  subst e
  cases r3'
  refine wpAny_truthy_bool ?_
  cases k with
  | false =>
    obtain ⟨k', e', q'⟩ := q3
    cases e'
    exact ite_ff ⟨H3, I3, q'⟩
  | true =>
    rw [if_pos rfl] at q3
    refine ite_tt (test_link (thn (hc.run pins s3 σ H3 _ I3 q3) fun w s4 ⟨y2, H4, I4, r4', q4⟩ => thn (h2 pins s4 σ H4 y y2 u w _ I4 r2' r4' q4) fun d2 s5 ⟨z2, H5, I5, r5', k2, e2, q5⟩ => ?_))
    subst e2
    cases r5'
    refine wpAny_truthy_bool ?_
    cases k2 with
    | false =>
      obtain ⟨k', e', q'⟩ := q5
      cases e'
      exact ite_ff ⟨H5, I5, q'⟩
    | true =>
      rw [if_pos rfl] at q5
      refine ite_tt (test_last (thn (hd.run pins s5 σ H5 _ I5 q5) fun w' s6 ⟨z', H6, I6, r6', q6⟩ => thn (h3 pins s6 σ H6 y2 z' w w' _ I6 r4' r6' q6) fun d3 s7 ⟨z3, H7, I7, r7, k3, e3, q7⟩ => ?_))
      subst e3
      cases r7
      exact wpAny_truthy_bool ⟨H7, I7, q7⟩
theorem pt_chain4 {f' : Expr} {o1 o2 o3 o4 : CmpOp} {r1 r2 r3 r4 : R2} {ta tb tc td te : TE} (h1 : OpR X (compareOp o1) r1) (h2 : OpR X (compareOp o2) r2) (h3 : OpR X (compareOp o3) r3) (h4 : OpR X (compareOp o4) r4) (ha : PE X a' ta) (hb : PE X b' tb) (hc : PE X c' tc) (hd : PE X d' td) (he : PE X f' te)
    (hm : lastMarks [o1, o2, o3, o4] [b', c', d', f'] = false) : PT X (.Compare a' [o1, o2, o3, o4] [b', c', d', f'] pos) (tTest (t4 r1 r2 r3 r4 ta tb tc td te)) := by
  refine ⟨fun pins s σ H Q I h => ?_⟩
  refine isTrue_chain (thn (ha.run pins s σ H _ I h) fun v s1 ⟨x, H1, I1, r1', q1⟩ => test_link (thn (hb.run pins s1 σ H1 _ I1 q1) fun u s2 ⟨y, H2, I2, r2', q2⟩ =>
    thn (h1 pins s2 σ H2 x y v u _ I2 r1' r2' q2) fun d s3 ⟨z, H3, I3, r3', k, e, q3⟩ => ?_)) hm
  subst e
  cases r3'
  refine wpAny_truthy_bool ?_
  cases k with
  | false =>
    obtain ⟨k', e', q'⟩ := q3
    cases e'
    exact ite_ff ⟨H3, I3, q'⟩
  | true =>
    rw [if_pos rfl] at q3
    refine ite_tt (test_link (thn (hc.run pins s3 σ H3 _ I3 q3) fun w s4 ⟨y2, H4, I4, r4', q4⟩ => thn (h2 pins s4 σ H4 y y2 u w _ I4 r2' r4' q4) fun d2 s5 ⟨z2, H5, I5, r5', k2, e2, q5⟩ => ?_))
    subst e2
    cases r5'
    refine wpAny_truthy_bool ?_
    cases k2 with
    | false =>
      obtain ⟨k', e', q'⟩ := q5
      cases e'
      exact ite_ff ⟨H5, I5, q'⟩
    | true =>
      rw [if_pos rfl] at q5
      refine ite_tt (test_link (thn (hd.run pins s5 σ H5 _ I5 q5) fun w2 s6 ⟨y3, H6, I6, r6', q6⟩ => thn (h3 pins s6 σ H6 y2 y3 w w2 _ I6 r4' r6' q6) fun d3 s7 ⟨z3, H7, I7, r7', k3, e3, q7⟩ => ?_))
      subst e3
      cases r7'
      refine wpAny_truthy_bool ?_
      cases k3 with
      | false =>
        obtain ⟨k', e', q'⟩ := q7
        cases e'
        exact ite_ff ⟨H7, I7, q'⟩
      | true =>
        rw [if_pos rfl] at q7
        refine ite_tt (test_last (thn (he.run pins s7 σ H7 _ I7 q7) fun w' s8 ⟨z', H8, I8, r8', q8⟩ => thn (h4 pins s8 σ H8 y3 z' w2 w' _ I8 r6' r8' q8) fun d4 s9 ⟨z4, H9, I9, r9, k4, e4, q9⟩ => ?_))
        subst e4
        cases r9
        exact wpAny_truthy_bool ⟨H9, I9, q9⟩
theorem tst_D {den : Ss → R Rv} {σ : L2.St} {H : Hp} {Q : Bool → Hp → Prop} (h : tDT κ io W (fun s => tstR (den s)) σ H Q) : tD κ io W den σ H fun z H' => ∃ k, z = .bl k ∧ Q k H' := by
  obtain ⟨δ, τ, s, h⟩ := h
  simp only [tstR] at h
  refine seqD (ρ := []) h s fun r δ1 v H1 s1 a1 h1 => ?_
  split at h1
  · rename_i b
    exact ⟨b, s1.topB, h1 H1 s1.tl⟩
  · exact h1.elim
theorem sndT_isn {p : Option Nat} {a : E} {j : Nat} {pos' : Pos} (ha : PE X a' (tD κ io W (evE T p a))) : PT X (.Compare a' [.Is] [.Constant .none j pos'] pos) (tDT κ io W fun s => tstR (evE T p (.isn a) s)) := PT.imp (pt_cmp (pc_isN ha)) fun σ H Q h => isn_read σ H _ (tst_D h)
theorem sndT_nsn {p : Option Nat} {a : E} {j : Nat} {pos' : Pos} (ha : PE X a' (tD κ io W (evE T p a))) : PT X (.Compare a' [.IsNot] [.Constant .none j pos'] pos) (tDT κ io W fun s => tstR (evE T p (.nsn a) s)) := PT.imp (pt_cmp (pc_notN ha)) fun σ H Q h => nsn_read σ H _ (tst_D h)
theorem sndT_ch2 {p : Option Nat} {o q : Co} {a b c : E} (ho : OpR X (compareOp (coP o)) (rCmp κ.K o)) (hq : OpR X (compareOp (coP q)) (rCmp κ.K q)) (hm : noSet c' = true) (ha : PE X a' (tD κ io W (evE T p a))) (hb : PE X b' (tD κ io W (evE T p b)))
    (hc : PE X c' (tD κ io W (evE T p c))) : PT X (.Compare a' [coP o, coP q] [b', c'] pos) (tDT κ io W fun s => tstR (evE T p (.ch2 a o b q c) s)) := PT.imp (pt_chain ho hq ha hb hc (noSet_mark hm)) fun σ H Q h => ch2_read σ H _ (tst_D h)
theorem snd_ch2 {p : Option Nat} {o q : Co} {a b c : E} (ho : OpR X (compareOp (coP o)) (rCmp κ.K o)) (hq : OpR X (compareOp (coP q)) (rCmp κ.K q)) (hm : noSet c' = true) (ha : PE X a' (tD κ io W (evE T p a))) (hb : PE X b' (tD κ io W (evE T p b)))
    (hc : PE X c' (tD κ io W (evE T p c))) : PE X (.Compare a' [coP o, coP q] [b', c'] pos) (tD κ io W (evE T p (.ch2 a o b q c))) := PE.imp (pe_chain ho hq ha hb hc (noSet_mark hm)) ch2_read
theorem ch3_read {p : Option Nat} {o q t : Co} {a b c d : E} : ∀ σ H Q, tD κ io W (evE T p (.ch3 a o b q c t d)) σ H Q → t3 (rCmp κ.K o) (rCmp κ.K q) (rCmp κ.K t) (tD κ io W (evE T p a)) (tD κ io W (evE T p b)) (tD κ io W (evE T p c)) (tD κ io W (evE T p d)) σ H Q := fun σ H Q ⟨δ, τ, s, h⟩ => by
  simp only [evE] at h
  refine seqD (ρ := []) h s fun r δ1 v H1 s1 a1 h1 => seqD (ρ := [ent r v]) h1 s1 fun r2 δ2 v2 H2 s2 a2 h2 => ?_
  split at h2
  · rename_i d e
    obtain ⟨f, rf⟩ := s2.rel
    have x1 := rep_of rf.same (s2.read (δ := δ2) (r := .val d) (by simp [ent]) a1 rfl rf)
    have x2 := rep_of rf.same (s2.read (δ := δ2) (r := .val e) (by simp [ent]) a2 rfl rf)
    split at h2
    · rename_i hz
      refine cmp_use rfl x1 x2 hz ⟨true, rfl, ?_⟩
      rw [if_pos rfl]
      refine seqD (ρ := [ent (.val e) v2, ent (.val d) v]) h2 s2 fun r3 δ3 v3 H3 s3 a3 h3 => ?_
      split at h3
      · rename_i g
        obtain ⟨f3, rf3⟩ := s3.rel
        have y2 := rep_of rf3.same (s3.read (δ := δ3) (r := .val e) (v := v2) (by simp [ent]) a2 rfl rf3)
        have y3 := rep_of rf3.same (s3.read (δ := δ3) (r := .val g) (v := v3) (by simp [ent]) a3 rfl rf3)
        split at h3
        · rename_i hk
          refine cmp_use rfl y2 y3 hk ⟨true, rfl, ?_⟩
          rw [if_pos rfl]
          refine seqD (ρ := [ent (.val g) v3, ent (.val e) v2, ent (.val d) v]) h3 s3 fun r4 δ4 v4 H4 s4 a4 h4 => ?_
          split at h4
          · rename_i u
            obtain ⟨f4, rf4⟩ := s4.rel
            have z3 := rep_of rf4.same (s4.read (δ := δ4) (r := .val g) (v := v3) (by simp [ent]) a3 rfl rf4)
            have z4 := rep_of rf4.same (s4.read (δ := δ4) (r := .val u) (v := v4) (by simp [ent]) a4 rfl rf4)
            split at h4
            · rename_i k hk
              exact cmp_use rfl z3 z4 hk (fin_bl s4.tl.tl.tl.tl h4)
            · exact h4.elim
          · exact h4.elim
        · rename_i hk
          refine cmp_use rfl y2 y3 hk ⟨false, rfl, ?_⟩
          rw [if_neg Bool.false_ne_true]
          exact fin_bl s3.tl.tl.tl h3
        · exact h3.elim
      · exact h3.elim
    · rename_i hz
      refine cmp_use rfl x1 x2 hz ⟨false, rfl, ?_⟩
      rw [if_neg Bool.false_ne_true]
      exact fin_bl s2.tl.tl h2
    · exact h2.elim
  · exact h2.elim
theorem snd_ch3 {p : Option Nat} {o q t : Co} {a b c d : E} (ho : OpR X (compareOp (coP o)) (rCmp κ.K o)) (hq : OpR X (compareOp (coP q)) (rCmp κ.K q)) (ht : OpR X (compareOp (coP t)) (rCmp κ.K t)) (hm : noSet d' = true)
    (ha : PE X a' (tD κ io W (evE T p a))) (hb : PE X b' (tD κ io W (evE T p b))) (hc : PE X c' (tD κ io W (evE T p c))) (hd : PE X d' (tD κ io W (evE T p d))) :
    PE X (.Compare a' [coP o, coP q, coP t] [b', c', d'] pos) (tD κ io W (evE T p (.ch3 a o b q c t d))) := PE.imp (pe_chain3 ho hq ht ha hb hc hd (noSet_mark hm)) ch3_read
theorem sndT_ch3 {p : Option Nat} {o q t : Co} {a b c d : E} (ho : OpR X (compareOp (coP o)) (rCmp κ.K o)) (hq : OpR X (compareOp (coP q)) (rCmp κ.K q)) (ht : OpR X (compareOp (coP t)) (rCmp κ.K t)) (hm : noSet d' = true)
    (ha : PE X a' (tD κ io W (evE T p a))) (hb : PE X b' (tD κ io W (evE T p b))) (hc : PE X c' (tD κ io W (evE T p c))) (hd : PE X d' (tD κ io W (evE T p d))) :
    PT X (.Compare a' [coP o, coP q, coP t] [b', c', d'] pos) (tDT κ io W fun s => tstR (evE T p (.ch3 a o b q c t d) s)) := PT.imp (pt_chain3 ho hq ht ha hb hc hd (noSet_mark hm)) fun σ H Q h => ch3_read σ H _ (tst_D h)
theorem ch4_read {p : Option Nat} {o q t t' : Co} {a b c d f : E} {f' : Expr} : ∀ σ H Q, tD κ io W (evE T p (.ch4 a o b q c t d t' f)) σ H Q → t4 (rCmp κ.K o) (rCmp κ.K q) (rCmp κ.K t) (rCmp κ.K t') (tD κ io W (evE T p a)) (tD κ io W (evE T p b)) (tD κ io W (evE T p c)) (tD κ io W (evE T p d)) (tD κ io W (evE T p f)) σ H Q := fun σ H Q ⟨δ, τ, s, h⟩ => by
  simp only [evE] at h
  refine seqD (ρ := []) h s fun r δ1 v H1 s1 a1 h1 => seqD (ρ := [ent r v]) h1 s1 fun r2 δ2 v2 H2 s2 a2 h2 => ?_
  split at h2
  · rename_i d e
    obtain ⟨f, rf⟩ := s2.rel
    have x1 := rep_of rf.same (s2.read (δ := δ2) (r := .val d) (by simp [ent]) a1 rfl rf)
    have x2 := rep_of rf.same (s2.read (δ := δ2) (r := .val e) (by simp [ent]) a2 rfl rf)
    split at h2
    · rename_i hz
      refine cmp_use rfl x1 x2 hz ⟨true, rfl, ?_⟩
      rw [if_pos rfl]
      refine seqD (ρ := [ent (.val e) v2, ent (.val d) v]) h2 s2 fun r3 δ3 v3 H3 s3 a3 h3 => ?_
      split at h3
      · rename_i g
        obtain ⟨f3, rf3⟩ := s3.rel
        have y2 := rep_of rf3.same (s3.read (δ := δ3) (r := .val e) (v := v2) (by simp [ent]) a2 rfl rf3)
        have y3 := rep_of rf3.same (s3.read (δ := δ3) (r := .val g) (v := v3) (by simp [ent]) a3 rfl rf3)
        split at h3
        · rename_i hk
          refine cmp_use rfl y2 y3 hk ⟨true, rfl, ?_⟩
          rw [if_pos rfl]
          refine seqD (ρ := [ent (.val g) v3, ent (.val e) v2, ent (.val d) v]) h3 s3 fun r4 δ4 v4 H4 s4 a4 h4 => ?_
          split at h4
          · rename_i u
            obtain ⟨f4, rf4⟩ := s4.rel
            have z3 := rep_of rf4.same (s4.read (δ := δ4) (r := .val g) (v := v3) (by simp [ent]) a3 rfl rf4)
            have z4 := rep_of rf4.same (s4.read (δ := δ4) (r := .val u) (v := v4) (by simp [ent]) a4 rfl rf4)
            split at h4
            · rename_i hk4
              refine cmp_use rfl z3 z4 hk4 ⟨true, rfl, ?_⟩
              rw [if_pos rfl]
              refine seqD (ρ := [ent (.val u) v4, ent (.val g) v3, ent (.val e) v2, ent (.val d) v]) h4 s4 fun r5 δ5 v5 H5 s5 a5 h5 => ?_
              split at h5
              · rename_i y
                obtain ⟨f5, rf5⟩ := s5.rel
                have w4 := rep_of rf5.same (s5.read (δ := δ5) (r := .val u) (v := v4) (by simp [ent]) a4 rfl rf5)
                have w5 := rep_of rf5.same (s5.read (δ := δ5) (r := .val y) (v := v5) (by simp [ent]) a5 rfl rf5)
                split at h5
                · rename_i k hk5
                  exact cmp_use rfl w4 w5 hk5 (fin_bl s5.tl.tl.tl.tl.tl h5)
                · exact h5.elim
              · exact h5.elim
            · rename_i hk4
              refine cmp_use rfl z3 z4 hk4 ⟨false, rfl, ?_⟩
              rw [if_neg Bool.false_ne_true]
              exact fin_bl s4.tl.tl.tl.tl h4
            · exact h4.elim
          · exact h4.elim
        · rename_i hk
          refine cmp_use rfl y2 y3 hk ⟨false, rfl, ?_⟩
          rw [if_neg Bool.false_ne_true]
          exact fin_bl s3.tl.tl.tl h3
        · exact h3.elim
      · exact h3.elim
    · rename_i hz
      refine cmp_use rfl x1 x2 hz ⟨false, rfl, ?_⟩
      rw [if_neg Bool.false_ne_true]
      exact fin_bl s2.tl.tl h2
    · exact h2.elim
  · exact h2.elim
theorem snd_ch4 {p : Option Nat} {o q t t' : Co} {a b c d f : E} {f' : Expr} (ho : OpR X (compareOp (coP o)) (rCmp κ.K o)) (hq : OpR X (compareOp (coP q)) (rCmp κ.K q)) (ht : OpR X (compareOp (coP t)) (rCmp κ.K t)) (ht' : OpR X (compareOp (coP t')) (rCmp κ.K t')) (hm : noSet f' = true)
    (ha : PE X a' (tD κ io W (evE T p a))) (hb : PE X b' (tD κ io W (evE T p b))) (hc : PE X c' (tD κ io W (evE T p c))) (hd : PE X d' (tD κ io W (evE T p d))) (hf : PE X f' (tD κ io W (evE T p f))) :
    PE X (.Compare a' [coP o, coP q, coP t, coP t'] [b', c', d', f'] pos) (tD κ io W (evE T p (.ch4 a o b q c t d t' f))) := PE.imp (pe_chain4 ho hq ht ht' ha hb hc hd hf (noSet_mark hm)) (ch4_read (f' := f'))
theorem sndT_ch4 {p : Option Nat} {o q t t' : Co} {a b c d f : E} {f' : Expr} (ho : OpR X (compareOp (coP o)) (rCmp κ.K o)) (hq : OpR X (compareOp (coP q)) (rCmp κ.K q)) (ht : OpR X (compareOp (coP t)) (rCmp κ.K t)) (ht' : OpR X (compareOp (coP t')) (rCmp κ.K t')) (hm : noSet f' = true)
    (ha : PE X a' (tD κ io W (evE T p a))) (hb : PE X b' (tD κ io W (evE T p b))) (hc : PE X c' (tD κ io W (evE T p c))) (hd : PE X d' (tD κ io W (evE T p d))) (hf : PE X f' (tD κ io W (evE T p f))) :
    PT X (.Compare a' [coP o, coP q, coP t, coP t'] [b', c', d', f'] pos) (tDT κ io W fun s => tstR (evE T p (.ch4 a o b q c t d t' f) s)) := PT.imp (pt_chain4 ho hq ht ht' ha hb hc hd hf (noSet_mark hm)) fun σ H Q h => ch4_read (f' := f') σ H _ (tst_D h)
end
end PyV
set_option Elab.async false
set_option linter.all false
set_option maxRecDepth 100000
set_option maxHeartbeats 2000000
namespace PyV
open PySem PySem.Spec PyProof.Rows L2

mutual
theorem keqD_nk : ∀ {a b : D} {x y : NestedKey}, nkD a = some x → nkD b = some y → (keqD a b = true ↔ x = y)
  | .non, b, x, y, h, k => by
    rw [nkD] at h; cases h
    cases b <;> simp only [nkD, Option.some.injEq, reduceCtorEq] at k <;> first | (subst k; simp) | (split at k <;> simp at k; subst k; simp)
  | .int i, b, x, y, h, k => by
    rw [nkD] at h; cases h
    cases b <;> simp only [nkD, Option.some.injEq, reduceCtorEq] at k <;> first | (subst k; simp) | (split at k <;> simp at k; subst k; simp)
  | .str i, b, x, y, h, k => by
    rw [nkD] at h; cases h
    cases b <;> simp only [nkD, Option.some.injEq, reduceCtorEq] at k <;> first | (subst k; simp) | (split at k <;> simp at k; subst k; simp)
  | .tup ds, b, x, y, h, k => by
    rw [nkD] at h
    split at h
    · rename_i ks e
      cases h
      cases b <;> simp only [nkD, Option.some.injEq, reduceCtorEq] at k <;> first | (subst k; simp) | skip
      split at k
      · rename_i ks' e'
        cases k
        rw [keqD, keqsD_nk e e']
        constructor
        · rintro rfl; rfl
        · intro q; cases q; rfl
      · cases k
    · cases h
  | .bl _, _, _, _, h, _ => by simp [nkD] at h
  | .lst _, _, _, _, h, _ => by simp [nkD] at h
  | .dct _ _ _, _, _, _, h, _ => by simp [nkD] at h
  | .obj _ _ _, _, _, _, h, _ => by simp [nkD] at h
  | .exc _ _ _, _, _, _, h, _ => by simp [nkD] at h
  | .gho _, _, _, _, h, _ => by simp [nkD] at h
theorem keqsD_nk : ∀ {a b : List D} {x y : List NestedKey}, nksD a = some x → nksD b = some y → (keqsD a b = true ↔ x = y)
  | [], b, x, y, h, k => by
    rw [nksD] at h; cases h
    cases b with
    | nil => rw [nksD] at k; cases k; simp
    | cons c cs =>
      rw [nksD] at k
      split at k
      · cases k; simp
      · cases k
  | a :: as, b, x, y, h, k => by
    rw [nksD] at h
    split at h
    · rename_i k1 k2 e1 e2
      cases h
      cases b with
      | nil => rw [nksD] at k; cases k; simp
      | cons c cs =>
        rw [nksD] at k
        split at k
        · rename_i j1 j2 f1 f2
          cases k
          rw [keqsD, Bool.and_eq_true, keqD_nk e1 f1, keqsD_nk e2 f2]
          constructor
          · rintro ⟨rfl, rfl⟩; rfl
          · intro q; cases q; exact ⟨rfl, rfl⟩
        · cases k
    · cases h
end
theorem okK_nk {t : Bool} {d : D} (h : okK t d = true) : ∃ k, nkD d = some k := by
  cases t <;> cases d <;> simp only [okK, Bool.false_eq_true, Bool.and_eq_true] at h <;> first | exact ⟨_, rfl⟩ | skip
  obtain ⟨_, h⟩ := h
  obtain ⟨ks, e⟩ := Option.isSome_iff_exists.mp h
  exact ⟨.tup ks, by rw [nkD, e]⟩
def lkOf : D → Key
  | .int i => .inl i
  | .str s => .inr ⟨s.toArray⟩
  | _ => .inl 0
theorem lkOf_nk {d : D} {k : NestedKey} (h : okK false d = true) (e : nkD d = some k) {w : World} : keyH w (lkOf d) = k.hash w := by
  cases d <;> simp only [okK, Bool.false_eq_true] at h <;> rw [nkD] at e <;> cases e <;> rfl
theorem lkOf_eq {d e : D} (h : okK false d = true) (h' : okK false e = true) : (keqD d e = true ↔ lkOf d = lkOf e) := by
  cases d <;> simp only [okK, Bool.false_eq_true] at h <;> cases e <;> simp only [okK, Bool.false_eq_true] at h' <;> simp [lkOf, keqD]
theorem leaf_V {κ : Kx} {H : Hp} {v : V} {d : D} (h : okK false d = true) (r : Rep κ H v d) : v = kV (lkOf d) := by
  cases r <;> simp only [okK, Bool.false_eq_true] at h <;> rfl
mutual
theorem Rep.nest {κ : Kx} {P : Program} {w : World} {H : Hp} {h : Heap} (ok : HOk P w H h) (kin : κ.K.In h) : ∀ {v : V} {d : D} {k : NestedKey} {u : Value}, Rep κ H v d → nkD d = some k → RelV v u → NestedIs h k u
  | _, _, _, _, .non, e, r => by rw [nkD] at e; cases e; cases r; exact .none
  | _, _, _, _, .int i, e, r => by rw [nkD] at e; cases e; obtain ⟨t, rfl⟩ := r; exact .int i t
  | _, _, _, _, .str s _, e, r => by rw [nkD] at e; cases e; obtain ⟨t, rfl⟩ := r; exact .text _ t
  | _, _, _, _, .bl _, e, _ => by simp [nkD] at e
  | _, _, _, _, .lst _ _, e, _ => by simp [nkD] at e
  | _, _, _, _, .obj _ _ _ _, e, _ => by simp [nkD] at e
  | _, _, _, _, .dct _ _ _ _ _ _, e, _ => by simp [nkD] at e
  | _, _, _, _, .exc _ _ _ _ _, e, _ => by simp [nkD] at e
  | _, _, _, _, .gho _, e, _ => by simp [nkD] at e
  | _, _, _, _, .tup q t, e, r => by
    rw [nkD] at e
    split at e
    · rename_i ks e2
      cases e
      cases r
      rcases q with q | ⟨o, its, n, q, hc, hd, z, rv⟩
      · obtain ⟨_, its, rv, o, h1, h2, n, h3⟩ := (show ObjOk P w H h _ (.tup _) from q.ok ok)
        exact .tup h1 h2 h3 (by simpa using Reps.nest ok kin t e2 rv)
      · exact .tup (kin _ _ q) hc hd (Reps.nest ok kin t e2 rv)
    · cases e
theorem Reps.nest {κ : Kx} {P : Program} {w : World} {H : Hp} {h : Heap} (ok : HOk P w H h) (kin : κ.K.In h) : ∀ {vs : List V} {ds : List D} {ks : List NestedKey} {us : List Value}, Reps κ H vs ds → nksD ds = some ks → Vals vs us → NestedAll h ks us
  | _, _, _, _, .nil, e, r => by rw [nksD] at e; cases e; cases r; exact .nil
  | _, _, _, _, .cons q t, e, r => by
    rw [nksD] at e
    split at e
    · rename_i k1 k2 e1 e2
      cases e
      cases r with
      | cons r1 r2 => exact .cons (Rep.nest ok kin q e1 r1) (Reps.nest ok kin t e2 r2)
    · cases e
end

def tget : List (D × V × V) → D → Option V
  | x :: r, k => if keqD x.1 k = true then some x.2.2 else tget r k
  | [], _ => none
def tput : List (D × V × V) → D → V → V → List (D × V × V)
  | x :: r, k, kv, v => if keqD x.1 k = true then (x.1, x.2.1, v) :: r else x :: tput r k kv v
  | [], k, kv, v => [(k, kv, v)]
section
variable {κ : Kx} {f : Hp}
theorem tget_rep : ∀ {tr : List (D × V × V)} {ds : List D} {k : D}, Reps κ f (tr.map (·.2.2)) ds → match tget tr k, dget (tr.map (·.1)) ds k with
    | some v, some d => Rep κ f v d
    | none, none => True
    | _, _ => False
  | [], ds, k, r => by cases r; exact True.intro
  | x :: tr, _, k, r => by
    cases r with
    | cons r1 r2 =>
      simp only [List.map_cons, tget, dget]
      by_cases h : keqD x.1 k = true
      · rw [if_pos h, if_pos h]; exact r1
      · rw [if_neg h, if_neg h]; exact tget_rep r2
theorem tput_keys : ∀ {tr : List (D × V × V)} {k : D} {kv v : V}, (tput tr k kv v).map (·.1) = dputK (tr.map (·.1)) k
  | [], _, _, _ => rfl
  | x :: tr, k, kv, v => by
    simp only [List.map_cons, tput, dputK]
    by_cases h : keqD x.1 k = true
    · rw [if_pos h, if_pos h, List.map_cons]
    · rw [if_neg h, if_neg h, List.map_cons, tput_keys]
theorem tput_kreps : ∀ {tr : List (D × V × V)} {k : D} {kv v : V}, Reps κ f (tr.map (·.2.1)) (tr.map (·.1)) → Rep κ f kv k → Reps κ f ((tput tr k kv v).map (·.2.1)) (dputK (tr.map (·.1)) k)
  | [], _, _, _, _, q => .cons q .nil
  | x :: tr, k, kv, v, r, q => by
    rw [List.map_cons, List.map_cons] at r
    simp only [List.map_cons, tput, dputK]
    cases r with
    | cons r1 r2 =>
      by_cases h : keqD x.1 k = true
      · rw [if_pos h, if_pos h, List.map_cons]; exact .cons r1 r2
      · rw [if_neg h, if_neg h, List.map_cons]; exact .cons r1 (tput_kreps r2 q)
theorem tput_vreps : ∀ {tr : List (D × V × V)} {ds : List D} {k d : D} {kv v : V}, Reps κ f (tr.map (·.2.2)) ds → Rep κ f v d → Reps κ f ((tput tr k kv v).map (·.2.2)) (dputV (tr.map (·.1)) ds k d)
  | [], _, _, _, _, _, r, q => by cases r; exact .cons q .nil
  | x :: tr, _, k, d, kv, v, r, q => by
    rw [List.map_cons] at r
    cases r with
    | cons r1 r2 =>
      simp only [List.map_cons, tput, dputV]
      by_cases h : keqD x.1 k = true
      · rw [if_pos h, if_pos h, List.map_cons]; exact .cons q r2
      · rw [if_neg h, if_neg h, List.map_cons]; exact .cons r1 (tput_vreps r2 q)
theorem tput_le : ∀ {tr : List (D × V × V)} {k : D} {kv v : V}, (tput tr k kv v).length ≤ tr.length + 1
  | [], _, _, _ => Nat.le_refl _
  | x :: tr, k, kv, v => by
    simp only [tput]
    split
    · simp
    · have := tput_le (tr := tr) (k := k) (kv := kv) (v := v)
      simp only [List.length_cons]; omega
end
structure DAt (κ : Kx) (H : Hp) (a : Addr) (o : Obj) (t : Bool) (tr : List (D × V × V)) : Prop where
  at_ : H a = some (atO a o)
  ns : (a == sysModules) = false
  o : DctO κ.w t o tr
  ks : Reps κ H (tr.map (·.2.1)) (tr.map (·.1))
theorem paired_all {α β : Type} {P : α → β → Prop} {Q : α → Prop} : ∀ {l : List α} {m : List β}, Paired P l m → (∀ a b, P a b → Q a) → ∀ a ∈ l, Q a
  | _, _, .nil, _, _, h => nomatch h
  | _, _, .cons r t, f, a, h => by
    rcases List.mem_cons.mp h with rfl | h
    · exact f _ _ r
    · exact paired_all t f a h
theorem DctO.okk {w : World} {t : Bool} {o : Obj} {tr : List (D × V × V)} (d : DctO w t o tr) : ∀ x ∈ tr, okK t x.1 = true := by
  obtain ⟨es, ep, _, p⟩ := d.dat
  exact paired_all p fun a b ⟨k, _, h, _⟩ => h
section
variable {κ : Kx} {P : Program} {H : Hp} {h : Heap} {a : Addr} {o : Obj} {tr : List (D × V × V)}
theorem DAt.get (d : DAt κ H a o t tr) (ok : HOk P w H h) : h.get? a = some o := (show (h.get? a = some o ∧ _) from ok a _ d.at_).1
abbrev LRel : (D × V × V) → (Key × Value) → Prop := fun x p => p.1 = lkOf x.1 ∧ RelV x.2.2 p.2
theorem leaf_pairs {w : World} : ∀ {tr : List (D × V × V)} {es : List DictEntry}, Paired (entIs w false) tr es → Reps κ H (tr.map (·.2.1)) (tr.map (·.1)) →
    ∃ prs : List (Key × Value), Pairs (mixKind P w) es prs ∧ (∀ e ∈ es, ∃ k, (mixKind P w).is k e.key = true ∧ e.hash = (mixKind P w).hash k) ∧ Paired LRel tr prs
  | _, _, .nil, _ => ⟨[], .nil, (fun _ h => nomatch h), .nil⟩
  | _, _, .cons (a := x) (b := e) r t, q => by
    rw [List.map_cons, List.map_cons] at q
    cases q with
    | cons q1 q2 =>
      obtain ⟨prs, h1, h2, h3⟩ := leaf_pairs t q2
      obtain ⟨k, e1, e2, e3, e4, e5⟩ := r
      have e6 := leaf_V e2 q1
      rw [e6] at e4
      have e7 : (mixKind P w).is (lkOf x.1) e.key = true := kV_is e4
      refine ⟨(lkOf x.1, e.val) :: prs, .cons e7 rfl h1, fun y hy => ?_, .cons ⟨rfl, e5⟩ h3⟩
      rcases List.mem_cons.mp hy with rfl | hy
      · exact ⟨_, e7, by rw [e3, ← lkOf_nk e2 e1]; rfl⟩
      · exact h2 y hy
theorem keys_nodup : ∀ {tr : List (D × V × V)} {prs : List (Key × Value)}, Paired LRel tr prs → (∀ x ∈ tr, okK false x.1 = true) → (tr.map fun x => nkD x.1).Nodup → (prs.map (·.1)).Nodup
  | _, _, .nil, _, _ => List.nodup_nil
  | _, _, .cons (a := x) (b := p) r t, hk, nd => by
    rw [List.map_cons] at nd
    obtain ⟨n1, n2⟩ := List.nodup_cons.mp nd
    rw [List.map_cons]
    refine List.nodup_cons.mpr ⟨fun hm => n1 ?_, keys_nodup t (fun y hy => hk y (List.mem_cons_of_mem _ hy)) n2⟩
    obtain ⟨q, hq, e⟩ := List.mem_map.mp hm
    have : ∀ {tr : List (D × V × V)} {prs : List (Key × Value)}, Paired LRel tr prs → q ∈ prs → ∃ y ∈ tr, q.1 = lkOf y.1 := by
      intro tr prs z
      induction z with
      | nil => intro h; exact nomatch h
      | cons r' t' ih =>
        intro h
        rcases List.mem_cons.mp h with rfl | h
        · exact ⟨_, List.mem_cons_self, r'.1⟩
        · obtain ⟨y, hy, e'⟩ := ih h
          exact ⟨y, List.mem_cons_of_mem _ hy, e'⟩
    obtain ⟨y, hy, e'⟩ := this t hq
    have k1 := hk x List.mem_cons_self
    have k2 := hk y (List.mem_cons_of_mem _ hy)
    have : lkOf y.1 = lkOf x.1 := by rw [← e', e, r.1]
    obtain ⟨j1, f1⟩ := okK_nk k1
    obtain ⟨j2, f2⟩ := okK_nk k2
    have z := (lkOf_eq k2 k1).mpr this
    have z2 := (keqD_nk f2 f1).mp z
    exact List.mem_map.mpr ⟨y, hy, by rw [f1, f2, z2]⟩
theorem DAt.leaf (d : DAt κ H a o false tr) (ok : HOk P κ.w H h) : ∃ prs, h.DictOf (mixKind P κ.w) a prs ∧ Paired LRel tr prs := by
  obtain ⟨es, ep, hd, hp⟩ := d.o.dat
  obtain ⟨prs, h1, h2, h3⟩ := leaf_pairs (P := P) hp d.ks
  exact ⟨prs, ⟨o, es, ep, d.get ok, d.o.ex, hd, fun e he => h2 e (by simpa using he), h1, keys_nodup h3 d.o.okk d.o.nd⟩, h3⟩
abbrev TRel : (D × V × V) → (NestedKey × Addr × Value) → Prop := fun x y => nkD x.1 = some y.1 ∧ x.2.1 = .ref y.2.1 ∧ RelV x.2.2 y.2.2
theorem tup_depth {n : Nat} {d : D} {k : NestedKey} (h : ck n d = true) (e : nkD d = some k) : k.depth ≤ n := by
  have : (∀ (n : Nat) (d : D) (k : NestedKey), ck n d = true → nkD d = some k → k.depth ≤ n) := by
    intro n
    induction n with
    | zero =>
      intro d k h e
      cases d <;> first | (rw [nkD] at e; cases e; exact Nat.le_refl _) | (simp [nkD] at e; done) | (simp [ck] at h; done)
    | succ n ih =>
      intro d k h e
      cases d <;> first | (rw [nkD] at e; cases e; exact Nat.zero_le _) | (simp [ck] at h; done) | (simp [nkD] at e; done) | skip
      rename_i ds
      rw [nkD] at e
      split at e
      · rename_i ks e2
        cases e
        have h' : ds.all (ck n) = true := h
        have : ∀ (ds : List D) (ks : List NestedKey), ds.all (ck n) = true → nksD ds = some ks → NestedKey.depthAll ks ≤ n := by
          intro ds
          induction ds with
          | nil => intro ks _ e; rw [nksD] at e; cases e; exact Nat.zero_le _
          | cons d ds ih2 =>
            intro ks h e
            rw [List.all_cons, Bool.and_eq_true] at h
            rw [nksD] at e
            split at e
            · rename_i k1 k2 f1 f2
              cases e
              exact Nat.max_le.mpr ⟨ih _ _ h.1 f1, ih2 _ h.2 f2⟩
            · cases e
        exact Nat.succ_le_succ (this ds ks h' e2)
      · cases e
  exact this n d k h e
theorem tup_key {v : V} {d : D} {k : NestedKey} (ok : HOk P w H h) (kin : κ.K.In h) (r : Rep κ H v d) (hk : okK true d = true) (e : nkD d = some k) : ∃ b, v = .ref b ∧ (nestedKind P w).is h k b := by
  cases d <;> simp only [okK, Bool.false_eq_true, Bool.and_eq_true] at hk
  rename_i ds
  cases r with
  | tup q t =>
    rename_i b vs
    exact ⟨b, rfl, Rep.nest ok kin (.tup q t) e rfl, tup_depth hk.1 e⟩
theorem tup_xs {w : World} (ok : HOk P w H h) (kin : κ.K.In h) : ∀ {tr : List (D × V × V)} {es : List DictEntry}, Paired (entIs w true) tr es → Reps κ H (tr.map (·.2.1)) (tr.map (·.1)) →
    ∃ xs : List (NestedKey × Addr × Value), es = xs.map (entryOfKey (nestedKind P w)) ∧ (∀ x ∈ xs, (nestedKind P w).is h x.1 x.2.1) ∧ Paired TRel tr xs
  | _, _, .nil, _ => ⟨[], rfl, (fun _ h => nomatch h), .nil⟩
  | _, _, .cons (a := x) (b := e) r t, q => by
    rw [List.map_cons, List.map_cons] at q
    cases q with
    | cons q1 q2 =>
      obtain ⟨xs, h1, h2, h3⟩ := tup_xs ok kin t q2
      obtain ⟨k, e1, e2, e3, e4, e5⟩ := r
      obtain ⟨b, e6, e7⟩ := tup_key ok kin q1 e2 e1
      rw [e6] at e4
      refine ⟨(k, b, e.val) :: xs, ?_, fun y hy => ?_, .cons ⟨e1, e6, e5⟩ h3⟩
      · rw [List.map_cons, h1]
        congr 1
        cases e
        have e4' := (show _ = Value.ref b from e4)
        dsimp only at e3 e4' ⊢
        rw [e3, e4']
        rfl
      · rcases List.mem_cons.mp hy with rfl | hy
        · exact e7
        · exact h2 y hy
theorem tkeys_nodup : ∀ {tr : List (D × V × V)} {xs : List (NestedKey × Addr × Value)}, Paired TRel tr xs → (tr.map fun x => nkD x.1) = (xs.map (·.1)).map some
  | _, _, .nil => rfl
  | _, _, .cons r t => by
    rw [List.map_cons, List.map_cons, List.map_cons, r.1, tkeys_nodup t]
theorem nodup_of_some {α : Type} : ∀ {l : List α}, (l.map some).Nodup → l.Nodup
  | [], _ => List.nodup_nil
  | a :: l, h => by
    rw [List.map_cons] at h
    obtain ⟨h1, h2⟩ := List.nodup_cons.mp h
    exact List.nodup_cons.mpr ⟨fun m => h1 (List.mem_map.mpr ⟨a, m, rfl⟩), nodup_of_some h2⟩
theorem DAt.tup (d : DAt κ H a o true tr) (ok : HOk P κ.w H h) (kin : κ.K.In h) : ∃ xs, h.DictOfH (nestedKind P κ.w) a xs ∧ Paired TRel tr xs := by
  obtain ⟨es, ep, hd, hp⟩ := d.o.dat
  obtain ⟨xs, h1, h2, h3⟩ := tup_xs ok kin hp d.ks
  have nd := d.o.nd
  rw [tkeys_nodup h3] at nd
  exact ⟨xs, ⟨o, es, ep, d.get ok, d.o.ex, hd, h1, h2, nodup_of_some nd⟩, h3⟩
end
end PyV
set_option Elab.async false
set_option linter.all false
set_option maxRecDepth 100000
set_option maxHeartbeats 2000000
namespace PyV
open PySem PySem.Spec PyProof.Rows L2

theorem keq_nk_eq {a b : D} {t : Bool} (ha : okK t a = true) (hb : okK t b = true) : (keqD a b = true ↔ nkD a = nkD b) := by
  obtain ⟨x, ex⟩ := okK_nk ha
  obtain ⟨y, ey⟩ := okK_nk hb
  rw [keqD_nk ex ey, ex, ey, Option.some.injEq]
theorem tput_mem {tr : List (D × V × V)} {k : D} {kv v : V} {z : D × V × V} : z ∈ tput tr k kv v → (∃ y ∈ tr, z.1 = y.1 ∧ z.2.1 = y.2.1) ∨ (z.1 = k ∧ z.2.1 = kv) := by
  induction tr with
  | nil => intro h; simp only [tput, List.mem_singleton] at h; subst h; exact .inr ⟨rfl, rfl⟩
  | cons x tr ih =>
    intro h
    simp only [tput] at h
    split at h
    · rcases List.mem_cons.mp h with rfl | h
      · exact .inl ⟨x, List.mem_cons_self, rfl, rfl⟩
      · exact .inl ⟨z, List.mem_cons_of_mem _ h, rfl, rfl⟩
    · rcases List.mem_cons.mp h with rfl | h
      · exact .inl ⟨_, List.mem_cons_self, rfl, rfl⟩
      · rcases ih h with ⟨y, hy, e⟩ | e
        · exact .inl ⟨y, List.mem_cons_of_mem _ hy, e⟩
        · exact .inr e
theorem tput_okk {t : Bool} {tr : List (D × V × V)} {k : D} {kv v : V} (h : ∀ x ∈ tr, okK t x.1 = true) (hk : okK t k = true) : ∀ x ∈ tput tr k kv v, okK t x.1 = true := fun x hx => by
  rcases tput_mem hx with ⟨y, hy, e, _⟩ | ⟨e, _⟩
  · rw [e]; exact h y hy
  · rw [e]; exact hk
theorem tput_nd {t : Bool} {k : D} {kv v : V} (hk : okK t k = true) : ∀ {tr : List (D × V × V)}, (∀ x ∈ tr, okK t x.1 = true) → (tr.map fun x => nkD x.1).Nodup → ((tput tr k kv v).map fun x => nkD x.1).Nodup
  | [], _, _ => by simp [tput]
  | x :: tr, h, nd => by
    rw [List.map_cons] at nd
    obtain ⟨n1, n2⟩ := List.nodup_cons.mp nd
    simp only [tput]
    have h0 := h x List.mem_cons_self
    split
    · rw [List.map_cons]; exact List.nodup_cons.mpr ⟨n1, n2⟩
    · rename_i hne
      rw [List.map_cons]
      refine List.nodup_cons.mpr ⟨fun hm => ?_, tput_nd hk (fun y hy => h y (List.mem_cons_of_mem _ hy)) n2⟩
      obtain ⟨z, hz, e⟩ := List.mem_map.mp hm
      rcases tput_mem hz with ⟨y, hy, e1, _⟩ | ⟨e1, _⟩
      · exact n1 (List.mem_map.mpr ⟨y, hy, by rw [← e1, e]⟩)
      · rw [e1] at e
        exact hne ((keq_nk_eq h0 hk).mpr e.symm)
section leaf
theorem leaf_get {k : D} (hk : okK false k = true) : ∀ {tr : List (D × V × V)} {prs : List (Key × Value)}, Paired LRel tr prs → (∀ x ∈ tr, okK false x.1 = true) → RelO (tget tr k) (valueAt prs (lkOf k))
  | _, _, .nil, _ => True.intro
  | _, _, .cons (a := x) (b := p) r t, h => by
    have h0 := h x List.mem_cons_self
    by_cases e : keqD x.1 k = true
    · have e2 : p.1 = lkOf k := r.1.trans ((lkOf_eq h0 hk).mp e)
      rw [tget, if_pos e, valueAt, List.find?_cons_of_pos (by simp [e2])]
      exact r.2
    · have e2 : ¬ p.1 = lkOf k := fun z => e ((lkOf_eq h0 hk).mpr (r.1.symm.trans z))
      rw [tget, if_neg e, valueAt, List.find?_cons_of_neg (by simp [e2])]
      exact leaf_get hk t fun y hy => h y (List.mem_cons_of_mem _ hy)
theorem stored_cons_eq {p : Key × Value} {r : List (Key × Value)} {k : Key} {u : Value} (e : p.1 = k) (hn : k ∉ r.map (·.1)) : stored (p :: r) k u = (p.1, u) :: r := by
  unfold stored
  rw [if_pos (by simp [e]), List.map_cons, if_pos e, map_store_of_not_mem _ _ _ hn]
theorem stored_cons_ne {p : Key × Value} {r : List (Key × Value)} {k : Key} {u : Value} (e : ¬ p.1 = k) : stored (p :: r) k u = p :: stored r k u := by
  unfold stored
  rw [List.any_cons, decide_eq_false e, Bool.false_or]
  by_cases h : (r.any fun kv => decide (kv.1 = k)) = true
  · rw [if_pos h, if_pos h, List.map_cons, if_neg e]
  · rw [if_neg h, if_neg h, List.cons_append]
theorem leaf_put {k : D} {kv v : V} {u : Value} (hk : okK false k = true) (rv : RelV v u) : ∀ {tr : List (D × V × V)} {prs : List (Key × Value)}, Paired LRel tr prs → (∀ x ∈ tr, okK false x.1 = true) → (prs.map (·.1)).Nodup →
    Paired LRel (tput tr k kv v) (stored prs (lkOf k) u)
  | _, _, .nil, _, _ => .cons ⟨rfl, rv⟩ .nil
  | _, _, .cons (a := x) (b := p) r t, h, nd => by
    have h0 := h x List.mem_cons_self
    rw [List.map_cons] at nd
    obtain ⟨n1, n2⟩ := List.nodup_cons.mp nd
    by_cases e : keqD x.1 k = true
    · have e2 : p.1 = lkOf k := r.1.trans ((lkOf_eq h0 hk).mp e)
      rw [tput, if_pos e, stored_cons_eq e2 (e2 ▸ n1)]
      exact .cons ⟨r.1, rv⟩ t
    · have e2 : ¬ p.1 = lkOf k := fun z => e ((lkOf_eq h0 hk).mpr (r.1.symm.trans z))
      rw [tput, if_neg e, stored_cons_ne e2]
      exact .cons r (leaf_put hk rv t (fun y hy => h y (List.mem_cons_of_mem _ hy)) n2)
theorem leaf_ents {P : Program} {w : World} {es : List DictEntry} : ∀ {es : List DictEntry} {tr : List (D × V × V)} {prs : List (Key × Value)}, Pairs (mixKind P w) es prs → (∀ e ∈ es, ∃ k, (mixKind P w).is k e.key = true ∧ e.hash = (mixKind P w).hash k) → Paired LRel tr prs →
    (∀ x ∈ tr, okK false x.1 = true ∧ x.2.1 = kV (lkOf x.1)) → Paired (entIs w false) tr es
  | _, _, _, .nil, _, .nil, _ => .nil
  | _, _, _, .cons (e := e) h1 h2 t, hk, .cons (a := x) r t2, ho => by
    obtain ⟨o1, o2⟩ := ho x List.mem_cons_self
    obtain ⟨k, e1⟩ := okK_nk o1
    obtain ⟨k', f1, f2⟩ := hk e List.mem_cons_self
    rw [r.1] at h1
    have e3 : k' = lkOf x.1 := (mixKind P w).inj _ _ _ f1 h1
    subst e3
    refine .cons ⟨k, e1, o1, ?_, ?_, ?_⟩ (leaf_ents (es := es) t (fun y hy => hk y (List.mem_cons_of_mem _ hy)) t2 fun y hy => ho y (List.mem_cons_of_mem _ hy))
    · rw [f2, ← lkOf_nk o1 e1]; rfl
    · rw [o2]; exact relV_key (show keyIs _ _ = true from h1)
    · rw [h2]; exact r.2
theorem leaf_back {P : Program} {w : World} {h : Heap} {a : Addr} {tr : List (D × V × V)} {prs : List (Key × Value)} (d : h.DictOf (mixKind P w) a prs) (r : Paired LRel tr prs) (ho : ∀ x ∈ tr, okK false x.1 = true ∧ x.2.1 = kV (lkOf x.1))
    (nd : (tr.map fun x => nkD x.1).Nodup) (sz : tr.length ≤ sizeLine) : ∃ o, h.get? a = some o ∧ DctO w false o tr := by
  obtain ⟨o, es, ep, h1, h2, h3, h4, h5, _⟩ := d
  exact ⟨o, h1, h2, ⟨es, ep, h3, leaf_ents (es := []) h5 (fun e he => h4 e (by simpa using he)) r ho⟩, nd, sz⟩
theorem leaf_kV {κ : Kx} {H : Hp} : ∀ {tr : List (D × V × V)}, Reps κ H (tr.map (·.2.1)) (tr.map (·.1)) → (∀ x ∈ tr, okK false x.1 = true) → ∀ x ∈ tr, okK false x.1 = true ∧ x.2.1 = kV (lkOf x.1)
  | [], _, _, _, hx => nomatch hx
  | y :: tr, r, h, x, hx => by
    rw [List.map_cons, List.map_cons] at r
    cases r with
    | cons r1 r2 =>
      rcases List.mem_cons.mp hx with rfl | hx
      · exact ⟨h _ List.mem_cons_self, leaf_V (h _ List.mem_cons_self) r1⟩
      · exact leaf_kV r2 (fun z hz => h z (List.mem_cons_of_mem _ hz)) x hx
end leaf
section tup
theorem tup_get {k : D} {nk : NestedKey} (hk : okK true k = true) (ek : nkD k = some nk) : ∀ {tr : List (D × V × V)} {xs : List (NestedKey × Addr × Value)}, Paired TRel tr xs → (∀ x ∈ tr, okK true x.1 = true) → RelO (tget tr k) ((atKey xs nk).map (·.2))
  | _, _, .nil, _ => True.intro
  | _, _, .cons (a := x) (b := p) r t, h => by
    have h0 := h x List.mem_cons_self
    have e0 := keqD_nk r.1 ek
    by_cases e : keqD x.1 k = true
    · have e2 : p.1 = nk := e0.mp e
      rw [tget, if_pos e, atKey, List.find?_cons_of_pos (by simp [e2])]
      exact r.2.2
    · have e2 : ¬ p.1 = nk := fun z => e (e0.mpr z)
      rw [tget, if_neg e, atKey, List.find?_cons_of_neg (by simp [e2])]
      exact tup_get hk ek t fun y hy => h y (List.mem_cons_of_mem _ hy)
theorem storedH_cons_eq {p : NestedKey × Addr × Value} {r : List (NestedKey × Addr × Value)} {k : NestedKey} {b : Addr} {u : Value} (e : p.1 = k) (hn : k ∉ r.map (·.1)) : storedH (p :: r) k b u = (p.1, p.2.1, u) :: r := by
  have e1 : atKey (p :: r) k = some p.2 := by rw [atKey, List.find?_cons_of_pos (by simp [e])]; rfl
  rw [storedH_old e1, List.map_cons, putAt, if_pos e]
  congr 1
  have : ∀ {r : List (NestedKey × Addr × Value)}, k ∉ r.map (·.1) → r.map (putAt k u) = r := by
    intro r
    induction r with
    | nil => intro _; rfl
    | cons q r ih =>
      intro hn
      rw [List.map_cons, List.mem_cons, not_or] at hn
      rw [List.map_cons, ih hn.2, putAt, if_neg fun z => hn.1 z.symm]
  exact this hn
theorem storedH_cons_ne {p : NestedKey × Addr × Value} {r : List (NestedKey × Addr × Value)} {k : NestedKey} {b : Addr} {u : Value} (e : ¬ p.1 = k) : storedH (p :: r) k b u = p :: storedH r k b u := by
  have e1 : atKey (p :: r) k = atKey r k := by rw [atKey, List.find?_cons_of_neg (by simp [e])]; rfl
  unfold storedH
  rw [e1]
  by_cases h : (atKey r k).isSome = true
  · rw [if_pos h, if_pos h, List.map_cons, putAt, if_neg e]
  · rw [if_neg h, if_neg h, List.cons_append]
theorem tup_put {k : D} {nk : NestedKey} {b : Addr} {v : V} {u : Value} (hk : okK true k = true) (ek : nkD k = some nk) (rv : RelV v u) : ∀ {tr : List (D × V × V)} {xs : List (NestedKey × Addr × Value)}, Paired TRel tr xs → (∀ x ∈ tr, okK true x.1 = true) → (xs.map (·.1)).Nodup →
    Paired TRel (tput tr k (.ref b) v) (storedH xs nk b u)
  | _, _, .nil, _, _ => .cons ⟨ek, rfl, rv⟩ .nil
  | _, _, .cons (a := x) (b := p) r t, h, nd => by
    have h0 := h x List.mem_cons_self
    rw [List.map_cons] at nd
    obtain ⟨n1, n2⟩ := List.nodup_cons.mp nd
    have e0 := keqD_nk r.1 ek
    by_cases e : keqD x.1 k = true
    · have e2 : p.1 = nk := e0.mp e
      rw [tput, if_pos e, storedH_cons_eq e2 (e2 ▸ n1)]
      exact .cons ⟨r.1, r.2.1, rv⟩ t
    · have e2 : ¬ p.1 = nk := fun z => e (e0.mpr z)
      rw [tput, if_neg e, storedH_cons_ne e2]
      exact .cons r (tup_put hk ek rv t (fun y hy => h y (List.mem_cons_of_mem _ hy)) n2)
theorem tup_ents {P : Program} {w : World} : ∀ {tr : List (D × V × V)} {xs : List (NestedKey × Addr × Value)}, Paired TRel tr xs → (∀ x ∈ tr, okK true x.1 = true) → Paired (entIs w true) tr (xs.map (entryOfKey (nestedKind P w)))
  | _, _, .nil, _ => .nil
  | _, _, .cons (a := x) (b := p) r t, ho => .cons ⟨p.1, r.1, ho x List.mem_cons_self, rfl, by rw [r.2.1]; rfl, r.2.2⟩ (tup_ents t fun y hy => ho y (List.mem_cons_of_mem _ hy))
theorem tup_back {P : Program} {w : World} {h : Heap} {a : Addr} {tr : List (D × V × V)} {xs : List (NestedKey × Addr × Value)} (d : h.DictOfH (nestedKind P w) a xs) (r : Paired TRel tr xs) (ho : ∀ x ∈ tr, okK true x.1 = true)
    (nd : (tr.map fun x => nkD x.1).Nodup) (sz : tr.length ≤ sizeLine) : ∃ o, h.get? a = some o ∧ DctO w true o tr := by
  obtain ⟨o, es, ep, h1, h2, h3, h4, h5, _⟩ := d
  exact ⟨o, h1, h2, ⟨es, ep, h3, by rw [h4]; exact tup_ents r ho⟩, nd, sz⟩
end tup

section
variable {κ : Kx} {X : Cx} {pins : List (Addr × Obj)} {σ : L2.St} {H : Hp} {s : Shared} {a : Addr} {o : Obj} {t : Bool} {tr : List (D × V × V)} {y v : V} {k : D} {u r : Value} {A : Around} {E : Value → Shared → Prop}
theorem DAt.typeIs (d : DAt κ H a o t tr) (I : Inv X pins σ H s) : s.TypeIs (.ref a) "dict" := ⟨o, d.get I.hok, d.o.ex.1⟩
theorem DAt.noDict (d : DAt κ H a o t tr) (I : Inv X pins σ H s) : ∀ b, Value.ref a = .ref b → ∃ ob, s.heap.get? b = some ob ∧ ob.dict = none := fun b q => by
  cases q
  exact ⟨o, d.get I.hok, d.o.ex.2.1⟩
structure KX (κ : Kx) (X : Cx) : Prop where
  K : κ.K = X.K
  w : κ.w = X.w
theorem room8 (hu : A.units + 64 < cLine) : (nestedKind X.prog X.w).room A.in1 := by
  show A.units + 1 + 8 < cLine
  omega
theorem z_getItem {Q : Value → Shared → Prop} (kx : KX κ X) (hu : A.units + 64 < cLine) (I : Inv X pins σ H s) (d : DAt κ H a o t tr) (hk : okK t k = true) (rk : Rep κ H y k) (g : tget tr k = some v) (ry : RelV y u)
    (h : ∀ w' s', Inv X pins σ H s' → RelV v w' → Q w' s') : wpAny (model X.prog X.w) A (getItem (.ref a) u) Q E s := by
  obtain ⟨hK, hw⟩ := kx
  cases t with
  | false =>
    have hl := leaf_V hk rk
    subst hl
    obtain ⟨prs, dd, rel⟩ := d.leaf (P := X.prog) (by rw [hw]; exact I.hok)
    rw [hw] at dd
    obtain ⟨w', e, rw'⟩ := RelO.some_of (v := v) (o := valueAt prs (lkOf k)) (by rw [← g]; exact leaf_get hk rel d.o.okk)
    exact wpAny_getItem_of (kV_is ry) dd.mapOf e (h w' _ (I.tok _) rw')
  | true =>
    have kin : κ.K.In s.heap := by rw [hK]; exact I.kIn
    obtain ⟨nk, ek⟩ := okK_nk hk
    obtain ⟨b, rfl, hb⟩ := tup_key (P := X.prog) (w := X.w) I.hok kin rk hk ek
    cases (show u = Value.ref b from ry)
    obtain ⟨xs, dd, rel⟩ := d.tup (P := X.prog) (by rw [hw]; exact I.hok) kin
    rw [hw] at dd
    obtain ⟨w', e, rw'⟩ := RelO.some_of (v := v) (o := (atKey xs nk).map (·.2)) (by rw [← g]; exact tup_get hk ek rel d.o.okk)
    obtain ⟨p, hp, hp2⟩ := Option.map_eq_some_iff.mp e
    refine wpAny_getItem_heap (room8 hu) hb dd hp ?_
    rw [hp2]
    exact h w' _ (I.tok _) rw'
theorem z_in {Q : Value → Shared → Prop} (kx : KX κ X) (hu : A.units + 64 < cLine) (I : Inv X pins σ H s) (d : DAt κ H a o t tr) (hk : okK t k = true) (rk : Rep κ H y k) (ry : RelV y u)
    (h : ∀ s', Inv X pins σ H s' → Q (.bool (tget tr k).isSome) s') : wpAny (model X.prog X.w) A (compareOp .In u (.ref a)) Q E s := by
  obtain ⟨hK, hw⟩ := kx
  cases t with
  | false =>
    have hl := leaf_V hk rk
    subst hl
    obtain ⟨prs, dd, rel⟩ := d.leaf (P := X.prog) (by rw [hw]; exact I.hok)
    rw [hw] at dd
    refine wpAny_in_of (kV_is ry) d.ns dd.mapOf ?_
    rw [← (leaf_get hk rel d.o.okk).isSome_eq]
    exact h _ (I.tok _)
  | true =>
    have kin : κ.K.In s.heap := by rw [hK]; exact I.kIn
    obtain ⟨nk, ek⟩ := okK_nk hk
    obtain ⟨b, rfl, hb⟩ := tup_key (P := X.prog) (w := X.w) I.hok kin rk hk ek
    cases (show u = Value.ref b from ry)
    obtain ⟨xs, dd, rel⟩ := d.tup (P := X.prog) (by rw [hw]; exact I.hok) kin
    rw [hw] at dd
    refine wpAny_in_heap (room8 hu) hb d.ns dd ?_
    have q := (tup_get hk ek rel d.o.okk).isSome_eq
    rw [Option.isSome_map] at q
    rw [← q]
    exact h _ (I.tok _)
theorem z_notIn {Q : Value → Shared → Prop} (kx : KX κ X) (hu : A.units + 64 < cLine) (I : Inv X pins σ H s) (d : DAt κ H a o t tr) (hk : okK t k = true) (rk : Rep κ H y k) (ry : RelV y u)
    (h : ∀ s', Inv X pins σ H s' → Q (.bool (!(tget tr k).isSome)) s') : wpAny (model X.prog X.w) A (compareOp .NotIn u (.ref a)) Q E s := by
  obtain ⟨hK, hw⟩ := kx
  cases t with
  | false =>
    have hl := leaf_V hk rk
    subst hl
    obtain ⟨prs, dd, rel⟩ := d.leaf (P := X.prog) (by rw [hw]; exact I.hok)
    rw [hw] at dd
    refine wpAny_notIn_of (kV_is ry) d.ns dd.mapOf ?_
    rw [← (leaf_get hk rel d.o.okk).isSome_eq]
    exact h _ (I.tok _)
  | true =>
    have kin : κ.K.In s.heap := by rw [hK]; exact I.kIn
    obtain ⟨nk, ek⟩ := okK_nk hk
    obtain ⟨b, rfl, hb⟩ := tup_key (P := X.prog) (w := X.w) I.hok kin rk hk ek
    cases (show u = Value.ref b from ry)
    obtain ⟨xs, dd, rel⟩ := d.tup (P := X.prog) (by rw [hw]; exact I.hok) kin
    rw [hw] at dd
    refine wpAny_notIn_heap (room8 hu) hb d.ns dd ?_
    have q := (tup_get hk ek rel d.o.okk).isSome_eq
    rw [Option.isSome_map] at q
    rw [← q]
    exact h _ (I.tok _)
theorem z_get2 {x : V} {Q : Value → Shared → Prop} (kx : KX κ X) (hu : A.units + 64 < cLine) (I : Inv X pins σ H s) (d : DAt κ H a o t tr) (hk : okK t k = true) (rk : Rep κ H y k) (ry : RelV y u) (rx : RelV x r)
    (h : ∀ w' s', Inv X pins σ H s' → RelV ((tget tr k).getD x) w' → Q w' s') : wpAny (model X.prog X.w) A (call (.builtin "dict.get") [.ref a, u, r]) Q E s := by
  obtain ⟨hK, hw⟩ := kx
  cases t with
  | false =>
    have hl := leaf_V hk rk
    subst hl
    obtain ⟨prs, dd, rel⟩ := d.leaf (P := X.prog) (by rw [hw]; exact I.hok)
    rw [hw] at dd
    refine call_meetsIn PySem.F.slot_dict_get dd.typeIs PySem.F.entry_dict_get (PySem.F.args_dict_get_3 _ _ _) (meets_dict_get_default (mixKind X.prog X.w) a (kV_is ry) d.ns r) ⟨_, dd.mapOf, h _ _ (I.tok _) ?_⟩
    exact (leaf_get hk rel d.o.okk).getD rx
  | true =>
    have kin : κ.K.In s.heap := by rw [hK]; exact I.kIn
    obtain ⟨nk, ek⟩ := okK_nk hk
    obtain ⟨b, rfl, hb⟩ := tup_key (P := X.prog) (w := X.w) I.hok kin rk hk ek
    cases (show u = Value.ref b from ry)
    obtain ⟨xs, dd, rel⟩ := d.tup (P := X.prog) (by rw [hw]; exact I.hok) kin
    rw [hw] at dd
    refine call_meetsIn PySem.F.slot_dict_get dd.typeIs PySem.F.entry_dict_get (PySem.F.args_dict_get_3 _ _ _) (meetsH_dict_get_default (nestedKind X.prog X.w) a b d.ns r) ⟨room8 hu, nk, xs, hb, dd, h _ _ (I.tok _) ?_⟩
    exact (tup_get hk ek rel d.o.okk).getD rx
theorem z_get1 {Q : Value → Shared → Prop} (kx : KX κ X) (hu : A.units + 64 < cLine) (I : Inv X pins σ H s) (d : DAt κ H a o t tr) (hk : okK t k = true) (rk : Rep κ H y k) (ry : RelV y u)
    (h : ∀ w' s', Inv X pins σ H s' → RelV ((tget tr k).getD .non) w' → Q w' s') : wpAny (model X.prog X.w) A (call (.builtin "dict.get") [.ref a, u]) Q E s := by
  obtain ⟨hK, hw⟩ := kx
  have rn : RelV V.non Value.none := rfl
  cases t with
  | false =>
    have hl := leaf_V hk rk
    subst hl
    obtain ⟨prs, dd, rel⟩ := d.leaf (P := X.prog) (by rw [hw]; exact I.hok)
    rw [hw] at dd
    refine call_meetsIn PySem.F.slot_dict_get dd.typeIs PySem.F.entry_dict_get (PySem.F.args_dict_get_2 _ _) (meets_dict_get (mixKind X.prog X.w) a (kV_is ry) d.ns) ⟨_, dd.mapOf, h _ _ (I.tok _) ?_⟩
    exact (leaf_get hk rel d.o.okk).getD rn
  | true =>
    have kin : κ.K.In s.heap := by rw [hK]; exact I.kIn
    obtain ⟨nk, ek⟩ := okK_nk hk
    obtain ⟨b, rfl, hb⟩ := tup_key (P := X.prog) (w := X.w) I.hok kin rk hk ek
    cases (show u = Value.ref b from ry)
    obtain ⟨xs, dd, rel⟩ := d.tup (P := X.prog) (by rw [hw]; exact I.hok) kin
    rw [hw] at dd
    refine call_meetsIn PySem.F.slot_dict_get dd.typeIs PySem.F.entry_dict_get (PySem.F.args_dict_get_2 _ _) (meetsH_dict_get (nestedKind X.prog X.w) a b d.ns) ⟨room8 hu, nk, xs, hb, dd, h _ _ (I.tok _) ?_⟩
    exact (tup_get hk ek rel d.o.okk).getD rn
theorem atO_ok {P : Program} {w : World} {H : Hp} {h : Heap} {a : Addr} {o : Obj} (e : h.get? a = some o) : ObjOk P w H h a (atO a o) :=
  ⟨e, ⟨o, e⟩, fun _ _ p k => k _ p⟩
theorem z_setItem {Q : Unit → Shared → Prop} (kx : KX κ X) (hu : A.units + 64 < cLine) (I : Inv X pins σ H s) (d : DAt κ H a o t tr) (hk : okK t k = true) (rk : Rep κ H y k) (hl : tr.length < sizeLine) (ry : RelV y u) (rv : RelV v r)
    (h : ∀ o' s', DctO κ.w t o' (tput tr k y v) → Inv X pins σ (upd H a (atO a o')) s' → Q () s') : wpAny (model X.prog X.w) A (setItem (.ref a) u r) Q E s := by
  obtain ⟨hK, hw⟩ := kx
  have mu : Mut (H a) := by rw [d.at_]; exact True.intro
  have sz : (tput tr k y v).length ≤ sizeLine := Nat.le_trans tput_le hl
  have nd := tput_nd (kv := y) (v := v) hk d.o.okk d.o.nd
  cases t with
  | false =>
    have hl := leaf_V hk rk
    subst hl
    obtain ⟨prs, dd, rel⟩ := d.leaf (P := X.prog) (by rw [hw]; exact I.hok)
    have hz : prs.length ≤ sizeLine := by rw [← Paired.length rel]; exact d.o.sz
    have kk := leaf_kV (tput_kreps (v := v) d.ks rk |> fun z => by rw [← tput_keys (kv := kV (lkOf k)) (v := v)] at z; exact z) (tput_okk d.o.okk hk)
    rw [hw] at dd
    refine wpAny_setItem_pairs (hsz := hz) (kV_is ry) dd fun h' dd' hs => ?_
    obtain ⟨o', e', do'⟩ := leaf_back dd' (leaf_put hk rv rel d.o.okk (let ⟨_, _, _, _, _, _, _, _, z⟩ := dd; z)) kk nd sz
    exact h o' _ (by rw [hw]; exact do') (d_write I mu hs ⟨o', e'⟩ (atO_ok e'))
  | true =>
    have kin : κ.K.In s.heap := by rw [hK]; exact I.kIn
    obtain ⟨nk, ek⟩ := okK_nk hk
    obtain ⟨b, rfl, hb⟩ := tup_key (P := X.prog) (w := X.w) I.hok kin rk hk ek
    cases (show u = Value.ref b from ry)
    obtain ⟨xs, dd, rel⟩ := d.tup (P := X.prog) (by rw [hw]; exact I.hok) kin
    have hz : xs.length ≤ sizeLine := by rw [← Paired.length rel]; exact d.o.sz
    rw [hw] at dd
    refine wpAny_setItem_heap (hsz := hz) (room8 hu) hb dd fun h' dd' hs => ?_
    obtain ⟨o', e', do'⟩ := tup_back dd' (tup_put hk ek rv rel d.o.okk dd.nodup) (tput_okk d.o.okk hk) nd sz
    exact h o' _ (by rw [hw]; exact do') (d_write I mu hs ⟨o', e'⟩ (atO_ok e'))
theorem DctO.empty {w : World} {t : Bool} : DctO w t { cls := .type "dict", data := .dict #[] } [] := ⟨⟨rfl, rfl, rfl⟩, ⟨#[], 0, rfl, .nil⟩, List.nodup_nil, Nat.zero_le _⟩
end
end PyV
set_option Elab.async false
set_option linter.all false
set_option maxRecDepth 100000
set_option maxHeartbeats 2000000
namespace PyV
open PySem PySem.Spec PyProof.Rows L2

section
variable {κ : Kx} {X : Cx} {o i e f value : Expr} {pos pos' apos cpos : Pos} {td ty tv tx : TE}
def rIxD (κ : Kx) : R2 := fun x y H Q => ∃ a o t tr k v, x = .ref a ∧ DAt κ H a o t tr ∧ okK t k = true ∧ Rep κ H y k ∧ tget tr k = some v ∧ Q v H
theorem ix_dct (kx : KX κ X) (hu : X.A.units + 64 < cLine) : IxR X (rIxD κ) := by
  intro value slice pins s σ H x y v u Q I rx ry h hs
  obtain ⟨a, o, t, tr, k, z, rfl, d, hk, rk, g, q⟩ := h
  obtain rfl : v = Value.ref a := rx
  have hT := d.typeIs I
  unfold subscriptTail
  refine wpAny_bind ?_
  rw [getitemInPython_of_ne hT.not_modules]
  refine wpAny_bind (wpAny_specialOf hT PySem.F.slot_dict_getitem.lookup ?_)
  have fin : wpAny (model X.prog X.w) X.A (subscripted slice false (.ref a) u) (fun r s₃ => wpAny (model X.prog X.w) X.A (letTemporaryGo value (.ref a) r >>= fun _ => pure r) (EP X pins σ Q) X.xe s₃) X.xe s := by
    rw [hs]
    exact wpAny_operating (z_getItem kx hu I d hk rk g ry fun w' s3 I3 rw' => wpAny_bind (wpAny_letTemporaryGo (wpAny_pure ⟨z, H, I3, rw', q⟩)))
  first
    | exact wpAny_pure (wpAny_bind fin)
    | exact wpAny_bind (wpAny_pure (wpAny_bind fin))
    | exact wpAny_bind fin
def rInD (κ : Kx) (neg : Bool) : R2 := fun x y H Q => ∃ a o t tr k, y = .ref a ∧ DAt κ H a o t tr ∧ okK t k = true ∧ Rep κ H x k ∧ Q (.bl (if neg = true then !(tget tr k).isSome else (tget tr k).isSome)) H
theorem op_inD (kx : KX κ X) (hu : X.A.units + 64 < cLine) : OpR X (compareOp .In) (rInD κ false) := by
  intro pins s σ H x y v u Q I rx ry h
  obtain ⟨a, o, t, tr, k, rfl, d, hk, rk, q⟩ := h
  obtain rfl : u = Value.ref a := ry
  exact z_in kx hu I d hk rk rx fun s3 I3 => ⟨.bl (tget tr k).isSome, H, I3, rfl, q⟩
theorem op_ninD (kx : KX κ X) (hu : X.A.units + 64 < cLine) : OpR X (compareOp .NotIn) (rInD κ true) := by
  intro pins s σ H x y v u Q I rx ry h
  obtain ⟨a, o, t, tr, k, rfl, d, hk, rk, q⟩ := h
  obtain rfl : u = Value.ref a := ry
  exact z_notIn kx hu I d hk rk rx fun s3 I3 => ⟨.bl (!(tget tr k).isSome), H, I3, rfl, q⟩
theorem PS.or {st : Stmt} {t t' : TS} (h : PS X st t) (h' : PS X st t') : PS X st (fun D σ H => t D σ H ∨ t' D σ H) := ⟨fun pins s σ H D I q => q.elim (h.run pins s σ H D I) (h'.run pins s σ H D I)⟩
def rSetZ (κ : Kx) : V → V → V → Hp → (Hp → Prop) → Prop := fun o i v H Q => ∃ a ob t tr k, o = .ref a ∧ DAt κ H a ob t tr ∧ okK t k = true ∧ Rep κ H i k ∧ tr.length < sizeLine ∧ ∀ o', DctO κ.w t o' (tput tr k i v) → Q (upd H a (atO a o'))
theorem set_dct (kx : KX κ X) (hu : X.A.units + 64 < cLine) : PSet X (rSetZ κ) := by
  intro pins s σ H o i v ov iv u Q I ro ri rv h
  obtain ⟨a, ob, t, tr, k, rfl, d, hk, rk, hl, q⟩ := h
  obtain rfl : ov = Value.ref a := ro
  exact z_setItem kx hu I d hk rk hl ri rv fun o' s4 d' I4 => ⟨_, I4, q o' d'⟩
theorem PSet.or {t t' : TSet} (h : PSet X t) (h' : PSet X t') : PSet X (fun o i v H Q => t o i v H Q ∨ t' o i v H Q) := by
  intro pins s σ H o i v ov iv u Q I ro ri rv q
  rcases q with q | q
  · exact h pins s σ H o i v ov iv u Q I ro ri rv q
  · exact h' pins s σ H o i v ov iv u Q I ro ri rv q
theorem dct_of {f H : Hp} {v : V} {t : Bool} {ks vs : List D} (sm : Same f H) (q : Rep κ f v (.dct t ks vs) ∨ ∃ a, v = .ref a ∧ f a = none ∧ Own κ f H a (.dct t ks vs)) :
    ∃ a o tr, v = .ref a ∧ DAt κ H a o t tr ∧ ks = tr.map (·.1) ∧ Reps κ f (tr.map (·.2.1)) ks ∧ Reps κ f (tr.map (·.2.2)) vs := by
  rcases q with q | ⟨a, rfl, _, o⟩
  · cases q with
    | dct q n d k r1 r2 => exact ⟨_, _, _, rfl, ⟨sm _ _ q, n, d, k ▸ r1.mono sm⟩, k, r1, r2⟩
  · cases o with
    | dct q n d k r1 r2 => exact ⟨_, _, _, rfl, ⟨q, n, d, k ▸ r1.mono sm⟩, k, r1, r2⟩
def zGet2 (κ : Kx) (td ty tx : TE) : TE := fun σ H Q => td σ H fun x H1 => ∃ a, x = .ref a ∧ (∃ o t tr, DAt κ H1 a o t tr) ∧ ty σ H1 fun y H2 => tx σ H2 fun z H3 => ∃ o t tr k, DAt κ H3 a o t tr ∧ okK t k = true ∧ Rep κ H3 y k ∧ Q ((tget tr k).getD z) H3
theorem pe_zget2 (kx : KX κ X) (hu : X.A.units + 64 < cLine) (ho : PE X o td) (he : PE X e ty) (hf : PE X f tx) (m : M2 X o "get" apos e f cpos) : PE X (.Call (.Attribute o "get" apos) [e, f] [] cpos) (zGet2 κ td ty tx) := by
  refine ⟨fun pins s σ H Q I h => ?_⟩
  refine wpAny_Call_method m.base m.few m.line PySem.F.plainAttrs_dict PySem.F.slot_dict_get PySem.F.type_dict_get (thn (ho.run pins s σ H _ I h) fun u s1 ⟨x, H1, I1, rx, a, ex, ⟨ob, t, tr, d⟩, q1⟩ => ?_)
  subst ex
  obtain rfl : u = Value.ref a := rx
  refine ⟨d.typeIs I1, d.noDict I1, ?_⟩
  rw [m.trees]
  refine Calls.callWith_builtin rfl (Calls.evalArgs_plain (Calls.spliced_cons (thn (he.run pins s1 σ H1 _ I1 q1) fun iv s2 ⟨y, H2, I2, ry, q2⟩ =>
    Calls.spliced_cons (thn (hf.run pins s2 σ H2 _ I2 q2) fun fv s3 ⟨z, H3, I3, rz, o3, t3, tr3, k, d3, hk, rk, q3⟩ => Calls.spliced_nil ?_))))
  exact z_get2 kx hu I3 d3 hk rk ry rz fun w' s4 I4 rw' => ⟨_, H3, I4, rw', q3⟩
def zGet1 (κ : Kx) (td ty : TE) : TE := fun σ H Q => td σ H fun x H1 => ∃ a, x = .ref a ∧ (∃ o t tr, DAt κ H1 a o t tr) ∧ ty σ H1 fun y H2 => ∃ o t tr k, DAt κ H2 a o t tr ∧ okK t k = true ∧ Rep κ H2 y k ∧ Q ((tget tr k).getD .non) H2
theorem pe_zget1 (kx : KX κ X) (hu : X.A.units + 64 < cLine) (ho : PE X o td) (he : PE X e ty) (m : M1 X o "get" apos e cpos) : PE X (.Call (.Attribute o "get" apos) [e] [] cpos) (zGet1 κ td ty) := by
  refine ⟨fun pins s σ H Q I h => ?_⟩
  refine wpAny_Call_method m.base m.few m.line PySem.F.plainAttrs_dict PySem.F.slot_dict_get PySem.F.type_dict_get (thn (ho.run pins s σ H _ I h) fun u s1 ⟨x, H1, I1, rx, a, ex, ⟨ob, t, tr, d⟩, q1⟩ => ?_)
  subst ex
  obtain rfl : u = Value.ref a := rx
  refine ⟨d.typeIs I1, d.noDict I1, ?_⟩
  rw [m.trees]
  refine Calls.callWith_builtin rfl (Calls.evalArgs_plain (Calls.spliced_cons (thn (he.run pins s1 σ H1 _ I1 q1) fun iv s2 ⟨y, H2, I2, ry, o3, t3, tr3, k, d3, hk, rk, q3⟩ => Calls.spliced_nil ?_)))
  exact z_get1 kx hu I2 d3 hk rk ry fun w' s4 I4 rw' => ⟨_, H2, I4, rw', q3⟩
def zNew (κ : Kx) (t : Bool) : TE := fun _ H Q => ∀ p o, H p = none → (p == sysModules) = false → DctO κ.w t o [] → Q (.ref p) (upd H p (atO p o))
theorem pe_znew {t : Bool} : PE X (.Dict [] [] pos) (zNew κ t) := ⟨fun pins s σ H Q I h =>
  wpAny_Dict_empty ⟨.ref s.heap.objs.size, _, I.laid (a := s.heap.objs.size) (o := atO s.heap.objs.size { cls := .type "dict", data := .dict #[] }) (t' := s.toks) (fun _ _ q => Heap.get?_push_of_some _ q) (Nat.le_refl _) (atO_ok (Heap.get?_push_size _ rfl)),
    rfl, h _ _ (I.hok.fresh (Nat.le_refl _)) (beq_eq_false_iff_ne.mpr (Ne.symm (Nat.ne_of_lt I.big))) DctO.empty⟩⟩

def unpair : List (Value × Value) → List Value
  | (k, v) :: r => k :: v :: unpair r
  | [] => []
structure PPz (X : Cx) (pos : Pos) (keys : List (Option Expr)) (values : List Expr) (t : TA) : Prop where
  run : ∀ (pins : List (Addr × Obj)) (s : Shared) (σ : L2.St) (H : Hp) (Q : List V → Hp → Prop), Inv X pins σ H s → t σ H Q →
    wpAny (model X.prog X.w) X.A (evalPairs (pairTrees keys values X.env pos)) (fun ps s' => ∃ vs H', Inv X pins σ H' s' ∧ Vals vs (unpair ps) ∧ Q vs H') X.xe s
theorem ppz_nil : PPz X pos [] [] tNil := ⟨fun pins s σ H Q I h => pairTrees_nil_walk ⟨[], H, I, .nil, h⟩⟩
theorem ppz_cons {k v : Expr} {ks : List (Option Expr)} {vs : List Expr} {tk tv : TE} {tr : TA} (hk : PE X k tk) (hv : PE X v tv) (hr : PPz X pos ks vs tr) :
    PPz X pos (some k :: ks) (v :: vs) (tCons tk (tCons tv tr)) := ⟨fun pins s σ H Q I h =>
  pairTrees_cons_walk (thn (hk.run pins s σ H _ I h) fun u s1 ⟨x, H1, I1, rx, q1⟩ => thn (hv.run pins s1 σ H1 _ I1 q1) fun w2 s2 ⟨y, H2, I2, ry, q2⟩ =>
    thn (hr.run pins s2 σ H2 _ I2 q2) fun ws s3 ⟨ps, H3, I3, rel, q3⟩ => ⟨x :: y :: ps, H3, I3, .cons rx (.cons ry rel), q3⟩)⟩
theorem PPz.imp {ks : List (Option Expr)} {vs : List Expr} {t t' : TA} (h : PPz X pos ks vs t) (k : ∀ σ H Q, t' σ H Q → t σ H Q) : PPz X pos ks vs t' := ⟨fun pins s σ H Q I q => h.run pins s σ H Q I (k σ H Q q)⟩
def tpairs (t : Bool) : List (D × V × V) → List (V × D) → Option (List (D × V × V))
  | tr, (kv, kd) :: (v, _) :: r => if okK t kd = true then tpairs t (tput tr kd kv v) r else none
  | tr, [] => some tr
  | _, _ => none
theorem leaf_carries {P : Program} {w : World} {H : Hp} : ∀ {l : List (V × D)} {us : List (Value × Value)} {tr tr' : List (D × V × V)} {prs : List (Key × Value)}, Vals (l.map (·.1)) (unpair us) → Reps κ H (l.map (·.1)) (l.map (·.2)) → tpairs false tr l = some tr' →
    Paired LRel tr prs → (∀ x ∈ tr, okK false x.1 = true) → (prs.map (·.1)).Nodup → ∃ more, Carries (mixKind P w) us more ∧ Paired LRel tr' (merged prs more)
  | [], us, tr, tr', prs, r, _, e, rel, _, _ => by
    cases us with
    | nil => cases e; exact ⟨[], True.intro, rel⟩
    | cons u us => cases r
  | [_], us, tr, tr', prs, r, _, e, rel, _, _ => by simp [tpairs] at e
  | (kv, kd) :: (v, vd) :: l, us, tr, tr', prs, r, q, e, rel, ho, nd => by
    cases us with
    | nil => cases r
    | cons u us =>
      obtain ⟨u1, u2⟩ := u
      rw [List.map_cons, List.map_cons] at r q
      rw [List.map_cons, List.map_cons] at q
      cases r with
      | cons r1 r =>
        cases r with
        | cons r2 r =>
          cases q with
          | cons q1 q =>
            cases q with
            | cons q2 q =>
              simp only [tpairs] at e
              split at e
              · rename_i hk
                have hl := leaf_V hk q1
                subst hl
                obtain ⟨more, c, rel'⟩ := leaf_carries (P := P) (w := w) r q e (leaf_put hk r2 rel ho nd) (tput_okk ho hk) (stored_nodup nd)
                exact ⟨(lkOf kd, u2) :: more, ⟨kV_is r1, rfl, c⟩, rel'⟩
              · cases e
where
  stored_nodup {prs : List (Key × Value)} {k : Key} {u : Value} (nd : (prs.map (·.1)).Nodup) : ((stored prs k u).map (·.1)).Nodup := by
    unfold stored
    split
    · rename_i h
      have : (prs.map fun kv => if kv.1 = k then (kv.1, u) else kv).map (·.1) = prs.map (·.1) := by
        rw [List.map_map]
        refine List.map_congr_left fun x _ => ?_
        by_cases e : x.1 = k <;> simp [e]
      rw [this]
      exact nd
    · rename_i h
      rw [List.map_append]
      refine List.nodup_append.mpr ⟨nd, by simp, fun a ha b hb => ?_⟩
      simp only [List.map_cons, List.map_nil, List.mem_singleton] at hb
      rintro rfl
      subst hb
      obtain ⟨x, hx, e⟩ := List.mem_map.mp ha
      exact h (List.any_eq_true.mpr ⟨x, hx, by simp [e]⟩)
theorem tup_carries {P : Program} {w : World} {H : Hp} {h : Heap} (ok : HOk P w H h) (kin : κ.K.In h) : ∀ {l : List (V × D)} {us : List (Value × Value)} {tr tr' : List (D × V × V)} {xs : List (NestedKey × Addr × Value)}, Vals (l.map (·.1)) (unpair us) → Reps κ H (l.map (·.1)) (l.map (·.2)) → tpairs true tr l = some tr' →
    Paired TRel tr xs → (∀ x ∈ tr, okK true x.1 = true) → (xs.map (·.1)).Nodup → ∃ more, CarriesH (nestedKind P w) h us more ∧ Paired TRel tr' (storedAllH xs more)
  | [], us, tr, tr', prs, r, _, e, rel, _, _ => by
    cases us with
    | nil => cases e; exact ⟨[], True.intro, rel⟩
    | cons u us => cases r
  | [_], us, tr, tr', prs, r, _, e, rel, _, _ => by simp [tpairs] at e
  | (kv, kd) :: (v, vd) :: l, us, tr, tr', prs, r, q, e, rel, ho, nd => by
    cases us with
    | nil => cases r
    | cons u us =>
      obtain ⟨u1, u2⟩ := u
      rw [List.map_cons, List.map_cons] at r q
      rw [List.map_cons, List.map_cons] at q
      cases r with
      | cons r1 r =>
        cases r with
        | cons r2 r =>
          cases q with
          | cons q1 q =>
            cases q with
            | cons q2 q =>
              simp only [tpairs] at e
              split at e
              · rename_i hk
                obtain ⟨nk, ek⟩ := okK_nk hk
                obtain ⟨b, rfl, hb⟩ := tup_key (P := P) (w := w) ok kin q1 hk ek
                have hn := storedH_nodup nd nk b u2
                obtain ⟨more, c, rel'⟩ := tup_carries ok kin r q e (tup_put hk ek r2 rel ho nd) (tput_okk ho hk) hn
                exact ⟨(nk, b, u2) :: more, ⟨r1, rfl, hb, c⟩, rel'⟩
              · cases e
where
  storedH_nodup {xs : List (NestedKey × Addr × Value)} (nd : (xs.map (·.1)).Nodup) (k : NestedKey) (b : Addr) (u : Value) : ((storedH xs k b u).map (·.1)).Nodup := by
    unfold storedH
    split
    · have : (xs.map (putAt k u)).map (·.1) = xs.map (·.1) := by
        rw [List.map_map]
        refine List.map_congr_left fun x _ => ?_
        simp only [Function.comp_apply, putAt]
        split <;> rfl
      rw [this]
      exact nd
    · rename_i h
      rw [List.map_append]
      refine List.nodup_append.mpr ⟨nd, by simp, fun a ha b' hb => ?_⟩
      simp only [List.map_cons, List.map_nil, List.mem_singleton] at hb
      rintro rfl
      subst hb
      obtain ⟨x, hx, e⟩ := List.mem_map.mp ha
      refine h ?_
      unfold atKey
      rw [Option.isSome_map, List.find?_isSome]
      exact ⟨x, hx, by simp [e]⟩
theorem tpairs_kreps {H : Hp} {t : Bool} : ∀ {l : List (V × D)} {tr tr' : List (D × V × V)}, Reps κ H (l.map (·.1)) (l.map (·.2)) → tpairs t tr l = some tr' → Reps κ H (tr.map (·.2.1)) (tr.map (·.1)) → (∀ x ∈ tr, okK t x.1 = true) → (tr.map fun x => nkD x.1).Nodup →
    Reps κ H (tr'.map (·.2.1)) (tr'.map (·.1)) ∧ (∀ x ∈ tr', okK t x.1 = true) ∧ (tr'.map fun x => nkD x.1).Nodup ∧ tr'.length ≤ tr.length + l.length
  | [], tr, tr', _, e, r, ho, nd => by cases e; exact ⟨r, ho, nd, Nat.le_add_right _ _⟩
  | [_], tr, tr', _, e, _, _, _ => by simp [tpairs] at e
  | (kv, kd) :: (v, vd) :: l, tr, tr', q, e, r, ho, nd => by
    rw [List.map_cons, List.map_cons, List.map_cons, List.map_cons] at q
    cases q with
    | cons q1 q =>
      cases q with
      | cons q2 q =>
        simp only [tpairs] at e
        split at e
        · rename_i hk
          have r' := tput_kreps (v := v) r q1
          rw [← tput_keys (kv := kv) (v := v)] at r'
          obtain ⟨a1, a2, a3, a4⟩ := tpairs_kreps q e r' (tput_okk ho hk) (tput_nd hk ho nd)
          refine ⟨a1, a2, a3, ?_⟩
          have := tput_le (tr := tr) (k := kd) (kv := kv) (v := v)
          simp only [List.length_cons]
          omega
        · cases e
def zDisp (κ : Kx) (t : Bool) (ta : TA) : TE := fun σ H Q => ∀ p o, H p = none → (p == sysModules) = false → DctO κ.w t o [] → ta σ (upd H p (atO p o)) fun vs H2 => (∃ o2, H2 p = some (atO p o2) ∧ DctO κ.w t o2 []) ∧ vs.length ≤ 30 ∧ ∃ (l : List (V × D)) (tr : List (D × V × V)), vs = l.map (·.1) ∧
  Reps κ H2 (l.map (·.1)) (l.map (·.2)) ∧ tpairs t [] l = some tr ∧ ∀ o', DctO κ.w t o' tr → Q (.ref p) (upd H2 p (atO p o'))
theorem nil_of {w : World} {t : Bool} : ∀ {l : List DictEntry}, Paired (entIs w t) [] l → l = []
  | _, .nil => rfl
theorem pe_zdisp {t : Bool} {keys : List (Option Expr)} {values : List Expr} {ta : TA} (kx : KX κ X) (hu : X.A.units + 64 < cLine) (h : PPz X pos keys values ta) (hall : keys.all (·.isSome) = true) (hl : keys.length = values.length) (h0 : keys ≠ [])
    (h15 : keys.length ≤ 15) : PE X (.Dict keys values pos) (zDisp κ t ta) := by
  obtain ⟨hK, hw⟩ := kx
  refine ⟨fun pins s σ H Q I q => ?_⟩
  have hn := I.hok.fresh (Nat.le_refl s.heap.objs.size)
  have hsm : (s.heap.objs.size == sysModules) = false := beq_eq_false_iff_ne.mpr (Ne.symm (Nat.ne_of_lt I.big))
  have I1 := I.laid (a := s.heap.objs.size) (o := atO s.heap.objs.size { cls := .type "dict", data := .dict #[] }) (h' := s.heap.push { cls := .type "dict", data := .dict #[] }) (t' := s.toks) (fun _ _ q => Heap.get?_push_of_some _ q) (Nat.le_refl _)
    (atO_ok (Heap.get?_push_size _ rfl))
  have run := h.run pins _ σ _ _ I1 (q _ _ hn hsm DctO.empty)
  cases t with
  | false =>
    refine wpAny_Dict_walk (knd := mixKind X.prog X.w) hall hl h0 h15 (thn run fun ws s2 ⟨vs, H2, I2, rel, ⟨o2, e, d2⟩, hlen, l, tr, ev, rr, et, q2⟩ => ?_)
    subst ev
    obtain ⟨k1, k2, k3, k4⟩ := tpairs_kreps rr et .nil (fun _ h => nomatch h) List.nodup_nil
    obtain ⟨more, c, rel'⟩ := leaf_carries (P := X.prog) (w := X.w) rel rr et .nil (fun _ h => nomatch h) List.nodup_nil
    have hg : s2.heap.get? s.heap.objs.size = some o2 := (show (_ ∧ _) from I2.hok _ _ e).1
    obtain ⟨es2, ep2, hd2, hp2⟩ := d2.dat
    have hes : es2.toList = [] := nil_of hp2
    have hes2 : es2 = #[] := by simpa using hes
    refine ⟨more, c, ⟨o2, es2, ep2, hg, d2.ex, hd2, fun _ h => by rw [hes2] at h; simp at h, by rw [hes]; exact .nil, List.nodup_nil⟩, fun h' dd' hs => ?_⟩
    have sz : tr.length ≤ sizeLine := by rw [List.length_map] at hlen; rw [List.length_nil] at k4; rw [sizeLine_eq]; omega
    obtain ⟨o', e', do'⟩ := leaf_back dd' rel' (leaf_kV k1 k2) k3 sz
    exact ⟨.ref s.heap.objs.size, _, d_write I2 (by rw [e]; exact True.intro) hs ⟨o', e'⟩ (atO_ok e'), rfl, q2 o' (by rw [hw]; exact do')⟩
  | true =>
    have hn2 := pairTrees_length keys values X.env pos hall hl
    have h00 : pairTrees keys values X.env pos ≠ [] := fun he => by
      rw [he] at hn2
      exact h0 (List.length_eq_zero_iff.mp hn2.symm)
    rw [arm_eval_Dict, zip_pairTrees keys values X.env pos hall hl, dictDisplay_pairs _ h00 (by rw [hn2]; omega)]
    refine wpAny_bind (wpAny_standAt (wpAny_bind (wpAny_subDictH (knd := nestedKind X.prog X.w) (show X.A.units + 8 < cLine by omega) (by rw [hn2]; exact h15) (thn run fun ws s2 ⟨vs, H2, I2, rel, ⟨o2, e, d2⟩, hlen, l, tr, ev, rr, et, q2⟩ => ?_))))
    subst ev
    have kin : κ.K.In s2.heap := by rw [hK]; exact I2.kIn
    obtain ⟨k1, k2, k3, k4⟩ := tpairs_kreps rr et .nil (fun _ h => nomatch h) List.nodup_nil
    obtain ⟨more, c, rel'⟩ := tup_carries (P := X.prog) (w := X.w) I2.hok kin rel rr et .nil (fun _ h => nomatch h) List.nodup_nil
    have hg : s2.heap.get? s.heap.objs.size = some o2 := (show (_ ∧ _) from I2.hok _ _ e).1
    obtain ⟨es2, ep2, hd2, hp2⟩ := d2.dat
    have hes : es2.toList = [] := nil_of hp2
    refine ⟨more, c, ⟨o2, es2, ep2, hg, d2.ex, hd2, by rw [hes]; rfl, (fun _ h => nomatch h), List.nodup_nil⟩, fun h' tk dd' hs => wpAny_pure ?_⟩
    have sz : tr.length ≤ sizeLine := by rw [List.length_map] at hlen; rw [List.length_nil] at k4; rw [sizeLine_eq]; omega
    obtain ⟨o', e', do'⟩ := tup_back dd' rel' k2 k3 sz
    exact ⟨.ref s.heap.objs.size, _, d_write I2 (by rw [e]; exact True.intro) hs ⟨o', e'⟩ (atO_ok e'), rfl, q2 o' (by rw [hw]; exact do')⟩
end
end PyV
set_option Elab.async false
set_option linter.all false
set_option maxRecDepth 100000
set_option maxHeartbeats 2000000
namespace PyV
open PySem PySem.Spec PyProof.Rows L2

def Ikz (d : Addr) (o : Obj) (tr : List (D × V × V)) : It := ⟨fun i H => H d = some (atO d o) ∧ i < tr.length, fun i H v H' => H' = H ∧ ∃ x, tr[i]? = some x ∧ v = x.2.1, fun i H => H d = some (atO d o) ∧ tr.length ≤ i⟩
def Ivz (d : Addr) (o : Obj) (tr : List (D × V × V)) : It := ⟨fun i H => H d = some (atO d o) ∧ i < tr.length, fun i H v H' => H' = H ∧ ∃ x, tr[i]? = some x ∧ v = x.2.2, fun i H => H d = some (atO d o) ∧ tr.length ≤ i⟩
def Iiz (d : Addr) (o : Obj) (tr : List (D × V × V)) : It := ⟨fun i H => H d = some (atO d o) ∧ i < tr.length, fun i H v H' => ∃ p x, tr[i]? = some x ∧ v = .ref p ∧ H p = none ∧ H' = upd H p (.tup [x.2.1, x.2.2]), fun i H => H d = some (atO d o) ∧ tr.length ≤ i⟩
section
variable {P : Program} {w w' : World} {K : PySem.W.Frag} {tg : Expr} {d : Addr} {o : Obj} {t : Bool} {tr : List (D × V × V)} {es : Array DictEntry} {ep : Nat}
theorem atO_get {H : Hp} {h : Heap} {a : Addr} {o : Obj} (ok : HOk P w H h) (e : H a = some (atO a o)) : h.get? a = some o := (show (h.get? a = some o ∧ _) from ok a _ e).1
theorem ent_at {es : Array DictEntry} (p : Paired (entIs w t) tr es.toList) {i : Nat} (hi : i < es.size) : ∃ x, tr[i]? = some x ∧ RelV x.2.1 es[i].key ∧ RelV x.2.2 es[i].val := by
  have hl : tr.length = es.size := by rw [← Array.length_toList]; exact Paired.length p
  have hi' : i < tr.length := by omega
  obtain ⟨e, he, r⟩ := paired_get p (i := i) (a := tr[i]) (List.getElem?_eq_getElem hi')
  rw [Array.getElem?_toList, Array.getElem?_eq_getElem hi] at he
  cases he
  obtain ⟨_, _, _, _, r1, r2⟩ := r
  exact ⟨_, List.getElem?_eq_getElem hi', r1, r2⟩
theorem ent_size {es : Array DictEntry} (p : Paired (entIs w t) tr es.toList) : tr.length = es.size := by rw [← Array.length_toList]; exact Paired.length p
theorem turn_zkeys (it : Addr) (ex : o.ExactDict) (hod : o.data = .dict es ep) (hp : Paired (entIs w' t) tr es.toList) : Turn P w K tg (Ikz d o tr) [it] it (fun i h => h.IsKeyIter it d i es.size ep) where
  mem := by simp
  obj := fun i h st b hb => by
    have e : b = it := by simpa using hb
    subst e
    obtain ⟨oi, e, c, dd⟩ := st
    exact ⟨oi, e, fun v z => by rw [dd] at z; cases z⟩
  keep := fun i h h' st k => st.at fun oi e => k it (by simp) oi e
  item := by
    intro X hP hw hK hc i pins s σ H E I hf st hg
    subst hP hw hK
    obtain ⟨hd, hi⟩ := hg
    rw [ent_size hp] at hi
    obtain ⟨f0, f1, f2, f3, f4, f5⟩ := hf it (by simp)
    obtain ⟨x, hx, r1, r2⟩ := ent_at hp hi
    refine wpAny_pyNext_keys_item_raw st ⟨o, atO_get I.hok hd, ex, hod⟩ hi fun h' st' sb => ?_
    have I1 : Inv X pins σ H { s with heap := h' } := I.turned (t' := s.toks) (fun b ob hb e => (sb.2 b hb).trans e) f0 f1 f3 f4 f5
    obtain ⟨oi, e, c, dd⟩ := id st'
    exact ⟨_, rfl, go_of (s := { s with heap := h' }) e c dd (by decide) ⟨x.2.1, H, I1, r1, ⟨rfl, x, hx, rfl⟩, st', fun b hb => (hf b hb).1⟩⟩
  done := by
    intro X hP hw hK hc i pins s σ H E I hf st hg
    subst hP hw hK
    obtain ⟨hd, hi⟩ := hg
    rw [ent_size hp] at hi
    obtain ⟨f0, f1, f2, f3, f4, f5⟩ := hf it (by simp)
    exact wpAny_pyNext_keys_end_raw (I.ok.hd hc) st ⟨o, atO_get I.hok hd, ex, hod⟩ hi fun h' eb => ⟨rfl, I.turned (t' := s.toks) (fun b ob hb e => eb b ob hb e) f0 f1 f3 f4 f5⟩
  self := fun A i s Q E st h => by
    refine wpAny_pyIter_slot st.typeIs F.slot_dict_keyiterator_iter (wpAny_call_entry F.slot_dict_keyiterator_iter st.typeIs F.entry_dict_keyiterator_iter ?_ (F.args_dict_keyiterator_iter_1 _))
    show wpAny _ _ (ret (.ref it)) _ _ s
    exact wpAny_pure ⟨_, rfl, "dict_keyiterator", _, st.typeIs, F.slot_dict_keyiterator_next.lookup, h⟩
theorem turn_zvals (it : Addr) (ex : o.ExactDict) (hod : o.data = .dict es ep) (hp : Paired (entIs w' t) tr es.toList) : Turn P w K tg (Ivz d o tr) [it] it (fun i h => h.IsValIter it d i es.size ep) where
  mem := by simp
  obj := fun i h st b hb => by
    have e : b = it := by simpa using hb
    subst e
    obtain ⟨oi, e, c, dd⟩ := st
    exact ⟨oi, e, fun v z => by rw [dd] at z; cases z⟩
  keep := fun i h h' st k => st.at fun oi e => k it (by simp) oi e
  item := by
    intro X hP hw hK hc i pins s σ H E I hf st hg
    subst hP hw hK
    obtain ⟨hd, hi⟩ := hg
    rw [ent_size hp] at hi
    obtain ⟨f0, f1, f2, f3, f4, f5⟩ := hf it (by simp)
    obtain ⟨x, hx, r1, r2⟩ := ent_at hp hi
    refine wpAny_pyNext_values_item_raw st ⟨o, atO_get I.hok hd, ex, hod⟩ hi fun h' st' sb => ?_
    have I1 : Inv X pins σ H { s with heap := h' } := I.turned (t' := s.toks) (fun b ob hb e => (sb.2 b hb).trans e) f0 f1 f3 f4 f5
    obtain ⟨oi, e, c, dd⟩ := id st'
    exact ⟨_, rfl, go_of (s := { s with heap := h' }) e c dd (by decide) ⟨x.2.2, H, I1, r2, ⟨rfl, x, hx, rfl⟩, st', fun b hb => (hf b hb).1⟩⟩
  done := by
    intro X hP hw hK hc i pins s σ H E I hf st hg
    subst hP hw hK
    obtain ⟨hd, hi⟩ := hg
    rw [ent_size hp] at hi
    obtain ⟨f0, f1, f2, f3, f4, f5⟩ := hf it (by simp)
    exact wpAny_pyNext_values_end_raw (I.ok.hd hc) st ⟨o, atO_get I.hok hd, ex, hod⟩ hi fun h' eb => ⟨rfl, I.turned (t' := s.toks) (fun b ob hb e => eb b ob hb e) f0 f1 f3 f4 f5⟩
  self := fun A i s Q E st h => wpAny_pyIter_valiter st h
theorem turn_zitems {elts : List Expr} {kk : Nat} {tpos : Pos} (it : Addr) (ex : o.ExactDict) (hod : o.data = .dict es ep) (hp : Paired (entIs w' t) tr es.toList) :
    Turn P w K (.Tuple elts kk tpos) (Iiz d o tr) [it] it (fun i h => ∃ ok ov, IsItemIter h it d i es.size ep ok ov) where
  mem := by simp
  obj := fun i h st b hb => by
    have e : b = it := by simpa using hb
    subst e
    obtain ⟨ok, ov, e⟩ := st
    exact ⟨_, e, fun v z => nomatch z⟩
  keep := fun i h h' st k => let ⟨ok, ov, e⟩ := st; ⟨ok, ov, k it (by simp) _ e⟩
  item := by
    intro X hP hw hK hc i pins s σ H E I hf st hg
    subst hP hw hK
    obtain ⟨hd, hi⟩ := hg
    rw [ent_size hp] at hi
    obtain ⟨x, hx, r1, r2⟩ := ent_at hp hi
    obtain ⟨ok, ov, he⟩ := st
    have hlt : it < s.heap.objs.size := Heap.lt_size he
    refine wpAny_pyNext_items_item_raw he ⟨o, atO_get I.hok hd, ex, hod⟩ hi fun h' ho hT hz hk => ?_
    refine ⟨_, rfl, wpAny_letOwnedTupleGo_items (s := { s with heap := h' }) ho fun h'' he' sb => ?_⟩
    have hT2 : h''.get? s.heap.objs.size = some { cls := .type "tuple", data := .seq #[es[i].key, es[i].val] } := (sb.2 _ (Nat.ne_of_gt hlt)).trans hT
    have new : ObjOk X.prog X.w (upd H s.heap.objs.size (.tup [x.2.1, x.2.2])) h'' s.heap.objs.size (.tup [x.2.1, x.2.2]) :=
      ⟨by show 2 ≤ sizeLine; decide, [es[i].key, es[i].val], .cons r1 (.cons r2 .nil), ⟨_, hT2, rfl, _, rfl⟩⟩
    have I1 : Inv X pins σ (upd H s.heap.objs.size (.tup [x.2.1, x.2.2])) { s with heap := h'' } :=
      I.turnedNew (t' := s.toks) (ch := [it]) (fun b ob hb e => (sb.2 b (by simpa using hb)).trans (hk b ob (by simpa using hb) e)) hf (Nat.le_refl _) new
    refine ⟨.ref s.heap.objs.size, _, I1, rfl, ⟨_, x, hx, rfl, I.hok.fresh (Nat.le_refl _), rfl⟩, ⟨_, _, he'⟩, fun b hb => ?_⟩
    have e : b = it := by simpa using hb
    rw [e, upd_ne (Nat.ne_of_lt hlt)]
    exact (hf it (by simp)).1
  done := by
    intro X hP hw hK hc i pins s σ H E I hf st hg
    subst hP hw hK
    obtain ⟨hd, hi⟩ := hg
    rw [ent_size hp] at hi
    obtain ⟨f0, f1, f2, f3, f4, f5⟩ := hf it (by simp)
    obtain ⟨ok, ov, he⟩ := st
    exact wpAny_pyNext_items_end_raw (I.ok.hd hc) he ⟨o, atO_get I.hok hd, ex, hod⟩ hi fun h' eb => ⟨rfl, I.turned (t' := s.toks) (fun b ob hb e => eb b ob hb e) f0 f1 f3 f4 f5⟩
  self := fun A i s Q E st h => let ⟨_, _, e⟩ := st; PySem.W.kcp_self e h
end
section
variable {κ : Kx} {X : Cx} {tg e : Expr} {td : TE} {apos cpos : Pos} {pins : List (Addr × Obj)} {σ : L2.St} {H : Hp} {s : Shared}
theorem iter_zkeys {d : Addr} {o : Obj} {t : Bool} {tr : List (D × V × V)} {R : It → Hp → Prop} (I : Inv X pins σ H s) (da : DAt κ H d o t tr) (q : R (Ikz d o tr) H) : wpAny (model X.prog X.w) X.A (pyIter (.ref d)) (PIE X pins σ tg R) X.xe s := by
  obtain ⟨es, ep, hdt, hp⟩ := da.o.dat
  exact iter_keys da.ns (da.get I.hok) da.o.ex hdt (pi_one (tk := s.toks) I _ (turn_zkeys _ da.o.ex hdt hp) ⟨_, Heap.get?_push_size _ rfl, rfl, rfl⟩ q)
def iVz (κ : Kx) (td : TE) : TI := fun σ H R => td σ H fun x H1 => ∃ d o t tr, x = .ref d ∧ DAt κ H1 d o t tr ∧ R (Ivz d o tr) H1
def iIz (κ : Kx) (td : TE) : TI := fun σ H R => td σ H fun x H1 => ∃ d o t tr, x = .ref d ∧ DAt κ H1 d o t tr ∧ R (Iiz d o tr) H1
theorem pi_zvals (he : PE X e td) (hbase : attributeBase e "values" X.env (eval e X.env) = eval e X.env) (hline : (apos.endLine == cpos.line) = true) : PI X tg (.Call (.Attribute e "values" apos) [] [] cpos) (iVz κ td) := by
  refine ⟨fun pins s σ H R I h => ?_⟩
  refine wpAny_Call_method (T := "dict") (id := "dict.values") hbase rfl hline F.plainAttrs_dict F.slot_dict_values F.type_dict_values (thn (he.run pins s σ H _ I h) fun u s1 ⟨x, H1, I1, rx, d, o, t, tr, ex, da, q⟩ => ?_)
  subst ex
  obtain rfl : u = Value.ref d := rx
  obtain ⟨es, ep, hdt, hp⟩ := da.o.dat
  refine ⟨da.typeIs I1, da.noDict I1, ?_⟩
  have raw : s1.heap.DictRaw d es ep := ⟨o, da.get I1.hok, da.o.ex, hdt⟩
  have I2 : Inv X pins σ H1 { s1 with heap := s1.heap.push { cls := .type "dict_values", data := .fields #[.ref d] } } := I1.kept (t' := s1.toks) fun b ob q => Heap.get?_push_of_some _ q
  have fin : wpAny (model X.prog X.w) X.A (pyIter (.ref s1.heap.objs.size)) (PIE X pins σ tg R) X.xe { s1 with heap := s1.heap.push { cls := .type "dict_values", data := .fields #[.ref d] } } :=
    wpAny_pyIter_values_raw (d := d) ⟨_, Heap.get?_push_size _ rfl, rfl, rfl⟩ (raw.at fun o e => Heap.get?_push_of_some _ e) (pi_one (tk := s1.toks) I2 _ (turn_zvals _ da.o.ex hdt hp) ⟨_, Heap.get?_push_size _ rfl, rfl, rfl⟩ q)
  show wpAny _ _ (callWith cpos (.builtin "dict.values") [.ref d] [] []) _ X.xe s1
  exact method_meetsIn F.slot_dict_values F.entry_dict_values rfl (PySem.evalArgs_none ⟨rfl, da.typeIs I1, F.args_dict_values_1 _, _, meets_dict_values_raw d da.ns, ⟨_, _, raw⟩, fin⟩)
theorem pi_zitems {elts : List Expr} {kk : Nat} {tpos : Pos} (he : PE X e td) (hbase : attributeBase e "items" X.env (eval e X.env) = eval e X.env) (hline : (apos.endLine == cpos.line) = true) :
    PI X (.Tuple elts kk tpos) (.Call (.Attribute e "items" apos) [] [] cpos) (iIz κ td) := by
  refine ⟨fun pins s σ H R I h => ?_⟩
  refine wpAny_Call_method (T := "dict") (id := "dict.items") hbase rfl hline F.plainAttrs_dict F.slot_dict_items F.type_dict_items (thn (he.run pins s σ H _ I h) fun u s1 ⟨x, H1, I1, rx, d, o, t, tr, ex, da, q⟩ => ?_)
  subst ex
  obtain rfl : u = Value.ref d := rx
  obtain ⟨es, ep, hdt, hp⟩ := da.o.dat
  refine ⟨da.typeIs I1, da.noDict I1, ?_⟩
  have raw : s1.heap.DictRaw d es ep := ⟨o, da.get I1.hok, da.o.ex, hdt⟩
  have I2 : Inv X pins σ H1 { s1 with heap := s1.heap.push { cls := .type "dict_items", data := .fields #[.ref d] } } := I1.kept (t' := s1.toks) fun b ob q => Heap.get?_push_of_some _ q
  have fin : wpAny (model X.prog X.w) X.A (pyIter (.ref s1.heap.objs.size)) (PIE X pins σ (.Tuple elts kk tpos) R) X.xe { s1 with heap := s1.heap.push { cls := .type "dict_items", data := .fields #[.ref d] } } :=
    wpAny_pyIter_items_raw (d := d) ⟨_, Heap.get?_push_size _ rfl, rfl, rfl⟩ (raw.at fun o e => Heap.get?_push_of_some _ e) (pi_one (tk := s1.toks) I2 _ (turn_zitems _ da.o.ex hdt hp) ⟨.none, .none, Heap.get?_push_size _ rfl⟩ q)
  show wpAny _ _ (callWith cpos (.builtin "dict.items") [.ref d] [] []) _ X.xe s1
  exact method_meetsIn F.slot_dict_items F.entry_dict_items rfl (PySem.evalArgs_none ⟨rfl, da.typeIs I1, F.args_dict_items_1 _, _, meets_dict_items_raw d da.ns, ⟨_, _, raw⟩, fin⟩)
end
end PyV
set_option Elab.async false
set_option linter.all false
set_option maxRecDepth 100000
set_option maxHeartbeats 2000000
namespace PyV
open PySem PySem.Spec PyProof.Rows L2

section
variable {κ : Kx} {io : Nat → V → Prop} {W : WX} {σ : L2.St} {H : Hp} {δ δ' : Ss} {τ τ' ρ : List En} {X : Cx} {a' b' c' d' : Expr} {pos : Pos} {Q : VK} {T : Tab}
theorem SR.perm (p : τ.Perm τ') (s : SR κ io σ H δ τ) : SR κ io σ H δ τ' := ⟨s.len, s.rel.perm (p.append_left _), s.io⟩
theorem SR.subl (p : τ'.Sublist τ) (s : SR κ io σ H δ τ) : SR κ io σ H δ τ' := ⟨s.len, s.rel.sub (p.append_left _), s.io⟩
theorem SR.head (s : SR κ io σ H δ τ) {e e' : En} {L : List En} (p : (σ.zip δ ++ τ).Perm (e :: L)) (h : Rel κ H (e :: L) → Rel κ H (e' :: L)) (q : (σ.zip δ' ++ τ').Perm (e' :: L)) (hl : δ'.length = δ.length) : SR κ io σ H δ' τ' :=
  ⟨s.len.trans hl.symm, (h (s.rel.perm p)).perm q.symm, s.io⟩
theorem SR.fz1 {r : Rv} {v : V} {d : D} (s : SR κ io σ H δ (ent r v :: τ)) (a : AliOk σ r v) (h : fz δ r = some (d, δ')) : SR κ io σ H δ' ((some v, .val d) :: τ) := by
  cases r with
  | val d' =>
    simp only [fz, Option.some.injEq, Prod.mk.injEq] at h
    obtain ⟨rfl, rfl⟩ := h
    exact s
  | own d' =>
    simp only [fz, Option.some.injEq, Prod.mk.injEq] at h
    obtain ⟨rfl, rfl⟩ := h
    exact s.head (e := (some v, .own d')) (L := σ.zip δ ++ τ) List.perm_middle Rel.froze List.perm_middle rfl
  | ali i =>
    have hi := a i rfl
    have s0 := s.tl
    simp only [fz] at h
    cases q : sl? δ i with
    | emp => rw [q] at h; cases h
    | val d' =>
      rw [q] at h
      cases h
      obtain ⟨v', e, m⟩ := s0.slot q (by simp)
      rw [hi] at e
      cases e
      exact ⟨s0.len, (s0.rel.dup (List.mem_append_left _ m)).perm List.perm_middle.symm, s0.io⟩
    | own d' =>
      rw [q] at h
      cases h
      have hlt : i < δ.length := by
        rcases Nat.lt_or_ge i δ.length with z | z
        · exact z
        · have : sl? δ i = .emp := by simp [List.getD, List.getElem?_eq_none z]
          rw [q] at this
          cases this
      obtain ⟨L, p1, p2, _⟩ := zip_split s0.len hlt τ
      have e1 : ((σ[i]?).getD none, δ.getD i .emp) = (some v, .own d) := by
        rw [hi]
        exact congrArg (Prod.mk (some v)) q
      rw [e1] at p1
      rw [hi] at p2
      have s1 : SR κ io σ H (δ.set i (.val d)) τ := s0.head p1 Rel.froze (p2 (.val d)) (List.length_set ..)
      have m : (some v, Sl.val d) ∈ σ.zip (δ.set i (.val d)) ++ τ := (p2 (.val d)).mem_iff.mpr List.mem_cons_self
      exact ⟨s1.len, (s1.rel.dup m).perm List.perm_middle.symm, s1.io⟩
def rObj (κ : Kx) (T : Tab) : R2 := fun x y H Q => ∃ d e k L, Rel κ H ((some x, .val d) :: (some y, .val e) :: L) ∧ objQ T d e = some k ∧ ∀ H', Rel κ H' L → Q (.bl k) H'
def rCmpX (κ : Kx) (T : Tab) : Co → R2
  | .eq => fun x y H Q => rCmp κ.K .eq x y H Q ∨ rObj κ T x y H Q
  | .inn => fun x y H Q => rCmp κ.K .inn x y H Q ∨ rInD κ false x y H Q
  | .nin => fun x y H Q => rCmp κ.K .nin x y H Q ∨ rInD κ true x y H Q
  | o => rCmp κ.K o
theorem op_cmpX (kx : KX κ X) (hK : κ.K = X.K) (hu : X.A.units + 64 < cLine) (h1 : OpR X (compareOp .Eq) (rObj κ T)) (o : Co) : OpR X (compareOp (coP o)) (rCmpX κ T o) := by
  have base : ∀ o, OpR X (compareOp (coP o)) (rCmp κ.K o) := fun o => by
    rw [hK]
    exact op_cmp hu o
  cases o with
  | eq => exact OpR.or (base .eq) h1
  | ne => exact base .ne
  | lt => exact base .lt
  | le => exact base .le
  | gt => exact base .gt
  | ge => exact base .ge
  | inn => exact OpR.or (base .inn) (op_inD kx hu)
  | nin => exact OpR.or (base .nin) (op_ninD kx hu)
theorem rCmp_X {o : Co} {x y : V} (h : rCmp κ.K o x y H Q) : rCmpX κ T o x y H Q := by
  cases o <;> first | exact .inl h | exact h
theorem tget_some {f : Hp} {tr : List (D × V × V)} {ds : List D} {k : D} (r : Reps κ f (tr.map (·.2.2)) ds) : (tget tr k).isSome = (dget (tr.map (·.1)) ds k).isSome := by
  have h := tget_rep (k := k) r
  cases h1 : tget tr k <;> cases h2 : dget (tr.map (·.1)) ds k <;> rw [h1, h2] at h <;> first | rfl | exact h.elim
theorem cmp_read {p : Option Nat} {o : Co} {a b : E} : ∀ σ H Q, tD κ io W (evE T p (.cmp o a b)) σ H Q → tOp (rCmpX κ T o) (tD κ io W (evE T p a)) (tD κ io W (evE T p b)) σ H Q := fun σ H Q ⟨δ, τ, s, h⟩ => by
  simp only [evE] at h
  refine seqD (ρ := []) h s fun r δ1 v H1 s1 a1 h1 => seqD (ρ := [ent r v]) h1 s1 fun r2 δ2 v2 H2 s2 a2 h2 => ?_
  split at h2
  · rename_i d e hd he
    split at h2
    · rename_i z hz
      obtain ⟨f, rf⟩ := s2.rel
      have x1 := rep_of rf.same (s2.read (by simp [ent]) a1 hd rf)
      have x2 := rep_of rf.same (s2.read (by simp [ent]) a2 he rf)
      exact rCmp_X (cmp_use rfl x1 x2 hz (fin_bl s2.tl.tl h2))
    · unfold eqO at h2
      split at h2
      · split at h2
        · rename_i d1 δ3 h3
          split at h2
          · rename_i e1 δ4 h4
            split at h2
            · rename_i k hk
              have s3 : SR κ io σ H2 δ3 ((some v, .val d1) :: ent r2 v2 :: τ) := (SR.perm (List.Perm.swap ..) s2).fz1 a1 h3
              have s4 : SR κ io σ H2 δ4 ((some v2, .val e1) :: (some v, .val d1) :: τ) := (SR.perm (List.Perm.swap ..) s3).fz1 a2 h4
              refine .inr ⟨d1, e1, k, σ.zip δ4 ++ τ, ?_, hk, fun H' r => fin_bl ⟨s4.len, r, s4.io⟩ h2⟩
              refine s4.rel.perm ?_
              refine (List.perm_middle.trans (List.Perm.cons _ List.perm_middle)).trans (List.Perm.swap ..)
            · exact h2.elim
          · exact h2.elim
        · exact h2.elim
      · split at h2
        · rename_i d1 t ks vs hd1 he1
          split at h2
          · rename_i hk
            obtain ⟨f, rf⟩ := s2.rel
            have x1 := rep_of rf.same (s2.read (by simp [ent]) a1 hd1 rf)
            obtain ⟨a, o, tr, rfl, dat, ek, _, rv⟩ := dct_of rf.same (s2.read (by simp [ent]) a2 he1 rf)
            subst ek
            refine .inr ⟨a, o, t, tr, d1, rfl, dat, hk, x1, ?_⟩
            rw [tget_some rv]
            exact fin_bl s2.tl.tl h2
          · exact h2.elim
        · exact h2.elim
      · split at h2
        · rename_i d1 t ks vs hd1 he1
          split at h2
          · rename_i hk
            obtain ⟨f, rf⟩ := s2.rel
            have x1 := rep_of rf.same (s2.read (by simp [ent]) a1 hd1 rf)
            obtain ⟨a, o, tr, rfl, dat, ek, _, rv⟩ := dct_of rf.same (s2.read (by simp [ent]) a2 he1 rf)
            subst ek
            refine .inr ⟨a, o, t, tr, d1, rfl, dat, hk, x1, ?_⟩
            rw [tget_some rv]
            exact fin_bl s2.tl.tl h2
          · exact h2.elim
        · exact h2.elim
      · exact h2.elim
  · exact h2.elim
theorem snd_cmp {p : Option Nat} {o : Co} {a b : E} (ho : OpR X (compareOp (coP o)) (rCmpX κ T o)) (hb' : noSet b' = true) (ha : PE X a' (tD κ io W (evE T p a))) (hb : PE X b' (tD κ io W (evE T p b))) :
    PE X (.Compare a' [coP o] [b'] pos) (tD κ io W (evE T p (.cmp o a b))) := PE.imp (pe_cmpR ho ha hb (noSet_mark hb')) cmp_read
theorem sndT_cmp {p : Option Nat} {o : Co} {a b : E} (ho : OpR X (compareOp (coP o)) (rCmpX κ T o)) (hb' : noSet b' = true) (ha : PE X a' (tD κ io W (evE T p a))) (hb : PE X b' (tD κ io W (evE T p b))) :
    PT X (.Compare a' [coP o] [b'] pos) (tDT κ io W fun s => tstR (evE T p (.cmp o a b) s)) := PT.imp (pt_cmpR ho ha hb (noSet_mark hb')) fun σ H Q h => cmp_read σ H _ (tst_D h)
def vals : List V → List D → List En
  | v :: vs, d :: ds => vals vs ds ++ [(some v, .val d)]
  | _, _ => []
theorem SR.fzs : ∀ {rs : List Rv} {vs : List V} {ds : List D} {δ : Ss} {τ : List En}, SR κ io σ H δ (ents rs vs ++ τ) → Alis σ rs vs → PyV.fzs δ rs = some (ds, δ') → SR κ io σ H δ' (vals vs ds ++ τ)
  | [], _, ds, δ, τ, s, a, h => by
    cases a
    simp only [PyV.fzs, Option.some.injEq, Prod.mk.injEq] at h
    obtain ⟨rfl, rfl⟩ := h
    exact s
  | r :: rs, _, ds, δ, τ, s, a, h => by
    cases a with
    | @cons _ v _ vs a1 a2 =>
      simp only [PyV.fzs] at h
      split at h
      · cases h
      · rename_i d δ1 hd
        split at h
        · cases h
        · rename_i ds2 δ2 hds
          cases h
          have s1 : SR κ io σ H δ (ent r v :: (ents rs vs ++ τ)) := s.perm (by
            show ((ents rs vs ++ [ent r v]) ++ τ).Perm _
            simpa using List.perm_middle)
          have s2 := s1.fz1 a1 hd
          have s3 : SR κ io σ H δ1 (ents rs vs ++ ((some v, .val d) :: τ)) := s2.perm List.perm_middle.symm
          have s4 := SR.fzs s3 a2 hds
          refine s4.perm ?_
          show (vals vs ds2 ++ (some v, Sl.val d) :: τ).Perm ((vals vs ds2 ++ [(some v, Sl.val d)]) ++ τ)
          simp
theorem reps_of {f : Hp} : ∀ {vs : List V} {ds : List D} {L τ : List En}, vs.length = ds.length → RelF κ f H (L ++ (vals vs ds ++ τ)) → Reps κ f vs ds
  | [], [], L, τ, _, _ => .nil
  | [], _ :: _, L, τ, h, _ => by simp at h
  | _ :: _, [], L, τ, h, _ => by simp at h
  | v :: vs, d :: ds, L, τ, h, r => by
    have hl : vs.length = ds.length := by simpa using h
    obtain ⟨v', e, q⟩ := r.at (ov := some v) (d := d) (by simp [vals])
    cases e
    refine .cons q (reps_of (τ := (some v, .val d) :: τ) (L := L) hl ?_)
    simpa [vals] using r
theorem fzs_length : ∀ {rs : List Rv} {ds : List D} {δ δ' : Ss}, PyV.fzs δ rs = some (ds, δ') → ds.length = rs.length
  | [], ds, δ, δ', h => by
    simp only [PyV.fzs, Option.some.injEq, Prod.mk.injEq] at h
    rw [← h.1]
    rfl
  | r :: rs, ds, δ, δ', h => by
    simp only [PyV.fzs] at h
    split at h
    · cases h
    · split at h
      · cases h
      · rename_i h2
        cases h
        rw [List.length_cons, List.length_cons, fzs_length h2]
theorem Alis.length : ∀ {rs : List Rv} {vs : List V}, Alis σ rs vs → vs.length = rs.length
  | _, _, .nil => rfl
  | _, _, .cons _ t => congrArg (· + 1) (Alis.length t)
theorem SR.kept {rs : List Rv} {vs : List V} {ds : List D} (s : SR κ io σ H δ (ents rs vs ++ τ)) (a : Alis σ rs vs) (h : PyV.fzs δ rs = some (ds, δ')) :
    ∃ f, RelF κ f H (σ.zip δ' ++ τ) ∧ Reps κ f vs ds ∧ σ.length = δ'.length ∧ ∀ j v, io j v → σ[j]? = some (some v) := by
  have s1 := s.fzs a h
  obtain ⟨f, rf⟩ := s1.rel
  have hl : vs.length = ds.length := by rw [a.length, fzs_length h]
  exact ⟨f, rf.sub ((List.sublist_append_right _ _).append_left _), reps_of (L := σ.zip δ') hl rf, s1.len, s1.io⟩

theorem snd_nil {p : Option Nat} : PA X [] (tDA κ io W (evEs T p [])) :=
  PA.imp pa_nil fun σ H Q ⟨δ, τ, s, h⟩ => h [] H s .nil
theorem snd_cons {p : Option Nat} {e : E} {es : List E} {es' : List Expr} (ha : PE X a' (tD κ io W (evE T p e))) (hs : PA X es' (tDA κ io W (evEs T p es)))
    (hst : starEach (a' :: es') X.env = (false, eval a' X.env) :: starEach es' X.env) : PA X (a' :: es') (tDA κ io W (evEs T p (e :: es))) := by
  refine PA.imp (pa_cons ha hs hst) fun σ H Q ⟨δ, τ, s, h⟩ => ?_
  simp only [evEs] at h
  refine seqD (ρ := []) h s fun r δ1 v H1 s1 a1 h1 => seqA (ρ := [ent r v]) h1 s1 fun rs δ2 vs H2 s2 a2 h2 => ?_
  refine h2 (v :: vs) H2 (s2.perm ?_) (.cons a1 a2)
  show (ents rs vs ++ ([ent r v] ++ τ)).Perm ((ents rs vs ++ [ent r v]) ++ τ)
  simp
theorem snd_tup {p : Option Nat} {es : List E} {es' : List Expr} {k : Nat} (hs : PA X es' (tDA κ io W (evEs T p es))) : PE X (.Tuple es' k pos) (tD κ io W (evE T p (.tup es))) := by
  refine PE.imp (pe_tup hs) fun σ H Q ⟨δ, τ, s, h⟩ => ?_
  simp only [evE] at h
  refine seqA (ρ := []) h s fun rs δ1 vs H1 s1 a1 h1 => ?_
  split at h1
  · rename_i ds δ2 hd
    split at h1
    · rename_i hl
      obtain ⟨f, rf, r, len, hio⟩ := s1.kept a1 hd
      refine ⟨by rw [r.length, lineEq]; exact hl, fun q hq => fin_tup len hio rf h1 hq r⟩
    · exact h1.elim
  · exact h1.elim
theorem snd_lst {p : Option Nat} {es : List E} {es' : List Expr} (hs : PA X es' (tDA κ io W (evEs T p es))) : PE X (.List es' pos) (tD κ io W (evE T p (.lst es))) := by
  refine PE.imp (pe_lst hs) fun σ H Q ⟨δ, τ, s, h⟩ => ?_
  simp only [evE] at h
  refine seqA (ρ := []) h s fun rs δ1 vs H1 s1 a1 h1 => ?_
  split at h1
  · rename_i ds δ2 hd
    split at h1
    · rename_i hl
      obtain ⟨f, rf, r, len, hio⟩ := s1.kept a1 hd
      refine ⟨by rw [r.length, lineEq]; exact hl, fun q hq => fin_lst len hio rf h1 hq r⟩
    · exact h1.elim
  · exact h1.elim
theorem reps_push {f : Hp} : ∀ {vs : List V} {ds : List D} {L : List En}, Reps κ f vs ds → RelF κ f H (σ.zip δ ++ L) → RelF κ f H (σ.zip δ ++ (ents (ds.map .val) vs ++ L))
  | [], ds, L, r, rf => by
    cases r
    exact rf
  | v :: vs, _, L, .cons (d := d) (ds := ds) r rs, rf => by
    have h1 : RelF κ f H (σ.zip δ ++ (ent (.val d) v :: L)) := (rf.val r).perm List.perm_middle.symm
    have h2 := reps_push rs h1
    show RelF κ f H (σ.zip δ ++ ((ents (ds.map .val) vs ++ [ent (.val d) v]) ++ L))
    rw [List.append_assoc]
    exact h2
theorem ents_append : ∀ {rs ss : List Rv} {vs ws : List V}, rs.length = vs.length → ents (rs ++ ss) (vs ++ ws) = ents ss ws ++ ents rs vs
  | [], ss, [], ws, _ => by simp [ents]
  | r :: rs, ss, v :: vs, ws, h => by
    have := ents_append (rs := rs) (ss := ss) (vs := vs) (ws := ws) (by simpa using h)
    show ents (rs ++ ss) (vs ++ ws) ++ [ent r v] = ents ss ws ++ (ents rs vs ++ [ent r v])
    rw [this, List.append_assoc]
theorem alis_vals : ∀ {ds : List D} {vs : List V} {rs : List Rv} {ws : List V}, ds.length = vs.length → Alis σ rs ws → Alis σ (ds.map .val ++ rs) (vs ++ ws)
  | [], [], rs, ws, _, a => a
  | d :: ds, v :: vs, rs, ws, h, a => .cons (fun i e => nomatch e) (alis_vals (by simpa using h) a)
theorem snd_star {p : Option Nat} {a : E} {k : Nat} {es : List E} {es' : List Expr} {q : Pos} (hK : κ.K = X.K) (ha : PE X a' (tD κ io W (evE T p a))) (hr : PA X es' (tDA κ io W (evXs T p k es))) : PA X (.Starred a' q :: es') (tDA κ io W (evXs T p (k + 1) (a :: es))) := by
  refine PA.imp (StX.pa_star ha hr) fun σ H Q ⟨δ, τ, s, h⟩ => ?_
  simp only [evXs] at h
  refine seqD (ρ := []) h s fun r δ1 v H1 s1 a1 h1 => ?_
  split at h1
  · rename_i ds hd
    obtain ⟨f, rf⟩ := s1.rel
    have x1 := s1.read (by simp [ent]) a1 hd rf
    obtain ⟨b, vs, rfl, q1, rr⟩ := lst_of rf.same hK x1
    refine ⟨b, vs, rfl, .inr q1.sq, ?_⟩
    have rf3 : RelF κ f H1 (σ.zip δ1 ++ τ) := rf.sub (List.Sublist.append_left (by simp) _)
    have s3 : SR κ io σ H1 δ1 (ents (ds.map .val) vs ++ τ) := ⟨s1.len, ⟨f, reps_push rr rf3⟩, s1.io⟩
    refine seqA h1 s3 fun rs δ2 ws H2 s4 a2 h2 => ?_
    have hl : (ds.map Rv.val).length = vs.length := by rw [List.length_map]; exact rr.length.symm
    exact h2 _ _ (by rw [ents_append hl, List.append_assoc]; exact s4) (alis_vals (by simpa using hl) a2)
  · exact h1.elim
theorem snd_consX {p : Option Nat} {e : E} {es : List E} {es' : List Expr} (ha : PE X a' (tD κ io W (evE T p e))) (hs : PA X es' (tDA κ io W (evXs T p 0 es)))
    (hst : starEach (a' :: es') X.env = (false, eval a' X.env) :: starEach es' X.env) : PA X (a' :: es') (tDA κ io W (evXs T p 0 (e :: es))) := by
  refine PA.imp (pa_cons ha hs hst) fun σ H Q ⟨δ, τ, s, h⟩ => ?_
  simp only [evXs] at h
  refine seqD (ρ := []) h s fun r δ1 v H1 s1 a1 h1 => seqA (ρ := [ent r v]) h1 s1 fun rs δ2 vs H2 s2 a2 h2 => ?_
  refine h2 (v :: vs) H2 (s2.perm ?_) (.cons a1 a2)
  show (ents rs vs ++ ([ent r v] ++ τ)).Perm ((ents rs vs ++ [ent r v]) ++ τ)
  simp
theorem snd_lstS {p : Option Nat} {k : Nat} {es : List E} {es' : List Expr} (hs : PA X es' (tDA κ io W (evXs T p k es))) : PE X (.List es' pos) (tD κ io W (evE T p (.lstS k es))) := by
  refine PE.imp (pe_lst hs) fun σ H Q ⟨δ, τ, s, h⟩ => ?_
  simp only [evE] at h
  refine seqA (ρ := []) h s fun rs δ1 vs H1 s1 a1 h1 => ?_
  split at h1
  · rename_i ds δ2 hd
    split at h1
    · rename_i hl
      obtain ⟨f, rf, r, len, hio⟩ := s1.kept a1 hd
      refine ⟨by rw [r.length, lineEq]; exact hl, fun q hq => fin_lst len hio rf h1 hq r⟩
    · exact h1.elim
  · exact h1.elim

theorem atD_atI {α : Type} {xs : List α} {i : Int} : atD xs i = atI xs i := by
  unfold atD atI ixN
  by_cases h : 0 ≤ i
  · rw [if_pos h, if_pos h]
    by_cases h2 : i < (xs.length : Int)
    · rw [if_pos h2]
      rfl
    · rw [if_neg h2]
      exact List.getElem?_eq_none (by omega)
  · rw [if_neg h, if_neg h]
    by_cases h2 : -(xs.length : Int) ≤ i
    · rw [if_pos h2, if_pos h2]
      rfl
    · rw [if_neg h2, if_neg h2]
      rfl
theorem atI_map {vs : List V} {ds : List D} {i : Int} {d : D} {f : Hp} (r : Reps κ f vs ds) (h : atI ds i = some d) : ∃ v, atI vs i = some v ∧ Rep κ f v d := by
  unfold atI at h ⊢
  rw [r.length]
  obtain ⟨j, hj, hd⟩ := Option.bind_eq_some_iff.mp h
  obtain ⟨v, hv, q⟩ := r.get hd
  exact ⟨v, by rw [hj]; exact hv, q⟩
theorem snd_sub {p : Option Nat} {a b : E} (kx : KX κ X) (hu : X.A.units + 64 < cLine) (hK : κ.K = X.K) (hix : PlainIx b') (ha : PE X a' (tD κ io W (evE T p a))) (hb : PE X b' (tD κ io W (evE T p b))) :
    PE X (.Subscript a' b' pos) (tD κ io W (evE T p (.sub a b))) := by
  refine PE.imp (pe_ix (ix_seq.or (ix_dct kx hu)) ha hb hix) fun σ H Q ⟨δ, τ, s, h⟩ => ?_
  simp only [evE] at h
  refine seqD (ρ := []) h s fun r δ1 v H1 s1 a1 h1 => seqD (ρ := [ent r v]) h1 s1 fun r2 δ2 v2 H2 s2 a2 h2 => ?_
  split at h2
  · rename_i d e hd he
    split at h2
    · rename_i z hz
      obtain ⟨f, rf⟩ := s2.rel
      have x1 := s2.read (by simp [ent]) a1 hd rf
      have x2 := rep_of rf.same (s2.read (by simp [ent]) a2 he rf)
      have s3 := s2.tl.tl
      have rf3 : RelF κ f H2 (σ.zip δ2 ++ τ) := rf.sub (List.Sublist.append_left (by simp) _)
      unfold subD at hz
      split at hz
      · obtain rfl := rep_int x2
        obtain ⟨b, vs, rfl, q1, rr⟩ := lst_of rf.same hK x1
        rw [atD_atI] at hz
        obtain ⟨u, hu, q⟩ := atI_map rr hz
        exact .inl (.inl ⟨b, vs, _, u, rfl, rfl, q1.sq, hu, fin_rep s3.len s3.io rf3 h2 q⟩)
      · obtain rfl := rep_int x2
        obtain ⟨b, vs, rfl, q1, rr⟩ := tup_of rf.same hK x1
        rw [atD_atI] at hz
        obtain ⟨u, hu, q⟩ := atI_map rr hz
        exact .inl (.inr (.inl ⟨b, vs, _, u, rfl, rfl, q1, hu, fin_rep s3.len s3.io rf3 h2 q⟩))
      · obtain rfl := rep_int x2
        obtain ⟨rfl, ok⟩ := rep_str (rep_of rf.same x1)
        split at hz
        · rename_i hl
          obtain ⟨c, hc, e⟩ := Option.map_eq_some_iff.mp hz
          subst e
          rw [atD_atI] at hc
          refine .inl (.inr (.inr ⟨_, _, c, rfl, rfl, by rw [lineEq]; simpa [Str.length] using hl, by simpa using hc, ?_⟩))
          refine fin_str (x := [c]) s3 h2 fun y hy => ?_
          have : y = c := by simpa using hy
          subst this
          obtain ⟨j, _, hj, _⟩ := atI_get hc
          exact ok _ (List.mem_of_getElem? hj)
        · cases hz
      · split at hz
        · rename_i hk
          obtain ⟨a, o, tr, rfl, dat, ek, _, rv⟩ := dct_of rf.same x1
          subst ek
          have h := tget_rep (k := e) rv
          rw [hz] at h
          cases h3 : tget tr e with
          | none => rw [h3] at h; exact h.elim
          | some w =>
            rw [h3] at h
            exact .inr ⟨a, o, _, tr, e, w, rfl, dat, hk, x2, h3, fin_rep s3.len s3.io rf3 h2 h⟩
        · cases hz
      · cases hz
    · exact h2.elim
  · exact h2.elim
theorem clip_sIx (n d : Nat) (o : Option Int) : clipD n d o = HT.sIx n d o := by cases o <;> rfl
theorem Reps.cut {f : Hp} {vs : List V} {ds : List D} (r : Reps κ f vs ds) (lo hi : Option Int) : Reps κ f (cutV vs lo hi) (cutD ds lo hi) := by
  unfold cutV cutD
  rw [clip_sIx, clip_sIx, r.length]
  exact (r.drop _).take _
def tDO (κ : Kx) (io : Nat → V → Prop) (W : WX) (den : Ss → R (Option Int)) : TO := fun σ H Q => ∃ δ τ, SR κ io σ H δ τ ∧ post κ io W σ τ (fun o δ' => ∀ H', SR κ io σ H' δ' τ → Q o H') (den δ)
def partD (T : Tab) (p : Option Nat) (e : E) (s : Ss) : R (Option Int) := match e with
  | .nop => R.ok none s
  | lo => (evE T p lo s).bind fun y s2 => match y with
    | .val (.int i) => .ok (some i) s2
    | _ => .bad
theorem po_nop {p : Option Nat} : PO X none (tDO κ io W (partD T p .nop)) :=
  ⟨fun pins s σ H Q I ⟨δ, τ, sr, h⟩ => po_none.run pins s σ H Q I (h H sr)⟩
theorem po_snd {p : Option Nat} {e : E} (ne : e ≠ .nop) (ha : PE X a' (tD κ io W (evE T p e))) : PO X (some a') (tDO κ io W (partD T p e)) := by
  refine ⟨fun pins s σ H Q I ⟨δ, τ, sr, h⟩ => (po_some ha).run pins s σ H Q I ?_⟩
  have e1 : partD T p e δ = (evE T p e δ).bind fun y s2 => match y with
    | .val (.int i) => .ok (some i) s2
    | _ => .bad := by
    cases e <;> first | rfl | exact absurd rfl ne
  rw [e1] at h
  refine seqD (ρ := []) h sr fun r δ1 v H1 s1 a1 h1 => ?_
  split at h1
  · obtain rfl := s1.topI
    exact ⟨_, rfl, h1 H1 s1.tl⟩
  · exact h1.elim
theorem seqO {α : Type} {den : Ss → R (Option Int)} {f : Option Int → Ss → R α} {Kf : α → Ss → Prop} {K : Option Int → Hp → Prop} (hp : post κ io W σ τ Kf ((den δ).bind f)) (hs : SR κ io σ H δ (ρ ++ τ))
    (k : ∀ b δ1 H1, SR κ io σ H1 δ1 (ρ ++ τ) → post κ io W σ τ Kf (f b δ1) → K b H1) : tDO κ io W den σ H K := by
  refine ⟨δ, ρ ++ τ, hs, ?_⟩
  cases e : den δ with
  | ok r δ1 =>
    rw [e] at hp
    exact fun H1 s1 => k r δ1 H1 s1 hp
  | ex x δ1 =>
    rw [e] at hp
    exact fun cls d H1 s1 xr => hp cls d H1 s1.cut xr
  | bad =>
    rw [e] at hp
    exact hp
theorem slc_parts {p : Option Nat} {a lo hi : E} {s : Ss} : evE T p (.slc a lo hi) s = (evE T p a s).bind fun x s1 => (partD T p lo s1).bind fun l s2 => (partD T p hi s2).bind fun h s3 => match rd s3 x with
    | some d => (match slcD d l h with
      | some z => .ok (out z) s3
      | none => .bad)
    | none => .bad := by
  simp only [evE]
  rfl
theorem snd_slc {p : Option Nat} {a lo hi : E} {lo' hi' : Option Expr} {p2 : Pos} (hK : κ.K = X.K) (ha : PE X a' (tD κ io W (evE T p a))) (hl : PO X lo' (tDO κ io W (partD T p lo))) (hh : PO X hi' (tDO κ io W (partD T p hi))) :
    PE X (.Subscript a' (.Slice lo' hi' none p2) pos) (tD κ io W (evE T p (.slc a lo hi))) := by
  refine PE.imp (pe_slice ((sl_list.or sl_str).or sl_tupA) ha hl hh) fun σ H Q ⟨δ, τ, s, h⟩ => ?_
  rw [slc_parts] at h
  refine seqD (ρ := []) h s fun r δ1 v H1 s1 a1 h1 => seqO (ρ := [ent r v]) h1 s1 fun l δ2 H2 s2 h2 => seqO (ρ := [ent r v]) h2 s2 fun u δ3 H3 s3 h3 => ?_
  split at h3
  · rename_i d hd
    split at h3
    · rename_i z hz
      obtain ⟨f, rf⟩ := s3.rel
      have x1 := s3.read (by simp [ent]) a1 hd rf
      have s4 := s3.cut
      have rf3 : RelF κ f H3 (σ.zip δ3 ++ τ) := rf.sub (List.Sublist.append_left (by simp) _)
      unfold slcD at hz
      split at hz
      · cases hz
        obtain ⟨b, vs, rfl, q1, rr⟩ := lst_of rf.same hK x1
        exact .inl (.inl ⟨b, vs, rfl, q1.sq, fun q hq => fin_lst s4.len s4.io rf3 h3 hq (rr.cut l u)⟩)
      · obtain ⟨rfl, ok⟩ := rep_str (rep_of rf.same x1)
        split at hz
        · rename_i hl
          cases hz
          refine .inl (.inr ⟨_, rfl, by rw [lineEq]; simpa [Str.length] using hl, ?_⟩)
          rename_i s0
          have e : cutS ⟨s0.toArray⟩ l u = ⟨(cutD s0 l u).toArray⟩ := by
            unfold cutS cutD
            simp [Str.length, clip_sIx]
          rw [e]
          refine fin_str s4 h3 fun y hy => ok y ?_
          unfold cutD at hy
          exact List.mem_of_mem_drop (List.mem_of_mem_take hy)
        · cases hz
      · cases hz
        obtain ⟨b, vs, rfl, q1, rr⟩ := tup_of rf.same hK x1
        have tx := x1.elim id fun ⟨_, _, _, o⟩ => by cases o
        refine .inr ⟨b, vs, rfl, q1, fun ⟨w1, w2⟩ => ?_, fun _ q hq => fin_tup s4.len s4.io rf3 h3 hq (rr.cut l u)⟩
        have e : ∀ {ds : List D}, vs.length = ds.length → cutD ds l u = ds := fun {ds} hl => by
          unfold cutD
          rw [clip_sIx, clip_sIx, ← hl, w1, w2, List.drop_zero, Nat.sub_zero, hl, List.take_length]
        rw [e rr.length] at h3
        exact fin_rep s4.len s4.io rf3 h3 tx
      · cases hz
    · exact h3.elim
  · exact h3.elim
theorem rev_range (s : List Nat) : ((List.range s.length).map fun k => s.length - 1 - k).filterMap (s.toArray[·]?) = s.reverse := by
  rw [W.krv_range]
  rw [List.filterMap_reverse]
  congr 1
  have := W.krv_all s.toArray
  simpa using this
section
variable {prog : Program} {w : World} {A : Around} {E : Value → Shared → Prop} {s : Shared}
theorem sliceApplied_rev {sl : Addr} {vl vu vs : Value} {n : Nat} {Q : Int × Int × Nat → Shared → Prop} (hs : s.heap.IsSliceOf sl vl vu vs) (pl : IsPart vl none) (pu : IsPart vu none) (ps : IsPart vs (some (-1)))
    (h : Q ((n : Int) - 1, -1, n) s) : wpAny (model prog w) A (Builtin.Slice.sliceApplied (.ref sl) (pure (n : Int))) Q E s := by
  obtain ⟨os, hos, hcs, hds⟩ := id hs
  unfold Builtin.Slice.sliceApplied Builtin.Slice.sliceFields
  refine wpAny_bind (wpAny_bind (wpAny_field hos hds (x := vl) rfl (wpAny_bind (wpAny_field hos hds (x := vu) rfl (wpAny_bind (wpAny_field hos hds (x := vs) rfl (wpAny_pure ?_)))))))
  refine wpAny_bind (HT.slicePart_ ps ?_)
  show wpAny _ _ (if ((-1 : Int) == 0) = true then _ else _) _ _ s
  rw [if_neg (by decide)]
  refine wpAny_bind (HT.slicePart_ pl (wpAny_bind (HT.slicePart_ pu (wpAny_bind (wpAny_pure ?_)))))
  have e : Builtin.Slice.sliceAdjust none none (-1) (n : Int) = ((n : Int) - 1, -1) := rfl
  have e2 : Builtin.Slice.slicePlaces ((n : Int) - 1) (-1) (-1) = n := by
    unfold Builtin.Slice.slicePlaces
    have h1 : ¬ ((-1 : Int) > 0) := by omega
    simp only [h1, if_false]
    split
    · have : ((n : Int) - 1 - -1 - 1) / (- -1) + 1 = n := by
        rw [show (- -1 : Int) = 1 by decide, Int.ediv_one]
        omega
      omega
    · omega
  show wpAny _ _ (match Builtin.Slice.sliceAdjust none none (-1) (n : Int) with | (lo, hi) => pure (lo, (-1 : Int), Builtin.Slice.slicePlaces lo hi (-1))) _ _ s
  rw [e]
  show wpAny _ _ (pure ((n : Int) - 1, (-1 : Int), Builtin.Slice.slicePlaces ((n : Int) - 1) (-1) (-1))) _ _ s
  rw [e2]
  exact wpAny_pure h
theorem pick_rev (xs : Array Value) : ((List.range xs.size).filterMap fun (m : Nat) => xs[(((xs.size : Int) - 1) + (m : Int) * (-1)).toNat]?).toArray = xs.toList.reverse.toArray := by
  have e : (List.range xs.size).filterMap (fun (m : Nat) => xs[(((xs.size : Int) - 1) + (m : Int) * (-1)).toNat]?) = ((List.range xs.size).map fun k => xs.size - 1 - k).filterMap (xs[·]?) := by
    have e3 : (List.range xs.size).map (fun (m : Nat) => (((xs.size : Int) - 1) + (m : Int) * (-1)).toNat) = (List.range xs.size).map fun k => xs.size - 1 - k := List.map_congr_left fun m hm => by
      have := List.mem_range.mp hm
      omega
    rw [← e3, List.filterMap_map]
    rfl
  rw [e, W.krv_range, List.filterMap_reverse, W.krv_all]
theorem getItem_tuple_rev {t sl : Addr} {items : Array Value} {vl vu vs : Value} {Q : Value → Shared → Prop} (ht : IsTup s.heap t items) (hs : s.heap.IsSliceOf sl vl vu vs) (pl : IsPart vl none) (pu : IsPart vu none) (ps : IsPart vs (some (-1)))
    (h : Q (.ref s.heap.objs.size) { s with heap := s.heap.push { cls := .type "tuple", data := .seq items.toList.reverse.toArray } })
    (hsz : items.size ≤ sizeLine) : wpAny (model prog w) A (getItem (.ref t) (.ref sl)) Q E s := by
  have htake : sizeOk (.seq items.toList.reverse.toArray) := by
    show items.toList.reverse.toArray.size ≤ sizeLine
    rw [List.size_toArray, List.length_reverse, Array.length_toList]
    omega
  obtain ⟨os, hos, hcs, hds⟩ := id hs
  have hTs : s.TypeIs (.ref sl) "slice" := ⟨os, hos, hcs⟩
  unfold getItem
  try with_reducible refine wpAny_holding ?_
  first | refine wpAny_bind (wpAny_pure ?_) | skip
  refine wpAny_bind (wpAny_sequenceKey ht.typeIs (by decide) ?_)
  refine wpAny_bind (wpAny_callSpecial?_slot (name := Str.ofString "__getitem__") ht.typeIs PyProof.Rows.slot_tuple_getitem
    (wpAny_call_entry PyProof.Rows.slot_tuple_getitem ht.typeIs entry_tuple_getitem ?_ (args_tuple_getitem _ _)))
  show wpAny _ _ (Builtin.Tuple.tupleItemsOf (.ref t) >>= _) _ _ s
  refine wpAny_bind (tupleItemsOf_ ht ?_)
  refine wpAny_bind (wpAny_typeOf hTs ?_)
  rw [if_pos (by decide)]
  refine wpAny_bind (sliceApplied_rev hs pl pu ps ?_)
  have hno : ¬ ((((items.size : Int) - 1) == 0 && (-1 : Int) == 1 && items.size == items.size) = true) := by
    rw [show ((-1 : Int) == 1) = false by decide]
    simp
  show wpAny _ _ (if (((items.size : Int) - 1) == 0 && (-1 : Int) == 1 && items.size == items.size) = true then _ else _) _ _ s
  rw [if_neg hno, pick_rev]
  first
    | exact wpAny_bind (m := Builtin.Tuple.tupleExact _) (wpAny_newObj_type (wpAny_pure ⟨_, rfl, wpAny_pure h⟩) htake)
    | exact wpAny_bind (m := Builtin.Tuple.tupleExact _) (wpAny_newObj_type (wpAny_bind (wpAny_pure (wpAny_pure ⟨_, rfl, wpAny_pure h⟩))) htake)
    | exact wpAny_bind (wpAny_bind (m := Builtin.Tuple.tupleExact _) (wpAny_newObj_type (wpAny_pure (wpAny_pure ⟨_, rfl, wpAny_pure h⟩)) htake))
    | exact wpAny_bind (wpAny_bind (m := Builtin.Tuple.tupleExact _) (wpAny_newObj_type (wpAny_pure ⟨_, rfl, wpAny_pure h⟩) htake))
end
def rRevS : V → Hp → VK → Prop := fun x H Q => ∃ s : List Nat, x = .str ⟨s.toArray⟩ ∧ s.length ≤ 16777216 ∧ Q (.str ⟨s.reverse.toArray⟩) H
def rRev (K : PySem.W.Frag) : V → Hp → VK → Prop := fun x H Q => (∃ a xs, x = .ref a ∧ SqL K H a xs ∧ ∀ p, H p = none → Q (.ref p) (upd H p (.lst xs.reverse))) ∨ rRevS x H Q ∨ (∃ a xs, x = .ref a ∧ SqT K H a xs ∧ ∀ p, H p = none → Q (.ref p) (upd H p (.tup xs.reverse)))
theorem pe_rev {e : Expr} {te : TE} {k : Nat} {p1 p2 p3 : Pos} (he : PE X e te) : PE X (.Subscript e (.Slice none none (some (.UnaryOp .USub (.Constant (.int 1) k p1) p2)) p3) pos) (tUn (rRev X.K) te) := by
  refine ⟨fun pins s σ H Q I h => ?_⟩
  refine Subscript_ (thn (he.run pins s σ H _ I h) fun v s1 ⟨x, H1, I1, r1, q1⟩ => ?_)
  have step : PO X (some (.UnaryOp .USub (.Constant (.int 1) k p1) p2)) (tPart (tUn (rU fun i => .int (-i)) (tC (.int 1)))) := po_some (pe_un un_neg pe_int)
  refine wpAny_Slice (thn (po_none.run pins s1 σ H1 (fun o G => o = none ∧ G = H1) I1 ⟨rfl, rfl⟩) fun vl s2 ⟨l, H2, I2, pl, el, e2⟩ => ?_)
  subst el e2
  refine thn (po_none.run pins s2 σ H2 (fun o G => o = none ∧ G = H2) I2 ⟨rfl, rfl⟩) fun vu s3 ⟨u, H3, I3, pu, eu, e3⟩ => ?_
  subst eu e3
  refine thn (step.run pins s3 σ H3 (fun o G => o = some (-1) ∧ G = H3) I3 ⟨1, rfl, -1, rfl, rfl, rfl⟩) fun vs s4 ⟨o, H4, I4, ps, eo, e4⟩ => ?_
  subst eo e4
  have I5 : Inv X pins σ H4 { s4 with heap := s4.heap.push { cls := .type "slice", data := .fields #[vl, vu, vs] } } := I4.kept (t' := s4.toks) fun b ob q => Heap.get?_push_of_some _ q
  rcases q1 with ⟨a, xs, ex, hx, q⟩ | ⟨z, ex, hz, q⟩ | ⟨a, xs, ex, hx, q⟩
  rotate_left 2
  · subst ex
    cases r1
    obtain ⟨its, r, ht, hz⟩ := I5.tuple hx
    have hlen := r.length
    show wpAny _ X.A (subscriptTail e (.Slice none none (some (.UnaryOp .USub (.Constant (.int 1) k p1) p2)) p3) (.ref a) (.ref s4.heap.objs.size)) _ _ { s4 with heap := s4.heap.push { cls := .type "slice", data := .fields #[vl, vu, vs] } }
    refine tail_any (ops := [.ref a, .ref s4.heap.objs.size]) ht.typeIs PyProof.Rows.slot_tuple_getitem.lookup ?_ (by with_unfolding_all rfl)
    refine getItem_tuple_rev ht (Heap.IsSliceOf.new _ vl vu vs) pl pu ps ?_ (by rw [List.size_toArray]; omega)
    exact ⟨.ref _, _, I5.laid (t' := s4.toks) (o := .tup xs.reverse) (fun b ob q => Heap.get?_push_of_some _ q) (Nat.le_refl _) ⟨by rw [List.length_reverse]; exact hz, _, r.reverse, ⟨_, Heap.get?_push_size _ rfl, rfl, _, rfl⟩⟩, rfl, q _ (I5.hok.fresh (Nat.le_refl _))⟩
  · subst ex
    cases r1
    obtain ⟨its, r, ht, hz⟩ := I5.list hx
    have hlen := r.length
    show wpAny _ X.A (subscriptTail e (.Slice none none (some (.UnaryOp .USub (.Constant (.int 1) k p1) p2)) p3) (.ref a) (.ref s4.heap.objs.size)) _ _ { s4 with heap := s4.heap.push { cls := .type "slice", data := .fields #[vl, vu, vs] } }
    refine tail_any (ops := [.ref a, .ref s4.heap.objs.size]) ht.isList.typeIs (PySem.slot_list_getitem.lookup) ?_ (by with_unfolding_all rfl)
    refine wpAny_getItem_list_slice ht.isList (Heap.IsSliceOf.new _ vl vu vs) pl pu ps (by decide) ?_ (by rw [List.size_toArray]; omega)
    rw [W.krv_pick]
    exact ⟨.ref _, _, I5.laid (t' := s4.toks) (o := .lst xs.reverse) (fun b ob q => Heap.get?_push_of_some _ q) (Nat.le_refl _) ⟨by rw [List.length_reverse]; exact hz, _, 0, r.reverse, Heap.get?_push_size _ rfl⟩, rfl, q _ (I5.hok.fresh (Nat.le_refl _))⟩
  · subst ex
    obtain ⟨t, rfl⟩ := r1
    obtain ⟨l, rfl, el⟩ := IsPart.raw pl
    obtain ⟨u, rfl, eu⟩ := IsPart.raw pu
    obtain ⟨st, rfl, es⟩ := IsPart.raw ps
    have nl : l = none := by cases l <;> simp at el ⊢
    have nu : u = none := by cases u <;> simp at eu ⊢
    subst nl nu
    obtain ⟨t2, rfl⟩ : ∃ t2, st = some (-1, t2) := by
      cases st with
      | none => simp at es
      | some w =>
        obtain ⟨i, t2⟩ := w
        simp at es
        exact ⟨t2, by rw [← es]⟩
    show wpAny _ X.A (subscriptTail e (.Slice none none (some (.UnaryOp .USub (.Constant (.int 1) k p1) p2)) p3) (.str ⟨z.toArray⟩ t) (.ref s4.heap.objs.size)) _ _ { s4 with heap := s4.heap.push { cls := .type "slice", data := .fields #[partValue none, partValue none, partValue (some (-1, t2))] } }
    refine tail_any (ops := [.str ⟨z.toArray⟩ t, .ref s4.heap.objs.size]) (typeIs_str _ _ _) F.slot_str_getitem.lookup ?_ (by with_unfolding_all rfl)
    refine wpAny_getItem_str_slice (l := none) (u := none) (st := some (-1, t2)) ⟨_, Heap.get?_push_size _ rfl, rfl, rfl⟩ rfl ?_
    have lz : (⟨z.toArray⟩ : Str).length = z.length := by simp [Str.length]
    have e1 : ((Builtin.Str.strSliceIndices none none (-1) (⟨z.toArray⟩ : Str).length).filterMap ((⟨z.toArray⟩ : Str).cps[·]?)) = z.reverse := by
      rw [picked_rev, lz]
      exact rev_range z
    show Made.post (if ((-1 : Int) == 1 && (Builtin.Str.strSliceIndices none none (-1) (⟨z.toArray⟩ : Str).length).length == (⟨z.toArray⟩ : Str).length) = true then Made.val (.str ⟨z.toArray⟩ t)
      else Made.str ⟨((Builtin.Str.strSliceIndices none none (-1) (⟨z.toArray⟩ : Str).length).filterMap ((⟨z.toArray⟩ : Str).cps[·]?)).toArray⟩) _ _
    rw [if_neg (by simp), e1]
    refine ⟨?_, .str ⟨z.reverse.toArray⟩, _, I5.tok _, ⟨_, rfl⟩, q⟩
    show z.reverse.toArray.size ≤ sizeLine
    rw [List.size_toArray, List.length_reverse, lineEq]
    exact hz
theorem snd_rev {p : Option Nat} {a : E} {k : Nat} {p1 p2 p3 : Pos} (hK : κ.K = X.K) (ha : PE X a' (tD κ io W (evE T p a))) :
    PE X (.Subscript a' (.Slice none none (some (.UnaryOp .USub (.Constant (.int 1) k p1) p2)) p3) pos) (tD κ io W (evE T p (.rev a))) := by
  refine PE.imp (pe_rev ha) fun σ H Q ⟨δ, τ, s, h⟩ => ?_
  simp only [evE] at h
  refine seqD (ρ := []) h s fun r δ1 v H1 s1 a1 h1 => ?_
  split at h1
  · rename_i d hd
    split at h1
    · rename_i z hz
      obtain ⟨f, rf⟩ := s1.rel
      have x1 := s1.read (by simp [ent]) a1 hd rf
      have s4 := s1.tl
      have rf3 : RelF κ f H1 (σ.zip δ1 ++ τ) := rf.sub (List.Sublist.append_left (by simp) _)
      unfold revD at hz
      split at hz
      · cases hz
        obtain ⟨b, vs, rfl, q1, rr⟩ := lst_of rf.same hK x1
        exact .inl ⟨b, vs, rfl, q1.sq, fun q hq => fin_lst s4.len s4.io rf3 h1 hq rr.reverse⟩
      · obtain ⟨rfl, ok⟩ := rep_str (rep_of rf.same x1)
        split at hz
        · rename_i hl
          cases hz
          exact .inr (.inl ⟨_, rfl, hl, fin_str s4 h1 fun y hy => ok y (List.mem_reverse.mp hy)⟩)
        · cases hz
      · cases hz
        obtain ⟨b, vs, rfl, q1, rr⟩ := tup_of rf.same hK x1
        exact .inr (.inr ⟨b, vs, rfl, q1, fun q hq => fin_tup s4.len s4.io rf3 h1 hq rr.reverse⟩)
      · cases hz
    · exact h1.elim
  · exact h1.elim
end
end PyV
set_option Elab.async false
set_option linter.all false
set_option maxRecDepth 100000
set_option maxHeartbeats 2000000
namespace PyV
open PySem PySem.Spec PyProof.Rows L2

section
variable {κ : Kx} {f g h : Hp}
theorem allI_eq : ∀ {ds : List D} {ns : List Int}, allI ds = some ns → ds = ns.map D.int
  | [], ns, h => by simp at h; subst h; rfl
  | d :: ds, ns, h => by
    cases d <;> simp only [allI] at h <;> try (cases h; done)
    obtain ⟨ms, e, rfl⟩ := Option.map_eq_some_iff.mp h
    rw [allI_eq e]
    rfl
theorem allB_eq : ∀ {ds : List D} {ns : List Bool}, allB ds = some ns → ds = ns.map D.bl
  | [], ns, h => by simp at h; subst h; rfl
  | d :: ds, ns, h => by
    cases d <;> simp only [allB] at h <;> try (cases h; done)
    obtain ⟨ms, e, rfl⟩ := Option.map_eq_some_iff.mp h
    rw [allB_eq e]
    rfl
theorem allB_map : ∀ ns : List Bool, allB (ns.map D.bl) = some ns
  | [] => rfl
  | n :: ns => by simp [allB_map ns]
theorem allS_eq : ∀ {ds : List D} {ns : List (List Nat)}, allS ds = some ns → ds = ns.map D.str
  | [], ns, h => by simp at h; subst h; rfl
  | d :: ds, ns, h => by
    cases d <;> simp only [allS] at h <;> try (cases h; done)
    obtain ⟨ms, e, rfl⟩ := Option.map_eq_some_iff.mp h
    rw [allS_eq e]
    rfl
theorem allS_map : ∀ ns : List (List Nat), allS (ns.map D.str) = some ns
  | [] => rfl
  | n :: ns => by simp [allS_map ns]
theorem reps_I : ∀ {vs : List V} {ns : List Int}, Reps κ f vs (ns.map D.int) → vs = ns.map V.int
  | _, [], .nil => rfl
  | _, _ :: _, .cons r t => by rw [rep_int r, reps_I t]; rfl
theorem reps_B : ∀ {vs : List V} {ns : List Bool}, Reps κ f vs (ns.map D.bl) → vs = ns.map V.bl
  | _, [], .nil => rfl
  | _, _ :: _, .cons r t => by rw [rep_bl r, reps_B t]; rfl
theorem reps_S : ∀ {vs : List V} {ns : List (List Nat)}, Reps κ f vs (ns.map D.str) → vs = (ns.map fun s => (⟨s.toArray⟩ : Str)).map V.str ∧ ∀ s ∈ ns, ∀ c ∈ s, c < 1114112
  | _, [], .nil => ⟨rfl, fun _ h => nomatch h⟩
  | _, s :: ns, .cons r t => by
    obtain ⟨e1, k1⟩ := rep_str r
    obtain ⟨e2, k2⟩ := reps_S t
    refine ⟨by rw [e1, e2]; rfl, fun z hz => ?_⟩
    rcases List.mem_cons.mp hz with rfl | hz
    · exact k1
    · exact k2 z hz
theorem reps_ofI : ∀ ns : List Int, Reps κ f (ns.map V.int) (ns.map D.int)
  | [] => .nil
  | n :: ns => .cons (.int n) (reps_ofI ns)

theorem maxI_mem : ∀ (n : Int) (ns : List Int), maxI (n :: ns) ∈ n :: ns
  | n, [] => List.mem_singleton.mpr rfl
  | n, m :: ns => by
    unfold maxI
    split
    · exact List.mem_cons_of_mem _ (maxI_mem m ns)
    · exact List.mem_cons_self
theorem maxI_top : ∀ (n : Int) (ns : List Int), ∀ y ∈ n :: ns, y ≤ maxI (n :: ns)
  | n, [], y, h => by simp at h; subst h; exact Int.le_refl _
  | n, m :: ns, y, h => by
    unfold maxI
    rcases List.mem_cons.mp h with rfl | h
    · split
      · assumption
      · exact Int.le_refl _
    · have := maxI_top m ns y h
      split <;> omega
theorem minI_mem : ∀ (n : Int) (ns : List Int), minI (n :: ns) ∈ n :: ns
  | n, [] => List.mem_singleton.mpr rfl
  | n, m :: ns => by
    unfold minI
    split
    · exact List.mem_cons_of_mem _ (minI_mem m ns)
    · exact List.mem_cons_self
theorem minI_low : ∀ (n : Int) (ns : List Int), ∀ y ∈ n :: ns, minI (n :: ns) ≤ y
  | n, [], y, h => by simp at h; subst h; exact Int.le_refl _
  | n, m :: ns, y, h => by
    unfold minI
    rcases List.mem_cons.mp h with rfl | h
    · split
      · assumption
      · exact Int.le_refl _
    · have := minI_low m ns y h
      split <;> omega
theorem allP_eq : ∀ {ds : List D} {ps : List (Int × Int)}, allP ds = some ps → ds = ps.map pairI
  | [], ps, h => by cases h; rfl
  | d :: ds, ps, h => by
    unfold allP at h
    split at h
    · rename_i e
      cases e
    · rename_i i j ds' e
      cases e
      obtain ⟨qs, h1, rfl⟩ := Option.map_eq_some_iff.mp h
      rw [List.map_cons, ← allP_eq h1]
      rfl
    · cases h
theorem leP_iff {p q : Int × Int} : leP p q = true ↔ p.1 < q.1 ∨ (p.1 = q.1 ∧ p.2 ≤ q.2) := by
  unfold leP
  exact decide_eq_true_iff
theorem sortP_perm (ps : List (Int × Int)) : (sortP ps).Perm ps := List.mergeSort_perm ..
theorem sortP_up (ps : List (Int × Int)) : (sortP ps).Pairwise (fun p q => leP p q = true) :=
  List.pairwise_mergeSort (le := leP) (fun a b c h1 h2 => by rw [leP_iff] at *; omega) (fun a b => by
    rw [Bool.or_eq_true, leP_iff, leP_iff]; omega) ps
theorem sortP_is {ms ps : List (Int × Int)} (p : ms.Perm ps) (u : ms.Pairwise (fun p q => leP p q = true)) : ms = sortP ps :=
  List.Perm.eq_of_pairwise (fun a b _ _ h1 h2 => by
    rw [leP_iff] at h1 h2
    exact Prod.ext (by omega) (by omega)) u (sortP_up ps) (p.trans (sortP_perm ps).symm)
theorem sortI_perm (ns : List Int) : (sortI ns).Perm ns := List.mergeSort_perm ..
theorem sortI_up (ns : List Int) : (sortI ns).Pairwise (· ≤ ·) := by
  have h := List.pairwise_mergeSort (le := fun i j : Int => decide (i ≤ j)) (fun a b c h1 h2 => by simp at h1 h2 ⊢; omega) (fun a b => by simp; omega) ns
  exact h.imp fun h => by simpa using h
theorem sortI_is {ms ns : List Int} (p : ms.Perm ns) (u : ms.Pairwise (· ≤ ·)) : ms = sortI ns :=
  (p.trans (sortI_perm ns).symm).eq_of_pairwise (fun a b _ _ h1 h2 => Int.le_antisymm h1 h2) u (sortI_up ns)

theorem ltC_irr : ∀ a : List Nat, ltCps a a = false
  | [] => rfl
  | a :: r => by simp [ltCps, ltC_irr r]
theorem ltC_trans : ∀ {a b c : List Nat}, ltCps a b = true → ltCps b c = true → ltCps a c = true
  | [], [], _, h, _ => by simp [ltCps] at h
  | [], _ :: _, [], _, k => by simp [ltCps] at k
  | [], _ :: _, _ :: _, _, _ => rfl
  | _ :: _, [], _, h, _ => by simp [ltCps] at h
  | _ :: _, _ :: _, [], _, k => by simp [ltCps] at k
  | a :: r, b :: t, c :: u, h, k => by
    simp only [ltCps, Bool.or_eq_true, Bool.and_eq_true, decide_eq_true_eq, beq_iff_eq] at h k ⊢
    rcases h with h | ⟨rfl, h⟩
    · rcases k with k | ⟨rfl, k⟩
      · exact .inl (by omega)
      · exact .inl h
    · rcases k with k | ⟨rfl, k⟩
      · exact .inl k
      · exact .inr ⟨rfl, ltC_trans h k⟩
theorem ltC_tri : ∀ a b : List Nat, ltCps a b = true ∨ a = b ∨ ltCps b a = true
  | [], [] => .inr (.inl rfl)
  | [], _ :: _ => .inl rfl
  | _ :: _, [] => .inr (.inr rfl)
  | a :: r, b :: t => by
    simp only [ltCps, Bool.or_eq_true, Bool.and_eq_true, decide_eq_true_eq, beq_iff_eq]
    rcases Nat.lt_trichotomy a b with h | rfl | h
    · exact .inl (.inl h)
    · rcases ltC_tri r t with h | rfl | h
      · exact .inl (.inr ⟨rfl, h⟩)
      · exact .inr (.inl rfl)
      · exact .inr (.inr (.inr ⟨rfl, h⟩))
    · exact .inr (.inr (.inl h))
theorem leC_iff {a b : List Nat} : leC a b = true ↔ ltCps a b = true ∨ a = b := by
  unfold leC
  rw [Bool.not_eq_true']
  constructor
  · intro h
    rcases ltC_tri a b with k | k | k
    · exact .inl k
    · exact .inr k
    · rw [h] at k; cases k
  · rintro (h | rfl)
    · cases k : ltCps b a with
      | false => rfl
      | true => have := ltC_trans h k; rw [ltC_irr] at this; cases this
    · exact ltC_irr a
theorem leC_trans {a b c : List Nat} (h : leC a b = true) (k : leC b c = true) : leC a c = true := by
  rw [leC_iff] at *
  rcases h with h | rfl
  · rcases k with k | rfl
    · exact .inl (ltC_trans h k)
    · exact .inl h
  · exact k
theorem leC_total (a b : List Nat) : (leC a b || leC b a) = true := by
  rw [Bool.or_eq_true, leC_iff, leC_iff]
  rcases ltC_tri a b with h | h | h
  · exact .inl (.inl h)
  · exact .inl (.inr h)
  · exact .inr (.inl h)
theorem leC_anti {a b : List Nat} (h : leC a b = true) (k : leC b a = true) : a = b := by
  rw [leC_iff] at *
  rcases h with h | rfl
  · rcases k with k | k
    · have := ltC_trans h k; rw [ltC_irr] at this; cases this
    · exact k.symm
  · rfl
theorem sortS_perm (ss : List (List Nat)) : (sortS ss).Perm ss := List.mergeSort_perm ..
theorem sortS_up (ss : List (List Nat)) : (sortS ss).Pairwise (fun p q => leC p q = true) := List.pairwise_mergeSort (le := leC) (fun a b c h1 h2 => leC_trans h1 h2) leC_total ss
theorem sortS_is {ms ss : List (List Nat)} (p : ms.Perm ss) (u : ms.Pairwise (fun p q => leC p q = true)) : ms = sortS ss :=
  List.Perm.eq_of_pairwise (fun a b _ _ h1 h2 => leC_anti h1 h2) u (sortS_up ss) (p.trans (sortS_perm ss).symm)
theorem rising_up : ∀ (ys : List Str) (p : Str), risingS p ys = true → (∀ y ∈ ys, leC p.cps.toList y.cps.toList = true) ∧ (ys.map fun y => y.cps.toList).Pairwise (fun p q => leC p q = true)
  | [], _, _ => ⟨fun y h => (nomatch h), .nil⟩
  | y :: ys, p, h => by
    simp only [risingS, Bool.and_eq_true] at h
    have h1 : leC p.cps.toList y.cps.toList = true := h.1
    obtain ⟨h2, h3⟩ := rising_up ys y h.2
    refine ⟨fun z hz => ?_, ?_⟩
    · rcases List.mem_cons.mp hz with rfl | hz
      · exact h1
      · exact leC_trans h1 (h2 z hz)
    · rw [List.map_cons, List.pairwise_cons]
      refine ⟨fun z hz => ?_, h3⟩
      obtain ⟨x, hx, rfl⟩ := List.mem_map.mp hz
      exact h2 x hx
theorem sortedS_up {ys : List Str} (h : sortedS ys = true) : (ys.map fun y => y.cps.toList).Pairwise (fun p q => leC p q = true) := by
  cases ys with
  | nil => exact .nil
  | cons y ys =>
    obtain ⟨h1, h2⟩ := rising_up ys y h
    rw [List.map_cons, List.pairwise_cons]
    refine ⟨fun z hz => ?_, h2⟩
    obtain ⟨x, hx, rfl⟩ := List.mem_map.mp hz
    exact h1 x hx

def okS (x : Str) : Prop := ∀ c ∈ x.cps.toList, c < 1114112
theorem okS.add {x y : Str} (h : okS x) (k : okS y) : okS (x ++ y) := fun c hc => by
  have e : (x ++ y).cps.toList = x.cps.toList ++ y.cps.toList := TL.tl_append x y
  rw [e] at hc
  rcases List.mem_append.mp hc with hc | hc
  · exact h c hc
  · exact k c hc
theorem okS.of (s : String) : okS (Str.ofString s) := fun c hc => by
  rw [signs_ofString] at hc
  obtain ⟨d, _, rfl⟩ := List.mem_map.mp hc
  have := d.valid
  show d.val.toNat < _
  rcases this with h | ⟨h1, h2⟩ <;> omega
theorem okS.join {z : Str} (hz : okS z) : ∀ ts : List Str, (∀ t ∈ ts, okS t) → okS (Str.join z ts)
  | [], _ => fun c hc => by simp [Str.join, Str.empty] at hc
  | [t], h => h t (List.mem_singleton.mpr rfl)
  | t :: u :: r, h => ((h t List.mem_cons_self).add hz).add (okS.join hz (u :: r) fun x hx => h x (List.mem_cons_of_mem _ hx))
theorem okS.from {z : Str} : ∀ (ts : List Str) (k : Nat) (acc : Str), okS acc → (∀ t ∈ ts, okS t) → okS (textFrom k acc ts)
  | [], _, _, h, _ => h
  | t :: ts, k, acc, h, ht => okS.from (z := z) ts (k + 1) _ ((h.add (by split <;> exact okS.of _)).add (ht t List.mem_cons_self)) fun x hx => ht x (List.mem_cons_of_mem _ hx)
theorem hex_ok (n : Nat) : ∀ c ∈ (Nat.toDigits 16 n).map Char.toNat, c < 1114112 := fun c hc => by
  obtain ⟨d, _, rfl⟩ := List.mem_map.mp hc
  have := d.valid
  show d.val.toNat < _
  rcases this with h | ⟨h1, h2⟩ <;> omega
theorem signs_ok {q c : Nat} (hq : q < 1114112) (hc : c < 1114112) : ∀ d ∈ Builtin.Str.reprChar q c, d < 1114112 := by
  have hh : ∀ w, ∀ d ∈ List.replicate w 48 ++ (Nat.toDigits 16 c).map Char.toNat, d < 1114112 := fun w d hd => by
    rcases List.mem_append.mp hd with h | h
    · rw [List.eq_of_mem_replicate h]; decide
    · exact hex_ok c d h
  intro d hd
  unfold Builtin.Str.reprChar at hd
  split at hd
  · simp at hd; omega
  split at hd
  · simp at hd; omega
  split at hd
  · simp at hd; omega
  split at hd
  · simp at hd; omega
  split at hd
  · simp at hd; omega
  split at hd
  · rcases List.mem_append.mp hd with h | h
    · simp at h; omega
    · exact hh _ d h
  split at hd
  · rcases List.mem_append.mp hd with h | h
    · simp at h; omega
    · exact hh _ d h
  · rcases List.mem_append.mp hd with h | h
    · simp at h; omega
    · exact hh _ d h
theorem fold_ok {q : Nat} (hq : q < 1114112) : ∀ (l : List Nat) (acc : Array Nat), (∀ c ∈ l, c < 1114112) → (∀ c ∈ acc.toList, c < 1114112) → ∀ c ∈ (l.foldl (fun out c => out ++ (Builtin.Str.reprChar q c).toArray) acc).toList, c < 1114112
  | [], acc, _, ha => ha
  | c :: l, acc, hl, ha => fold_ok hq l _ (fun x hx => hl x (List.mem_cons_of_mem _ hx)) fun x hx => by
    rw [Array.toList_append] at hx
    rcases List.mem_append.mp hx with h | h
    · exact ha x h
    · exact signs_ok hq (hl c List.mem_cons_self) x h
theorem quote_lt (x : Str) : reprQuote x < 1114112 := by unfold reprQuote; split <;> decide
theorem okS.repr {x : Str} (h : okS x) : okS (reprText x) := fun c hc => by
  unfold reprText at hc
  have hq := quote_lt x
  rw [Array.toList_push, ← Array.foldl_toList] at hc
  rcases List.mem_append.mp hc with hc | hc
  · exact fold_ok hq _ _ h (fun y hy => by simp at hy; omega) c hc
  · simp at hc; omega
mutual
theorem Rep.shown : ∀ {v : V} {d : D}, Rep κ f v d → okS d.py.shown
  | _, _, .non => okS.of _
  | _, _, .bl b => by cases b <;> exact okS.of _
  | _, _, .int i => okS.of _
  | _, _, .str s ok => okS.repr (x := ⟨s.toArray⟩) (by intro c hc; exact ok c hc)
  | _, _, .lst _ r => (okS.from (z := Str.empty) _ _ _ (okS.of _) (Reps.shown r)).add (okS.of _)
  | _, _, .tup _ r => ((okS.of _).add (okS.join (okS.of _) _ (Reps.shown r))).add (by split <;> exact okS.of _)
  | _, _, .obj _ _ _ _ => okS.of _
  | _, _, .dct _ _ _ _ _ _ => okS.of _
  | _, _, .exc _ _ _ _ _ => okS.of _
  | _, _, .gho _ => okS.of _
theorem Reps.shown : ∀ {vs : List V} {ds : List D}, Reps κ f vs ds → ∀ t ∈ PyData.shownAll (D.pys ds), okS t
  | _, _, .nil, t, h => by simp [D.pys, PyData.shownAll] at h
  | _, _, .cons r q, t, h => by
    simp only [D.pys, PyData.shownAll] at h
    rcases List.mem_cons.mp h with rfl | h
    · exact Rep.shown r
    · exact Reps.shown q t h
end
theorem pys_len : ∀ ds : List D, (PyData.shownAll (D.pys ds)).length = ds.length
  | [] => rfl
  | d :: ds => congrArg (· + 1) (pys_len ds)
mutual
theorem Rep.shown_le : ∀ {v : V} {d : D}, Rep κ f v d → showOk d = true → d.py.shown.length ≤ szD d
  | _, _, .non, _ => by show (Str.ofString "None").length ≤ 5; decide
  | _, _, .bl b, _ => by cases b <;> (show (Str.ofString _).length ≤ 6; decide)
  | _, _, .int i, h => int_text_len_1921 (by simpa [showOk] using h)
  | _, _, .str s ok, _ => by
    have := StrLaws.reprText_len ⟨s.toArray⟩ (fun c hc => Nat.lt_of_lt_of_le (ok c hc) (by decide))
    have e : (⟨s.toArray⟩ : Str).length = s.length := by simp [Str.length]
    rw [e] at this
    show (reprText ⟨s.toArray⟩).length ≤ 10 * s.length + 3
    omega
  | _, _, .lst (ds := ds) _ r, h => by
    have h2 := listText_len_le (PyData.shownAll (D.pys ds))
    have h3 := Reps.shown_le r (by simpa [showOk] using h)
    rw [pys_len] at h2
    show (listText (PyData.shownAll (D.pys ds))).length ≤ szs ds + 3
    omega
  | _, _, .tup (ds := ds) _ r, h => by
    have h2 := tupleText_len_le (PyData.shownAll (D.pys ds))
    have h3 := Reps.shown_le r (by simpa [showOk] using h)
    rw [pys_len] at h2
    show (tupleText (PyData.shownAll (D.pys ds))).length ≤ szs ds + 4
    omega
  | _, _, .obj _ _ _ _, h => by simp [showOk] at h
  | _, _, .dct _ _ _ _ _ _, h => by simp [showOk] at h
  | _, _, .exc _ _ _ _ _, h => by simp [showOk] at h
  | _, _, .gho _, h => by simp [showOk] at h
theorem Reps.shown_le : ∀ {vs : List V} {ds : List D}, Reps κ f vs ds → showOks ds = true → ((PyData.shownAll (D.pys ds)).map (·.length)).sum + 2 * ds.length ≤ szs ds
  | _, _, .nil, _ => by simp [D.pys, PyData.shownAll, szs]
  | _, _, .cons r q, h => by
    simp only [showOks, Bool.and_eq_true] at h
    have h1 := Rep.shown_le r h.1
    have h2 := Reps.shown_le q h.2
    simp only [D.pys, PyData.shownAll, List.map_cons, List.sum_cons, List.length_cons, szs]
    omega
end
mutual
theorem showOk_py : ∀ d : D, showOk d = true → d.py.showable = true
  | .non, _ => rfl
  | .bl _, _ => rfl
  | .int i, h => h
  | .str _, _ => rfl
  | .lst ds, h => showOks_py ds (by simpa [showOk] using h)
  | .tup ds, h => showOks_py ds (by simpa [showOk] using h)
  | .dct _ _ _, h => by simp [showOk] at h
  | .obj _ _ _, h => by simp [showOk] at h
  | .exc _ _ _, h => by simp [showOk] at h
  | .gho _, h => by simp [showOk] at h
theorem showOks_py : ∀ ds : List D, showOks ds = true → PyData.showableAll (D.pys ds) = true
  | [], _ => rfl
  | d :: ds, h => by
    simp only [showOks, Bool.and_eq_true] at h
    simp only [D.pys, PyData.showableAll, Bool.and_eq_true]
    exact ⟨showOk_py d h.1, showOks_py ds h.2⟩
end
mutual
theorem noDict : ∀ d : D, d.py.hasDict = false
  | .non => rfl
  | .bl _ => rfl
  | .int i => rfl
  | .str _ => rfl
  | .lst ds => noDicts ds
  | .tup ds => noDicts ds
  | .dct _ _ _ => rfl
  | .obj _ _ _ => rfl
  | .exc _ _ _ => rfl
  | .gho _ => rfl
theorem noDicts : ∀ ds : List D, PyData.hasDictAll (D.pys ds) = false
  | [] => rfl
  | d :: ds => by
    show (d.py.hasDict || PyData.hasDictAll (D.pys ds)) = false
    rw [noDict d, noDicts ds]
    rfl
end
end
end PyV
set_option Elab.async false
set_option linter.all false
set_option maxRecDepth 100000
set_option maxHeartbeats 2000000
namespace PyV
open PySem PySem.Spec PyProof.Rows L2

section
variable {κ : Kx} {io : Nat → V → Prop} {W : WX} {σ : L2.St} {f H : Hp} {δ δ' : Ss} {τ τ' ρ : List En} {X : Cx} {a' b' c' d' : Expr} {pos : Pos} {Q : VK} {T : Tab}
def Rd1 (κ : Kx) (f H : Hp) (v : V) (d : D) : Prop := Rep κ f v d ∨ ∃ a, v = .ref a ∧ f a = none ∧ Own κ f H a d
inductive Args (κ : Kx) (f H : Hp) : List V → List D → Prop where
  | nil : Args κ f H [] []
  | cons {v : V} {d : D} {vs : List V} {ds : List D} : Rd1 κ f H v d → Args κ f H vs ds → Args κ f H (v :: vs) (d :: ds)
def resOk (κ : Kx) (f H : Hp) (z : D) (Q : VK) : Prop := match z with
  | .lst zs => ∀ p vs, H p = none → Reps κ f vs zs → Q (.ref p) (upd H p (.lst vs))
  | .tup zs => (∀ p vs, H p = none → Reps κ f vs zs → Q (.ref p) (upd H p (.tup vs))) ∧ ∀ v, Rep κ f v (.tup zs) → Q v H
  | .dct _ _ _ => False
  | .obj _ _ _ => False
  | .exc _ _ _ => False
  | .gho _ => False
  | z => ∀ v, Rep κ f v z → Q v H
def plainR : D → Prop
  | .dct _ _ _ => False
  | .obj _ _ _ => False
  | .exc _ _ _ => False
  | .gho _ => False
  | _ => True
theorem resOk_of {z : D} (len : σ.length = δ.length) (hio : ∀ j v, io j v → σ[j]? = some (some v)) (rf : RelF κ f H (σ.zip δ ++ τ)) (ok : plainR z)
    (hq : okE κ io σ τ Q (out z) δ) : resOk κ f H z Q := by
  cases z with
  | lst zs => exact fun p vs hp r => fin_lst len hio rf hq hp r
  | tup zs => exact ⟨fun p vs hp r => fin_tup len hio rf hq hp r, fun v r => fin_rep len hio rf hq r⟩
  | dct _ _ _ => exact ok
  | obj _ _ _ => exact ok
  | exc _ _ _ => exact ok
  | gho _ => exact ok
  | non => exact fun v r => fin_rep len hio rf hq r
  | bl b => exact fun v r => fin_rep len hio rf hq r
  | int i => exact fun v r => fin_rep len hio rf hq r
  | str s => exact fun v r => fin_rep len hio rf hq r
def rB (κ : Kx) (b : Bi) : List V → Hp → VK → Prop := fun xs H Q => ∃ f ds z, Same f H ∧ Args κ f H xs ds ∧ biD b ds = some z ∧ resOk κ f H z Q
def biV : Bi → Value
  | .len => .builtin "len"
  | .abs => .builtin "abs"
  | .int => .type "int"
  | .str => .type "str"
  | .repr => .builtin "repr"
  | .list => .type "list"
  | .tuple => .type "tuple"
  | .max => .builtin "max"
  | .min => .builtin "min"
  | .sum => .builtin "sum"
  | .all => .builtin "all"
  | .any => .builtin "any"
  | .sorted => .builtin "sorted"
  | .divmod => .builtin "divmod"
  | _ => .none
theorem Args.one {xs : List V} {d : D} (a : Args κ f H xs [d]) : ∃ x, xs = [x] ∧ Rd1 κ f H x d := by
  cases a with
  | cons r t => cases t; exact ⟨_, rfl, r⟩
theorem Args.two {xs : List V} {d e : D} (a : Args κ f H xs [d, e]) : ∃ x y, xs = [x, y] ∧ Rd1 κ f H x d ∧ Rd1 κ f H y e := by
  cases a with
  | cons r t =>
    cases t with
    | cons r2 t => cases t; exact ⟨_, _, rfl, r, r2⟩
theorem listI {K : PySem.W.Frag} {x : V} {ds : List D} {ns : List Int} (sm : Same f H) (hK : κ.K = K) (r : Rd1 κ f H x (.lst ds)) (e : allI ds = some ns) : ∃ a, x = .ref a ∧ SqL K H a (ns.map V.int) := by
  obtain ⟨a, vs, rfl, q, rs⟩ := lst_of sm hK r
  rw [allI_eq e] at rs
  rw [reps_I rs] at q
  exact ⟨a, rfl, q.sq⟩
theorem rep_pair {v : V} {p : Int × Int} (r : Rep κ f v (pairI p)) : ∃ t, v = .ref t ∧ SqT κ.K f t [.int p.1, .int p.2] := by
  unfold pairI at r
  cases r with
  | tup q rs =>
    cases rs with
    | cons r1 rs =>
      cases rs with
      | cons r2 rs =>
        cases rs
        rw [rep_int r1, rep_int r2] at q
        exact ⟨_, rfl, q⟩
theorem isTup_inj {h : Heap} {t : Addr} {a b : Array Value} (x : IsTup h t a) (y : IsTup h t b) : a = b := by
  obtain ⟨o, e, _, n, d⟩ := x
  obtain ⟨o', e', _, n', d'⟩ := y
  rw [e] at e'
  cases e'
  rw [d] at d'
  cases d'
  rfl
theorem sqT_two {K : PySem.W.Frag} (hK : X.K = K) {pins : List (Addr × Obj)} {s : Shared} {σ : L2.St} (I : Inv X pins σ H s) {t : Addr} {p q : Int × Int} (h1 : SqT K H t [.int p.1, .int p.2]) (h2 : SqT K H t [.int q.1, .int q.2]) : p = q := by
  subst hK
  obtain ⟨its, r, a, _⟩ := I.tuple h1
  obtain ⟨its', r', a', _⟩ := I.tuple h2
  have e := isTup_inj a a'
  have e2 : its = its' := by simpa using congrArg Array.toList e
  subst e2
  obtain ⟨u1, u2, rfl, ri, rj⟩ := vals2 r
  obtain ⟨w1, w2, ew, si, sj⟩ := vals2 r'
  cases ew
  obtain ⟨t1, rfl⟩ := ri
  obtain ⟨t2, rfl⟩ := rj
  obtain ⟨t3, e3⟩ := si
  obtain ⟨t4, e4⟩ := sj
  exact Prod.ext (by injection e3) (by injection e4)
open Classical in
noncomputable def pkP (κ : Kx) (f : Hp) (x : V) : Int × Int := if h : ∃ p, Rep κ f x (pairI p) then h.choose else (0, 0)
theorem pkP_is {pins : List (Addr × Obj)} {s : Shared} {σ : L2.St} (hK : κ.K = X.K) (sm : Same f H) (I : Inv X pins σ H s) {x : V} {p : Int × Int} (r : Rep κ f x (pairI p)) : pkP κ f x = p := by
  have hx : ∃ p, Rep κ f x (pairI p) := ⟨p, r⟩
  unfold pkP
  rw [dif_pos hx]
  obtain ⟨t, e1, q1⟩ := rep_pair r
  obtain ⟨t', e2, q2⟩ := rep_pair hx.choose_spec
  rw [e1] at e2
  cases e2
  exact sqT_two hK.symm I (sqT_mono sm q2) (sqT_mono sm q1)
theorem pkP_map {pins : List (Addr × Obj)} {s : Shared} {σ : L2.St} (hK : κ.K = X.K) (sm : Same f H) (I : Inv X pins σ H s) : ∀ {xs : List V} {ps : List (Int × Int)}, Reps κ f xs (ps.map pairI) → xs.map (pkP κ f) = ps ∧ ∀ x ∈ xs, Rep κ f x (pairI (pkP κ f x))
  | _, [], .nil => ⟨rfl, fun x h => by simp at h⟩
  | _, p :: ps, .cons r t => by
    obtain ⟨h1, h2⟩ := pkP_map hK sm I t
    have e := pkP_is hK sm I r
    refine ⟨by rw [List.map_cons, e, h1], fun x hx => ?_⟩
    rcases List.mem_cons.mp hx with rfl | hx
    · rw [e]; exact r
    · exact h2 x hx
theorem reps_all {k : V → Int × Int} : ∀ {xs : List V}, (∀ x ∈ xs, Rep κ f x (pairI (k x))) → Reps κ f xs ((xs.map k).map pairI)
  | [], _ => .nil
  | x :: xs, h => .cons (h x List.mem_cons_self) (reps_all fun y hy => h y (List.mem_cons_of_mem _ hy))
def rSortedPT (κ : Kx) (K : PySem.W.Frag) : List V → Hp → VK → Prop := fun vs H Q => ∃ (f : Hp) (a : Addr) (xs : List V) (ps : List (Int × Int)), vs = [V.ref a] ∧ SqL K H a xs ∧ Reps κ f xs (ps.map pairI) ∧ Same f H ∧
  ∀ ys p, Reps κ f ys ((sortP ps).map pairI) → H p = none → Q (.ref p) (upd H p (.lst ys))
theorem cr_sortedPT (hK : κ.K = X.K) : CallR X (.builtin "sorted") (rSortedPT κ X.K) := by
  intro pins s σ H vs us Q I r h
  obtain ⟨f, a, xs, ps, rfl, hs, hx, sm, q⟩ := h
  obtain ⟨its, rv, hl, hz⟩ := I.list hs
  obtain ⟨u, rfl, ru⟩ := vals1 r
  obtain rfl : u = Value.ref a := ru
  obtain ⟨km, kr⟩ := pkP_map hK sm I hx
  obtain ⟨e1, e2⟩ := refs_back rv fun x m => by
    obtain ⟨t, e, _⟩ := rep_pair (kr x m)
    exact ⟨t, e⟩
  refine SrtO.sorted_pairsO (k := fun u => pkP κ f (backV u)) hl.isList (by rw [← rv.length]; exact hz) (fun v hv => ?_) fun h' d out h1 h2 kp hd hn => ?_
  · obtain ⟨t, rfl⟩ := e2 v hv
    have hm : V.ref t ∈ xs := by rw [e1]; exact List.mem_map.mpr ⟨_, hv, rfl⟩
    obtain ⟨t', e, ht⟩ := rep_pair (kr _ hm)
    cases e
    have ht2 := sqT_mono sm ht
    rw [hK] at ht2
    obtain ⟨its2, r2, ⟨o, ho, hc, n, hd⟩, _⟩ := I.tuple ht2
    obtain ⟨u1, u2, rfl, ri, rj⟩ := vals2 r2
    obtain ⟨t1, rfl⟩ := ri
    obtain ⟨t2, rfl⟩ := rj
    exact ⟨t, o, t1, t2, n, rfl, ho, hc, hd⟩
  · have h3 : ∀ u ∈ out, ∃ a, u = Value.ref a := fun u hu => e2 u (h2.perm.mem_iff.mp hu)
    obtain ⟨n, hn⟩ := hn
    have hb : SrtO.Stb (ltP (pkP κ f)) (out.map backV) xs := by
      rw [e1]
      exact SrtO.Stb.map (ltP_swo (pkP κ f)) backV h2
    have srt : SrtO.Srtd (ltP (pkP κ f)) (out.map backV) := SrtO.srtd_map h1
    have up : ((out.map backV).map (pkP κ f)).Pairwise (fun p q => leP p q = true) := by
      rw [List.pairwise_map]
      refine List.Pairwise.imp (fun {x y} h => ?_) srt
      have h4 := SrtO.lexB_no.mp (h : SrtO.lexB (pkP κ f y) (pkP κ f x) = false)
      rw [leP_iff]
      omega
    have pm : ((out.map backV).map (pkP κ f)).Perm ps := by
      rw [← km]
      exact hb.perm.map _
    have rr : Reps κ f (out.map backV) ((sortP ps).map pairI) := by
      rw [← sortP_is pm up]
      exact reps_all fun x hx => kr x (hb.perm.mem_iff.mp hx)
    refine ⟨.ref d, upd H d (.lst (out.map backV)), I.laid (t' := s.toks) kp hd ⟨?_, out, n, vals_back h3, hn⟩, rfl, q _ d rr (I.hok.fresh hd)⟩
    rw [hb.len]
    exact hz
theorem call_reprD (hg : X.A.guards = some []) (hu : X.A.units + 64 < cLine) : CallR X (.builtin "repr") (fun xs H Q => ∃ v d, xs = [v] ∧ Rep κ H v d ∧ κ.K = X.K ∧ ck 8 d = true ∧ showOk d = true ∧ szD d ≤ 16777216 ∧ Q (.str ⟨(reprD d).toArray⟩) H) := by
  intro pins s σ H xs us Q I r h
  obtain ⟨v, d, rfl, rp, hK, hc, hs, hz, hq⟩ := h
  obtain ⟨u, rfl, rv⟩ := vals1 r
  have hle := Rep.shown_le rp hs
  have hsz : d.py.shown.length ≤ sizeLine := by rw [lineEq]; omega
  have e : (⟨(reprD d).toArray⟩ : Str) = d.py.shown := by
    unfold reprD
    simp
  rw [e] at hq
  have ans : ∀ (h' : Heap) (t : Tok) (k : Nat), (∀ b o, s.heap.get? b = some o → h'.get? b = some o) → EP X pins σ Q (.str d.py.shown t) { s with heap := h', toks := k } := fun h' t k keep =>
    ⟨.str d.py.shown, H, I.kept keep, ⟨t, rfl⟩, hq⟩
  have deep : ∀ a, v = .ref a → wpAny (model X.prog X.w) X.A (call (.builtin "repr") [u]) (EP X pins σ Q) X.xe s := fun a ea => by
    obtain ⟨dp, cl, dep⟩ := rp.dp hc
    rw [hK] at dp
    obtain ⟨as, rr⟩ := Dp.reads I _ _ _ dp rv
    subst ea
    cases rv
    exact repr_of_reads' rr (showOk_py d hs) (PyData.noDict_hsm (noDict d)) hg (by omega) (fun _ _ e => e) (fun h' t k keep => ans h' t k keep) hsz
  cases rp with
  | non =>
    cases rv
    exact PySem.P.repr_of_none (ans s.heap _ _ fun _ _ e => e)
  | bl b =>
    cases rv
    exact PySem.P.repr_of_bool (by cases b <;> exact ans s.heap _ _ fun _ _ e => e)
  | int i =>
    obtain ⟨t, rfl⟩ := rv
    exact PySem.P.repr_of_int (by simpa [showOk] using hs) (ans s.heap _ _ fun _ _ e => e)
  | str z ok =>
    obtain ⟨t, rfl⟩ := rv
    exact PySem.P.repr_of_str (ans s.heap _ _ fun _ _ e => e) hsz
  | lst q t => exact deep _ rfl
  | tup q t => exact deep _ rfl
  | obj c q l t => exact deep _ rfl
  | dct q n o k r1 r2 => exact deep _ rfl
  | exc q c dd l t => exact deep _ rfl
  | gho q => exact deep _ rfl
theorem reps_strs {f : Hp} : ∀ {ys : List Str}, (∀ y ∈ ys, ∀ c ∈ y.cps.toList, c < 1114112) → Reps κ f (ys.map V.str) ((ys.map fun y => y.cps.toList).map D.str)
  | [], _ => .nil
  | y :: ys, h => by
    refine .cons ?_ (reps_strs fun z hz => h z (List.mem_cons_of_mem _ hz))
    have e : y = ⟨y.cps.toList.toArray⟩ := by simp
    have : Rep κ f (V.str ⟨y.cps.toList.toArray⟩) (D.str y.cps.toList) := .str _ (h y List.mem_cons_self)
    rw [← e] at this
    exact this
theorem reps_sortS {f : Hp} {ss : List (List Nat)} {ys : List Str} (ok : ∀ s ∈ ss, ∀ c ∈ s, c < 1114112) (hp : ys.Perm (ss.map fun s => (⟨s.toArray⟩ : Str))) (hs : sortedS ys = true) : Reps κ f (ys.map V.str) ((sortS ss).map D.str) := by
  have pm : (ys.map fun y => y.cps.toList).Perm ss := by
    have := hp.map fun y : Str => y.cps.toList
    rw [List.map_map] at this
    have e : ss.map ((fun y : Str => y.cps.toList) ∘ fun s => (⟨s.toArray⟩ : Str)) = ss := by
      conv => rhs; rw [← List.map_id ss]
      exact List.map_congr_left fun a _ => by simp
    rw [e] at this
    exact this
  rw [← sortS_is pm (sortedS_up hs)]
  refine reps_strs fun y hy => ?_
  exact ok _ (pm.mem_iff.mp (List.mem_map.mpr ⟨y, hy, rfl⟩))
theorem minDD_mem : ∀ (r : List D) (d : D), minDD d r ∈ d :: r
  | [], d => List.mem_cons_self
  | e :: r, d => by
    show minDD (if ltD e d = true then e else d) r ∈ d :: e :: r
    have h := minDD_mem r (if ltD e d = true then e else d)
    rcases List.mem_cons.mp h with h | h
    · rw [h]
      split
      · exact List.mem_cons_of_mem _ List.mem_cons_self
      · exact List.mem_cons_self
    · exact List.mem_cons_of_mem _ (List.mem_cons_of_mem _ h)
theorem minDD_py : ∀ (r : List D) (d : D), (minDD d r).py = PySem.W.minD d.py (D.pys r)
  | [], d => rfl
  | e :: r, d => by
    show (minDD (if ltD e d = true then e else d) r).py = PySem.W.minD (if PySem.W.dataLt e.py d.py = true then e.py else d.py) (D.pys r)
    rw [minDD_py r]
    congr 1
    by_cases h : ltD e d = true
    · rw [if_pos h, if_pos (show PySem.W.dataLt e.py d.py = true from h)]
    · rw [if_neg h, if_neg (show ¬ PySem.W.dataLt e.py d.py = true from h)]
theorem alk_all {ds : List D} (h : alkD ds = true) : ∀ d ∈ ds, isTup d = true ∧ ck 8 d = true ∧ ∀ e ∈ ds, PySem.W.alike d.py e.py = true := fun d hd => by
  unfold alkD at h
  have h2 := List.all_eq_true.mp h d hd
  rw [Bool.and_eq_true, Bool.and_eq_true] at h2
  exact ⟨h2.1.1, h2.1.2, fun e he => List.all_eq_true.mp h2.2 e he⟩
mutual
theorem py_inj : ∀ {n m : Nat} {d e : D}, ck n d = true → ck m e = true → d.py = e.py → d = e
  | n, m, .non, e, _, k, h => by cases e <;> first | rfl | (cases h; done) | (cases m <;> simp [ck] at k)
  | n, m, .bl b, e, _, k, h => by cases e <;> first | (cases h; rfl) | (cases h; done)
  | n, m, .int b, e, _, k, h => by cases e <;> first | (cases h; rfl) | (cases h; done)
  | n, m, .str b, e, _, k, h => by
    cases e <;> first | (cases h; done) | skip
    rename_i c
    simp only [D.py, PyData.str.injEq, Str.mk.injEq] at h
    rw [List.toArray_inj h]
  | 0, m, .lst ds, _, h, _, _ => by simp [ck] at h
  | 0, m, .tup ds, _, h, _, _ => by simp [ck] at h
  | n + 1, m, .lst ds, e, h0, k, h => by
    cases e <;> first | (cases h; done) | skip
    cases m with
    | zero => simp [ck] at k
    | succ m =>
      simp only [D.py, PyData.list.injEq] at h
      rw [pys_inj (n := n) (m := m) (by simpa [ck] using h0) (by simpa [ck] using k) h]
  | n + 1, m, .tup ds, e, h0, k, h => by
    cases e <;> first | (cases h; done) | skip
    cases m with
    | zero => simp [ck] at k
    | succ m =>
      simp only [D.py, PyData.tuple.injEq] at h
      rw [pys_inj (n := n) (m := m) (by simpa [ck] using h0) (by simpa [ck] using k) h]
  | n, m, .dct _ _ _, _, h, _, _ => by cases n <;> simp [ck] at h
  | n, m, .obj _ _ _, _, h, _, _ => by cases n <;> simp [ck] at h
  | n, m, .exc _ _ _, _, h, _, _ => by cases n <;> simp [ck] at h
  | n, m, .gho _, _, h, _, _ => by cases n <;> simp [ck] at h
theorem pys_inj : ∀ {n m : Nat} {ds es : List D}, (∀ d ∈ ds, ck n d = true) → (∀ d ∈ es, ck m d = true) → D.pys ds = D.pys es → ds = es
  | n, m, [], es, _, _, h => by cases es with | nil => rfl | cons a l => simp [D.pys] at h
  | n, m, d :: ds, es, h0, k, h => by
    cases es with
    | nil => simp [D.pys] at h
    | cons e es =>
      simp only [D.pys, List.cons.injEq] at h
      rw [py_inj (h0 _ List.mem_cons_self) (k _ List.mem_cons_self) h.1, pys_inj (fun x hx => h0 x (List.mem_cons_of_mem _ hx)) (fun x hx => k x (List.mem_cons_of_mem _ hx)) h.2]
end
theorem pys_mem : ∀ {ds : List D} {x : PyData}, x ∈ D.pys ds → ∃ d ∈ ds, d.py = x
  | [], _, h => nomatch h
  | d :: ds, x, h => by
    rcases List.mem_cons.mp (show x ∈ d.py :: D.pys ds from h) with rfl | h
    · exact ⟨d, List.mem_cons_self, rfl⟩
    · obtain ⟨e, he, q⟩ := pys_mem h
      exact ⟨e, List.mem_cons_of_mem _ he, q⟩
theorem vals_at : ∀ {vs : List V} {us : List Value} {i : Nat} {u : Value}, Vals vs us → us[i]? = some u → ∃ v, vs[i]? = some v ∧ RelV v u
  | _, _, _, _, .nil, h => by simp at h
  | _, _, 0, _, .cons r _, h => by simp at h; subst h; exact ⟨_, rfl, r⟩
  | _, _, i + 1, _, .cons _ t, h => by
    obtain ⟨v, h1, h2⟩ := vals_at (i := i) t (by simpa using h)
    exact ⟨v, by simpa using h1, h2⟩
theorem call_minT {f : Hp} {x : V} {d : D} {r : List D} {u : Value} {pins : List (Addr × Obj)} {s : Shared} {σ : L2.St} {H : Hp} {Q : VK} (hc : X.calm = true) (hu : X.A.units + 64 < cLine) (hK : κ.K = X.K) (I : Inv X pins σ H s) (sm : Same f H) (q : Rd1 κ f H x (.lst (d :: r))) (rv : RelV x u) (ha : alkD (d :: r) = true)
    (hq : ∀ v, Rep κ f v (minDD d r) → Q v H) : wpAny (model X.prog X.w) X.A (call (.builtin "min") [u]) (EP X pins σ Q) X.xe s := by
  obtain ⟨a, ws, rfl, qa, rs⟩ := lst_of sm hK q
  cases rv
  have al := alk_all ha
  obtain ⟨its, rvs, pl, _⟩ := I.list qa.sq
  obtain ⟨dp, _, dep⟩ := (rs.mono sm).dp fun e he => (al e he).2.1
  rw [hK] at dp
  obtain ⟨as, rr⟩ := Dp.readsAll I _ _ _ dp rvs
  refine PySem.W.min_list_data (I.ok.hd hc) pl.isList (x := d.py) (xs := D.pys r) (by rw [List.toList_toArray]; exact rr) ⟨fun p hp z hz => ?_, fun p hp => ?_⟩ (by have : PyData.depthAll (d.py :: D.pys r) ≤ 8 := dep; omega) fun i v h' tk bs hv hr keep => ?_
  · obtain ⟨d1, m1, rfl⟩ := pys_mem (ds := d :: r) hp
    obtain ⟨d2, m2, rfl⟩ := pys_mem (ds := d :: r) hz
    exact (al d1 m1).2.2 d2 m2
  · obtain ⟨d1, m1, rfl⟩ := pys_mem (ds := d :: r) hp
    have := (al d1 m1).1
    cases d1 <;> first | (cases this; done) | (intro z; cases z)
  · obtain ⟨w, hw, rw'⟩ := vals_at rvs (i := i) (by simpa using hv)
    obtain ⟨e, he, re⟩ := rs.getV hw
    have I2 : Inv X pins σ H { s with heap := h', toks := tk } := I.kept keep
    have ce := (al e (List.mem_of_getElem? he)).2.1
    obtain ⟨dpe, _, _⟩ := (re.mono sm).dp ce
    rw [hK] at dpe
    obtain ⟨as2, r2⟩ := Dp.reads I2 _ _ _ dpe rw'
    have e1 := (PyProof.Rows.reads_det (fun _ _ z _ => z) r2 hr).1
    rw [← minDD_py] at e1
    have e2 := py_inj (al _ (minDD_mem r d)).2.1 ce e1
    exact ⟨w, H, I2, rw', hq w (e2 ▸ re)⟩
theorem vals_signs : ∀ (z : List Nat) (l : List Value), l.length = z.length → (∀ (j : Nat) (v : Value), l[j]? = some v → ∃ (c : Nat) (u : Tok), z[j]? = some c ∧ v = Value.str ⟨#[c]⟩ u) → Vals (z.map fun c => V.str ⟨#[c]⟩) l
  | [], [], _, _ => .nil
  | [], _ :: _, h, _ => by simp at h
  | _ :: _, [], h, _ => by simp at h
  | c :: z, v :: l, h, k => by
    obtain ⟨c', u, e1, e2⟩ := k 0 v rfl
    obtain rfl : c = c' := by simpa using e1
    exact .cons ⟨u, e2⟩ (vals_signs z l (by simpa using h) fun j w hj => k (j + 1) w (by simpa using hj))
theorem call_list_s (hc : X.calm = true) : CallR X (.type "list") (fun xs H Q => ∃ z : List Nat, xs = [V.str ⟨z.toArray⟩] ∧ z.length ≤ 16777216 ∧ ∀ l, H l = none → Q (.ref l) (upd H l (.lst (z.map fun c => V.str ⟨#[c]⟩)))) := by
  intro pins s σ H xs us Q I r h
  obtain ⟨z, rfl, hz, q⟩ := h
  obtain ⟨u, rfl, t, rfl⟩ := vals1 r
  refine call_list_str (I.ok.hd hc) _ t (fun h' tk acc' c' kp e ha => ?_) (by rw [lineEq]; simpa using hz)
  have hv : Vals (z.map fun c => V.str ⟨#[c]⟩) acc'.toList := vals_signs z acc'.toList (by rw [Array.length_toList, ha.1]; simp) fun j v hj => by
    obtain ⟨c, u, e1, e2⟩ := ha.2 j v (by simpa using hj)
    exact ⟨c, u, by simpa using e1, e2⟩
  exact ⟨.ref _, _, I.laid (t' := tk) kp (Nat.le_refl _) (show ObjOk X.prog X.w _ h' _ (.lst (z.map fun c => V.str ⟨#[c]⟩)) from ⟨by rw [List.length_map, lineEq]; exact hz, acc'.toList, c', hv, by simpa using e⟩), rfl, q _ (I.hok.fresh (Nat.le_refl _))⟩
theorem reps_signs {f : Hp} : ∀ {z : List Nat}, (∀ c ∈ z, c < 1114112) → Reps κ f (z.map fun c => V.str ⟨#[c]⟩) (z.map fun c => D.str [c])
  | [], _ => .nil
  | c :: z, h => .cons (.str [c] (fun d hd => by rw [List.mem_singleton.mp hd]; exact h c List.mem_cons_self)) (reps_signs fun d hd => h d (List.mem_cons_of_mem _ hd))
theorem cr_bi (hc : X.calm = true) (hg : X.A.guards = some []) (hu : X.A.units + 64 < cLine) (hK : κ.K = X.K) (b : Bi) : CallR X (biV b) (rB κ b) := by
  intro pins s σ H xs us Q I vs ⟨f, ds, z, sm, ar, hz, hq⟩
  have hint : ∀ {x : V} {i : Int}, Rd1 κ f H x (.int i) → x = .int i := fun r => rep_int (rep_of sm r)
  cases b with
  | len =>
    unfold biD at hz
    split at hz <;> try (cases hz; done)
    all_goals first | cases ‹Bi.len = _›; done | skip
    · obtain ⟨x, rfl, r⟩ := ar.one
      obtain ⟨a, ws, rfl, q, rs⟩ := lst_of sm hK r
      cases hz
      exact call_len_seq pins s σ H _ us Q I vs ⟨a, ws, rfl, .inl q.sq, by rw [rs.length]; exact hq _ (.int _)⟩
    · obtain ⟨x, rfl, r⟩ := ar.one
      obtain ⟨a, ws, rfl, q, rs⟩ := tup_of sm hK r
      cases hz
      exact call_len_seq pins s σ H _ us Q I vs ⟨a, ws, rfl, .inr q, by rw [rs.length]; exact hq _ (.int _)⟩
    · obtain ⟨x, rfl, r⟩ := ar.one
      obtain ⟨rfl, ok⟩ := rep_str (rep_of sm r)
      split at hz
      · rename_i z _ hl
        cases hz
        have e : ((⟨z.toArray⟩ : Str).length) = z.length := by simp [Str.length]
        exact call_len_str pins s σ H _ us Q I vs ⟨_, rfl, by rw [e, lineEq]; exact hl, by rw [e]; exact hq _ (.int _)⟩
      · cases hz
  | int =>
    unfold biD at hz
    split at hz <;> try (cases hz; done)
    all_goals first | cases ‹Bi.int = _›; done | skip
    · obtain ⟨x, rfl, r⟩ := ar.one
      cases hint r
      cases hz
      exact call_int1 pins s σ H _ us Q I vs (.inl ⟨_, rfl, hq _ (.int _)⟩)
    · obtain ⟨x, rfl, r⟩ := ar.one
      cases rep_bl (rep_of sm r)
      cases hz
      exact call_int1 pins s σ H _ us Q I vs (.inr ⟨_, rfl, hq _ (.int _)⟩)
    · obtain ⟨x, rfl, r⟩ := ar.one
      obtain ⟨rfl, _⟩ := rep_str (rep_of sm r)
      split at hz
      · rename_i hl
        obtain ⟨n, e, e2⟩ := Option.map_eq_some_iff.mp hz
        subst e2
        exact call_int_str pins s σ H _ us Q I vs ⟨_, n, rfl, e, by simpa [Str.length] using hl, hq _ (.int _)⟩
      · cases hz
  | abs =>
    unfold biD at hz
    split at hz <;> try (cases hz; done)
    all_goals first | cases ‹Bi.abs = _›; done | skip
    obtain ⟨x, rfl, r⟩ := ar.one
    cases hint r
    cases hz
    exact call_abs pins s σ H _ us Q I vs ⟨_, rfl, hq _ (.int _)⟩
  | max =>
    unfold biD at hz
    split at hz <;> try (cases hz; done)
    all_goals first | cases ‹Bi.max = _›; done | skip
    · obtain ⟨x, y, rfl, r1, r2⟩ := ar.two
      cases hint r1
      cases hint r2
      cases hz
      exact call_max2 hc pins s σ H _ us Q I vs ⟨_, _, rfl, hq _ (.int _)⟩
    · obtain ⟨x, rfl, r⟩ := ar.one
      split at hz
      · rename_i n ns e
        cases hz
        obtain ⟨a, rfl, q⟩ := listI sm hK r e
        refine cr_max hc pins s σ H _ us Q I vs ⟨a, _, rfl, q, Nat.succ_pos _, fun m hm top => ?_⟩
        rw [Int.le_antisymm (maxI_top _ _ _ hm) (top _ (maxI_mem _ _))]
        exact hq _ (.int _)
      · cases hz
  | min =>
    unfold biD at hz
    split at hz <;> try (cases hz; done)
    all_goals first | cases ‹Bi.min = _›; done | skip
    · obtain ⟨x, y, rfl, r1, r2⟩ := ar.two
      cases hint r1
      cases hint r2
      cases hz
      exact call_min2 hc pins s σ H _ us Q I vs ⟨_, _, rfl, hq _ (.int _)⟩
    · obtain ⟨x, rfl, r⟩ := ar.one
      split at hz
      · rename_i n ns e
        cases hz
        obtain ⟨a, rfl, q⟩ := listI sm hK r e
        refine cr_min hc pins s σ H _ us Q I vs ⟨a, _, rfl, q, Nat.succ_pos _, fun m hm low => ?_⟩
        rw [Int.le_antisymm (low _ (minI_mem _ _)) (minI_low _ _ _ hm)]
        exact hq _ (.int _)
      · split at hz
        · split at hz
          · rename_i ha
            cases hz
            obtain ⟨u, rfl, rv⟩ := vals1 vs
            rename_i d0 r0 _
            have hq2 : ∀ v, Rep κ f v (minDD d0 r0) → Q v H := by
              have t1 := (alk_all ha _ (minDD_mem r0 d0)).1
              cases hm : minDD d0 r0 <;> rw [hm] at t1 hq <;> first | (cases t1; done) | exact fun v r => hq.2 v r
            exact call_minT hc hu hK I sm r rv ha hq2
          · cases hz
        · cases hz
  | sum =>
    unfold biD at hz
    split at hz <;> try (cases hz; done)
    all_goals first | cases ‹Bi.sum = _›; done | skip
    obtain ⟨x, rfl, r⟩ := ar.one
    obtain ⟨ns, e, rfl⟩ := Option.map_eq_some_iff.mp hz
    obtain ⟨a, rfl, q⟩ := listI sm hK r e
    exact cr_sum hc pins s σ H _ us Q I vs ⟨a, _, rfl, q, hq _ (.int _)⟩
  | all =>
    unfold biD at hz
    split at hz <;> try (cases hz; done)
    all_goals first | cases ‹Bi.all = _›; done | skip
    obtain ⟨x, rfl, r⟩ := ar.one
    obtain ⟨bs, e, rfl⟩ := Option.map_eq_some_iff.mp hz
    obtain ⟨a, ws, rfl, q, rs⟩ := lst_of sm hK r
    rw [allB_eq e] at rs
    rw [reps_B rs] at q
    exact cr_all hc pins s σ H _ us Q I vs ⟨a, _, rfl, q.sq, hq _ (.bl _)⟩
  | any =>
    unfold biD at hz
    split at hz <;> try (cases hz; done)
    all_goals first | cases ‹Bi.any = _›; done | skip
    obtain ⟨x, rfl, r⟩ := ar.one
    obtain ⟨bs, e, rfl⟩ := Option.map_eq_some_iff.mp hz
    obtain ⟨a, ws, rfl, q, rs⟩ := lst_of sm hK r
    rw [allB_eq e] at rs
    rw [reps_B rs] at q
    exact cr_any hc pins s σ H _ us Q I vs ⟨a, _, rfl, q.sq, hq _ (.bl _)⟩
  | sorted =>
    unfold biD at hz
    split at hz <;> try (cases hz; done)
    all_goals first | cases ‹Bi.sorted = _›; done | skip
    obtain ⟨x, rfl, r⟩ := ar.one
    split at hz
    · rename_i ns e
      cases hz
      obtain ⟨a, rfl, q⟩ := listI sm hK r e
      refine cr_sortedI pins s σ H _ us Q I vs ⟨a, _, rfl, q, fun ms p hp hu' h0 => ?_⟩
      rw [sortI_is hp hu']
      exact hq p _ h0 (reps_ofI _)
    · split at hz
      · rename_i ps e
        cases hz
        obtain ⟨a, ws, rfl, q, rs⟩ := lst_of sm hK r
        rw [allP_eq e] at rs
        exact cr_sortedPT hK pins s σ H _ us Q I vs ⟨f, a, ws, ps, rfl, q.sq, rs, sm, fun ys p h1 h0 => hq p ys h0 h1⟩
      · split at hz
        · rename_i ss e
          split at hz
          · rename_i h64
            cases hz
            obtain ⟨a, ws, rfl, q, rs⟩ := lst_of sm hK r
            rw [allS_eq e] at rs
            obtain ⟨ew, ok⟩ := reps_S rs
            rw [ew] at q
            refine cr_sortedS pins s σ H _ us Q I vs ⟨a, _, rfl, q.sq, by rw [List.length_map]; exact h64, fun ys p hp hs h0 => ?_⟩
            exact hq p _ h0 (reps_sortS ok hp hs)
          · cases hz
        · cases hz
  | list =>
    unfold biD at hz
    split at hz <;> try (cases hz; done)
    all_goals first | cases ‹Bi.list = _›; done | skip
    · obtain ⟨x, rfl, r⟩ := ar.one
      obtain ⟨a, ws, rfl, q, rs⟩ := lst_of sm hK r
      cases hz
      exact call_list_of pins s σ H _ us Q I vs ⟨a, ws, rfl, .inl q.sq, fun p hp => hq p ws hp rs⟩
    · obtain ⟨x, rfl, r⟩ := ar.one
      obtain ⟨a, ws, rfl, q, rs⟩ := tup_of sm hK r
      cases hz
      exact call_list_of pins s σ H _ us Q I vs ⟨a, ws, rfl, .inr q, fun p hp => hq p ws hp rs⟩
    · obtain ⟨x, rfl, r⟩ := ar.one
      split at hz
      · rename_i hl
        cases hz
        have r0 := rep_of sm r
        cases r0 with
        | str _ ok => exact call_list_s hc pins s σ H _ us Q I vs ⟨_, rfl, hl, fun p hp => hq p _ hp (reps_signs ok)⟩
      · cases hz
  | tuple =>
    unfold biD at hz
    split at hz <;> try (cases hz; done)
    all_goals first | cases ‹Bi.tuple = _›; done | skip
    · obtain ⟨x, rfl, r⟩ := ar.one
      obtain ⟨a, ws, rfl, q, rs⟩ := lst_of sm hK r
      cases hz
      exact call_tuple_of pins s σ H _ us Q I vs ⟨a, ws, rfl, .inl ⟨q.sq, fun p hp => hq.1 p ws hp rs⟩⟩
    · obtain ⟨x, rfl, r⟩ := ar.one
      cases hz
      rcases r with r | ⟨a, rfl, _, o⟩
      · have r0 := r
        cases r with
        | tup q rs =>
          rw [hK] at q
          exact call_tuple_of pins s σ H _ us Q I vs ⟨_, _, rfl, .inr ⟨sqT_mono sm q, hq.2 _ r0⟩⟩
      · cases o
  | str =>
    unfold biD at hz
    split at hz <;> try (cases hz; done)
    all_goals first | cases ‹Bi.str = _›; done | skip
    obtain ⟨x, rfl, r⟩ := ar.one
    cases hint r
    split at hz
    · rename_i hl
      cases hz
      refine call_str_int pins s σ H _ us Q I vs ⟨_, rfl, hl, ?_⟩
      rename_i i _
      have e : Str.ofString (toString i) = ⟨(strI i).toArray⟩ := by
        unfold strI
        simp
      show Q (.str (Str.ofString (toString i))) H
      rw [e]
      refine hq _ (.str _ ?_)
      exact okS.of (toString i)
    · cases hz
  | repr =>
    unfold biD at hz
    split at hz <;> try (cases hz; done)
    all_goals first | cases ‹Bi.repr = _›; done | skip
    obtain ⟨x, rfl, r⟩ := ar.one
    split at hz
    · rename_i hl
      cases hz
      have r0 := rep_of sm r
      refine call_reprD (κ := κ) hg hu pins s σ H _ us Q I vs ⟨_, _, rfl, r0, hK, hl.1, hl.2.1, hl.2.2, hq _ (.str _ ?_)⟩
      intro c hc
      exact Rep.shown r0 c hc
    · cases hz
  | set => simp [biD] at hz
  | bool => simp [biD] at hz
  | divmod =>
    unfold biD at hz
    split at hz <;> try (cases hz; done)
    all_goals first | cases ‹Bi.divmod = _›; done | skip
    obtain ⟨x, y, rfl, r, r2⟩ := ar.two
    cases hint r
    cases hint r2
    split at hz
    · rename_i hd
      cases hz
      unfold divOk at hd
      simp only [Bool.and_eq_true, decide_eq_true_eq] at hd
      refine call_divmodW pins s σ H _ us Q I vs ⟨_, _, rfl, ⟨hd.1, PyProof.noPylong_of_log2 hd.2⟩, fun p hp => ?_⟩
      exact hq.1 p _ hp (reps_ofI [_, _])
    · cases hz
  | sortedR => simp [biD] at hz
end
end PyV
namespace PyV
open PySem PySem.Spec PyProof.Rows L2
section
variable {w : World} {A : Around} {E : Value → Shared → Prop} {s : Shared}
@[reducible] def mtSet (w : World) : Obj := { cls := .type "set", dict := none, data := .set #[] 0 (.fresh 0 0 (!w.params.followText "set-order")) }
theorem set_of_list {P : Program} {l : Addr} {its : Array Value} (ns : List Int) {Q : Value → Shared → Prop} (hh : A.handled = none) (hl : s.heap.IsList l its) (hi : IntsAre its.toList ns) (room : ns.length + 1 < scanBound)
    (fin : ∀ (h' : Heap) (tk c : Nat), SetR w h' s.heap.objs.size (fun j => decide (j ∈ ns)) c → (∀ b o, s.heap.get? b = some o → h'.get? b = some o) → Q (.ref s.heap.objs.size) { s with heap := h', toks := tk }) :
    wpAny (model P w) A (call (.type "set") [.ref l]) Q E s := by
  have size : its.size = ns.length := (Array.length_toList (xs := its)).symm.trans (IntsAre.length hi)
  obtain ⟨c, tl, hmro⟩ := F.called_set.mro
  have made := F.called_set.made
  have sub := F.called_set.sub
  have nt := F.called_set.notType
  have cc := F.called_set.canCreate
  have tc := F.typeCall_set_1 (.ref l)
  refine wpAny_call (codeAny_of_tree (wpAny_pure (?_ : _ ∧ _)))
  refine ⟨Code.quiet_builtin _ (by decide +kernel), codeAny_builtin F.entry_type_call ?_⟩
  rw [Around.under_plain (weight_type_call_type "set" [.ref l] []) rfl]
  repeat (any_goals (first | assumption | wp_step))
  refine codeAny_mono (code_set_led1 (.ref l) (E := E) (Q₁ := fun ob st => ob = .ref s.heap.objs.size ∧ st = { s with heap := s.heap.push (mtSet w) }) ⟨rfl, rfl⟩) fun r st hr => ?_
  cases r with
  | error e => exact hr
  | ok fl =>
    cases fl with
    | ret ob =>
      obtain ⟨rfl, rfl⟩ := hr
      have new : (s.heap.push (mtSet w)).get? s.heap.objs.size = some (mtSet w) := Heap.get?_push_size _ rfl
      have ty : Shared.TypeIs { s with heap := s.heap.push (mtSet w) } (.ref s.heap.objs.size) "set" := ⟨_, new, rfl⟩
      have il := F.called_set.init.lookup
      have ib := F.called_set.init.bind (.ref s.heap.objs.size)
      repeat (any_goals (first | assumption | wp_step))
      refine codeAny_mono (codeAny_call_builtin (R := wants (fun r st2 => r = .none ∧ ∃ h' tk c, st2 = { s with heap := h', toks := tk } ∧ SetR w h' s.heap.objs.size (fun j => decide (j ∈ ns)) c ∧
          (∀ b o, s.heap.get? b = some o → h'.get? b = some o)) E) F.called_set.init.plain F.entry_set_init (check_set_init_1 ty ?_)) fun r2 st2 hr2 => ?_
      · obtain ⟨⟨oc, od, odt, osl⟩, ho, hc, nl, hd⟩ := hl
        simp only at hc hd
        subst hc; subst hd
        have ho1 : (s.heap.push (mtSet w)).get? l = some { cls := .type "list", dict := od, data := .seq its nl, slots := osl } := Heap.get?_push_of_some _ ho
        have n1 := F.sub_list_set
        have n2 := F.sub_list_frozenset
        have n3 : (Value.type "list" == Value.type "dict") = false := by decide
        have hl1 : (s.heap.push (mtSet w)).IsList l its := ⟨_, ho1, rfl, nl, rfl⟩
        unfold Builtin.«set.__init__» noKeywords Builtin.Frozenset.updateFrom
        generalize hit : pyIter = it
        wp_walk
        subst hit
        refine wpAny_pyIter_list hl1 (wpAny_bind (wpAny_runValue ?_))
        have lS : l < s.heap.objs.size := Heap.lt_size ho
        have h3 : A.in1.in1.in1.handled = none := by simp [hh]
        have pz : (s.heap.push (mtSet w)).objs.size = s.heap.objs.size + 1 := Heap.size_push ..
        have lI : l ≠ (s.heap.push (mtSet w)).objs.size := by rw [pz]; exact Nat.ne_of_lt (Nat.lt_succ_of_lt lS)
        have sf : s.heap.objs.size ∉ [(s.heap.push (mtSet w)).objs.size, l] := by
          rw [pz]
          intro m
          rcases List.mem_cons.mp m with m | m
          · exact Nat.ne_of_lt (Nat.lt_succ_self _) m
          · exact Nat.ne_of_gt lS (List.mem_singleton.mp m)
        have val : ∀ (i : Nat) (v : Value), its[i]? = some v → ∃ k t, ns[i]? = some k ∧ v = .int k t := fun i v hv => by
          have lt : i < ns.length := by rw [← size]; exact (Array.getElem?_eq_some_iff.mp hv).1
          obtain ⟨t, e⟩ := IntsAre.int_at hi i v (by rw [Array.getElem?_toList]; exact hv)
          have at' := List.getElem?_eq_getElem lt
          exact ⟨ns[i], t, at', by rw [e, List.getD_eq_getElem?_getD, at']; rfl⟩
        refine set_update_ints (Walks.list h3 _ l lI its).toS s.heap.objs.size sf ns size room val (its.size - 0) 0 _ (by omega) (Nat.zero_le _) ⟨⟨_, Heap.get?_push_size _ rfl, rfl, rfl⟩, hl1.push _⟩
          ⟨0, Nat.le_refl 0, setR_new_at (Heap.get?_push_of_some _ new)⟩ fun st3 c3 mv _ R3 => ?_
        obtain ⟨h4, g4, d4, tk4, os4⟩ := st3
        obtain rfl : g4 = s.gens := mv.gens
        obtain rfl : d4 = s.drawn := mv.drawn
        obtain rfl : os4 = s.os := mv.os
        refine wpAny_pure (wpAny_pure ⟨rfl, h4, tk4, c3, rfl, R3, fun b o e => mv.heap b o (fun m => ?_) (Heap.get?_push_of_some _ (Heap.get?_push_of_some _ e))⟩)
        have lt := Heap.lt_size e
        rcases List.mem_cons.mp m with m | m
        · exact Nat.ne_of_lt lt m
        · have m := List.mem_singleton.mp m
          rw [pz] at m
          exact Nat.ne_of_lt (Nat.lt_succ_of_lt lt) m
      · cases r2 with
        | error e => exact hr2
        | ok fl2 =>
          cases fl2 with
          | ret r =>
            obtain ⟨rfl, h4, tk4, c3, rfl, R3, k3⟩ := hr2
            repeat (any_goals (first | assumption | wp_step))
            exact fin _ _ _ R3 k3
          | _ => exact hr2.elim
    | _ => exact hr.elim
end
end PyV
namespace PyV
open PySem PySem.Spec PyProof.Rows L2
section
variable {w : World} {A : Around} {E : Value → Shared → Prop} {s : Shared} {a : Addr} {ns : List Int} {n : Nat}
theorem len_of_set {Q : Value → Shared → Prop} (R : SetR w s.heap a (fun j => decide (j ∈ ns)) n) (q : ∀ t t', Q (.int (ddI ns).length t) { s with toks := t' }) : wpAny (model prog w) A (call (.builtin "len") [.ref a]) Q E s := by
  obtain ⟨o, es, ep, t, ho, hx, hd, g, nd, hm, hb, hf, hn, _⟩ := R
  have pm : (es.toList.map keyOf).Perm (ddI ns) := perm_ddI nd fun k => by
    rw [← hm k]
    exact decide_eq_true_iff
  have ln : es.size = (ddI ns).length := by rw [← pm.length_eq, List.length_map, Array.length_toList]
  exact call_len_set ho hx hd hf (by unfold scanBound at hb; omega) (by rw [ln]; exact q _ _)
theorem sorted_of_set {Q : Value → Shared → Prop} (R : SetR w s.heap a (fun j => decide (j ∈ ns)) n) (hh : A.handled = none)
    (fin : ∀ s' p (out : Array Value) (c : Nat) (ms : List Int), (∀ b o, s.heap.get? b = some o → s'.heap.get? b = some o) → s'.gens = s.gens → s'.os = s.os → s.heap.objs.size ≤ p →
      s'.heap.get? p = some (seqObj "list" out c) → IntsAre out.toList ms → ms.Perm (ddI ns) → ms.Pairwise (· ≤ ·) → ms.length < scanBound → Q (.ref p) s') :
    wpAny (model prog w) A (call (.builtin "sorted") [.ref a]) Q E s := by
  obtain ⟨o, es, ep, t, ho, hx, hd, g, nd, hm, hb, hf, hn, hr, hl⟩ := R
  have pm : (es.toList.map keyOf).Perm (ddI ns) := perm_ddI nd fun k => by
    rw [← hm k]
    exact decide_eq_true_iff
  refine Calls.call_function_entry kind_sorted plain_sorted entry_sorted (args_sorted1 _) ?_
  unfold Builtin.«sorted»
  refine wpAny_bind (wpAny_pure (wpAny_bind (collect_set (A := A.in1) hh ⟨o, ho, hx.1, hd⟩ hf hb hr hl fun s1 vs k1 hz g1 o1 pv => ?_)))
  have vl : vs.length = es.size := by rw [pv.length_eq, List.length_map, Array.length_toList]
  have vi : IntsAre vs (vs.map Builtin.Re.reRawOf) := ints_of vs fun v hv => by
    obtain ⟨e, he, rfl⟩ := List.mem_map.mp (pv.mem_iff.mp hv)
    obtain ⟨k, tk, h1, _⟩ := g e he
    exact ⟨k, tk, h1⟩
  have pk : (vs.map Builtin.Re.reRawOf).Perm (es.toList.map keyOf) := by
    have q := pv.map Builtin.Re.reRawOf
    rw [List.map_map] at q
    exact q
  have room : vs.length ≤ sizeLine := by rw [vl]; exact fits_of_scanBound hb
  refine wpAny_bind (wpAny_newList ?_ room)
  have at0 : (s1.heap.push (seqObj "list" vs.toArray 0)).get? s1.heap.objs.size = some (seqObj "list" vs.toArray 0) := Heap.get?_push_size _ rfl
  refine wpAny_bind (wpAny_holding (wpAny_call_entry slot_list_sort ⟨_, at0, rfl⟩ entry_list_sort (SrtO.list_sort_ord SrtO.swo_int at0 room (fun h2 => SrtO.ints_sortable vi h2) fun out h1 h2 => ⟨_, rfl, ?_⟩) (args_list_sort _)))
  obtain ⟨k2, k3, k4⟩ := SrtO.ints_out vi h1 h2
  obtain ⟨c, hc⟩ := sortedHeap_at (vs := vs) (out := out.toArray) at0
  have pn := (k3.trans pk).trans pm
  refine wpAny_pure ⟨_, rfl, fin _ s1.heap.objs.size out.toArray c (out.map SrtO.iv) (fun b u e => ?_) g1 o1 hz hc (by simpa using k2) pn k4 ?_⟩
  · have q := k1 b u e
    have lt := Heap.lt_size q
    show (sortedHeap (s1.heap.push (seqObj "list" vs.toArray 0)) s1.heap.objs.size vs out.toArray).get? b = some u
    rw [sortedHeap_old (Nat.ne_of_lt lt) (by rw [size_push']; exact Nat.lt_succ_of_lt lt)]
    exact Heap.get?_push_of_some _ q
  · rw [pn.length_eq, ← pm.length_eq, List.length_map, Array.length_toList]
    exact hb
end
end PyV
namespace PyV
open PySem PySem.Spec PyProof.Rows L2
section
variable {κ : Kx} {io : Nat → V → Prop} {W : WX} {X : Cx} {T : Tab}
def sstN : Bool → Str
  | true => "sorted"
  | false => "len"
def sstQ (b : Bool) (ns : List Int) (Q : VK) (H : Hp) : Prop := if b = true then ∀ p, H p = none → Q (.ref p) (upd H p (.lst ((sortI (ddI ns)).map V.int))) else Q (.int (ddI ns).length) H
def tSst (K : PySem.W.Frag) (b : Bool) (ta : TE) : TE := fun σ H Q => ta σ H fun v H1 => ∃ (l : Addr) (ns : List Int), v = .ref l ∧ SqL K H1 l (ns.map V.int) ∧ ns.length ≤ 4000 ∧ sstQ b ns Q H1
theorem pe_sst {b : Bool} {a' : Expr} {ta : TE} {x y : Str} {p p2 q pos : Pos} (hx : x = sstN b) (hy : y = "set") (hg : Gl X x) (hm : X.mg x = none) (hg2 : Gl X y) (hm2 : X.mg y = none) (ha : PE X a' ta) (hc : X.calm = true)
    (na : starEach [a'] X.env = (false, eval a' X.env) :: starEach [] X.env) : PE X (.Call (.Name x p) [.Call (.Name y p2) [a'] [] q] [] pos) (tSst X.K b ta) := by
  subst hy
  refine ⟨fun pins s σ H Q I h => ?_⟩
  cases b with
  | true =>
    obtain rfl : x = "sorted" := hx
    refine Call_ (ld_blt I hg hm boot_sorted ?_)
    refine callWith_builtin1 (args_cons ?_ rfl) rfl rfl
    refine Call_ (ld_blt I hg2 hm2 boot_set ?_)
    refine callWith_type1 (args_cons (thn (ha.run pins s σ H _ I h) fun v s1 ⟨u, H1, I1, r1, q1⟩ => args_nil ?_) na) na rfl
    obtain ⟨l, ns, rfl, hq, hl, q1⟩ := q1
    cases r1
    obtain ⟨its, r, pl, hz⟩ := I1.list hq
    refine set_of_list ns (I1.ok.hd hc) pl.isList (by simpa using r.ints) (by unfold scanBound; omega) fun h' tk c R k => args_nil ?_
    have I2 : Inv X pins σ H1 { s1 with heap := h', toks := tk } := I1.kept k
    refine sorted_of_set R (I2.ok.hd hc) fun s' p out c' ms k2 g o hp hg hi hs hm hl => ?_
    have e := sortI_is hs hm
    have len : (ms.map V.int).length ≤ sizeLine := by rw [List.length_map]; exact fits_of_scanBound hl
    have hn : H1 p = none := I2.hok.fresh hp
    have J : Inv X pins σ (upd H1 p (.lst (ms.map V.int))) { ({ s1 with heap := h', toks := tk } : Shared) with heap := s'.heap, gens := s'.gens, drawn := s'.drawn, toks := s'.toks } :=
      I2.call (ch := []) (Un.laid k2 hp hn) (I2.hok.laid k2 hp ⟨len, out.toList, c', vals_of_ints hi, hg⟩) (by rw [g]; exact I2.bare) (fun _ z => nomatch z)
    have es : s' = { ({ s1 with heap := h', toks := tk } : Shared) with heap := s'.heap, gens := s'.gens, drawn := s'.drawn, toks := s'.toks } := by
      cases s'
      cases s1
      cases o
      rfl
    rw [es]
    rw [e] at J
    exact ⟨.ref p, _, J, rfl, q1 p hn⟩
  | false =>
    obtain rfl : x = "len" := hx
    refine Call_ (ld_blt I hg hm boot_len ?_)
    refine callWith_builtin1 (args_cons ?_ rfl) rfl rfl
    refine Call_ (ld_blt I hg2 hm2 boot_set ?_)
    refine callWith_type1 (args_cons (thn (ha.run pins s σ H _ I h) fun v s1 ⟨u, H1, I1, r1, q1⟩ => args_nil ?_) na) na rfl
    obtain ⟨l, ns, rfl, hq, hl, q1⟩ := q1
    cases r1
    obtain ⟨its, r, pl, hz⟩ := I1.list hq
    refine set_of_list ns (I1.ok.hd hc) pl.isList (by simpa using r.ints) (by unfold scanBound; omega) fun h' tk c R k => args_nil ?_
    have I2 : Inv X pins σ H1 { s1 with heap := h', toks := tk } := I1.kept k
    exact len_of_set R fun t t' => ⟨.int (ddI ns).length, H1, I2.tok _, ⟨_, rfl⟩, q1⟩
end
end PyV
set_option Elab.async false
set_option linter.all false
set_option maxRecDepth 100000
set_option maxHeartbeats 2000000
namespace PyV
open PySem PySem.Spec PyProof.Rows L2

section
variable {κ : Kx} {io : Nat → V → Prop} {W : WX} {σ : L2.St} {f H : Hp} {δ δ' : Ss} {τ τ' ρ : List En} {X : Cx} {a' b' c' d' e' : Expr} {es' : List Expr} {pos : Pos} {Q : VK} {T : Tab}
theorem args_of (rf : RelF κ f H (σ.zip δ ++ τ)) (s : SR κ io σ H δ τ) : ∀ {rs : List Rv} {vs : List V} {ds : List D}, Alis σ rs vs → (∀ e ∈ ents rs vs, e ∈ τ) → rds δ rs = some ds → Args κ f H vs ds
  | [], _, ds, a, _, h => by
    cases a
    simp only [rds, Option.some.injEq] at h
    subst h
    exact .nil
  | r :: rs, _, ds, a, hm, h => by
    cases a with
    | @cons _ v _ vs a1 a2 =>
      simp only [rds] at h
      split at h
      · rename_i d ds2 h1 h2
        cases h
        refine .cons (s.read (hm _ ?_) a1 h1 rf) (args_of rf s a2 (fun e he => hm e ?_) h2)
        · show ent r v ∈ ents rs vs ++ [ent r v]
          simp
        · show e ∈ ents rs vs ++ [ent r v]
          exact List.mem_append_left _ he
      · cases h
theorem flat_min {d : D} {r : List D} (h : alkD (d :: r) = true) : plainR (minDD d r) := by
  have := (alk_all h _ (minDD_mem r d)).1
  cases hm : minDD d r <;> rw [hm] at this <;> first | (cases this; done) | exact True.intro
theorem biD_flat {b : Bi} {ds : List D} {z : D} (h : biD b ds = some z) : plainR z := by
  unfold biD at h
  split at h <;> try (cases h; done)
  all_goals first | (cases h; exact True.intro) | skip
  all_goals first | (split at h <;> first | (cases h; exact True.intro) | (cases h; done)) | skip
  all_goals first | (obtain ⟨_, _, rfl⟩ := Option.map_eq_some_iff.mp h; exact True.intro) | skip
  all_goals first | (split at h <;> first | (cases h; exact True.intro) | (obtain ⟨_, _, rfl⟩ := Option.map_eq_some_iff.mp h; exact True.intro)) | skip
  all_goals first | ((repeat' split at h) <;> first | (cases h; exact True.intro) | (cases h; done) | (cases h; exact flat_min (by assumption)) | (obtain ⟨_, _, rfl⟩ := Option.map_eq_some_iff.mp h; exact True.intro)) | skip
def biN : Bi → Str
  | .len => "len"
  | .abs => "abs"
  | .int => "int"
  | .str => "str"
  | .repr => "repr"
  | .list => "list"
  | .tuple => "tuple"
  | .max => "max"
  | .min => "min"
  | .sum => "sum"
  | .all => "all"
  | .any => "any"
  | .sorted => "sorted"
  | .divmod => "divmod"
  | _ => ""
theorem snd_bi {p : Option Nat} {b : Bi} {es : List E} {x : Str} {q : Pos} (hx : biN b = x) (he0 : x ≠ "") (hcr : CallR X (biV b) (rB κ b)) (hg : Gl X x) (hm : X.mg x = none) (ha : PA X (e' :: es') (tDA κ io W (evEs T p es)))
    (hs : starEach (e' :: es') X.env = (false, eval e' X.env) :: starEach es' X.env) (hpl : (backTo pos (starEach es' X.env)).any (·.1) = false) :
    PE X (.Call (.Name x q) (e' :: es') [] pos) (tD κ io W (evE T p (.bi b es))) := by
  have call : PE X (.Call (.Name x q) (e' :: es') [] pos) (tCB (rB κ b) (tDA κ io W (evEs T p es))) := by
    cases b <;> first
      | exact absurd hx.symm he0
      | (subst hx; exact pe_callB hcr hg hm (by rfl) ha (by decide) (by decide) hs hpl)
      | (subst hx; exact pe_callTy hcr hg hm (by rfl) ha (by decide) (by decide) hs hpl)
  refine PE.imp call fun σ H Q ⟨δ, τ, s, h⟩ => ?_
  simp only [evE] at h
  refine seqA (ρ := []) h s fun rs δ1 vs H1 s1 a1 h1 => ?_
  split at h1
  · rename_i ds hd
    split at h1
    · rename_i z hz
      obtain ⟨f, rf⟩ := s1.rel
      have ar := args_of rf s1 a1 (fun e he => List.mem_append_left _ he) hd
      have s2 := s1.cut
      refine ⟨f, ds, z, rf.same, ar, hz, resOk_of s2.len s2.io (rf.sub ((List.sublist_append_right _ _).append_left _)) (biD_flat hz) h1⟩
    · exact h1.elim
  · exact h1.elim
def rM (κ : Kx) (m : Mt) : V → List V → Hp → VK → Prop := fun x xs H Q => ∃ f t ds z, x = .str ⟨t.toArray⟩ ∧ (∀ c ∈ t, c < 1114112) ∧ Same f H ∧ Args κ f H xs ds ∧ mtD m t ds = some z ∧ resOk κ f H z Q
theorem cnt_nat (c : Nat) : ∀ l : List Nat, cnt c l = ((l.count c : Nat) : Int)
  | [] => rfl
  | n :: r => by
    rw [cnt_cons, cnt_nat c r, List.count_cons]
    by_cases h : n = c
    · subst h; simp; omega
    · simp [h]
theorem okL_join {S : List Nat} (hS : ∀ c ∈ S, c < 1114112) : ∀ ps : List (List Nat), (∀ p ∈ ps, ∀ c ∈ p, c < 1114112) → ∀ c ∈ TL.joinL S ps, c < 1114112
  | [], _ => fun c h => by simp [TL.joinL] at h
  | [p], h => h p (List.mem_singleton.mpr rfl)
  | p :: q :: r, h => fun c hc => by
    simp only [TL.joinL] at hc
    rcases List.mem_append.mp hc with hc | hc
    · exact h p List.mem_cons_self c hc
    · rcases List.mem_append.mp hc with hc | hc
      · exact hS c hc
      · exact okL_join hS (q :: r) (fun z hz => h z (List.mem_cons_of_mem _ hz)) c hc
theorem mt_count1 : MtR X "str.count" (rM κ .count) := by
  intro pins s σ H x xs v us Q I rx rs h
  obtain ⟨f, t, ds, z, rfl, ok, sm, ar, hz, hq⟩ := h
  simp only [mtD] at hz
  unfold cntD at hz
  split at hz <;> try (cases hz; done)
  rename_i c
  obtain ⟨y, rfl, r⟩ := ar.one
  obtain ⟨rfl, _⟩ := rep_str (rep_of sm r)
  cases hz
  refine mt_count pins s σ H _ _ v us Q I rx rs ⟨_, _, rfl, rfl, ?_⟩
  have e : Txt.count ⟨t.toArray⟩ ⟨[c].toArray⟩ = ((t.count c : Nat) : Int) := (count_cnt ⟨t.toArray⟩ c).trans (cnt_nat c t)
  rw [e]
  exact hq _ (.int _)
theorem lens_sum (xs : List (List Nat)) : ((xs.map fun s => (⟨s.toArray⟩ : Str)).map (·.length)).sum = (xs.map List.length).sum := by
  congr 1
  rw [List.map_map]
  apply List.map_congr_left
  intro a _
  simp [Str.length]
theorem mt_join1 (hK : κ.K = X.K) : MtR X "str.join" (rM κ .join) := by
  intro pins s σ H x xs v us Q I rx rs h
  obtain ⟨f, t, ds, z, rfl, ok, sm, ar, hz, hq⟩ := h
  simp only [mtD] at hz
  unfold joinD at hz
  split at hz <;> try (cases hz; done)
  obtain ⟨y, rfl, r⟩ := ar.one
  split at hz
  · rename_i ps e
    split at hz
    · rename_i hl
      cases hz
      obtain ⟨a, ws, rfl, q, rr⟩ := lst_of sm hK r
      rw [allS_eq e] at rr
      obtain ⟨e2, k2⟩ := reps_S rr
      rw [e2] at q
      refine mt_join pins s σ H _ _ v us Q I rx rs ⟨_, a, _, rfl, rfl, .inl q.sq, ?_, ?_⟩
      · rw [lens_sum, List.length_map]
        have : (⟨t.toArray⟩ : Str).length = t.length := by simp [Str.length]
        rw [this]
        exact hl
      · have e3 : Txt.join ⟨t.toArray⟩ (ps.map fun s => (⟨s.toArray⟩ : Str)) = ⟨(TL.joinL t ps).toArray⟩ := by
          refine TL.ext_tl ?_
          rw [TL.join_eq, TL.tl_join]
          show TL.joinL t _ = TL.joinL t ps
          rw [List.map_map]
          congr 1
          exact (List.map_congr_left fun a _ => rfl).trans (List.map_id ps)
        rw [e3]
        exact hq _ (.str _ (okL_join ok ps k2))
    · cases hz
  · cases hz
theorem strs_okL : ∀ {ys : List Str}, (∀ y ∈ ys, okS y) → ∀ g, Reps κ g (ys.map V.str) ((ys.map fun z => z.cps.toList).map .str)
  | [], _, _ => .nil
  | y :: ys, h, g => by
    have e : V.str y = .str ⟨y.cps.toList.toArray⟩ := by simp
    refine .cons ?_ (strs_okL (fun z hz => h z (List.mem_cons_of_mem _ hz)) g)
    rw [e]
    exact .str _ (h y List.mem_cons_self)
theorem okS.cut {z : Str} (h : okS z) (i j : Nat) : okS (Builtin.Str.strSub z i j) := fun c hc => by
  unfold Builtin.Str.strSub at hc
  have : c ∈ (z.cps.toList.drop i).take (j - i) := by simpa [Array.toList_extract, List.extract_eq_drop_take] using hc
  exact h c (List.mem_of_mem_drop (List.mem_of_mem_take this))
theorem okS.split {x y : Str} (h : okS x) : ∀ t ∈ Txt.split x y, okS t := fun t ht => by
  unfold Txt.split at ht
  split at ht
  · rw [List.mem_singleton.mp ht]; exact h
  · split at ht
    · rw [List.mem_singleton.mp ht]; exact h
    · unfold Builtin.Str.partsBetween at ht
      simp only [List.mem_map] at ht
      obtain ⟨⟨i, j⟩, _, rfl⟩ := ht
      exact h.cut i j
theorem okS.part {x y : Str} (h : okS x) (h2 : okS y) : okS (Txt.partition x y).1 ∧ okS (Txt.partition x y).2.1 ∧ okS (Txt.partition x y).2.2 := by
  unfold Txt.partition
  split
  · exact ⟨h.cut _ _, h2, h.cut _ _⟩
  · exact ⟨h, fun c hc => by simp [Str.empty] at hc, fun c hc => by simp [Str.empty] at hc⟩
theorem mt_split1 : MtR X "str.split" (rM κ .split) := by
  intro pins s σ H x xs v us Q I rx rs h
  obtain ⟨f, t, ds, z, rfl, ok, sm, ar, hz, hq⟩ := h
  simp only [mtD] at hz
  unfold splD at hz
  split at hz <;> try (cases hz; done)
  rename_i b
  split at hz
  · rename_i hl
    cases hz
    obtain ⟨y, rfl, r⟩ := ar.one
    obtain ⟨rfl, _⟩ := rep_str (rep_of sm r)
    refine mt_split pins s σ H _ _ v us Q I rx rs ⟨_, _, rfl, rfl, ?_, ?_, fun p hp => ?_⟩
    · cases b with
      | nil => simp at hl
      | cons c b => simp [Str.length]
    · rw [lineEq]
      simpa [Str.length] using hl.2
    · exact hq _ _ hp (strs_okL (okS.split (x := ⟨t.toArray⟩) (fun c hc => ok c (by simpa using hc))) _)
  · cases hz
theorem mt_part1 : MtR X "str.partition" (rM κ .partition) := by
  intro pins s σ H x xs v us Q I rx rs h
  obtain ⟨f, t, ds, z, rfl, ok, sm, ar, hz, hq⟩ := h
  simp only [mtD] at hz
  unfold parD at hz
  split at hz <;> try (cases hz; done)
  rename_i b
  split at hz
  · rename_i hl
    cases hz
    obtain ⟨y, rfl, r⟩ := ar.one
    obtain ⟨rfl, okb⟩ := rep_str (rep_of sm r)
    refine mt_partition pins s σ H _ _ v us Q I rx rs ⟨_, _, rfl, rfl, ?_, ?_, fun p hp => ?_⟩
    · cases b with
      | nil => simp at hl
      | cons c b => simp [Str.length]
    · rw [lineEq]
      simpa [Str.length] using hl.2
    · have o := okS.part (x := ⟨t.toArray⟩) (y := ⟨b.toArray⟩) (fun c hc => ok c (by simpa using hc)) (fun c hc => okb c (by simpa using hc))
      refine hq.1 _ _ hp ?_
      have e1 : ∀ y : Str, okS y → ∀ g, Rep κ g (V.str y) (.str y.cps.toList) := fun y hy g => by
        have e : V.str y = .str ⟨y.cps.toList.toArray⟩ := by simp
        rw [e]
        exact .str _ hy
      exact .cons (e1 _ o.1 _) (.cons (e1 _ o.2.1 _) (.cons (e1 _ o.2.2 _) .nil))
  · cases hz
theorem mtD_flat {b : Mt} {t : List Nat} {ds : List D} {z : D} (h : mtD b t ds = some z) : plainR z := by
  cases b <;> simp only [mtD] at h <;> try (cases h; done)
  · unfold cntD at h
    split at h <;> try (cases h; done)
    cases h
    exact True.intro
  · unfold joinD at h
    split at h
    · split at h
      · split at h
        · cases h
          exact True.intro
        · cases h
      · cases h
    · cases h
  · unfold splD at h
    split at h <;> try (cases h; done)
    split at h <;> cases h
    exact True.intro
  · unfold parD at h
    split at h <;> try (cases h; done)
    split at h <;> cases h
    exact True.intro
theorem snd_m1 {p : Option Nat} {m : Mt} {id : String} {name : Str} {apos : Pos} {a e : E} (slot : Slot "str" name id) (ty : typeOf (.builtin id) = pure (.type "method_descriptor")) (rule : MtR X id (rM κ m)) (ha : PE X a' (tD κ io W (evE T p a))) (he : PE X e' (tD κ io W (evE T p e)))
    (hs : starEach [e'] X.env = [(false, eval e' X.env)]) (hbase : attributeBase a' name X.env (eval a' X.env) = eval a' X.env) (hline : (apos.endLine == pos.line) = true) :
    PE X (.Call (.Attribute a' name apos) [e'] [] pos) (tD κ io W (evE T p (.mth m a [e]))) := by
  refine PE.imp (pe_m1 slot ty rule ha he hs hbase hline) fun σ H Q ⟨δ, τ, s, h⟩ => ?_
  simp only [evE] at h
  refine seqD (ρ := []) h s fun r δ1 v H1 s1 a1 h1 => ?_
  split at h1
  · rename_i t
    obtain ⟨f1, sm1, rp⟩ := s1.top
    obtain ⟨rfl, ok⟩ := rep_str rp
    refine ⟨⟨_, rfl⟩, ?_⟩
    have h2 : post κ io W σ τ (okE κ io σ τ Q) ((evE T p e δ1).bind fun x s2 => match rds s2 [x] with
      | some ds => (match mtD m t ds with
        | some z => .ok (out z) s2
        | none => .bad)
      | none => .bad) := by
      simp only [evEs] at h1
      cases hev : evE T p e δ1 with
      | ok r2 δ2 => rw [hev] at h1; exact h1
      | ex x δ2 => rw [hev] at h1; exact h1
      | bad => rw [hev] at h1; exact h1
    refine seqD (ρ := [ent (.val (.str t)) (.str ⟨t.toArray⟩)]) h2 s1 fun r2 δ2 v2 H2 s2 a2 h3 => ?_
    split at h3
    · rename_i ds hd
      split at h3
      · rename_i z hz
        obtain ⟨f, rf⟩ := s2.rel
        have ar := args_of (rs := [r2]) (vs := [v2]) rf s2 (.cons a2 .nil) (fun e he => by
          simp [ents] at he
          subst he
          exact List.mem_cons_self) hd
        have s3 := s2.tl.tl
        exact ⟨f, t, ds, z, rfl, ok, rf.same, ar, hz, resOk_of s3.len s3.io (rf.sub (List.Sublist.append_left (by simp) _)) (mtD_flat hz) h3⟩
      · exact h3.elim
    · exact h3.elim
  · exact h1.elim
theorem snd_bits {p : Option Nat} {apos : Pos} {a : E} (ha : PE X a' (tD κ io W (evE T p a))) (hbase : attributeBase a' "bit_length" X.env (eval a' X.env) = eval a' X.env) (hline : (apos.endLine == pos.line) = true) :
    PE X (.Call (.Attribute a' "bit_length" apos) [] [] pos) (tD κ io W (evE T p (.bits a))) := by
  refine PE.imp (pe_bits ha hbase hline) fun σ H Q ⟨δ, τ, s, h⟩ => ?_
  simp only [evE] at h
  refine seqD (ρ := []) h s fun r δ1 v H1 s1 a1 h1 => ?_
  split at h1
  · rename_i i
    obtain rfl := s1.topI
    exact ⟨i, rfl, fin_int s1.tl h1⟩
  · exact h1.elim
theorem fget_zip {f : Hp} {g : Str} {z : D} : ∀ {ns : List Str} {vs : List V} {ds : List D}, Reps κ f vs ds → fgetD g ns ds = some z → ∃ v, (ns.zip vs).lookup g = some v ∧ Rep κ f v z
  | [], _, _, _, h => by simp at h
  | n :: ns, _, [], .nil, h => by simp at h
  | n :: ns, _, d :: ds, .cons (v := v) (vs := vs) r t, h => by
    simp only [fgetD] at h
    by_cases e : n = g
    · subst e
      rw [if_pos rfl] at h
      cases h
      exact ⟨v, by simp, r⟩
    · rw [if_neg e] at h
      obtain ⟨w, h1, h2⟩ := fget_zip t h
      refine ⟨w, ?_, h2⟩
      rw [List.zip_cons_cons, List.lookup_cons]
      have : (g == n) = false := by simpa using fun z => e z.symm
      rw [this]
      exact h1
def ClsOk (κ : Kx) (K : PySem.W.Frag) : Prop := ∀ c, c < κ.n → Cls K (κ.cls c)
def FldOk (κ : Kx) (K : PySem.W.Frag) (g : Str) : Prop := ∀ c, c < κ.n → NoAttr K (κ.cls c) g
theorem obj_of {f : Hp} {v : V} {c : Nat} {ns : List Str} {ds : List D} (sm : Same f H) (q : Rep κ f v (.obj c ns ds) ∨ ∃ a, v = .ref a ∧ f a = none ∧ Own κ f H a (.obj c ns ds)) :
    ∃ a dx vs, v = .ref a ∧ c < κ.n ∧ H a = some (.ins (κ.cls c) dx (ns.zip vs)) ∧ ns.length = vs.length ∧ Reps κ f vs ds := by
  rcases q with q | ⟨a, rfl, _, o⟩
  · cases q with
    | obj c q l r => exact ⟨_, _, _, rfl, c, sm _ _ q, l, r⟩
  · cases o with
    | obj c q l r => exact ⟨_, _, _, rfl, c, q, l, r⟩
theorem snd_att {p : Option Nat} {a : E} {g : Str} (hc : ClsOk κ X.K) (hf : FldOk κ X.K g) (hb : attributeBase a' g X.env (eval a' X.env) = eval a' X.env) (ha : PE X a' (tD κ io W (evE T p a))) : PE X (.Attribute a' g pos) (tD κ io W (evE T p (.att a g))) := by
  refine PE.imp (pe_fld ha hb) fun σ H Q ⟨δ, τ, s, h⟩ => ?_
  simp only [evE] at h
  refine seqD (ρ := []) h s fun r δ1 v H1 s1 a1 h1 => ?_
  split at h1
  · rename_i ns ds hd
    split at h1
    · rename_i z hz
      obtain ⟨f, rf⟩ := s1.rel
      obtain ⟨b, dx, vs, rfl, hlt, hb, hl, rs⟩ := obj_of rf.same (s1.read (by simp [ent]) a1 hd rf)
      obtain ⟨w, hw, q⟩ := fget_zip rs hz
      have s2 := s1.tl
      exact ⟨b, _, dx, _, w, rfl, hb, hc _ hlt, hf _ hlt, hw, fin_rep s2.len s2.io (rf.sub (List.Sublist.append_left (by simp) _)) h1 q⟩
    · exact h1.elim
  · exact h1.elim
def tyU (κ : Kx) : Ty → Value
  | .tint => .type "int"
  | .tbool => .type "bool"
  | .tstr => .type "str"
  | .ttuple => .type "tuple"
  | .tlist => .type "list"
  | .tval => .type "ValueError"
  | .cls c => .ref (κ.cls c)
def tyW (κ : Kx) : Ty → V
  | .tint => .ty "int"
  | .tbool => .ty "bool"
  | .tstr => .ty "str"
  | .ttuple => .ty "tuple"
  | .tlist => .ty "list"
  | .tval => .ty "ValueError"
  | .cls c => .ref (κ.cls c)
structure InsOk (κ : Kx) (K : PySem.W.Frag) (c : Nat) : Prop where
  cl : Cls K (κ.cls c)
  ha : PySem.W.findIn K (.ref (κ.cls c)) "__class__" = some (some (.builtin "object.__class__"))
  hn : PySem.W.specialIn K (.builtin "object.__class__") "__get__" = some (some (.builtin "getset_descriptor.__get__"))
  htk : PySem.W.takesIn K (.builtin "object.__class__") = some true
  hm : PySem.W.mroIn K (κ.cls c) (.type "object") = some true
def tyB : Ty → List Bool
  | .tint => [false, true, true, false, false, false, false]
  | .tbool => [false, true, false, false, false, false, false]
  | .tstr => [false, false, false, true, false, false, false]
  | .ttuple => [false, false, false, false, true, false, false]
  | .tlist => [false, false, false, false, false, true, false]
  | .tval => [false, false, false, false, false, false, false]
  | .cls _ => [false, false, false, false, false, false, false]
def tyX (c : Nat) : Ty → Bool
  | .cls k => c == k || k == 4
  | .tval => true
  | _ => false
structure XcOk (κ : Kx) (K : PySem.W.Frag) (c : Nat) : Prop where
  cl : PySem.W.isClsIn K (κ.cls c) = true
  ga : PySem.W.findIn K (.ref (κ.cls c)) "__getattribute__" = some (some (.builtin "BaseException.__getattribute__"))
  gt : PySem.W.findIn K (.ref (κ.cls c)) "__getattr__" = some none
  sub : PySem.W.subIn K (.ref (κ.cls c)) (.type "BaseException") = some true
  ha : PySem.W.findIn K (.ref (κ.cls c)) "__class__" = some (some (.builtin "object.__class__"))
  hn : PySem.W.specialIn K (.builtin "object.__class__") "__get__" = some (some (.builtin "getset_descriptor.__get__"))
  htk : PySem.W.takesIn K (.builtin "object.__class__") = some true
  hm : PySem.W.mroIn K (κ.cls c) (.type "object") = some true
def tyC (c : Nat) : Ty → Bool
  | .cls k => c == k
  | _ => false
structure IsiOk (κ : Kx) (K : PySem.W.Frag) (t : Ty) : Prop where
  ins : ∀ c, c < κ.n → InsOk κ K c
  kit : ["NoneType", "bool", "int", "str", "tuple", "list", "dict"].map (fun n => PySem.W.kitOne K (.type n) (tyU κ t)) = (tyB t).map some
  own : ∀ c, c < κ.n → PySem.W.kitOne K (.ref (κ.cls c)) (tyU κ t) = some (tyC c t)
  exc : ∀ c, κ.x c = true → XcOk κ K c ∧ PySem.W.kitOne K (.ref (κ.cls c)) (tyU κ t) = some (tyX c t)
def TyZ (κ : Kx) (H : Hp) (v : V) (ty : Value) : Prop := TyX κ.K H v ty ∨ (ty = .type "dict" ∧ ∃ a o, v = .ref a ∧ H a = some (atO a o) ∧ o.ExactDict) ∨ ∃ a c d, v = .ref a ∧ ty = .ref (κ.cls c) ∧ H a = some (ExZ ty d a) ∧ (d = none ∨ ∃ dd fs, d = some dd ∧ H dd = some (.xd fs)) ∧ XcOk κ κ.K c
def rIsiZ (κ : Kx) : List V → Hp → VK → Prop := fun xs H Q => ∃ (x c : V) (t u : Value) (b : Bool), xs = [x, c] ∧ ClsV c u ∧ TyZ κ H x t ∧ PySem.W.kitOne κ.K t u = some b ∧ Q (.bl b) H
theorem call_isiZ (hK : κ.K = X.K) : CallR X (.builtin "isinstance") (rIsiZ κ) := by
  intro pins s σ H xs us Q I r h
  obtain ⟨x, c, t, u, b, rfl, k, ty, e, q⟩ := h
  rw [hK] at e
  rcases ty with ty | ⟨rfl, a, o, rfl, ha, ex⟩ | ⟨a, c', d, rfl, rfl, ha, hdd, xc⟩
  · rw [hK] at ty
    exact call_isi pins s σ H _ us Q I r ⟨x, c, t, u, b, rfl, k, ty, e, q⟩
  · obtain ⟨u1, u2, rfl, r1, r2⟩ := vals2 r
    have e2 := k.eq r2
    subst e2
    cases (show u1 = Value.ref a from r1)
    have ho : s.heap.get? a = some o := (I.hok a _ ha).1
    exact PySem.W.kia_one PySem.W.kitx_dict I.kIn (show _ from ⟨o, ho, ex.1⟩) e (fun z => nomatch z) fun tk => ⟨.bl b, H, I.tok tk, rfl, q⟩
  · obtain ⟨u1, u2, rfl, r1, r2⟩ := vals2 r
    have e2 := k.eq r2
    subst e2
    cases (show u1 = Value.ref a from r1)
    obtain ⟨oe, vs, ho, hcls, hd, hdt⟩ := (I.hok a _ ha).1
    rw [hK] at xc
    obtain ⟨od, IA⟩ : ∃ od, PySem.W.InstAt s.heap a oe (κ.cls c') od := by
      rcases hdd with rfl | ⟨dd, fs, rfl, hx⟩
      · exact ⟨none, ho, hcls, by unfold PySem.W.notCls; rw [hdt], by rw [hd]; trivial⟩
      · obtain ⟨mA, ⟨o, es, ep, e1, _⟩, _⟩ := (show ObjOk X.prog X.w H s.heap dd (.xd fs) from I.hok dd _ hx)
        exact ⟨some o, ho, hcls, by unfold PySem.W.notCls; rw [hdt], by rw [hd]; exact e1⟩
    exact PySem.W.kia_one (PySem.W.kitx_exc (od := od) (ox := oe) xc.cl xc.ga xc.gt xc.sub xc.ha xc.hn xc.htk xc.hm) I.kIn IA e (fun z => nomatch z) fun tk => ⟨.bl b, H, I.tok tk, rfl, q⟩
theorem isi_use {t : Ty} {d : D} {b : Bool} {f : Hp} {v : V} (hK : κ.K = X.K) (ok : IsiOk κ X.K t) (sm : Same f H) (r : Rd1 κ f H v d) (h : isiD d t = some b) : ∃ ty, TyZ κ H v ty ∧ PySem.W.kitOne κ.K ty (tyU κ t) = some b := by
  rw [← hK] at ok
  have k := ok.kit
  simp only [List.map_cons, List.map_nil] at k
  have r0 := rep_of sm r
  cases d with
  | non =>
    cases r0
    refine ⟨_, .inl (.base .non), ?_⟩
    cases t <;> (simp only [isiD, Option.some.injEq] at h; subst h; simp [tyB] at k; exact k.1)
  | bl x =>
    cases r0
    refine ⟨_, .inl (.base (.bl _)), ?_⟩
    cases t <;> (simp only [isiD, Option.some.injEq] at h; subst h; simp [tyB] at k; exact k.2.1)
  | int x =>
    cases r0
    refine ⟨_, .inl (.base (.int _)), ?_⟩
    cases t <;> (simp only [isiD, Option.some.injEq] at h; subst h; simp [tyB] at k; exact k.2.2.1)
  | str x =>
    cases r0
    refine ⟨_, .inl (.base (.str _)), ?_⟩
    cases t <;> (simp only [isiD, Option.some.injEq] at h; subst h; simp [tyB] at k; exact k.2.2.2.1)
  | tup ds =>
    have e : PySem.W.kitOne κ.K (.type "tuple") (tyU κ t) = some b := by
      cases t <;> (simp only [isiD, Option.some.injEq] at h; subst h; simp [tyB] at k; exact k.2.2.2.2.1)
    obtain ⟨a, vs, rfl, q, _⟩ := tup_of sm rfl r
    rcases q with (q | ⟨o, q⟩) | ⟨o, its, n, q, c, _⟩
    · exact ⟨_, .inl (.base (.tup q)), e⟩
    · exact ⟨_, .inl (.fTuple q), e⟩
    · exact ⟨_, .inl (.kTuple q c), e⟩
  | lst ds =>
    have e : PySem.W.kitOne κ.K (.type "list") (tyU κ t) = some b := by
      cases t <;> (simp only [isiD, Option.some.injEq] at h; subst h; simp [tyB] at k; exact k.2.2.2.2.2.1)
    obtain ⟨a, vs, rfl, q, _⟩ := lst_of sm rfl r
    rcases q with (q | ⟨o, q⟩) | ⟨its, n, q, c⟩
    · exact ⟨_, .inl (.base (.lst q)), e⟩
    · exact ⟨_, .inl (.base (.frz q)), e⟩
    · exact ⟨_, .inl (.kList q rfl), e⟩
  | obj c ns ds =>
    obtain ⟨a, dx, vs, rfl, hlt, hb, hl, rs⟩ := obj_of sm r
    have i := ok.ins c hlt
    refine ⟨_, .inl (.base (.ins hb i.cl i.ha i.hn i.htk i.hm)), ?_⟩
    rw [ok.own c hlt]
    cases t <;> (simp only [isiD, Option.some.injEq] at h; subst h; rfl)
  | dct _ _ _ =>
    have e : PySem.W.kitOne κ.K (.type "dict") (tyU κ t) = some b := by
      cases t <;> (simp only [isiD, Option.some.injEq] at h; subst h; simp [tyB] at k; exact k.2.2.2.2.2.2)
    cases r0 with
    | dct q n o kk r1 r2 => exact ⟨_, .inr (.inl ⟨rfl, _, _, rfl, q, o.ex⟩), e⟩
  | exc c ns ds =>
    cases r0 with
    | @exc a d _ _ vs _ q x dd l t' =>
      obtain ⟨xc, e⟩ := ok.exc c x
      refine ⟨_, .inr (.inr ⟨_, _, d, rfl, rfl, q, ?_, xc⟩), ?_⟩
      · rcases dd with ⟨rfl, _⟩ | ⟨dd, rfl, hx⟩
        · exact .inl rfl
        · exact .inr ⟨dd, _, rfl, hx⟩
      · rw [e]
        cases t <;> (simp only [isiD, Option.some.injEq] at h; subst h; rfl)
  | gho _ => cases t <;> simp [isiD] at h
theorem snd_isi {p : Option Nat} {a : E} {t : Ty} {q : Pos} {x : Str} (hx : x = "isinstance") (hK : κ.K = X.K) (ok : IsiOk κ X.K t) (hg : Gl X x) (hm : X.mg x = none) (ha : PE X a' (tD κ io W (evE T p a))) (ht : PE X b' (tC (tyW κ t)))
    (hs : starEach [a', b'] X.env = (false, eval a' X.env) :: starEach [b'] X.env) (hs2 : starEach [b'] X.env = (false, eval b' X.env) :: starEach [] X.env) (hpl : (backTo pos (starEach [b'] X.env)).any (·.1) = false) :
    PE X (.Call (.Name x q) [a', b'] [] pos) (tD κ io W (evE T p (.isi a t))) := by
  subst hx
  refine PE.imp (pe_callB (call_isiZ hK) hg hm (by rfl) (pa_cons ha (pa_cons ht pa_nil hs2) hs) (by decide) (by decide) hs hpl) fun σ H Q ⟨δ, τ, s, h⟩ => ?_
  simp only [evE] at h
  refine seqD (ρ := []) h s fun r δ1 v H1 s1 a1 h1 => ?_
  split at h1
  · rename_i d hd
    split at h1
    · rename_i k hk
      obtain ⟨f, rf⟩ := s1.rel
      obtain ⟨ty, h2, h3⟩ := isi_use hK ok rf.same (s1.read (by simp [ent]) a1 hd rf) hk
      refine ⟨v, tyW κ t, ty, tyU κ t, k, rfl, ?_, h2, h3, fin_bl s1.tl h1⟩
      cases t <;> constructor
    · exact h1.elim
  · exact h1.elim
theorem snd_sst {p : Option Nat} {b : Bool} {a : E} {x y : Str} {q q2 pos2 : Pos} (hx : x = sstN b) (hy : y = "set") (hK : κ.K = X.K) (hc : X.calm = true) (hg : Gl X x) (hm : X.mg x = none) (hg2 : Gl X y) (hm2 : X.mg y = none) (ha : PE X a' (tD κ io W (evE T p a)))
    (hs : starEach [a'] X.env = (false, eval a' X.env) :: starEach [] X.env) :
    PE X (.Call (.Name x q) [.Call (.Name y q2) [a'] [] pos2] [] pos) (tD κ io W (evE T p (.sst b a))) := by
  refine PE.imp (pe_sst hx hy hg hm hg2 hm2 ha hc hs) fun σ H Q ⟨δ, τ, s, h⟩ => ?_
  simp only [evE] at h
  refine seqD (ρ := []) h s fun r δ1 v H1 s1 a1 h1 => ?_
  split at h1
  · rename_i ds hd
    split at h1
    · rename_i ns hn
      by_cases hl : ns.length ≤ 4000
      · rw [if_pos hl] at h1
        obtain ⟨f, rf⟩ := s1.rel
        obtain ⟨l, rfl, q1⟩ := listI rf.same hK (s1.read (by simp [ent]) a1 hd rf) hn
        refine ⟨l, ns, rfl, q1, hl, ?_⟩
        cases b with
        | true =>
          have s2 := s1.tl
          exact fun p hp => resOk_of (z := .lst ((sortI (ddI ns)).map .int)) s2.len s2.io (rf.sub (List.Sublist.append_left (List.sublist_cons_self _ _) _)) True.intro h1 p _ hp (reps_ofI _)
        | false => exact fin_int s1.tl h1
      · rw [if_neg hl] at h1
        exact h1.elim
    · exact h1.elim
  · exact h1.elim
theorem snd_lrg {p : Option Nat} {a : E} {x y : Str} {q q2 pos2 : Pos} (hx : x = "list") (hy : y = "range") (hK : κ.K = X.K) (hc : X.calm = true) (hg : Gl X x) (hm : X.mg x = none) (hg2 : Gl X y) (hm2 : X.mg y = none) (ha : PE X a' (tD κ io W (evE T p a)))
    (hs : starEach [a'] X.env = (false, eval a' X.env) :: starEach [] X.env) :
    PE X (.Call (.Name x q) [.Call (.Name y q2) [a'] [] pos2] [] pos) (tD κ io W (evE T p (.lrg a))) := by
  subst hx
  subst hy
  refine PE.imp (pe_listRg hc hg hm (prg_1 hg2 hm2 ha hs)) fun σ H Q ⟨δ, τ, s, h⟩ => ?_
  simp only [evE] at h
  refine seqD (ρ := []) h s fun r δ1 v H1 s1 a1 h1 => ?_
  split at h1
  · rename_i j
    by_cases hl : big62 j = true ∧ j ≤ 16777216
    · rw [if_pos hl] at h1
      obtain ⟨f, rf⟩ := s1.rel
      obtain rfl := s1.topI
      have hb := hl.1
      unfold big62 at hb
      simp only [Bool.and_eq_true, decide_eq_true_eq] at hb
      refine ⟨j, rfl, ⟨by omega, by omega, hb.1, hb.2, by omega⟩, ?_⟩
      have s2 := s1.tl
      have e : irange 0 j.toNat 1 = (List.range j.toNat).map fun (k : Nat) => D.int (0 + (k : Int) * 1) := rfl
      have e2 : rgV 0 j = (List.range j.toNat).map fun (k : Nat) => V.int (0 + (k : Int)) := by unfold rgV; rw [Int.sub_zero]
      rw [e2]
      exact fun p hp => resOk_of (z := .lst (irange 0 j.toNat 1)) s2.len s2.io (rf.sub (List.Sublist.append_left (List.sublist_cons_self _ _) _)) True.intro h1 p _ hp (by
        show Reps _ _ _ _
        exact Reps.of j.toNat fun k => by rw [Int.mul_one]; exact .int _)
    · rw [if_neg hl] at h1
      exact h1.elim
  · exact h1.elim
end
end PyV
set_option Elab.async false
set_option linter.all false
set_option maxRecDepth 100000
set_option maxHeartbeats 2000000
namespace PyV
open PySem PySem.Spec PyProof.Rows L2

structure Fg (P : Program) (w : World) (K : PySem.W.Frag) (mg : Str → Option Value) (base : Heap) (k : Nat) (f : Addr) (fd : FuncData) (ps : List Str) (sp : Sp) : Prop where
  len : ∀ vs H Q E, sp vs H Q E → vs.length = ps.length
  go : ∀ (A : Around) (outer : List Env) (s : Shared) (H : Hp) (ar : PySem.Args) (us : List Value) (vs : List V) (Q : VK) (E : XK), Room k A → A.guards = some [] → Env0 P w K mg base A outer s H →
    BindsTo s fd ar (ps.zip us) → Vals vs us → sp vs H Q E → codeAny (model P w) A (.call (.ref f) ar) (CR (L2.CX P w) outer P w H s Q E) s

section
variable {X : Cx} {W : WX} {k : Nat} {f C : Addr} {fd : FuncData} {ps : List Str} {sp : Sp} {x : Str} {p pos apos : Pos} {e o : Expr} {es : List Expr} {ta : TE} {t : TA}
variable {pins : List (Addr × Obj)} {σ : L2.St} {H : Hp} {s : Shared} {Q : VK} {us : List Value} {vs : List V}
theorem ends_call (tk : Takes X W) (I : Inv X pins σ H s) {r : Result} {s' : Shared} (h : CR (L2.CX X.prog X.w) X.stack X.prog X.w H s Q (fun c d H' => W c d σ H') r s') :
    match r with
    | .ok (.ret u) => EP X pins σ Q u s'
    | .ok _ => False
    | .error er => X.xe er s' := by
  cases r with
  | error er => exact tk er s' (XE.of_call I (fun _ _ _ q => q) h)
  | ok fl =>
    cases fl with
    | ret u => exact I.after h
    | next => exact h
    | brk => exact h
    | cont => exact h
theorem go_call (F : Fg X.prog X.w X.K X.mg X.base k f fd ps sp) (hr : Room k X.A) (hg : X.A.guards = some []) (hb : Binds X.K fd ps []) (tk : Takes X W) (I : Inv X pins σ H s) (r : Vals vs us)
    (h : sp vs H Q fun c d H' => W c d σ H') : wpAny (model X.prog X.w) X.A (call (.ref f) us) (EP X pins σ Q) X.xe s := by
  have hl : us.length = ps.length := by
    rw [← r.length]
    exact F.len _ _ _ _ h
  have b := hb s us I.kIn (by rw [List.append_nil]; exact hl)
  rw [List.append_nil] at b
  refine wpAny_call (codeAny_mono (F.go X.A X.stack s H ⟨us, []⟩ us vs Q _ hr hg I.env0 b r h) fun rr s' q => ?_)
  have q2 := ends_call tk I q
  rcases rr with er | fl
  · exact q2
  · cases fl <;> first | exact q2 | exact False.elim q2
def tG (sp : Sp) (W : WX) (t : TA) : TE := fun σ H Q => t σ H fun vs H1 => sp vs H1 Q fun c d H' => W c d σ H'
theorem pe_g (F : Fg X.prog X.w X.K X.mg X.base k f fd ps sp) (hr : Room k X.A) (hu : X.A.guards = some []) (hg : Gl X x) (hm : X.mg x = some (.ref f)) (hk : PySem.W.keepIn X.K (.ref f) = true) (hb : Binds X.K fd ps []) (tk : Takes X W)
    (ha : PA X es t) (hdb : (x == ("__debug__" : Str)) = false) (he : ∀ e r, es = e :: r → starEach es X.env = (false, eval e X.env) :: starEach r X.env) (hpl : ∀ e r, es = e :: r → (backTo pos (starEach r X.env)).any (·.1) = false)
    (hn : es = [] → ∀ (σ : L2.St) (H : Hp) (Q : List V → Hp → Prop), t σ H Q → Q [] H) :
    PE X (.Call (.Name x p) es [] pos) (tG sp W t) := by
  cases es with
  | nil =>
    refine ⟨fun pins s σ H Q I h => wpAny_Call_Name_kw (ld_glob I hg hm (PySem.W.callWith_K0 I.kIn hk ?_) hdb)⟩
    exact go_call F hr hu hb tk I .nil (hn rfl _ _ _ h)
  | cons e r =>
    refine ⟨fun pins s σ H Q I h => wpAny_Call_Name_kw (ld_glob I hg hm ?_ hdb)⟩
    refine PySem.W.callWith_K (h₀ := X.base) I.ok.mod.kin hk ?_ (he e r rfl) (hpl e r rfl)
    exact thn (ha.run pos pins s σ H _ I h) fun us s1 ⟨vs, H1, I1, rv, q⟩ => ⟨I1.kIn, go_call F hr hu hb tk I1 rv q⟩
def tN (C : Addr) (sp : Sp) (W : WX) (t : TA) : TE := fun σ H Q => t σ H fun vs H1 => ∀ y dx, H1 y = none → H1 dx = none → dx ≠ y →
  sp (.ref y :: vs) (upd (upd H1 dx (.own y)) y (.ins C dx [])) (fun v H2 => v = .non ∧ Q (.ref y) H2) fun c d H' => W c d σ H'
theorem go_make (M : Mk X.K C f) (F : Fg X.prog X.w X.K X.mg X.base k f fd ps sp) (hr : Room (k + 1) X.A) (hg : X.A.guards = some []) (hb : Binds X.K fd ps []) (tk : Takes X W) (I : Inv X pins σ H s) (r : Vals vs us)
    (h : ∀ y dx, H y = none → H dx = none → dx ≠ y → sp (.ref y :: vs) (upd (upd H dx (.own y)) y (.ins C dx [])) (fun v H2 => v = .non ∧ Q (.ref y) H2) fun c d H' => W c d σ H') :
    wpAny (model X.prog X.w) X.A (call (.ref C) us) (EP X pins σ Q) X.xe s := by
  generalize hz : s.heap.objs.size = z at *
  have q := h (z + 1) z (by rw [← hz]; exact I.hok.fresh (Nat.le_succ _)) (by rw [← hz]; exact I.hok.fresh (Nat.le_refl _)) (Nat.ne_of_lt (Nat.lt_succ_self _))
  have J := Inv.made (C := C) I
  rw [hz] at J
  have rv : Vals (V.ref (z + 1) :: vs) (Value.ref (z + 1) :: us) := .cons rfl r
  have hl : (Value.ref (z + 1) :: us).length = ps.length := by
    rw [← rv.length]
    exact F.len _ _ _ _ q
  have b := hb _ (Value.ref (z + 1) :: us) J.kIn (by rw [List.append_nil]; exact hl)
  rw [List.append_nil] at b
  refine wpAny_call (make_map (f := f) I.kIn M.makes M.init (beq_iff_eq.mp M.fn) ?_)
  rw [hz]
  refine codeAny_mono (F.go (X.A.under (.builtin "type.__call__" ⟨.ref C :: us, []⟩)) X.stack _ _ _ _ _ _ _ (hr.make C us []) hg (J.env0.make C us []) b rv q) fun rr s' q2 => ?_
  have q3 := ends_call tk J q2
  rcases rr with er | fl
  · exact q3
  · cases fl with
    | ret u =>
      obtain ⟨v, H', J2, rv2, ev, q4⟩ := q3
      subst ev
      exact ⟨rv2, ⟨V.ref (z + 1), H', J2, rfl, q4⟩⟩
    | next => exact False.elim q3
    | brk => exact False.elim q3
    | cont => exact False.elim q3
theorem pe_n (M : Mk X.K C f) (F : Fg X.prog X.w X.K X.mg X.base k f fd ps sp) (hr : Room (k + 1) X.A) (hu : X.A.guards = some []) (hg : Gl X x) (hm : X.mg x = some (.ref C)) (hb : Binds X.K fd ps []) (tk : Takes X W)
    (ha : PA X es t) (hdb : (x == ("__debug__" : Str)) = false) (he : ∀ e r, es = e :: r → starEach es X.env = (false, eval e X.env) :: starEach r X.env) (hpl : ∀ e r, es = e :: r → (backTo pos (starEach r X.env)).any (·.1) = false)
    (hn : es = [] → ∀ (σ : L2.St) (H : Hp) (Q : List V → Hp → Prop), t σ H Q → Q [] H) :
    PE X (.Call (.Name x p) es [] pos) (tN C sp W t) := by
  cases es with
  | nil =>
    refine ⟨fun pins s σ H Q I h => wpAny_Call_Name_kw (ld_glob I hg hm (PySem.W.callWith_K0 I.kIn M.kp ?_) hdb)⟩
    exact go_make M F hr hu hb tk I .nil (hn rfl _ _ _ h)
  | cons e r =>
    refine ⟨fun pins s σ H Q I h => wpAny_Call_Name_kw (ld_glob I hg hm ?_ hdb)⟩
    refine PySem.W.callWith_K (h₀ := X.base) I.ok.mod.kin M.kp ?_ (he e r rfl) (hpl e r rfl)
    exact thn (ha.run pos pins s σ H _ I h) fun us s1 ⟨vs, H1, I1, rv, q⟩ => ⟨I1.kIn, go_make M F hr hu hb tk I1 rv q⟩
def tR (Cs : Addr → Prop) (sp : Sp) (ta : TE) : TE := fun σ H Q => ta σ H fun x H1 => ∃ a C dx fs, x = .ref a ∧ Cs C ∧ H1 a = some (.ins C dx fs) ∧ sp [.ref a] H1 Q fun _ _ _ => False
theorem go_prop {g pr : Addr} {name : Str} {a dx : Addr} {fs : List (Str × V)} {b : Bool} {E' : Value → Shared → Prop} (I : Inv X pins σ H s) (ea : H a = some (.ins C dx fs)) (c : Cls X.K C) (hp : PropOf X.K C name pr g)
    (F : Fg X.prog X.w X.K X.mg X.base k g fd ps sp) (hr : Room (k + 1) X.A) (hg : X.A.guards = some []) (hb : Binds X.K fd ps []) (h : sp [.ref a] H Q fun _ _ _ => False) :
    wpAny (model X.prog X.w) X.A (getAttr (.ref a) name b) (EP X pins σ Q) E' s := by
  obtain ⟨mA, O, _, _, _, _⟩ := ins_get I.hok ea
  obtain ⟨od, J, _⟩ := O.look
  obtain ⟨rest, hrec⟩ := hp.rec_
  have I1 := I.tok (s.toks + 1)
  have hl : ([Value.ref a] ++ ([] : List Value)).length = ps.length := (F.len _ _ _ _ h).symm ▸ rfl
  have hc : (PySem.W.clsIn X.K C).isSome = true := by
    obtain ⟨cd, hc, _⟩ := PySem.W.any_some c.hd
    simp [hc]
  have bd := hb { s with toks := s.toks + 1 } [.ref a] I1.kIn hl
  rw [List.append_nil] at bd
  have pg := PySem.W.plainGet_of (c.get name)
  refine PySem.W.get_bind I.kIn J pg.1 (PySem.W.findObj_data hc hp.at_ hp.get hp.tak) pg.2 (wpAny_call (PySem.W.prop_get (s := { s with toks := s.toks + 1 }) I.kIn hrec ?_))
  refine codeAny_mono (F.go X.A.in1 X.stack _ H ⟨[.ref a], []⟩ [.ref a] [.ref a] Q (fun _ _ _ => False) hr.in1 hg I1.env0.in1 bd (.cons rfl .nil) h) fun rr s' q => ?_
  rcases rr with er | fl
  · obtain ⟨_, _, _, _, _, _, _, _, _, _, _, _, no⟩ := q
    exact no.elim
  · cases fl with
    | ret u =>
      obtain ⟨v, H', I3, rv, q3⟩ := I1.after q
      show wpAny _ _ (handedOut u) _ _ _
      rw [PySem.W.handedOut_of (handed_of rv)]
      exact wpAny_pure ⟨v, H', I3, rv, q3⟩
    | next => exact False.elim q
    | brk => exact False.elim q
    | cont => exact False.elim q
theorem pe_r {Cs : Addr → Prop} {g pr : Addr} {name : Str} (he : PE X e ta) (hc : ∀ C, Cs C → Cls X.K C ∧ PropOf X.K C name pr g) (F : Fg X.prog X.w X.K X.mg X.base k g fd ps sp) (hr : Room (k + 1) X.A) (hu : X.A.guards = some []) (hb : Binds X.K fd ps [])
    (hab : attributeBase e name X.env (eval e X.env) = eval e X.env) : PE X (.Attribute e name pos) (tR Cs sp ta) := by
  refine ⟨fun pins s σ H Q I h => attr_of hab (thn (he.run pins s σ H _ I h) fun u s1 ⟨x, H1, I1, rx, a, C, dx, fs, ex, hC, ea, q⟩ => ?_)⟩
  subst ex
  cases rx
  exact go_prop I1 ea (hc C hC).1 (hc C hC).2 F hr hu hb q
def tU (Cs : Addr → Prop) (m : Str) (sp : Sp) (W : WX) (ta : TE) (t : TA) : TE := fun σ H Q => ta σ H fun x H1 => ∃ a C dx fs, x = .ref a ∧ Cs C ∧ H1 a = some (.ins C dx fs) ∧ fs.lookup m = none ∧
  t σ H1 fun vs H2 => sp (x :: vs) H2 Q fun c d H' => W c d σ H'
theorem pe_u {Cs : Addr → Prop} {m : Str} {pl : Sem Bool} (he : PE X o ta) (hc : ∀ C, Cs C → Cls X.K C ∧ Meth X.K C m f) (F : Fg X.prog X.w X.K X.mg X.base k f fd ps sp) (hr : Room k X.A) (hu : X.A.guards = some []) (hb : Binds X.K fd ps []) (tk : Takes X W)
    (hk : PySem.W.keepIn X.K (.ref f) = true) (ha : PA X es t) (hst : ∀ e r, es = e :: r → starEach es X.env = (false, eval e X.env) :: starEach r X.env) (hpl : ∀ e r, es = e :: r → (backTo pos (starEach r X.env)).any (·.1) = false)
    (hn : es = [] → ∀ (σ : L2.St) (H : Hp) (Q : List V → Hp → Prop), t σ H Q → Q [] H)
    (ht : eval (.Call (.Attribute o m apos) es [] pos) X.env = (do
      let ov ← eval o X.env
      standAt apos.atName
      let (f, first) ← holding [ov] (getMethod ov m pl)
      callWith pos f first (backTo pos (starEach es X.env)) (backToKw pos (keywordEach [] X.env)))) :
    PE X (.Call (.Attribute o m apos) es [] pos) (tU Cs m sp W ta t) := by
  refine ⟨fun pins s σ H Q I h => PySem.W.methodCall_KW (pl := pl) (thn (he.run pins s σ H _ I h) fun u s1 ⟨x, H1, I1, rx, a, C, dx, fs, ex, hC, ea, l, q⟩ => ?_) ht⟩
  subst ex
  cases rx
  refine getmeth_ok I1 ea (hc C hC).1 (hc C hC).2 l ?_
  cases es with
  | nil => exact PySem.W.callWith_K0 (first := [.ref a]) I1.kIn hk (go_call (us := [.ref a]) (vs := [.ref a]) F hr hu hb tk I1 (.cons rfl .nil) (hn rfl _ _ _ q))
  | cons e r =>
    refine PySem.W.callWith_K (first := [.ref a]) (h₀ := X.base) I.ok.mod.kin hk ?_ (hst e r rfl) (hpl e r rfl)
    exact thn (ha.run pos pins s1 σ H1 _ I1 q) fun us s2 ⟨vs, H2, I2, rv, q2⟩ => ⟨I2.kIn, go_call (us := .ref a :: us) (vs := .ref a :: vs) F hr hu hb tk I2 (.cons rfl rv) q2⟩
end
end PyV
set_option Elab.async false
set_option linter.all false
set_option maxRecDepth 100000
set_option maxHeartbeats 2000000
namespace PyV
open PySem PySem.Spec PyProof.Rows L2

theorem go_fn {P : Program} {w : World} {K : PySem.W.Frag} {mg : Str → Option Value} {base : Heap} {k : Nat} {f : Addr} {name qual : Str} {params : Arguments} {body : List Stmt} {scope : Scope} {dV kV doc pm cdv ct oc : Value} {an od : Option Addr}
    {osl : Array (Option Value)} {N ps : List Str} {sp : Sp} (lk : K.lookup f = some ⟨oc, od, .func (PySem.W.fnOf name qual params body scope dV kV doc pm an cdv ct), osl⟩) (hcd : PySem.W.codeIn K cdv qual = true) (S : FnScope N ps scope)
    (len : ∀ vs H Q E, sp vs H Q E → vs.length = ps.length)
    (hbody : ∀ (A : Around) (outer : List Env) (s : Shared) (H : Hp) (vs : List V) (Q : VK) (E : XK), Room k (A.deeper (envOfC qual scope s.heap.objs.size f cdv)) → A.guards = some [] → sp vs H Q E →
      ∃ t, PSs (cxOf (L2.CX P w) P w K mg base N qual scope f cdv A outer s H E) body t ∧ t { nx := fun _ H' => Q .non H', rt := Q } (L2.start N vs) H) :
    Fg P w K mg base (k + 1) f (PySem.W.fnOf name qual params body scope dV kV doc pm an cdv ct) ps sp := by
  refine ⟨len, fun A outer s H ar us vs Q E room gd e0 bt rv h => ?_⟩
  have hl := len vs H Q E h
  have inK : K.In s.heap := e0.mod.kin.keeps fun b o q => (e0.bs b o q).1
  have roomy : s.heap.NoLimit := e0.mod.nolimit.keeps fun b o q => (e0.bs b o q).1
  refine codeAny_call_function room.depth (inK f _ lk) rfl S.co S.gen rfl (PySem.W.codeRec_of inK hcd) (bt _ _ _ _ ?_)
  have kinds : ∀ y ∈ ps.zip us, scope.names.lookup y.1 = some .local ∨ (scope.names.lookup y.1 = some .cell ∧ ((cellsFrom (s.heap.objs.size + 1) scope.names []).lookup y.1).isSome = true) := by
    intro y hy
    rcases S.par y.1 (List.of_mem_zip hy).1 with q | q
    · exact .inl q
    · exact .inr ⟨q, PySem.W.cellsFrom_some _ _ _ (.inl q)⟩
  refine wpAny_newFunctionEnv_cells S.kind kinds fun env he s1 x => ?_
  subst he
  refine ⟨roomy.keeps x.toInCall.keep, codeAny_func ?_⟩
  obtain ⟨t, ht, hq⟩ := hbody A outer s H vs Q E (room.deeper _) gd h
  have I := inv_start (CX := L2.CX P w) (N := N) (qual := qual) (f := f) (cd := cdv) (E := E) S room.hd e0 hl rv x
  have back : ∀ {σ1 : L2.St} {H1 : Hp} {s2 : Shared} {v : V} {u : Value}, Inv (cxOf (L2.CX P w) P w K mg base N qual scope f cdv A outer s H E) [] σ1 H1 s2 → RelV v u → Q v H1 → CE outer P w H s Q u s2 := fun J r q =>
    ⟨_, _, J.os, J.bare, J.base, J.hok, r, q⟩
  refine wpAny_mono (ht.run [] s1 (L2.start N vs) H _ I hq) (fun fl s2 q => ?_) fun _ _ q => q
  match fl, q with
  | .next, ⟨σ1, H1, J, q⟩ => exact back (v := V.non) (u := Value.none) J rfl q
  | .ret u, ⟨v, σ1, H1, J, r, q⟩ => exact back J r q
  | .brk, ⟨_, _, _, q⟩ => exact q.elim
  | .cont, ⟨_, _, _, q⟩ => exact q.elim

def argE : Option Nat → List V → List D → List En
  | none, v :: vs, d :: ds => (some v, .val d) :: argE none vs ds
  | some 0, v :: vs, d :: ds => (some v, .own d) :: argE none vs ds
  | some (k + 1), v :: vs, d :: ds => (some v, .val d) :: argE (some k) vs ds
  | _, _, _ => []
def outE (p : Option Nat) (vs : List V) (o : Option D) : List En := match p, o with
  | some j, some d => [(vs[j]?, .own d)]
  | _, _ => []
def argP (p : Option Nat) (vs : List V) (ds : List D) : List En := if p = some 1000 then (match vs, ds with
  | v :: w :: vs, d :: e :: ds => (some v, .own d) :: (some w, .own e) :: argE none vs ds
  | vs, ds => argE none vs ds) else argE p vs ds
def outP (p : Option Nat) (vs : List V) (o : Option D) : List En := if p = some 1000 then (match o with
  | some (.tup [d, e]) => [(vs[0]?, .own d), (vs[1]?, .own e)]
  | _ => []) else outE p vs o
def ioV (p : Option Nat) (vs : List V) : Nat → V → Prop := fun j v => gdP p j ∧ vs[j]? = some v
def finD (κ : Kx) (p : Option Nat) (vs : List V) (τ : List En) (Q : VK) (E : XK) : FR → Prop
  | .ok d fr o => o.isSome = p.isSome ∧ ∀ v H, Rel κ H ((some v, slotOf (mkv d fr)) :: (outP p vs o ++ τ)) → Q v H
  | .ex x o => o.isSome = p.isSome ∧ ∀ cls d H, Rel κ H (outP p vs o ++ τ) → ExR κ cls d x → E cls d H
  | .bad => False
def spD (κ : Kx) (T : Tab) (f : Nat) : Sp := fun vs H Q E => ∃ (ds : List D) (τ : List En), Rel κ H (argP (T.io f) vs ds ++ τ) ∧ vs.length = ds.length ∧ finD κ (T.io f) vs τ Q E (T.G f ds)

section
variable {κ : Kx} {io : Nat → V → Prop} {W : WX} {σ : L2.St} {f H : Hp} {δ δ' : Ss} {τ τ' ρ : List En} {Q : VK} {T : Tab}
theorem argE_zip : ∀ {p : Option Nat} {vs : List V} {ds : List D}, vs.length = ds.length → (vs.map some).zip (start0 p ds) = argE p vs ds
  | none, [], [], _ => rfl
  | some 0, [], [], _ => rfl
  | some (_ + 1), [], [], _ => rfl
  | _, [], _ :: _, h => by simp at h
  | _, _ :: _, [], h => by simp at h
  | none, v :: vs, d :: ds, h => by
    simp only [start0, List.map_cons, List.zip_cons_cons, argE]
    rw [argE_zip (by simpa using h)]
  | some 0, v :: vs, d :: ds, h => by
    simp only [start0, List.map_cons, List.zip_cons_cons, argE]
    rw [argE_zip (by simpa using h)]
  | some (_ + 1), v :: vs, d :: ds, h => by
    simp only [start0, List.map_cons, List.zip_cons_cons, argE]
    rw [argE_zip (by simpa using h)]
theorem start0_len : ∀ {p : Option Nat} {ds : List D}, (start0 p ds).length = ds.length
  | none, [] => rfl
  | some 0, [] => rfl
  | some (_ + 1), [] => rfl
  | none, d :: ds => by simp only [start0, List.length_cons, start0_len]
  | some 0, d :: ds => by simp only [start0, List.length_cons, start0_len]
  | some (_ + 1), d :: ds => by simp only [start0, List.length_cons, start0_len]
theorem Rel.emps {L : List En} (r : Rel κ H L) : ∀ k : Nat, Rel κ H (List.replicate k (none, .emp) ++ L)
  | 0 => r
  | k + 1 => by
    rw [List.replicate_succ, List.cons_append]
    exact Rel.emp (Rel.emps r k)
theorem zip_args {p : Option Nat} {vs : List V} {ds : List D} (h : vs.length = ds.length) : (vs.map some).zip (startP p ds) = argP p vs ds := by
  unfold argP
  simp only [startP]
  by_cases c : p = some 1000
  · rw [if_pos c, if_pos c]
    match vs, ds, h with
    | [], [], _ => rfl
    | [v], [d], h => exact argE_zip h
    | v :: w :: vs, d :: e :: ds, h =>
      simp only [List.map_cons, List.zip_cons_cons]
      rw [argE_zip (by simpa using h)]
  · rw [if_neg c, if_neg c]
    exact argE_zip h
theorem startP_len {p : Option Nat} {ds : List D} : (startP p ds).length = ds.length := by
  simp only [startP]
  by_cases c : p = some 1000
  · rw [if_pos c]
    match ds with
    | [] => rfl
    | [d] => rfl
    | d :: e :: ds => simp only [List.length_cons, start0_len]
  · rw [if_neg c]
    exact start0_len
theorem SR.entry {p : Option Nat} {N : List Str} {vs : List V} {ds : List D} {np ns : Nat} (hl : vs.length = ds.length) (hnp : ds.length = np) (hns : N.length = ns) (hle : np ≤ ns) (hp : ∀ j, gdP p j → j < np) (r : Rel κ H (argP p vs ds ++ τ)) :
    SR κ (ioV p vs) (L2.start N vs) H (startP p ds ++ List.replicate (ns - np) .emp) τ := by
  have e1 : N.length - vs.length = ns - np := by omega
  refine ⟨?_, ?_, fun j v h => ?_⟩
  · unfold L2.start
    rw [List.length_append, List.length_append, List.length_map, List.length_replicate, List.length_replicate, startP_len]
    omega
  · unfold L2.start
    rw [e1, List.zip_append (by rw [List.length_map, startP_len, hl]), zip_args hl]
    have e2 : (List.replicate (ns - np) (none : Option V)).zip (List.replicate (ns - np) Sl.emp) = List.replicate (ns - np) (none, Sl.emp) := by
      generalize ns - np = k
      induction k with
      | zero => rfl
      | succ k ih => rw [List.replicate_succ, List.replicate_succ, List.zip_cons_cons, ih]; rfl
    rw [e2]
    refine (Rel.emps r (ns - np)).perm ?_
    rw [List.append_assoc]
    exact (List.perm_append_comm_assoc ..)
  · obtain ⟨h1, h2⟩ := h
    unfold L2.start
    have hi : j < vs.length := by have := hp j h1; omega
    rw [List.getElem?_append_left (by simpa using hi), List.getElem?_map, h2]
    rfl
theorem zip_split2 {σ : List (Option V)} {δ : List Sl} {i j : Nat} (hl : σ.length = δ.length) (hi : i < δ.length) (hj : j < δ.length) (ne : i ≠ j) :
    ∃ ρ : List En, (σ.zip δ).Perm (((σ[i]?).getD none, δ.getD i .emp) :: ((σ[j]?).getD none, δ.getD j .emp) :: ρ) ∧ ∀ x y, (σ.zip ((δ.set i x).set j y)).Perm (((σ[i]?).getD none, x) :: ((σ[j]?).getD none, y) :: ρ) := by
  induction σ generalizing δ i j with
  | nil =>
    have : δ.length = 0 := by simpa using hl.symm
    omega
  | cons a σ ih =>
    cases δ with
    | nil => simp at hi
    | cons b δ =>
      have hl' : σ.length = δ.length := by simpa using hl
      cases i with
      | zero =>
        cases j with
        | zero => exact absurd rfl ne
        | succ j =>
          obtain ⟨ρ, h1, h2, _⟩ := zip_split hl' (i := j) (by simpa using hj) ([] : List En)
          rw [List.append_nil] at h1
          exact ⟨ρ, by simpa using h1.cons (a, b), fun x y => by
            have q := h2 y
            rw [List.append_nil] at q
            simpa using q.cons (a, x)⟩
      | succ i =>
        cases j with
        | zero =>
          obtain ⟨ρ, h1, h2, _⟩ := zip_split hl' (i := i) (by simpa using hi) ([] : List En)
          rw [List.append_nil] at h1
          exact ⟨ρ, by simpa using (h1.cons (a, b)).trans (List.Perm.swap ..), fun x y => by
            have q := h2 x
            rw [List.append_nil] at q
            simpa using (q.cons (a, y)).trans (List.Perm.swap ..)⟩
        | succ j =>
          obtain ⟨ρ, h1, h2⟩ := ih hl' (i := i) (j := j) (by simpa using hi) (by simpa using hj) (by omega)
          have rot : ∀ (u v w : En) (l : List En), (u :: v :: w :: l).Perm (v :: w :: u :: l) := fun u v w l => (List.Perm.swap v u (w :: l)).trans ((List.Perm.swap w u l).cons v)
          exact ⟨(a, b) :: ρ, by simpa using (h1.cons (a, b)).trans (rot ..), fun x y => by simpa using ((h2 x y).cons (a, b)).trans (rot ..)⟩
theorem SR.leave {p : Option Nat} {vs : List V} {o : Option D} (hp : ∀ j, gdP p j → j < vs.length) (s : SR κ (ioV p vs) σ H δ τ) (h : lent p δ = some o) : o.isSome = p.isSome ∧ Rel κ H (outP p vs o ++ τ) := by
  have at_ : ∀ j, gdP p j → σ[j]? = some (some (vs.getD j .non)) ∧ vs[j]? = some (vs.getD j .non) ∧ j < δ.length := fun j hj => by
    have hv : vs[j]? = some (vs.getD j .non) := by simp [List.getD, List.getElem?_eq_getElem (hp j hj)]
    have e := s.io j _ ⟨hj, hv⟩
    exact ⟨e, hv, by rw [← s.len]; exact (List.getElem?_eq_some_iff.mp e).1⟩
  cases p with
  | none =>
    simp only [lent, Option.some.injEq] at h
    subst h
    exact ⟨rfl, s.rel.sub (List.sublist_append_right ..)⟩
  | some j =>
    simp only [lent] at h
    by_cases c : j = 1000
    · subst c
      rw [if_pos rfl] at h
      split at h
      · rename_i d e hd he
        cases h
        refine ⟨rfl, ?_⟩
        obtain ⟨a1, a2, a3⟩ := at_ 0 (.inr ⟨rfl, by decide⟩)
        obtain ⟨b1, b2, b3⟩ := at_ 1 (.inr ⟨rfl, by decide⟩)
        obtain ⟨L, p1, _⟩ := zip_split2 s.len a3 b3 (by decide)
        have e1 : ((σ[0]?).getD none, δ.getD 0 .emp) = (vs[0]?, .own d) := by
          rw [a1, a2]
          exact congrArg (Prod.mk (some _)) hd
        have e2 : ((σ[1]?).getD none, δ.getD 1 .emp) = (vs[1]?, .own e) := by
          rw [b1, b2]
          exact congrArg (Prod.mk (some _)) he
        rw [e1, e2] at p1
        show Rel κ H ([(vs[0]?, .own d), (vs[1]?, .own e)] ++ τ)
        refine (s.rel.perm (p1.append_right τ)).sub ?_
        show List.Sublist ((vs[0]?, Sl.own d) :: (vs[1]?, Sl.own e) :: τ) ((vs[0]?, Sl.own d) :: (vs[1]?, Sl.own e) :: (L ++ τ))
        exact ((List.sublist_append_right L τ).cons₂ _).cons₂ _
      · cases h
    · rw [if_neg c] at h
      split at h
      · rename_i d hd
        cases h
        refine ⟨rfl, ?_⟩
        obtain ⟨e, hv, hlt⟩ := at_ j (.inl ⟨rfl, c⟩)
        obtain ⟨L, p1, _, _⟩ := zip_split s.len hlt ([] : List En)
        have e1 : ((σ[j]?).getD none, δ.getD j .emp) = (vs[j]?, .own d) := by
          rw [e, hv]
          exact congrArg (Prod.mk (some _)) hd
        rw [e1, List.append_nil] at p1
        have eo : outP (some j) vs (some d) = [(vs[j]?, .own d)] := by
          unfold outP
          rw [if_neg (by simpa using c)]
          rfl
        rw [eo]
        refine (s.rel.perm (p1.append_right τ)).sub ?_
        show List.Sublist ((vs[j]?, Sl.own d) :: τ) ((vs[j]?, Sl.own d) :: (L ++ τ))
        exact (List.sublist_append_right L τ).cons₂ _
      · cases h

def postS (κ : Kx) (io : Nat → V → Prop) (W : WX) (τ : List En) (D : Ends) : R Fl → Prop
  | .ok .nx δ => ∀ σ H, SR κ io σ H δ τ → D.nx σ H
  | .ok .bk δ => ∀ σ H, SR κ io σ H δ τ → D.bk σ H
  | .ok .ct δ => ∀ σ H, SR κ io σ H δ τ → D.ct σ H
  | .ok (.rt d fr) δ => ∀ v σ H, SR κ io σ H δ ((some v, slotOf (mkv d fr)) :: τ) → D.rt v H
  | .ex x δ => ∀ cls d σ H, SR κ io σ H δ τ → ExR κ cls d x → W cls d σ H
  | .bad => False
def tDS (κ : Kx) (io : Nat → V → Prop) (W : WX) (den : Ss → R Fl) : TS := fun D σ H => ∃ δ τ, SR κ io σ H δ τ ∧ postS κ io W τ D (den δ)
theorem fn_D {P : Program} {w : World} {K : PySem.W.Frag} {mg : Str → Option Value} {base : Heap} {k : Nat} {fa : Addr} {name qual : Str} {params : Arguments} {body : List Stmt} {scope : Scope} {dV kV doc pm cdv ct oc : Value} {an od : Option Addr}
    {osl : Array (Option Value)} {N ps : List Str} {f : Nat} {df : Df} (lk : K.lookup fa = some ⟨oc, od, .func (PySem.W.fnOf name qual params body scope dV kV doc pm an cdv ct), osl⟩) (hcd : PySem.W.codeIn K cdv qual = true) (S : FnScope N ps scope)
    (hnp : ps.length = df.np) (hns : N.length = df.ns) (hp : ∀ j, gdP (T.io f) j → j < df.np) (hG : ∀ ds, T.G f ds ≠ .bad → ∃ n, runD T (T.io f) n df ds = T.G f ds)
    (hbody : ∀ (A : Around) (outer : List Env) (s : Shared) (H : Hp) (E : XK) (io : Nat → V → Prop) (n : Nat), Room k (A.deeper (envOfC qual scope s.heap.objs.size fa cdv)) → A.guards = some [] → (∀ j v, io j v → gdP (T.io f) j) →
      PSs (cxOf (L2.CX P w) P w K mg base N qual scope fa cdv A outer s H E) body (tDS κ io (fun cls d _ H => E cls d H) (evB T (T.io f) n df.body))) :
    Fg P w K mg base (k + 1) fa (PySem.W.fnOf name qual params body scope dV kV doc pm an cdv ct) ps (spD κ T f) := by
  have hle : df.np ≤ df.ns := by
    have e := congrArg List.length S.pre
    rw [List.length_take] at e
    omega
  have nb : ∀ {vs : List V} {τ : List En} {Q : VK} {E : XK} {r : FR}, finD κ (T.io f) vs τ Q E r → r ≠ .bad := fun h e => by rw [e] at h; exact h
  have run : ∀ ds, T.G f ds ≠ .bad → ∃ n, runD T (T.io f) n df ds = T.G f ds ∧ ds.length = df.np := fun ds h => by
    obtain ⟨n, hn⟩ := hG ds h
    refine ⟨n, hn, ?_⟩
    unfold runD at hn
    split at hn
    · assumption
    · exact absurd hn.symm h
  refine go_fn lk hcd S (fun vs H Q E ⟨ds, τ, _, hl, h⟩ => ?_) fun A outer s H vs Q E room gd ⟨ds, τ, r, hl, h⟩ => ?_
  · obtain ⟨n, _, e⟩ := run ds (nb h)
    rw [hl, e, hnp]
  · obtain ⟨n, hn, e⟩ := run ds (nb h)
    have hpv : ∀ j, gdP (T.io f) j → j < vs.length := fun j hj => by have := hp j hj; omega
    refine ⟨_, hbody A outer s H E (ioV (T.io f) vs) n room gd (fun j v h => h.1), _, τ, SR.entry hl e hns hle hp r, ?_⟩
    · rw [← hn] at h
      unfold runD at h
      rw [if_pos e] at h
      generalize hr : evB T (T.io f) n df.body (startP (T.io f) ds ++ List.replicate (df.ns - df.np) .emp) = z at h ⊢
      cases z with
      | bad => exact h.elim
      | ex x δ =>
        simp only at h
        split at h
        · rename_i o ho
          exact fun cls d σ H' s hx => h.2 cls d H' (s.leave hpv ho).2 hx
        · exact h.elim
      | ok fl δ =>
        cases fl with
        | nx =>
          simp only at h
          split at h
          · rename_i o ho
            refine fun σ H' s => h.2 .non H' ?_
            exact (s.leave hpv ho).2.scal fun g => .non
          · exact h.elim
        | rt d fr =>
          simp only at h
          split at h
          · rename_i o ho
            refine fun v σ H' s => h.2 v H' ?_
            refine (SR.leave (τ := (some v, slotOf (mkv d fr)) :: τ) hpv s ho).2.perm ?_
            exact List.perm_middle
          · exact h.elim
        | bk => exact h.elim
        | ct => exact h.elim
end
end PyV
set_option Elab.async false
set_option linter.all false
set_option maxRecDepth 100000
set_option maxHeartbeats 2000000
namespace PyV
open PySem PySem.Spec PyProof.Rows L2

section
variable {κ : Kx} {io : Nat → V → Prop} {W : WX} {σ : L2.St} {f H : Hp} {δ δ' : Ss} {τ τ' ρ : List En} {Q : VK} {T : Tab} {X : Cx} {a' b' e' : Expr} {es' : List Expr} {pos : Pos}
def keepE : Option Nat → List Rv → List V → List D → List En
  | none, _ :: rs, v :: vs, d :: ds => keepE none rs vs ds ++ [(some v, .val d)]
  | some 0, r :: rs, v :: vs, _ :: ds => keepE none rs vs ds ++ [ent r v]
  | some (k + 1), _ :: rs, v :: vs, d :: ds => keepE (some k) rs vs ds ++ [(some v, .val d)]
  | _, _, _, _ => []
theorem SR.fzx : ∀ {q : Option Nat} {rs : List Rv} {vs : List V} {ds : List D} {δ : Ss} {τ : List En}, SR κ io σ H δ (ents rs vs ++ τ) → Alis σ rs vs → PyV.fzx q δ rs = some (ds, δ') → SR κ io σ H δ' (keepE q rs vs ds ++ τ) ∧ vs.length = ds.length ∧ rs.length = ds.length
  | q, [], _, ds, δ, τ, s, a, h => by
    cases a
    have h2 : some (([] : List D), δ) = some (ds, δ') := by
      rcases q with _ | _ | q <;> simpa only [PyV.fzx] using h
    cases h2
    rcases q with _ | _ | q <;> exact ⟨s, rfl, rfl⟩
  | none, r :: rs, _, ds, δ, τ, s, a, h => by
    cases a with
    | @cons _ v _ vs a1 a2 =>
      simp only [PyV.fzx] at h
      split at h
      · cases h
      · rename_i d δ1 hd
        split at h
        · cases h
        · rename_i ds2 δ2 hds
          cases h
          have s1 : SR κ io σ H δ (ent r v :: (ents rs vs ++ τ)) := s.perm (by
            show ((ents rs vs ++ [ent r v]) ++ τ).Perm _
            simpa using List.perm_middle)
          have s3 : SR κ io σ H δ1 (ents rs vs ++ ((some v, .val d) :: τ)) := (s1.fz1 a1 hd).perm List.perm_middle.symm
          obtain ⟨s4, l1, l2⟩ := SR.fzx s3 a2 hds
          refine ⟨s4.perm ?_, congrArg (· + 1) l1, congrArg (· + 1) l2⟩
          show (keepE none rs vs ds2 ++ (some v, Sl.val d) :: τ).Perm ((keepE none rs vs ds2 ++ [(some v, Sl.val d)]) ++ τ)
          simp
  | some 0, r :: rs, _, ds, δ, τ, s, a, h => by
    cases a with
    | @cons _ v _ vs a1 a2 =>
      simp only [PyV.fzx] at h
      split at h
      · cases h
      · rename_i ds2 δ2 hds
        cases h
        have s1 : SR κ io σ H δ (ents rs vs ++ (ent r v :: τ)) := s.perm (by
          show ((ents rs vs ++ [ent r v]) ++ τ).Perm _
          simp)
        obtain ⟨s4, l1, l2⟩ := SR.fzx s1 a2 hds
        refine ⟨s4.perm ?_, congrArg (· + 1) l1, congrArg (· + 1) l2⟩
        show (keepE none rs vs ds2 ++ ent r v :: τ).Perm ((keepE none rs vs ds2 ++ [ent r v]) ++ τ)
        simp
  | some (k + 1), r :: rs, _, ds, δ, τ, s, a, h => by
    cases a with
    | @cons _ v _ vs a1 a2 =>
      simp only [PyV.fzx] at h
      split at h
      · cases h
      · rename_i d δ1 hd
        split at h
        · cases h
        · rename_i ds2 δ2 hds
          cases h
          have s1 : SR κ io σ H δ (ent r v :: (ents rs vs ++ τ)) := s.perm (by
            show ((ents rs vs ++ [ent r v]) ++ τ).Perm _
            simpa using List.perm_middle)
          have s3 : SR κ io σ H δ1 (ents rs vs ++ ((some v, .val d) :: τ)) := (s1.fz1 a1 hd).perm List.perm_middle.symm
          obtain ⟨s4, l1, l2⟩ := SR.fzx s3 a2 hds
          refine ⟨s4.perm ?_, congrArg (· + 1) l1, congrArg (· + 1) l2⟩
          show (keepE (some k) rs vs ds2 ++ (some v, Sl.val d) :: τ).Perm ((keepE (some k) rs vs ds2 ++ [(some v, Sl.val d)]) ++ τ)
          simp
theorem keep_none : ∀ {rs : List Rv} {vs : List V} {ds : List D}, vs.length = ds.length → rs.length = ds.length → (keepE none rs vs ds).Perm (argE none vs ds)
  | [], [], [], _, _ => .nil
  | r :: rs, v :: vs, d :: ds, h1, h2 => by
    show (keepE none rs vs ds ++ [(some v, Sl.val d)]).Perm ((some v, Sl.val d) :: argE none vs ds)
    exact List.perm_append_comm.trans ((keep_none (by simpa using h1) (by simpa using h2)).cons _)
  | [], v :: vs, [], h1, _ => by simp at h1
  | [], _, _ :: _, _, h2 => by simp at h2
  | _ :: _, _, [], _, h2 => by simp at h2
  | _ :: _, [], _ :: _, h1, _ => by simp at h1
theorem keep_own {d : D} : ∀ {j : Nat} {rs : List Rv} {vs : List V} {ds : List D}, vs.length = ds.length → rs.length = ds.length → rs[j]? = some (.own d) → (keepE (some j) rs vs ds).Perm (argE (some j) vs (ds.set j d))
  | 0, r :: rs, v :: vs, e :: ds, h1, h2, h => by
    simp at h
    subst h
    show (keepE none rs vs ds ++ [(some v, Sl.own d)]).Perm ((some v, Sl.own d) :: argE none vs ds)
    exact List.perm_append_comm.trans ((keep_none (by simpa using h1) (by simpa using h2)).cons _)
  | j + 1, r :: rs, v :: vs, e :: ds, h1, h2, h => by
    show (keepE (some j) rs vs ds ++ [(some v, Sl.val e)]).Perm ((some v, Sl.val e) :: argE (some j) vs (ds.set j d))
    exact List.perm_append_comm.trans ((keep_own (by simpa using h1) (by simpa using h2) (by simpa using h)).cons _)
  | _, [], _, _, _, _, h => by simp at h
  | _, _ :: _, _, [], _, h2, _ => by simp at h2
  | _, _ :: _, [], _ :: _, h1, _, _ => by simp at h1
theorem keep_ali {d : D} {i : Nat} {v : V} : ∀ {j : Nat} {rs : List Rv} {vs : List V} {ds : List D}, vs.length = ds.length → rs.length = ds.length → rs[j]? = some (.ali i) → vs[j]? = some v →
    ((some v, Sl.own d) :: keepE (some j) rs vs ds).Perm ((some v, Sl.emp) :: argE (some j) vs (ds.set j d))
  | 0, r :: rs, u :: vs, e :: ds, h1, h2, h, hv => by
    simp at h hv
    subst h hv
    show ((some u, Sl.own d) :: (keepE none rs vs ds ++ [(some u, Sl.emp)])).Perm ((some u, Sl.emp) :: (some u, Sl.own d) :: argE none vs ds)
    exact ((List.perm_append_comm.trans ((keep_none (by simpa using h1) (by simpa using h2)).cons _)).cons _).trans (List.Perm.swap ..)
  | j + 1, r :: rs, u :: vs, e :: ds, h1, h2, h, hv => by
    show ((some v, Sl.own d) :: (keepE (some j) rs vs ds ++ [(some u, Sl.val e)])).Perm ((some v, Sl.emp) :: (some u, Sl.val e) :: argE (some j) vs (ds.set j d))
    have ih := keep_ali (j := j) (rs := rs) (vs := vs) (ds := ds) (d := d) (v := v) (i := i) (by simpa using h1) (by simpa using h2) (by simpa using h) (by simpa using hv)
    refine (show ((some v, Sl.own d) :: (keepE (some j) rs vs ds ++ [(some u, Sl.val e)])).Perm ((some u, Sl.val e) :: (some v, Sl.own d) :: keepE (some j) rs vs ds) from ?_).trans ((ih.cons _).trans (List.Perm.swap ..))
    exact (List.perm_append_comm.cons _).trans (List.Perm.swap ..)
  | _, [], _, _, _, _, h, _ => by simp at h
  | _, _ :: _, _, [], _, h2, _, _ => by simp at h2
  | _, _ :: _, [], _ :: _, h1, _, _, _ => by simp at h1
theorem Alis.at : ∀ {rs : List Rv} {vs : List V} {j : Nat} {r : Rv}, Alis σ rs vs → rs[j]? = some r → ∃ v, vs[j]? = some v ∧ AliOk σ r v
  | _, _, _, _, .nil, h => by simp at h
  | _, _, 0, _, .cons a _, h => by simp at h; subst h; exact ⟨_, rfl, a⟩
  | _, _, j + 1, _, .cons _ t, h => by
    obtain ⟨v, h1, h2⟩ := Alis.at (j := j) t (by simpa using h)
    exact ⟨v, by simpa using h1, h2⟩
theorem mkv_ok {d : D} {fr : Bool} {v : V} : AliOk σ (mkv d fr) v := fun i e => by
  unfold mkv at e
  split at e <;> cases e
theorem lend2_use {g : Nat} {rs : List Rv} {vs : List V} (hio : T.io g = some 1000) (s : SR κ io σ H δ (ents rs vs ++ τ)) (a : Alis σ rs vs) (h : post κ io W σ τ (okE κ io σ τ Q) (lend2 T g rs δ)) : spD κ T g vs H Q fun c d H' => W c d σ H' := by
  unfold lend2 at h
  split at h
  · rename_i i j rs
    cases a with
    | @cons _ v _ vs a1 a2 =>
    cases a2 with
    | @cons _ w _ vs a2 a3 =>
    have hi := a1 i rfl
    have hj := a2 j rfl
    split at h
    · exact h.elim
    · rename_i ds δ1 hd
      have s0 : SR κ io σ H δ (ents rs vs ++ τ) := s.subl (by
        show List.Sublist (ents rs vs ++ τ) (((ents rs vs ++ [ent (.ali j) w]) ++ [ent (.ali i) v]) ++ τ)
        exact ((List.sublist_append_left _ _).trans (List.sublist_append_left _ _)).append_right τ)
      obtain ⟨s1, l1, l2⟩ := s0.fzx a3 hd
      split at h
      · rename_i d e hsd hse
        split at h
        · exact h.elim
        · rename_i ne
          have lti : i < δ1.length := by
            rw [← s1.len]
            exact (List.getElem?_eq_some_iff.mp hi).1
          have ltj : j < δ1.length := by
            rw [← s1.len]
            exact (List.getElem?_eq_some_iff.mp hj).1
          obtain ⟨L, p1, p2⟩ := zip_split2 s1.len lti ltj ne
          have e1 : ((σ[i]?).getD none, δ1.getD i .emp) = (some v, .own d) := by
            rw [hi]
            exact congrArg (Prod.mk (some v)) hsd
          have e2 : ((σ[j]?).getD none, δ1.getD j .emp) = (some w, .own e) := by
            rw [hj]
            exact congrArg (Prod.mk (some w)) hse
          rw [e1, e2] at p1
          refine ⟨d :: e :: ds, L ++ τ, ?_, by simp [l1], ?_⟩
          · rw [hio]
            show Rel κ H (((some v, Sl.own d) :: (some w, Sl.own e) :: argE none vs ds) ++ (L ++ τ))
            refine s1.rel.perm ?_
            refine (p1.append_right _).trans ?_
            show ((some v, Sl.own d) :: (some w, Sl.own e) :: (L ++ (keepE none rs vs ds ++ τ))).Perm ((some v, Sl.own d) :: (some w, Sl.own e) :: (argE none vs ds ++ (L ++ τ)))
            refine List.Perm.cons _ (List.Perm.cons _ ?_)
            exact (List.perm_append_comm_assoc L _ τ).trans ((keep_none l1 l2).append_right _)
          · have back : ∀ {H' : Hp} {d' e' : D} {es : List En}, Rel κ H' (es ++ (outP (some 1000) (v :: w :: vs) (some (.tup [d', e'])) ++ (L ++ τ))) → SR κ io σ H' ((δ1.set i (.own d')).set j (.own e')) (es ++ τ) := fun {H' d' e' es} r => by
              refine ⟨by rw [List.length_set, List.length_set]; exact s1.len, r.perm ?_, s1.io⟩
              have q := p2 (.own d') (.own e')
              rw [hi, hj] at q
              show (es ++ ([(some v, Sl.own d'), (some w, Sl.own e')] ++ (L ++ τ))).Perm _
              refine (List.Perm.symm ((q.append_right (es ++ τ)).trans ?_))
              show ((some v, Sl.own d') :: (some w, Sl.own e') :: (L ++ (es ++ τ))).Perm (es ++ ((some v, Sl.own d') :: (some w, Sl.own e') :: (L ++ τ)))
              refine (List.Perm.cons _ (List.Perm.cons _ (List.perm_append_comm_assoc L es τ))).trans ?_
              exact (List.Perm.cons _ List.perm_middle.symm).trans List.perm_middle.symm
            rw [hio]
            split at h
            · rename_i r fr d' e' hg
              rw [hg]
              exact ⟨rfl, fun u H' rl => h u H' (back (es := [(some u, slotOf (mkv r fr))]) rl) mkv_ok⟩
            · rename_i x d' e' hg
              rw [hg]
              exact ⟨rfl, fun cls d2 H' rl hx => h cls d2 H' (back (es := []) rl) hx⟩
            · exact h.elim
      · exact h.elim
  · exact h.elim
theorem argP_ne {p : Option Nat} (h : p ≠ some 1000) (vs : List V) (ds : List D) : argP p vs ds = argE p vs ds := if_neg h
theorem outP_ne {p : Option Nat} (h : p ≠ some 1000) (vs : List V) (o : Option D) : outP p vs o = outE p vs o := if_neg h
theorem call_use {g : Nat} {rs : List Rv} {vs : List V} (s : SR κ io σ H δ (ents rs vs ++ τ)) (a : Alis σ rs vs) (h : post κ io W σ τ (okE κ io σ τ Q) (callD T g rs δ)) : spD κ T g vs H Q fun c d H' => W c d σ H' := by
  unfold callD at h
  by_cases two : T.io g = some 1000
  · rw [if_pos two] at h
    exact lend2_use two s a h
  rw [if_neg two] at h
  have eA := argP_ne two
  have eO := outP_ne two
  unfold spD finD
  simp only [eA, eO]
  split at h
  · exact h.elim
  · rename_i ds δ1 hd
    obtain ⟨s1, l1, l2⟩ := s.fzx a hd
    split at h
    · rename_i hio
      rw [hio] at s1
      refine ⟨ds, σ.zip δ1 ++ τ, ?_, l1, ?_⟩
      · rw [hio]
        exact s1.rel.perm ((List.perm_append_comm_assoc ..).trans ((keep_none l1 l2).append_right _))
      · rw [hio]
        split at h
        · rename_i d fr hg
          rw [hg]
          exact ⟨rfl, fun v H' r => h v H' ⟨s1.len, r.perm List.perm_middle.symm, s1.io⟩ mkv_ok⟩
        · rename_i x hg
          rw [hg]
          exact ⟨rfl, fun cls d H' r hx => h cls d H' ⟨s1.len, r, s1.io⟩ hx⟩
        · exact h.elim
    · rename_i j hio
      rw [hio] at s1
      unfold lendD at h
      split at h
      · rename_i i hj
        obtain ⟨v, hv, av⟩ := a.at hj
        have hi := av i rfl
        split at h
        · rename_i d hsl
          have hlt : i < δ1.length := by
            rw [← s1.len]
            exact (List.getElem?_eq_some_iff.mp hi).1
          obtain ⟨L, p1, p2, _⟩ := zip_split s1.len hlt ([] : List En)
          have e1 : ((σ[i]?).getD none, δ1.getD i .emp) = (some v, .own d) := by
            rw [hi]
            exact congrArg (Prod.mk (some v)) hsl
          rw [e1, List.append_nil] at p1
          refine ⟨ds.set j d, L ++ τ, ?_, by rw [List.length_set]; exact l1, ?_⟩
          · rw [hio]
            have p3 : (σ.zip δ1 ++ (keepE (some j) rs vs ds ++ τ)).Perm ((some v, Sl.emp) :: (argE (some j) vs (ds.set j d) ++ (L ++ τ))) := by
              refine (p1.append_right _).trans ?_
              show ((some v, Sl.own d) :: (L ++ (keepE (some j) rs vs ds ++ τ))).Perm _
              refine (List.Perm.cons _ (List.perm_append_comm_assoc L _ τ)).trans ?_
              exact (keep_ali l1 l2 hj hv).append_right (L ++ τ)
            exact (s1.rel.perm p3).tail
          · have back : ∀ {H' : Hp} {d' : D} {es : List En}, Rel κ H' (es ++ (outE (some j) vs (some d') ++ (L ++ τ))) → SR κ io σ H' (δ1.set i (.own d')) (es ++ τ) := fun {H' d' es} r => by
              refine ⟨by rw [List.length_set]; exact s1.len, r.perm ?_, s1.io⟩
              have q := p2 (.own d')
              rw [hi, List.append_nil] at q
              show (es ++ ([(vs[j]?, Sl.own d')] ++ (L ++ τ))).Perm _
              rw [hv]
              refine (List.Perm.symm ((q.append_right (es ++ τ)).trans ?_))
              show ((some v, Sl.own d') :: (L ++ (es ++ τ))).Perm (es ++ ((some v, Sl.own d') :: (L ++ τ)))
              refine (List.Perm.cons _ (List.perm_append_comm_assoc L es τ)).trans ?_
              exact List.perm_middle.symm
            rw [hio]
            split at h
            · rename_i r fr d' hg
              rw [hg]
              exact ⟨rfl, fun u H' rl => h u H' (back (es := [(some u, slotOf (mkv r fr))]) rl) mkv_ok⟩
            · rename_i x d' hg
              rw [hg]
              exact ⟨rfl, fun cls d2 H' rl hx => h cls d2 H' (back (es := []) rl) hx⟩
            · exact h.elim
        · exact h.elim
      · rename_i d hj
        refine ⟨ds.set j d, σ.zip δ1 ++ τ, ?_, by rw [List.length_set]; exact l1, ?_⟩
        · rw [hio]
          exact s1.rel.perm ((List.perm_append_comm_assoc ..).trans ((keep_own l1 l2 hj).append_right _))
        · rw [hio]
          have sub : ∀ (es : List En) (o : Option D), List.Sublist (es ++ (σ.zip δ1 ++ τ)) (es ++ (outE (some j) vs o ++ (σ.zip δ1 ++ τ))) := fun es o => (List.sublist_append_right ..).append_left es
          split at h
          · rename_i r fr d' hg
            rw [hg]
            exact ⟨rfl, fun u H' rl => h u H' ⟨s1.len, (rl.sub (sub [_] (some d'))).perm List.perm_middle.symm, s1.io⟩ mkv_ok⟩
          · rename_i x d' hg
            rw [hg]
            exact ⟨rfl, fun cls d2 H' rl hx => h cls d2 H' ⟨s1.len, rl.sub (sub [] (some d')), s1.io⟩ hx⟩
          · exact h.elim
      · exact h.elim
end
def rsH (f : Hp) (As : List Addr) : Hp := fun b => if b ∈ As then f b else none
section
variable {κ : Kx} {f g H : Hp}
theorem rsH_in {As : List Addr} {b : Addr} (h : b ∈ As) : rsH f As b = f b := if_pos h
theorem rsH_none {As : List Addr} {b : Addr} (h : f b = none) : rsH f As b = none := by
  unfold rsH
  split
  · exact h
  · rfl
theorem rsH_sub {As Bs : List Addr} (h : ∀ b ∈ As, b ∈ Bs) : Same (rsH f As) (rsH f Bs) := fun b o e => by
  unfold rsH at e ⊢
  split at e
  · rename_i m
    rw [if_pos (h b m)]
    exact e
  · cases e
mutual
theorem Rep.supp : ∀ {v : V} {d : D}, Rep κ f v d → ∃ As, Rep κ (rsH f As) v d
  | _, _, .non => ⟨[], .non⟩
  | _, _, .bl b => ⟨[], .bl b⟩
  | _, _, .int i => ⟨[], .int i⟩
  | _, _, .str s ok => ⟨[], .str s ok⟩
  | _, _, .lst (a := a) q r => by
    obtain ⟨As, r'⟩ := Reps.supp r
    have e : rsH f (a :: As) a = f a := rsH_in List.mem_cons_self
    have r2 := r'.mono (rsH_sub (f := f) (As := As) (Bs := a :: As) fun b hb => List.mem_cons_of_mem _ hb)
    rcases q with (q | ⟨o, q⟩) | q
    · exact ⟨a :: As, .lst (.inl (.inl (e.trans q))) r2⟩
    · exact ⟨a :: As, .lst (.inl (.inr ⟨o, e.trans q⟩)) r2⟩
    · exact ⟨a :: As, .lst (.inr q) r2⟩
  | _, _, .tup (a := a) q r => by
    obtain ⟨As, r'⟩ := Reps.supp r
    have e : rsH f (a :: As) a = f a := rsH_in List.mem_cons_self
    have r2 := r'.mono (rsH_sub (f := f) (As := As) (Bs := a :: As) fun b hb => List.mem_cons_of_mem _ hb)
    rcases q with (q | ⟨o, q⟩) | q
    · exact ⟨a :: As, .tup (.inl (.inl (e.trans q))) r2⟩
    · exact ⟨a :: As, .tup (.inl (.inr ⟨o, e.trans q⟩)) r2⟩
    · exact ⟨a :: As, .tup (.inr q) r2⟩
  | _, _, .obj (a := a) c q l r => by
    obtain ⟨As, r'⟩ := Reps.supp r
    exact ⟨a :: As, .obj c ((rsH_in List.mem_cons_self).trans q) l (r'.mono (rsH_sub fun b hb => List.mem_cons_of_mem _ hb))⟩
  | _, _, .dct (a := a) q n o k r1 r2 => by
    obtain ⟨As, r1'⟩ := Reps.supp r1
    obtain ⟨Bs, r2'⟩ := Reps.supp r2
    exact ⟨a :: (As ++ Bs), .dct ((rsH_in List.mem_cons_self).trans q) n o k (r1'.mono (rsH_sub fun b hb => List.mem_cons_of_mem _ (List.mem_append_left _ hb))) (r2'.mono (rsH_sub fun b hb => List.mem_cons_of_mem _ (List.mem_append_right _ hb)))⟩
  | _, _, .exc (a := a) q c dd l r => by
    obtain ⟨As, r'⟩ := Reps.supp r
    rcases dd with dd | ⟨x, e1, e2⟩
    · exact ⟨a :: As, .exc ((rsH_in List.mem_cons_self).trans q) c (.inl dd) l (r'.mono (rsH_sub fun b hb => List.mem_cons_of_mem _ hb))⟩
    · exact ⟨a :: x :: As, .exc ((rsH_in List.mem_cons_self).trans q) c (.inr ⟨x, e1, (rsH_in (List.mem_cons_of_mem _ List.mem_cons_self)).trans e2⟩) l (r'.mono (rsH_sub fun b hb => List.mem_cons_of_mem _ (List.mem_cons_of_mem _ hb)))⟩
  | _, _, .gho (a := a) q => ⟨[a], .gho ((rsH_in List.mem_cons_self).trans q)⟩
theorem Reps.supp : ∀ {vs : List V} {ds : List D}, Reps κ f vs ds → ∃ As, Reps κ (rsH f As) vs ds
  | _, _, .nil => ⟨[], .nil⟩
  | _, _, .cons r t => by
    obtain ⟨As, r'⟩ := Rep.supp r
    obtain ⟨Bs, t'⟩ := Reps.supp t
    exact ⟨As ++ Bs, .cons (r'.mono (rsH_sub fun b hb => List.mem_append_left _ hb)) (t'.mono (rsH_sub fun b hb => List.mem_append_right _ hb))⟩
end
theorem Own.supp {a : Addr} {d : D} (o : Own κ f H a d) : ∃ As, Own κ (rsH f As) H a d := by
  cases o with
  | lst q r =>
    obtain ⟨As, r'⟩ := r.supp
    exact ⟨As, .lst q r'⟩
  | obj c q l r =>
    obtain ⟨As, r'⟩ := r.supp
    exact ⟨As, .obj c q l r'⟩
  | dct q n o k r1 r2 =>
    obtain ⟨As, r1'⟩ := r1.supp
    obtain ⟨Bs, r2'⟩ := r2.supp
    exact ⟨As ++ Bs, .dct q n o k (r1'.mono (rsH_sub fun b hb => List.mem_append_left _ hb)) (r2'.mono (rsH_sub fun b hb => List.mem_append_right _ hb))⟩
theorem Own.rep {a : Addr} {d : D} (sm : Same f H) (o : Own κ f H a d) : Rep κ H (.ref a) d := by
  cases o with
  | lst q r => exact .lst (.inl (.inl q)) (r.mono sm)
  | obj c q l r => exact .obj c q l (r.mono sm)
  | dct q n o k r1 r2 => exact .dct q n o k (r1.mono sm) (r2.mono sm)
theorem Own.some {a : Addr} {d : D} (o : Own κ f H a d) : ∃ u, H a = some u := by
  cases o with
  | lst q r => exact ⟨_, q⟩
  | obj c q l r => exact ⟨_, q⟩
  | dct q n o k r1 r2 => exact ⟨_, q⟩
theorem ents_supp : ∀ {L : List En}, (∀ e ∈ L, entOk κ f H e) → ∃ As, ∀ H', (∀ e ∈ L, ∀ a, ownA e = some a → H' a = H a) → ∀ e ∈ L, entOk κ (rsH f As) H' e
  | [], _ => ⟨[], fun _ _ _ h => by cases h⟩
  | (ov, sl) :: L, h => by
    obtain ⟨As, hA⟩ := ents_supp fun e he => h e (List.mem_cons_of_mem _ he)
    have up : ∀ {Bs : List Addr} {H' : Hp} {e : En}, entOk κ f H e → entOk κ (rsH f As) H' e → (∀ b ∈ As, b ∈ Bs) → entOk κ (rsH f Bs) H' e := fun {Bs H' e} h0 h1 hs => by
      obtain ⟨o, x⟩ := e
      cases x with
      | emp => exact True.intro
      | val d =>
        obtain ⟨v, e1, r⟩ := h1
        exact ⟨v, e1, r.mono (rsH_sub hs)⟩
      | own d =>
        obtain ⟨a, e1, _, r⟩ := h1
        obtain ⟨a', e1', fa, _⟩ := h0
        have : a = a' := by
          rw [e1] at e1'
          cases e1'
          rfl
        subst this
        exact ⟨a, e1, rsH_none fa, r.mono (rsH_sub hs) rfl⟩
    have h0 := h _ List.mem_cons_self
    cases sl with
    | emp =>
      refine ⟨As, fun H' k e he => ?_⟩
      rcases List.mem_cons.mp he with rfl | he
      · exact True.intro
      · exact hA H' (fun e he => k e (List.mem_cons_of_mem _ he)) e he
    | val d =>
      obtain ⟨v, e1, r⟩ := h0
      obtain ⟨Bs, r'⟩ := r.supp
      refine ⟨As ++ Bs, fun H' k e he => ?_⟩
      rcases List.mem_cons.mp he with rfl | he
      · exact ⟨v, e1, r'.mono (rsH_sub fun b hb => List.mem_append_right _ hb)⟩
      · exact up (h e (List.mem_cons_of_mem _ he)) (hA H' (fun e he => k e (List.mem_cons_of_mem _ he)) e he) fun b hb => List.mem_append_left _ hb
    | own d =>
      obtain ⟨a, e1, fa, o⟩ := h0
      obtain ⟨Bs, o'⟩ := o.supp
      subst e1
      refine ⟨As ++ Bs, fun H' k e he => ?_⟩
      rcases List.mem_cons.mp he with rfl | he
      · exact ⟨a, rfl, rsH_none fa, o'.mono (rsH_sub fun b hb => List.mem_append_right _ hb) (k _ List.mem_cons_self a rfl)⟩
      · exact up (h e (List.mem_cons_of_mem _ he)) (hA H' (fun e he => k e (List.mem_cons_of_mem _ he)) e he) fun b hb => List.mem_append_left _ hb
def pinE (H : Hp) (As : List Addr) : List En := As.filterMap fun b => (H b).map fun u => (some (.ref b), .val (.gho u))
theorem pinE_mem {As : List Addr} {e : En} (h : e ∈ pinE H As) : ∃ b u, e = (some (.ref b), .val (.gho u)) ∧ H b = some u := by
  obtain ⟨b, _, q⟩ := List.mem_filterMap.mp h
  obtain ⟨u, hu, rfl⟩ := Option.map_eq_some_iff.mp q
  exact ⟨b, u, rfl, hu⟩
theorem pinE_of {As : List Addr} {b : Addr} {u : HO} (hb : b ∈ As) (hu : H b = some u) : (some (V.ref b), Sl.val (.gho u)) ∈ pinE H As := List.mem_filterMap.mpr ⟨b, hb, by rw [hu]; rfl⟩
theorem RelF.pins {L : List En} (rf : RelF κ f H L) : ∃ As, ∀ (f' H' : Hp), Same f' H' → (∀ e ∈ pinE H As, entOk κ f' H' e) → Rel κ H' L := by
  obtain ⟨As, h⟩ := ents_supp rf.ent
  refine ⟨As ++ L.filterMap ownA, fun f' H' sm hp => ?_⟩
  have at_ : ∀ b ∈ As ++ L.filterMap ownA, ∀ u, H b = some u → H' b = some u := fun b hb u hu => by
    obtain ⟨v, e1, r⟩ := hp _ (pinE_of hb hu)
    cases e1
    cases r with
    | gho q => exact sm _ _ q
  refine ⟨rsH f As, fun b o e => ?_, h H' fun e he a ha => ?_, rf.nd⟩
  · unfold rsH at e
    split at e
    · rename_i m
      exact at_ b (List.mem_append_left _ m) o (rf.same _ _ e)
    · cases e
  · have hm : a ∈ L.filterMap ownA := List.mem_filterMap.mpr ⟨e, he, ha⟩
    have ho := rf.ent e he
    obtain ⟨ov, sl⟩ := e
    cases sl with
    | emp => cases ov <;> simp [ownA] at ha
    | val d => cases ov <;> simp [ownA] at ha
    | own d =>
      obtain ⟨a', e1, _, o⟩ := ho
      subst e1
      have : a' = a := by simpa [ownA] using ha
      subst this
      obtain ⟨u, hu⟩ := o.some
      rw [hu]
      exact at_ _ (List.mem_append_right _ hm) u hu
theorem args_ent {vs : List V} {ds : List D} (sm : Same f H) (a : Args κ f H vs ds) : ∀ e ∈ argE none vs ds, ∃ v d, e = (some v, .val d) ∧ Rep κ H v d := by
  induction a with
  | nil => intro e he; cases he
  | cons r t ih =>
    intro e he
    rcases List.mem_cons.mp he with rfl | he
    · refine ⟨_, _, rfl, ?_⟩
      rcases r with r | ⟨a, rfl, _, o⟩
      · exact r.mono sm
      · exact o.rep sm
    · exact ih e he
theorem args_len {vs : List V} {ds : List D} (a : Args κ f H vs ds) : vs.length = ds.length := by
  induction a with
  | nil => rfl
  | cons r t ih => exact congrArg (· + 1) ih
end
section
variable {κ : Kx} {io : Nat → V → Prop} {W : WX} {σ : L2.St} {f H : Hp} {δ δ' : Ss} {τ τ' ρ : List En} {Q : VK} {T : Tab} {X : Cx} {a' b' e' : Expr} {es' : List Expr} {pos : Pos}
theorem cbr_use {g : Nat} {rs : List Rv} {vs : List V} (s : SR κ io σ H δ (ents rs vs ++ τ)) (a : Alis σ rs vs) (h : post κ io W σ τ (okE κ io σ τ Q) (cbrD T g rs δ)) : spD κ T g vs H Q fun c d H' => W c d σ H' := by
  unfold cbrD at h
  split at h
  · exact h.elim
  · rename_i hio
    split at h
    · exact h.elim
    · rename_i ds hd
      obtain ⟨f, rf⟩ := s.rel
      have ar := args_of rf s a (fun e he => List.mem_append_left _ he) hd
      obtain ⟨As, hp⟩ := rf.pins
      have eA := argP_ne (p := T.io g) (by rw [hio]; simp) vs ds
      refine ⟨ds, pinE H As, ?_, args_len ar, ?_⟩
      · rw [eA, hio]
        have all : ∀ e ∈ argE none vs ds ++ pinE H As, ∃ v d, e = (some v, Sl.val d) ∧ Rep κ H v d := fun e he => by
          rcases List.mem_append.mp he with he | he
          · exact args_ent rf.same ar e he
          · obtain ⟨b, u, rfl, hu⟩ := pinE_mem he
            exact ⟨_, _, rfl, .gho hu⟩
        refine ⟨H, fun _ _ e => e, fun e he => ?_, ?_⟩
        · obtain ⟨v, d, rfl, r⟩ := all e he
          exact ⟨v, rfl, r⟩
        · rw [List.filterMap_eq_nil_iff.mpr fun e he => ?_]
          · exact List.nodup_nil
          · obtain ⟨v, d, rfl, _⟩ := all e he
            cases v <;> rfl
      · split at h
        · rename_i d fr hg
          split at h
          · rename_i sc
            rw [hg]
            unfold finD
            refine ⟨by rw [hio]; rfl, fun v H' r => ?_⟩
            obtain ⟨f', rf'⟩ := r
            have rel := hp f' H' rf'.same fun e he => rf'.ent e (List.mem_cons_of_mem _ (List.mem_append_right _ he))
            have rd : ∀ q, Rep κ q v d := by
              have e0 := rf'.ent _ List.mem_cons_self
              have : Rep κ f' v d ∨ False := by
                cases fr with
                | false =>
                  obtain ⟨v', e1, r⟩ := e0
                  cases e1
                  exact .inl r
                | true =>
                  obtain ⟨a, e1, _, o⟩ := e0
                  cases o <;> simp at sc
              rcases this with r | r
              · cases r <;> first | (simp at sc; done) | skip
                · exact fun _ => .non
                · exact fun _ => .bl _
                · exact fun _ => .int _
                · rename_i ok
                  exact fun _ => .str _ ok
              · exact r.elim
            have rel2 : Rel κ H' (σ.zip δ ++ τ) := rel.sub ((List.sublist_append_right _ _).append_left _)
            refine h v H' ⟨s.len, ?_, s.io⟩ fun i e => by cases e
            exact (rel2.scal rd).perm List.perm_middle.symm
          · exact h.elim
        · exact h.elim
theorem nil_args {p : Option Nat} {es : List E} {es' : List Expr} (h : es' = [] → es = []) : es' = [] → ∀ (σ : L2.St) (H : Hp) (Q : List V → Hp → Prop), tDA κ io W (evEs T p es) σ H Q → Q [] H := fun h0 σ H Q ⟨δ, τ, s, q⟩ => by
  rw [h h0] at q
  exact q [] H s .nil
theorem snd_call {p : Option Nat} {g k : Nat} {fa : Addr} {fd : FuncData} {ps : List Str} {x : Str} {q : Pos} {es : List E} (F : Fg X.prog X.w X.K X.mg X.base k fa fd ps (spD κ T g)) (hr : Room k X.A) (hu : X.A.guards = some []) (hg : Gl X x) (hm : X.mg x = some (.ref fa))
    (hk : PySem.W.keepIn X.K (.ref fa) = true) (hb : Binds X.K fd ps []) (tk : Takes X W) (ha : PA X es' (tDA κ io W (evEs T p es))) (hn : es' = [] → es = []) (hdb : (x == ("__debug__" : Str)) = false)
    (he : ∀ e r, es' = e :: r → starEach es' X.env = (false, eval e X.env) :: starEach r X.env) (hpl : ∀ e r, es' = e :: r → (backTo pos (starEach r X.env)).any (·.1) = false) :
    PE X (.Call (.Name x q) es' [] pos) (tD κ io W (evE T p (.call g es))) := by
  refine PE.imp (pe_g F hr hu hg hm hk hb tk ha hdb he hpl (nil_args hn)) fun σ H Q ⟨δ, τ, s, h⟩ => ?_
  simp only [evE] at h
  exact seqA (ρ := []) h s fun rs δ1 vs H1 s1 a1 h1 => call_use s1 a1 h1
theorem snd_cbr {p : Option Nat} {g k : Nat} {fa : Addr} {fd : FuncData} {ps : List Str} {x : Str} {q : Pos} {es : List E} (F : Fg X.prog X.w X.K X.mg X.base k fa fd ps (spD κ T g)) (hr : Room k X.A) (hu : X.A.guards = some []) (hg : Gl X x) (hm : X.mg x = some (.ref fa))
    (hk : PySem.W.keepIn X.K (.ref fa) = true) (hb : Binds X.K fd ps []) (tk : Takes X W) (ha : PA X es' (tDA κ io W (evEs T p es))) (hn : es' = [] → es = []) (hdb : (x == ("__debug__" : Str)) = false)
    (he : ∀ e r, es' = e :: r → starEach es' X.env = (false, eval e X.env) :: starEach r X.env) (hpl : ∀ e r, es' = e :: r → (backTo pos (starEach r X.env)).any (·.1) = false) :
    PE X (.Call (.Name x q) es' [] pos) (tD κ io W (evE T p (.cbr g es))) := by
  refine PE.imp (pe_g F hr hu hg hm hk hb tk ha hdb he hpl (nil_args hn)) fun σ H Q ⟨δ, τ, s, h⟩ => ?_
  simp only [evE] at h
  exact seqA (ρ := []) h s fun rs δ1 vs H1 s1 a1 h1 => cbr_use s1 a1 h1
theorem snd_prp {p : Option Nat} {g k : Nat} {fa pr : Addr} {fd : FuncData} {ps : List Str} {name : Str} {a : E} (ha : PE X a' (tD κ io W (evE T p a))) (hc : ∀ c, c < κ.n → T.mem g c = true → Cls X.K (κ.cls c) ∧ PropOf X.K (κ.cls c) name pr fa)
    (F : Fg X.prog X.w X.K X.mg X.base k fa fd ps (spD κ T g)) (hr : Room (k + 1) X.A) (hu : X.A.guards = some []) (hb : Binds X.K fd ps []) (hab : attributeBase a' name X.env (eval a' X.env) = eval a' X.env) :
    PE X (.Attribute a' name pos) (tD κ io W (evE T p (.prp g a))) := by
  refine PE.imp (pe_r (Cs := fun C => ∃ c, c < κ.n ∧ T.mem g c = true ∧ C = κ.cls c) ha (fun C ⟨c, h1, h2, h3⟩ => h3 ▸ hc c h1 h2) F hr hu hb hab) fun σ H Q ⟨δ, τ, s, h⟩ => ?_
  simp only [evE] at h
  refine seqD (ρ := []) h s fun r δ1 v H1 s1 a1 h1 => ?_
  split at h1
  · rename_i c ns ds hd
    split at h1
    · rename_i hmem
      obtain ⟨f, rf⟩ := s1.rel
      obtain ⟨b, dx, vs, rfl, hlt, hb2, hl, rs⟩ := obj_of rf.same (s1.read (by simp [ent]) a1 hd rf)
      have h2 : post κ io (fun _ _ _ _ => False) σ τ (okE κ io σ τ Q) (callD T g [r] δ1) := by
        revert h1
        cases callD T g [r] δ1 with
        | ok z δ2 => exact id
        | ex x δ2 => exact fun h => h.elim
        | bad => exact id
      have u := call_use (W := fun _ _ _ _ => False) (rs := [r]) (vs := [V.ref b]) (τ := τ) (by exact s1) (.cons a1 .nil) h2
      exact ⟨b, κ.cls c, dx, _, rfl, ⟨c, hlt, hmem, rfl⟩, hb2, u⟩
    · exact h1.elim
  · exact h1.elim
theorem zip_none {g : Str} : ∀ {ns : List Str} {vs : List V}, ns.contains g = false → (ns.zip vs).lookup g = none
  | [], _, _ => rfl
  | _ :: _, [], _ => rfl
  | n :: ns, v :: vs, h => by
    rw [List.contains_cons, Bool.or_eq_false_iff] at h
    rw [List.zip_cons_cons, List.lookup_cons, h.1]
    exact zip_none h.2
theorem snd_umt {p : Option Nat} {g k : Nat} {fa : Addr} {fd : FuncData} {ps : List Str} {m : Str} {a : E} {es : List E} {apos : Pos} {pl : Sem Bool} (ha : PE X a' (tD κ io W (evE T p a))) (hc : ∀ c, c < κ.n → T.mem g c = true → Cls X.K (κ.cls c) ∧ Meth X.K (κ.cls c) m fa)
    (hnm : T.nm g = m)
    (F : Fg X.prog X.w X.K X.mg X.base k fa fd ps (spD κ T g)) (hr : Room k X.A) (hu : X.A.guards = some []) (hb : Binds X.K fd ps []) (tk : Takes X W) (hk : PySem.W.keepIn X.K (.ref fa) = true) (has : PA X es' (tDA κ io W (evEs T p es))) (hn : es' = [] → es = [])
    (hst : ∀ e r, es' = e :: r → starEach es' X.env = (false, eval e X.env) :: starEach r X.env) (hpl : ∀ e r, es' = e :: r → (backTo pos (starEach r X.env)).any (·.1) = false)
    (ht : eval (.Call (.Attribute a' m apos) es' [] pos) X.env = (do
      let ov ← eval a' X.env
      standAt apos.atName
      let (f, first) ← holding [ov] (getMethod ov m pl)
      callWith pos f first (backTo pos (starEach es' X.env)) (backToKw pos (keywordEach [] X.env)))) :
    PE X (.Call (.Attribute a' m apos) es' [] pos) (tD κ io W (evE T p (.umt g a es))) := by
  refine PE.imp (pe_u (Cs := fun C => ∃ c, c < κ.n ∧ T.mem g c = true ∧ C = κ.cls c) ha (fun C ⟨c, h1, h2, h3⟩ => h3 ▸ hc c h1 h2) F hr hu hb tk hk has hst hpl (nil_args hn) ht) fun σ H Q ⟨δ, τ, s, h⟩ => ?_
  simp only [evE] at h
  refine seqD (ρ := []) h s fun r δ1 v H1 s1 a1 h1 => ?_
  split at h1
  · rename_i c ns ds hd
    split at h1
    · rename_i hmem
      obtain ⟨f, rf⟩ := s1.rel
      have rd := s1.read (by simp [ent]) a1 hd rf
      obtain ⟨b, dx, vs, rfl, hlt, hb2, hl, rs⟩ := obj_of rf.same rd
      refine ⟨b, κ.cls c, dx, _, rfl, ⟨c, hlt, hmem.1, rfl⟩, hb2, zip_none (hnm ▸ hmem.2), ?_⟩
      refine seqA (ρ := [ent r (.ref b)]) h1 s1 fun rs2 δ2 vs2 H2 s2 a2 h2 => ?_
      refine call_use (rs := r :: rs2) (vs := .ref b :: vs2) (τ := τ) (s2.perm ?_) (.cons a1 a2) h2
      show (ents rs2 vs2 ++ ([ent r (.ref b)] ++ τ)).Perm ((ents rs2 vs2 ++ [ent r (.ref b)]) ++ τ)
      simp
    · exact h1.elim
  · exact h1.elim
theorem snd_new {p : Option Nat} {c k : Nat} {fa : Addr} {fd : FuncData} {ps : List Str} {x : Str} {q : Pos} {es : List E} (hlt : c < κ.n) (hio : T.io (T.ini c) = some 0) (M : Mk X.K (κ.cls c) fa) (F : Fg X.prog X.w X.K X.mg X.base k fa fd ps (spD κ T (T.ini c))) (hr : Room (k + 1) X.A) (hu : X.A.guards = some []) (hg : Gl X x) (hm : X.mg x = some (.ref (κ.cls c)))
    (hb : Binds X.K fd ps []) (tk : Takes X W) (ha : PA X es' (tDA κ io W (evEs T p es))) (hn : es' = [] → es = []) (hdb : (x == ("__debug__" : Str)) = false)
    (he : ∀ e r, es' = e :: r → starEach es' X.env = (false, eval e X.env) :: starEach r X.env) (hpl : ∀ e r, es' = e :: r → (backTo pos (starEach r X.env)).any (·.1) = false) :
    PE X (.Call (.Name x q) es' [] pos) (tD κ io W (evE T p (.new c es))) := by
  refine PE.imp (pe_n M F hr hu hg hm hb tk ha hdb he hpl (nil_args hn)) fun σ H Q ⟨δ, τ, s, h⟩ => ?_
  simp only [evE] at h
  refine seqA (ρ := []) h s fun rs δ1 vs H1 s1 a1 h1 y dx hy hdx hne => ?_
  unfold newD at h1
  split at h1
  · exact h1.elim
  · rename_i ds δ2 hd
    have s2 := s1.fzs a1 hd
    have hl : vs.length = ds.length := by rw [a1.length, fzs_length hd]
    obtain ⟨f, rf⟩ := s2.rel
    have hy2 : upd H1 dx (.own y) y = none := by rw [upd_ne (fun z => hne z.symm)]; exact hy
    have rf1 : RelF κ f (upd H1 dx (.own y)) (σ.zip δ2 ++ (vals vs ds ++ τ)) := rf.grow fun b o hb => by rw [upd_ne (ne_of_none hb hdx)]; exact hb
    have rf2 := rf1.laid (u := .ins (κ.cls c) dx []) (d := .obj c [] []) hy2 (.obj (vs := []) hlt upd_same rfl .nil)
    have pv : (vals vs ds).Perm (argE none vs ds) := by
      clear rf2 rf1 rf s2 hd h1 s1 a1
      induction vs generalizing ds with
      | nil => cases ds <;> exact .nil
      | cons v vs ih =>
        cases ds with
        | nil => simp at hl
        | cons d ds =>
          show (vals vs ds ++ [(some v, Sl.val d)]).Perm ((some v, Sl.val d) :: argE none vs ds)
          exact List.perm_append_comm.trans ((ih ds (by simpa using hl)).cons _)
    refine ⟨.obj c [] [] :: ds, σ.zip δ2 ++ τ, ?_, congrArg (· + 1) hl, ?_⟩
    · rw [hio]
      show Rel κ _ ((some (.ref y), Sl.own (.obj c [] [])) :: (argE none vs ds ++ (σ.zip δ2 ++ τ)))
      refine Rel.perm (List.Perm.cons _ ?_) ⟨f, rf2⟩
      exact (List.perm_append_comm_assoc ..).trans (pv.append_right _)
    · rw [hio]
      split at h1
      · rename_i fr d' hgv
        rw [hgv]
        refine ⟨rfl, fun v H' r => ?_⟩
        have ev : v = .non := by
          obtain ⟨f2, r2⟩ := r
          have hs : slotOf (mkv .non fr) = .val .non ∨ slotOf (mkv .non fr) = .own .non := by cases fr <;> simp [mkv, slotOf]
          rcases hs with hs | hs
          · rw [hs] at r2
            obtain ⟨v', e1, q⟩ := r2.at List.mem_cons_self
            cases e1
            cases q
            rfl
          · rw [hs] at r2
            obtain ⟨b, e1, _, o⟩ := r2.atO List.mem_cons_self
            cases o
        refine ⟨ev, h1 (.ref y) H' ⟨s2.len, ?_, s2.io⟩ (fun i e => nomatch e)⟩
        have r3 : Rel κ H' ((some (.ref y), Sl.own d') :: (σ.zip δ2 ++ τ)) := r.tail
        exact r3.perm List.perm_middle.symm
      · rename_i x o hgv
        rw [hgv]
        exact ⟨rfl, fun cls d H' r hx => h1 cls d H' ⟨s2.len, r.sub (List.sublist_append_right ..), s2.io⟩ hx⟩
      · exact h1.elim
def EqK (κ : Kx) (T : Tab) (X : Cx) : Prop := ∀ c f, T.eqf c = some f → c < κ.n → ∃ (fa : Addr) (fd : FuncData) (ps : List Str) (k : Nat), Fg X.prog X.w X.K X.mg X.base k fa fd ps (spD κ T f) ∧ Binds X.K fd ps [] ∧
  PySem.W.findIn X.K (.ref (κ.cls c)) "__eq__" = some (some (.ref fa)) ∧ PySem.W.isFn X.K (.ref fa) = true ∧ Room k X.A
theorem op_eqD (hu : X.A.guards = some []) (hE : EqK κ T X) : OpR X (compareOp .Eq) (rObj κ T) := by
  intro pins s σ H x y v u Q I rx ry ⟨d, e, k, L, rel, hq, hQ⟩
  unfold objQ at hq
  split at hq
  · rename_i c ns vs c2 ms ws
    split at hq
    · rename_i hc
      subst hc
      split at hq
      · rename_i fe hf
        split at hq
        · rename_i k2 hio hg
          cases hq
          obtain ⟨f0, rf⟩ := id rel
          obtain ⟨x', ex, kx⟩ := rf.at (ov := some x) (d := .obj c ns vs) (by simp)
          obtain ⟨y', ey, ky⟩ := rf.at (ov := some y) (d := .obj c ms ws) (by simp)
          cases ex
          cases ey
          obtain ⟨a, dx, vs2, rfl, hlt, ha, _, _⟩ := obj_of rf.same (.inl kx)
          obtain ⟨b, dy, ws2, rfl, _, hb, _, _⟩ := obj_of rf.same (.inl ky)
          obtain ⟨fa, fd, ps, kk, F, B, h1, h2, hr⟩ := hE c fe hf hlt
          cases rx
          cases ry
          obtain ⟨mA, JA, _⟩ := ins_get I.hok ha
          obtain ⟨mB, JB, _⟩ := ins_get I.hok hb
          obtain ⟨od, JA, _⟩ := JA.look
          obtain ⟨od', JB, _⟩ := JB.look
          obtain ⟨m, hF⟩ := I.fr
          show wpAny (model X.prog X.w) X.A (richCompare .Eq (.ref a) (.ref b)) (EP X pins σ Q) X.xe s
          refine PySem.W.cmp_K (op := .Eq) (tb := .ref (κ.cls c)) hr.units0 hF I.ok.mod.kin JA JB.type (by simp [PySem.W.notFirst]) h1 h2 ?_
          have sp : spD κ T fe [.ref a, .ref b] H (fun v H' => v = .bl k ∧ Rel κ H' L) fun _ _ _ => False := by
            refine ⟨[.obj c ns vs, .obj c ms ws], L, ?_, rfl, ?_⟩
            · rw [hio]
              exact rel
            · rw [hg, hio]
              refine ⟨rfl, fun v H' r => ?_⟩
              have r2 : Rel κ H' ((some v, .val (.bl k)) :: L) := r
              obtain ⟨f', rf'⟩ := id r2
              obtain ⟨w, e, q⟩ := rf'.at (ov := some v) (d := .bl k) (by simp)
              cases e
              exact ⟨rep_bl q, r2.tail⟩
          have hl : ([Value.ref a, Value.ref b] ++ ([] : List Value)).length = ps.length := (F.len _ _ _ _ sp).symm ▸ rfl
          have bd := B s [.ref a, .ref b] I.kIn hl
          rw [List.append_nil] at bd
          refine wpAny_call (codeAny_mono (F.go X.A X.stack s H ⟨[.ref a, .ref b], []⟩ [.ref a, .ref b] [.ref a, .ref b] _ _ hr hu I.env0 bd (.cons rfl (.cons rfl .nil)) sp) fun rr s' q => ?_)
          rcases rr with er | fl
          · obtain ⟨_, _, _, _, _, _, _, _, _, _, _, _, no⟩ := q
            exact no.elim
          · cases fl with
            | ret w =>
              obtain ⟨z, H', I', rz, ez, r⟩ := I.after q
              subst ez
              cases rz
              exact ⟨.bl k, H', I', rfl, hQ H' r⟩
            | next => exact False.elim q
            | brk => exact False.elim q
            | cont => exact False.elim q
        · cases hq
      · cases hq
    · cases hq
  · cases hq
theorem meth_eq {m : Str} {apos pos : Pos} {o : Expr} {es : List Expr} {env : Env} (ho : attributeBase o m env (eval o env) = eval o env) (hst : (backTo pos (starEach es env)).all (fun x => !x.1) = true) (hn : es.length < 30) (hl : (apos.endLine == pos.line) = true) :
    eval (.Call (.Attribute o m apos) es [] pos) env = (do
      let ov ← eval o env
      standAt apos.atName
      let (f, first) ← holding [ov] (getMethod ov m (do return (← importBound o env).getD true))
      callWith pos f first (backTo pos (starEach es env)) (backToKw pos (keywordEach [] env))) := by
  have few : methodCallForm (es.length + 0) (backTo pos (starEach es env)) (backToKw pos (keywordEach [] env)) = true := by
    unfold methodCallForm
    rw [hst]
    simp [backToKw, keywordEach]
    omega
  show (do
    let ov ← attributeBase o m env (eval o env)
    standAt apos.atName
    methodCall o m apos pos env ov (es.length + 0) (backTo pos (starEach es env)) (backToKw pos (keywordEach [] env))) = _
  rw [ho]
  unfold methodCall
  rw [few]
  have e2 : methodCallPos true o env apos pos = pure pos := by
    unfold methodCallPos
    simp only [Bool.not_true, Bool.false_or]
    rw [if_pos (by simpa using hl)]
  rw [e2]
  rfl
end
end PyV
set_option Elab.async false
set_option linter.all false
set_option maxRecDepth 100000
set_option maxHeartbeats 2000000
namespace PyV
open PySem PySem.Spec PyProof.Rows L2

section
variable {κ : Kx} {io : Nat → V → Prop} {W : WX} {σ : L2.St} {f H : Hp} {δ δ' : Ss} {τ τ' ρ : List En} {Q : VK} {T : Tab} {X : Cx} {a' b' e' c' tg : Expr} {es' : List Expr} {pos : Pos} {pins : List (Addr × Obj)} {s : Shared}
theorem iter_val {x : V} {v : Value} {R : It → Hp → Prop} (I : Inv X pins σ H s) (r : RelV x v)
    (h : (∃ a, x = .ref a ∧ (∃ xs, SqL X.K H a xs) ∧ R (Itl X.K a) H) ∨ (∃ a, x = .ref a ∧ (∃ xs, SqT X.K H a xs) ∧ R (Itt X.K a) H) ∨ ∃ z, x = .str z ∧ R (Its z) H) :
    wpAny (model X.prog X.w) X.A (pyIter v) (PIE X pins σ tg R) X.xe s := by
  have fp : ∀ b ∈ [s.heap.objs.size], FpOk X pins H b := fun b hb => by
    have e : b = s.heap.objs.size := by simpa using hb
    exact e ▸ I.fpOk (Nat.le_refl _) (I.hok.fresh (Nat.le_refl _))
  rcases h with ⟨a, rfl, ⟨xs, q⟩, h⟩ | ⟨a, rfl, ⟨xs, q⟩, h⟩ | ⟨z, rfl, h⟩
  · cases r
    obtain ⟨its, _, p, _⟩ := I.list q
    refine wpAny_pyIter_list p.isList ⟨s.heap.objs.size, _, _, _, H, rfl, ?_, turn_list a _, ⟨_, Heap.get?_push_size _ rfl, rfl, rfl⟩, fp, h⟩
    exact I.kept (t' := s.toks) fun b o e => Heap.get?_push_of_some _ e
  · cases r
    obtain ⟨its, _, p, _⟩ := I.tuple q
    have p2 : s.heap.IsTuple a its.toArray := p
    refine wpAny_pyIter_tuple p2 ⟨s.heap.objs.size, _, _, _, H, rfl, ?_, turn_tuple a _, ⟨_, Heap.get?_push_size _ rfl, rfl, rfl⟩, fp, h⟩
    exact I.kept (t' := s.toks) fun b o e => Heap.get?_push_of_some _ e
  · obtain ⟨t, rfl⟩ := r
    by_cases ha : z.cps.all (· < 128) = true
    · exact wpAny_pyIter_ascii ha (pi_one (tk := s.toks) I _ (turn_str _ z t "str_ascii_iterator" (.inl rfl)) ⟨_, Heap.get?_push_size _ rfl, rfl, rfl⟩ h)
    · have hb : z.cps.all (· < 128) = false := by simpa using ha
      exact wpAny_pyIter_wide hb (pi_one (tk := s.toks) I _ (turn_str _ z t "str_iterator" (.inr rfl)) ⟨_, Heap.get?_push_size _ rfl, rfl, rfl⟩ h)
structure ItD (κ : Kx) (J : It) (es : List En) (xs : List D) : Prop where
  go : ∀ H L i, Rel κ H (es ++ L) → i < xs.length → J.go i H
  stop : ∀ H L i, Rel κ H (es ++ L) → xs.length ≤ i → J.stop i H
  yld : ∀ H L i x H' d, Rel κ H (es ++ L) → xs[i]? = some d → J.yld i H x H' → Rel κ H' ((some x, .val d) :: (es ++ L))
def okI (κ : Kx) (io : Nat → V → Prop) (σ : L2.St) (τ : List En) (k : Ik) (R : It → Hp → Prop) : List Rv → Ss → Prop := fun rs δ => ∃ ds δ2 xs, fzs δ rs = some (ds, δ2) ∧ itemsD k ds = some xs ∧
  ∀ es J H, SR κ io σ H δ2 (es ++ τ) → ItD κ J es xs → R J H
def tDI (κ : Kx) (io : Nat → V → Prop) (W : WX) (k : Ik) (den : Ss → R (List Rv)) : TI := fun σ H R => ∃ δ τ, SR κ io σ H δ τ ∧ post κ io W σ τ (okI κ io σ τ k R) (den δ)
theorem rel_val {L : List En} {x : V} {d : D} (r : Rel κ H L) (h : (some x, .val d) ∈ L) : ∃ f, RelF κ f H L ∧ Rep κ f x d := by
  obtain ⟨f, rf⟩ := r
  obtain ⟨v, e, q⟩ := rf.at h
  cases e
  exact ⟨f, rf, q⟩
theorem sql_of {L : List En} {K : PySem.W.Frag} {a : Addr} {ds : List D} (hK : κ.K = K) (r : Rel κ H L) (h : (some (.ref a), .val (.lst ds)) ∈ L) : ∃ f vs, RelF κ f H L ∧ SqL K H a vs ∧ Reps κ f vs ds := by
  obtain ⟨f, rf, q⟩ := rel_val r h
  subst hK
  cases q with
  | lst q rs => exact ⟨f, _, rf, (q.mono rf.same).sq, rs⟩
theorem sqt_of {L : List En} {K : PySem.W.Frag} {a : Addr} {ds : List D} (hK : κ.K = K) (r : Rel κ H L) (h : (some (.ref a), .val (.tup ds)) ∈ L) : ∃ f vs, RelF κ f H L ∧ SqT K H a vs ∧ Reps κ f vs ds := by
  obtain ⟨f, rf, q⟩ := rel_val r h
  subst hK
  cases q with
  | tup q rs => exact ⟨f, _, rf, sqT_mono rf.same q, rs⟩
theorem itd_list {K : PySem.W.Frag} (hK : κ.K = K) {a : Addr} {ds : List D} : ItD κ (Itl K a) [(some (.ref a), .val (.lst ds))] ds := by
  refine ⟨fun H L i r h => ?_, fun H L i r h => ?_, fun H L i x H' d r hd ⟨e, h⟩ => ?_⟩
  · obtain ⟨f, vs, rf, q, rs⟩ := sql_of hK r List.mem_cons_self
    exact ⟨vs, vs[i]'(by rw [rs.length]; exact h), q, by simp⟩
  · obtain ⟨f, vs, rf, q, rs⟩ := sql_of hK r List.mem_cons_self
    exact ⟨vs, q, by rw [rs.length]; exact h⟩
  · subst e
    obtain ⟨f, vs, rf, q, rs⟩ := sql_of hK r List.mem_cons_self
    obtain ⟨v, hv, rv⟩ := rs.get hd
    have e := h vs q
    rw [hv] at e
    cases e
    exact ⟨f, rf.val rv⟩
theorem itd_tup {K : PySem.W.Frag} (hK : κ.K = K) {a : Addr} {ds : List D} : ItD κ (Itt K a) [(some (.ref a), .val (.tup ds))] ds := by
  refine ⟨fun H L i r h => ?_, fun H L i r h => ?_, fun H L i x H' d r hd ⟨e, h⟩ => ?_⟩
  · obtain ⟨f, vs, rf, q, rs⟩ := sqt_of hK r List.mem_cons_self
    exact ⟨vs, vs[i]'(by rw [rs.length]; exact h), q, by simp⟩
  · obtain ⟨f, vs, rf, q, rs⟩ := sqt_of hK r List.mem_cons_self
    exact ⟨vs, q, by rw [rs.length]; exact h⟩
  · subst e
    obtain ⟨f, vs, rf, q, rs⟩ := sqt_of hK r List.mem_cons_self
    obtain ⟨v, hv, rv⟩ := rs.get hd
    have e := h vs q
    rw [hv] at e
    cases e
    exact ⟨f, rf.val rv⟩
theorem itd_str {t : List Nat} (ok : ∀ c ∈ t, c < 1114112) {es : List En} : ItD κ (Its ⟨t.toArray⟩) es (t.map fun c => .str [c]) := by
  refine ⟨fun H L i r h => ?_, fun H L i r h => ?_, fun H L i x H' d r hd ⟨e, c, hc, ex⟩ => ?_⟩
  · simpa [Its] using h
  · simpa [Its] using h
  · subst e ex
    rw [List.getElem?_map] at hd
    have hc : t[i]? = some c := by simpa using hc
    rw [hc] at hd
    cases hd
    refine r.scal fun g => .str [c] fun y hy => ?_
    have : y = c := by simpa using hy
    subst this
    exact ok _ (List.mem_of_getElem? hc)
theorem itd_rng {lo : Int} {n : Nat} {es : List En} : ItD κ (Itr lo n) es (irange lo n 1) := by
  refine ⟨fun H L i r h => ?_, fun H L i r h => ?_, fun H L i x H' d r hd ⟨e, ex⟩ => ?_⟩
  · simpa [Itr] using h
  · simpa [Itr] using h
  · subst e ex
    simp only [irange, List.getElem?_map] at hd
    obtain ⟨k, hk, rfl⟩ := Option.map_eq_some_iff.mp hd
    have : k = i := by
      obtain ⟨hlt, e⟩ := List.getElem?_eq_some_iff.mp hk
      simpa using e.symm
    subst this
    rw [Int.mul_one]
    exact r.scal fun g => .int _
theorem itd_rngC {lo c : Int} {n : Nat} {es : List En} : ItD κ (Itc lo c n) es (irange lo n c) := by
  refine ⟨fun H L i r h => ?_, fun H L i r h => ?_, fun H L i x H' d r hd ⟨e, ex⟩ => ?_⟩
  · simpa [Itc] using h
  · simpa [Itc] using h
  · subst e ex
    simp only [irange, List.getElem?_map] at hd
    obtain ⟨k, hk, rfl⟩ := Option.map_eq_some_iff.mp hd
    have : k = i := by
      obtain ⟨hlt, e⟩ := List.getElem?_eq_some_iff.mp hk
      simpa using e.symm
    subst this
    exact r.scal fun g => .int _
theorem enumD_get : ∀ {k i : Nat} {ds : List D} {d : D}, (enumD k ds)[i]? = some d → ∃ e, ds[i]? = some e ∧ d = .tup [.int ((k + i : Nat) : Int), e]
  | k, i, [], d, h => by simp at h
  | k, 0, e :: ds, d, h => by simp at h; exact ⟨e, rfl, h.symm⟩
  | k, i + 1, e :: ds, d, h => by
    obtain ⟨e2, h1, h2⟩ := enumD_get (k := k + 1) (i := i) (ds := ds) (d := d) (by simpa using h)
    exact ⟨e2, by simpa using h1, by rw [h2]; congr 3; omega⟩
theorem enumD_len : ∀ {k : Nat} {ds : List D}, (enumD k ds).length = ds.length
  | _, [] => rfl
  | k, d :: ds => congrArg (· + 1) (enumD_len (k := k + 1) (ds := ds))
theorem zipD_get : ∀ {i : Nat} {as bs : List D} {d : D}, (zipD as bs)[i]? = some d → ∃ a b, as[i]? = some a ∧ bs[i]? = some b ∧ d = .tup [a, b]
  | i, [], _, d, h => by simp at h
  | i, _ :: _, [], d, h => by simp at h
  | 0, a :: as, b :: bs, d, h => by simp at h; exact ⟨a, b, rfl, rfl, h.symm⟩
  | i + 1, a :: as, b :: bs, d, h => by
    obtain ⟨x, y, h1, h2, h3⟩ := zipD_get (i := i) (as := as) (bs := bs) (d := d) (by simpa using h)
    exact ⟨x, y, by simpa using h1, by simpa using h2, h3⟩
theorem zipD_len : ∀ {as bs : List D}, (zipD as bs).length = min as.length bs.length
  | [], _ => by simp
  | _ :: _, [] => by simp
  | a :: as, b :: bs => by simp [zipD_len (as := as) (bs := bs)]
theorem laid_pair {x y : V} {d e : D} {p : Addr} {L : List En} (rf : RelF κ f H L) (hx : Rep κ f x d) (hy : Rep κ f y e) (hp : H p = none) : Rel κ (upd H p (.tup [x, y])) ((some (.ref p), .val (.tup [d, e])) :: L) := by
  have hf : f p = none := rf.same.free hp
  have sm : Same f (upd f p (.tup [x, y])) := same_upd hf
  exact ⟨_, rf.laidV hp (.tup (.inl (.inl upd_same)) (.cons (hx.mono sm) (.cons (hy.mono sm) .nil)))⟩
theorem itd_enum {K : PySem.W.Frag} (hK : κ.K = K) {a : Addr} {ds : List D} : ItD κ (Ite K a) [(some (.ref a), .val (.lst ds))] (enumD 0 ds) := by
  refine ⟨fun H L i r h => ?_, fun H L i r h => ?_, fun H L i x H' d r hd ⟨p, y, ex, hp, e, h⟩ => ?_⟩
  · obtain ⟨f, vs, rf, q, rs⟩ := sql_of hK r List.mem_cons_self
    rw [enumD_len] at h
    exact ⟨vs, vs[i]'(by rw [rs.length]; exact h), q, by simp⟩
  · obtain ⟨f, vs, rf, q, rs⟩ := sql_of hK r List.mem_cons_self
    rw [enumD_len] at h
    exact ⟨vs, q, by rw [rs.length]; exact h⟩
  · subst e ex
    obtain ⟨f, vs, rf, q, rs⟩ := sql_of hK r List.mem_cons_self
    obtain ⟨e, he, rfl⟩ := enumD_get hd
    obtain ⟨v, hv, rv⟩ := rs.get he
    have e2 := h vs q
    rw [hv] at e2
    cases e2
    have := laid_pair (x := .int (i : Nat)) (d := .int ((0 + i : Nat) : Int)) rf (by rw [Nat.zero_add]; exact .int _) rv hp
    exact this
theorem itd_zip {K : PySem.W.Frag} (hK : κ.K = K) {a b : Addr} {ds es : List D} : ItD κ (Itz K a b) [(some (.ref b), .val (.lst es)), (some (.ref a), .val (.lst ds))] (zipD ds es) := by
  have two : ∀ {H : Hp} {L : List En}, Rel κ H ([(some (.ref b), .val (.lst es)), (some (.ref a), .val (.lst ds))] ++ L) → ∃ f vs ws, RelF κ f H ([(some (.ref b), .val (.lst es)), (some (.ref a), .val (.lst ds))] ++ L) ∧ SqL K H a vs ∧ Reps κ f vs ds ∧ SqL K H b ws ∧ Reps κ f ws es := fun {H L} r => by
    obtain ⟨f, rf⟩ := r
    subst hK
    obtain ⟨v1, e1, q1⟩ := rf.at (ov := some (.ref a)) (d := .lst ds) (by simp)
    obtain ⟨v2, e2, q2⟩ := rf.at (ov := some (.ref b)) (d := .lst es) (by simp)
    cases e1
    cases e2
    cases q1 with
    | lst q1 r1 =>
      cases q2 with
      | lst q2 r2 => exact ⟨f, _, _, rf, (q1.mono rf.same).sq, r1, (q2.mono rf.same).sq, r2⟩
  refine ⟨fun H L i r h => ?_, fun H L i r h => ?_, fun H L i x H' d r hd ⟨p, y, z, ex, hp, e, h1, h2⟩ => ?_⟩
  · obtain ⟨f, vs, ws, rf, q1, r1, q2, r2⟩ := two r
    rw [zipD_len] at h
    have l1 := r1.length
    have l2 := r2.length
    exact ⟨vs, ws, vs[i]'(by omega), ws[i]'(by omega), q1, q2, by simp, by simp⟩
  · obtain ⟨f, vs, ws, rf, q1, r1, q2, r2⟩ := two r
    rw [zipD_len] at h
    have l1 := r1.length
    have l2 := r2.length
    exact ⟨vs, ws, q1, q2, by omega⟩
  · subst e ex
    obtain ⟨f, vs, ws, rf, q1, r1, q2, r2⟩ := two r
    obtain ⟨d1, d2, hd1, hd2, rfl⟩ := zipD_get hd
    obtain ⟨v, hv, rv⟩ := r1.get hd1
    obtain ⟨w, hw, rw2⟩ := r2.get hd2
    have e1 := h1 vs q1
    have e2 := h2 ws q2
    rw [hv] at e1
    rw [hw] at e2
    cases e1
    cases e2
    exact laid_pair rf rv rw2 hp
theorem big62_of {i : Int} (h : big62 i = true) : -(2 ^ 62) ≤ i ∧ i < 2 ^ 62 := by
  unfold big62 at h
  simpa using h
theorem atO_inj {a : Addr} {o o' : Obj} {es : Array DictEntry} {ep : Nat} (e : atO a o = atO a o') (hd : o.data = .dict es ep) : o = o' := by
  have h : (({ objs := Array.replicate (a + 1) o } : Heap).get? a = some o) = (({ objs := Array.replicate (a + 1) o } : Heap).get? a = some o') := congrFun (HO.ext.inj e) _
  have h1 : ({ objs := Array.replicate (a + 1) o } : Heap).get? a = some o := by
    unfold Heap.get?
    have : (Array.replicate (a + 1) o)[a]? = some o := by simp
    rw [this]
    obtain ⟨c, dd, dt, sl⟩ := o
    cases hd
    rfl
  rw [h] at h1
  have h2 := h.mpr h1
  rw [h2] at h1
  exact Option.some.inj h1
theorem ents_same {w : World} {t t' : Bool} : ∀ {l : List DictEntry} {tr tr' : List (D × V × V)}, Paired (entIs w t) tr l → Paired (entIs w t') tr' l → tr.map (fun x => (x.2.1, x.2.2)) = tr'.map (fun x => (x.2.1, x.2.2))
  | _, _, _, .nil, .nil => rfl
  | _, _, _, .cons r p, .cons r' p' => by
    obtain ⟨_, _, _, _, a1, a2⟩ := r
    obtain ⟨_, _, _, _, b1, b2⟩ := r'
    rw [List.map_cons, List.map_cons, ents_same p p', a1.inj b1, a2.inj b2]
theorem DctO.same {w : World} {t t' : Bool} {o : Obj} {tr tr' : List (D × V × V)} (d : DctO w t o tr) (d' : DctO w t' o tr') : tr.map (fun x => (x.2.1, x.2.2)) = tr'.map (fun x => (x.2.1, x.2.2)) := by
  obtain ⟨es, ep, e, p⟩ := d.dat
  obtain ⟨es', ep', e', p'⟩ := d'.dat
  rw [e] at e'
  cases e'
  exact ents_same p p'
abbrev dEn (a : Addr) (o : Obj) (t : Bool) (ks ds : List D) : List En := [(some (.ref a), .val (.gho (atO a o))), (some (.ref a), .val (.dct t ks ds))]
theorem pin_of {L : List En} {a : Addr} {o : Obj} {t t' : Bool} {ks ds : List D} {tr : List (D × V × V)} (d0 : DctO κ.w t' o tr) (r : Rel κ H (dEn a o t ks ds ++ L)) :
    ∃ (f : Hp) (tr' : List (D × V × V)), RelF κ f H (dEn a o t ks ds ++ L) ∧ H a = some (atO a o) ∧ ks = tr'.map (·.1) ∧ Reps κ f (tr.map (·.2.1)) ks ∧ Reps κ f (tr.map (·.2.2)) ds := by
  obtain ⟨f, rf⟩ := r
  obtain ⟨v, e, q0⟩ := rf.at (ov := some (.ref a)) (d := .gho (atO a o)) (by simp)
  cases e
  obtain ⟨v, e, q1⟩ := rf.at (ov := some (.ref a)) (d := .dct t ks ds) (by simp)
  cases e
  cases q0 with
  | gho q0 =>
    cases q1 with
    | @dct _ o' _ tr' _ _ q n d k r1 r2 =>
      rw [q0] at q
      obtain ⟨es, ep, hd, _⟩ := d0.dat
      have e := atO_inj (Option.some.inj q) hd
      subst e
      have sm := DctO.same d0 d
      have e1 : tr.map (·.2.1) = tr'.map (·.2.1) := by
        have := congrArg (List.map Prod.fst) sm
        simpa [List.map_map, Function.comp_def] using this
      have e2 : tr.map (·.2.2) = tr'.map (·.2.2) := by
        have := congrArg (List.map Prod.snd) sm
        simpa [List.map_map, Function.comp_def] using this
      exact ⟨f, tr', rf, rf.same _ _ q0, k, e1 ▸ r1, e2 ▸ r2⟩
theorem itd_zkeys {a : Addr} {o : Obj} {t t' : Bool} {ks ds : List D} {tr : List (D × V × V)} (d0 : DctO κ.w t' o tr) (hl : ks.length = tr.length) : ItD κ (Ikz a o tr) (dEn a o t ks ds) ks := by
  refine ⟨fun H L i r h => ?_, fun H L i r h => ?_, fun H L i x H' d r hd ⟨e, y, hy, ex⟩ => ?_⟩
  · obtain ⟨f, tr', rf, q, _⟩ := pin_of d0 r
    exact ⟨q, hl ▸ h⟩
  · obtain ⟨f, tr', rf, q, _⟩ := pin_of d0 r
    exact ⟨q, hl ▸ h⟩
  · subst e ex
    obtain ⟨f, tr', rf, q, _, r1, _⟩ := pin_of d0 r
    obtain ⟨v, hv, rv⟩ := r1.get hd
    rw [List.getElem?_map, hy] at hv
    cases hv
    exact ⟨f, rf.val rv⟩
theorem itd_zvals {a : Addr} {o : Obj} {t t' : Bool} {ks ds : List D} {tr : List (D × V × V)} (d0 : DctO κ.w t' o tr) (hl : ds.length = tr.length) : ItD κ (Ivz a o tr) (dEn a o t ks ds) ds := by
  refine ⟨fun H L i r h => ?_, fun H L i r h => ?_, fun H L i x H' d r hd ⟨e, y, hy, ex⟩ => ?_⟩
  · obtain ⟨f, tr', rf, q, _⟩ := pin_of d0 r
    exact ⟨q, hl ▸ h⟩
  · obtain ⟨f, tr', rf, q, _⟩ := pin_of d0 r
    exact ⟨q, hl ▸ h⟩
  · subst e ex
    obtain ⟨f, tr', rf, q, _, _, r2⟩ := pin_of d0 r
    obtain ⟨v, hv, rv⟩ := r2.get hd
    rw [List.getElem?_map, hy] at hv
    cases hv
    exact ⟨f, rf.val rv⟩
theorem itd_zitems {a : Addr} {o : Obj} {t t' : Bool} {ks ds : List D} {tr : List (D × V × V)} (d0 : DctO κ.w t' o tr) (hl : ks.length = tr.length) (hl2 : ds.length = tr.length) : ItD κ (Iiz a o tr) (dEn a o t ks ds) (zipD ks ds) := by
  have hz : (zipD ks ds).length = tr.length := by rw [zipD_len, hl, hl2, Nat.min_self]
  refine ⟨fun H L i r h => ?_, fun H L i r h => ?_, fun H L i x H' d r hd ⟨p, y, hy, ex, hp, eH⟩ => ?_⟩
  · obtain ⟨f, tr', rf, q, _⟩ := pin_of d0 r
    exact ⟨q, hz ▸ h⟩
  · obtain ⟨f, tr', rf, q, _⟩ := pin_of d0 r
    exact ⟨q, hz ▸ h⟩
  · subst eH ex
    obtain ⟨f, tr', rf, q, _, r1, r2⟩ := pin_of d0 r
    obtain ⟨k, v, hk, hv, rfl⟩ := zipD_get hd
    obtain ⟨u1, h1, q1⟩ := r1.get hk
    obtain ⟨u2, h2, q2⟩ := r2.get hv
    rw [List.getElem?_map, hy] at h1 h2
    cases h1
    cases h2
    exact laid_pair rf q1 q2 hp
theorem SR.pinned {f : Hp} {a : Addr} {o : Obj} {d : D} {δ2 : Ss} (s2 : SR κ io σ H δ2 ((some (.ref a), .val d) :: τ)) (rf : RelF κ f H (σ.zip δ2 ++ (some (.ref a), .val d) :: τ)) (q : f a = some (atO a o)) :
    SR κ io σ H δ2 ([(some (.ref a), .val (.gho (atO a o))), (some (.ref a), .val d)] ++ τ) := ⟨s2.len, ⟨f, (rf.val (.gho q)).perm (List.perm_middle (l₁ := σ.zip δ2)).symm⟩, s2.io⟩
theorem snd_it {p : Option Nat} {e : E} (hK : κ.K = X.K) (ha : PE X e' (tD κ io W (evE T p e))) : PI X tg e' (tDI κ io W .plain (evEs T p [e])) := by
  refine ⟨fun pins s σ H R I ⟨δ, τ, sr, h⟩ => ?_⟩
  have h2 : post κ io W σ τ (okI κ io σ τ .plain R) ((evE T p e δ).bind fun x s1 => .ok [x] s1) := by
    simp only [evEs] at h
    exact h
  refine thn (ha.run pins s σ H (fun x H1 => ((∃ a, x = .ref a ∧ (∃ xs, SqL X.K H1 a xs) ∧ R (Itl X.K a) H1) ∨ (∃ a, x = .ref a ∧ (∃ xs, SqT X.K H1 a xs) ∧ R (Itt X.K a) H1) ∨ ∃ z, x = .str z ∧ R (Its z) H1) ∨ ∃ d o t tr, x = .ref d ∧ DAt κ H1 d o t tr ∧ R (Ikz d o tr) H1) I ?_)
    fun v s1 ⟨x, H1, I1, r1, q1⟩ => q1.elim (iter_val I1 r1) fun ⟨d, o, t, tr, ex, da, q⟩ => by
      subst ex
      obtain rfl : v = Value.ref d := r1
      exact iter_zkeys I1 da q
  refine seqD (ρ := []) h2 sr fun r δ1 v H1 s1 a1 h1 => ?_
  obtain ⟨ds, δ2, xs, hf, hi, k⟩ := h1
  simp only [fzs] at hf
  split at hf
  · cases hf
  · rename_i d δ3 hd
    cases hf
    have s2 : SR κ io σ H1 δ2 ((some v, .val d) :: τ) := s1.fz1 a1 hd
    have m : (some v, Sl.val d) ∈ σ.zip δ2 ++ (some v, .val d) :: τ := by simp
    obtain ⟨f, rf, rp⟩ := rel_val s2.rel m
    unfold itemsD at hi
    split at hi <;> try (cases hi; done)
    all_goals first | cases ‹Ik.plain = _›; done | skip
    · rename_i e0
      cases e0
      cases hi
      cases rp with
      | lst q rs => exact .inl (.inl ⟨_, rfl, ⟨_, hK ▸ (q.mono rf.same).sq⟩, k [_] _ _ s2 (itd_list hK)⟩)
    · rename_i e0
      cases e0
      cases hi
      cases rp with
      | tup q rs => exact .inl (.inr (.inl ⟨_, rfl, ⟨_, hK ▸ sqT_mono rf.same q⟩, k [_] _ _ s2 (itd_tup hK)⟩))
    · rename_i e0
      cases e0
      cases hi
      obtain ⟨rfl, ok⟩ := rep_str rp
      exact .inl (.inr (.inr ⟨_, rfl, k [_] _ _ s2 (itd_str ok)⟩))
    · rename_i e0
      cases e0
      cases hi
      cases rp with
      | dct q n d0 ek r1 r2 =>
        exact .inr ⟨_, _, _, _, rfl, ⟨rf.same _ _ q, n, d0, ek ▸ r1.mono rf.same⟩, k _ _ _ (s2.pinned rf q) (itd_zkeys d0 (by rw [ek, List.length_map]))⟩
theorem snd_itm {p : Option Nat} {e : E} {elts : List Expr} {kk : Nat} {tpos apos cpos : Pos} (ha : PE X e' (tD κ io W (evE T p e))) (hbase : attributeBase e' "items" X.env (eval e' X.env) = eval e' X.env) (hline : (apos.endLine == cpos.line) = true) :
    PI X (.Tuple elts kk tpos) (.Call (.Attribute e' "items" apos) [] [] cpos) (tDI κ io W .itm (evEs T p [e])) := by
  refine ⟨fun pins s σ H R I ⟨δ, τ, sr, h⟩ => (pi_zitems (κ := κ) ha hbase hline).run pins s σ H R I ?_⟩
  have h2 : post κ io W σ τ (okI κ io σ τ .itm R) ((evE T p e δ).bind fun x s1 => .ok [x] s1) := by
    simp only [evEs] at h
    exact h
  refine seqD (ρ := []) h2 sr fun r δ1 v H1 s1 a1 h1 => ?_
  obtain ⟨ds, δ2, xs, hf, hi, k⟩ := h1
  simp only [fzs] at hf
  split at hf
  · cases hf
  · rename_i d δ3 hd
    cases hf
    have s2 : SR κ io σ H1 δ2 ((some v, .val d) :: τ) := s1.fz1 a1 hd
    have m : (some v, Sl.val d) ∈ σ.zip δ2 ++ (some v, .val d) :: τ := by simp
    obtain ⟨f, rf, rp⟩ := rel_val s2.rel m
    unfold itemsD at hi
    split at hi <;> try (cases hi; done)
    all_goals first | cases ‹Ik.itm = _›; done | skip
    rename_i e0
    cases e0
    cases hi
    cases rp with
    | dct q n d0 ek r1 r2 =>
      exact ⟨_, _, _, _, rfl, ⟨rf.same _ _ q, n, d0, ek ▸ r1.mono rf.same⟩, k _ _ _ (s2.pinned rf q) (itd_zitems d0 (by rw [ek, List.length_map]) (by rw [← r2.length, List.length_map]))⟩
theorem snd_vls {p : Option Nat} {e : E} {apos cpos : Pos} (ha : PE X e' (tD κ io W (evE T p e))) (hbase : attributeBase e' "values" X.env (eval e' X.env) = eval e' X.env) (hline : (apos.endLine == cpos.line) = true) :
    PI X tg (.Call (.Attribute e' "values" apos) [] [] cpos) (tDI κ io W .vls (evEs T p [e])) := by
  refine ⟨fun pins s σ H R I ⟨δ, τ, sr, h⟩ => (pi_zvals (κ := κ) ha hbase hline).run pins s σ H R I ?_⟩
  have h2 : post κ io W σ τ (okI κ io σ τ .vls R) ((evE T p e δ).bind fun x s1 => .ok [x] s1) := by
    simp only [evEs] at h
    exact h
  refine seqD (ρ := []) h2 sr fun r δ1 v H1 s1 a1 h1 => ?_
  obtain ⟨ds, δ2, xs, hf, hi, k⟩ := h1
  simp only [fzs] at hf
  split at hf
  · cases hf
  · rename_i d δ3 hd
    cases hf
    have s2 : SR κ io σ H1 δ2 ((some v, .val d) :: τ) := s1.fz1 a1 hd
    have m : (some v, Sl.val d) ∈ σ.zip δ2 ++ (some v, .val d) :: τ := by simp
    obtain ⟨f, rf, rp⟩ := rel_val s2.rel m
    unfold itemsD at hi
    split at hi <;> try (cases hi; done)
    all_goals first | cases ‹Ik.vls = _›; done | skip
    rename_i e0
    cases e0
    cases hi
    cases rp with
    | dct q n d0 ek r1 r2 =>
      exact ⟨_, _, _, _, rfl, ⟨rf.same _ _ q, n, d0, ek ▸ r1.mono rf.same⟩, k _ _ _ (s2.pinned rf q) (itd_zvals d0 (by rw [← r2.length, List.length_map]))⟩
theorem evEs_len {p : Option Nat} : ∀ {es : List E} {δ δ1 : Ss} {rs : List Rv}, evEs T p es δ = .ok rs δ1 → rs.length = es.length
  | [], δ, δ1, rs, h => by
    simp only [evEs] at h
    cases h
    rfl
  | e :: es, δ, δ1, rs, h => by
    simp only [evEs] at h
    cases he : evE T p e δ with
    | bad => rw [he] at h; simp [R.bind] at h
    | ex x s => rw [he] at h; simp [R.bind] at h
    | ok r s =>
      rw [he] at h
      simp only [R.bind] at h
      cases hs : evEs T p es s with
      | bad => rw [hs] at h; simp at h
      | ex x s => rw [hs] at h; simp at h
      | ok rs2 s2 =>
        rw [hs] at h
        cases h
        rw [List.length_cons, List.length_cons, evEs_len hs]
structure Got (κ : Kx) (io : Nat → V → Prop) (σ : L2.St) (H : Hp) (τ : List En) (k : Ik) (R : It → Hp → Prop) (n : Nat) (vs : List V) : Prop where
  ex : ∃ ds δ2 xs f, ds.length = n ∧ itemsD k ds = some xs ∧ RelF κ f H (σ.zip δ2 ++ (vals vs ds ++ τ)) ∧ Reps κ f vs ds ∧ SR κ io σ H δ2 (vals vs ds ++ τ) ∧ ∀ es J H, SR κ io σ H δ2 (es ++ τ) → ItD κ J es xs → R J H
theorem args_got {p : Option Nat} {es : List E} {k : Ik} {R : It → Hp → Prop} (h : post κ io W σ τ (okI κ io σ τ k R) (evEs T p es δ)) : post κ io W σ τ (okA κ io σ τ fun vs H => Got κ io σ H τ k R es.length vs) (evEs T p es δ) := by
  revert h
  cases he : evEs T p es δ with
  | bad => exact fun h => h
  | ex x δ1 => exact fun h => h
  | ok rs δ1 =>
    intro ⟨ds, δ2, xs, hf, hi, k⟩ vs H1 s1 a1
    have s2 := s1.fzs a1 hf
    obtain ⟨f, rf⟩ := s2.rel
    have hl : vs.length = ds.length := by rw [a1.length, fzs_length hf]
    exact ⟨ds, δ2, xs, f, by rw [fzs_length hf, evEs_len he], hi, rf, reps_of (L := σ.zip δ2) hl rf, s2, k⟩
theorem snd_rng1 {p : Option Nat} {e : E} {x : Str} {q : Pos} (hx : x = "range") (hg : Gl X x) (hm : X.mg x = none) (ha : PA X [a'] (tDA κ io W (evEs T p [e]))) (hs : starEach [a'] X.env = [(false, eval a' X.env)]) :
    PI X tg (.Call (.Name x q) [a'] [] pos) (tDI κ io W .rng (evEs T p [e])) := by
  subst hx
  refine ⟨fun pins s σ H R I ⟨δ, τ, sr, h⟩ => (pi_range1 hg hm (PA.imp ha fun σ H Q q => q) hs).run pins s σ H R I (?_ : tDA κ io W (evEs T p [e]) σ H _)⟩
  refine ⟨δ, τ, sr, ?_⟩
  have h2 := args_got h
  revert h2
  cases evEs T p [e] δ with
  | bad => exact fun h => h
  | ex x δ1 => exact fun h => h
  | ok rs δ1 =>
    intro h vs H1 s1 a1
    obtain ⟨ds, δ2, xs, f, hn, hi, rf, rr, s2, k⟩ := (h vs H1 s1 a1).ex
    unfold itemsD at hi
    split at hi <;> try (cases hi; done)
    all_goals first | cases ‹Ik.rng = _›; done | skip
    · split at hi
      · rename_i hb
        cases hi
        cases rr with
        | cons r t =>
          cases t
          cases r
          obtain ⟨b1, b2⟩ := big62_of hb
          exact ⟨_, rfl, b1, b2, k _ _ _ s2 itd_rng⟩
      · cases hi
    · simp at hn
    · simp at hn
theorem snd_rng2 {p : Option Nat} {e e2 : E} {x : Str} {q : Pos} (hx : x = "range") (hg : Gl X x) (hm : X.mg x = none) (ha : PA X [a', b'] (tDA κ io W (evEs T p [e, e2]))) (hs : starEach [a', b'] X.env = [(false, eval a' X.env), (false, eval b' X.env)]) (hs2 : starEach [b'] X.env = [(false, eval b' X.env)]) :
    PI X tg (.Call (.Name x q) [a', b'] [] pos) (tDI κ io W .rng (evEs T p [e, e2])) := by
  subst hx
  refine ⟨fun pins s σ H R I ⟨δ, τ, sr, h⟩ => (pi_range2 hg hm (PA.imp ha fun σ H Q q => q) hs hs2).run pins s σ H R I (?_ : tDA κ io W (evEs T p [e, e2]) σ H _)⟩
  refine ⟨δ, τ, sr, ?_⟩
  have h2 := args_got h
  revert h2
  cases evEs T p [e, e2] δ with
  | bad => exact fun h => h
  | ex x δ1 => exact fun h => h
  | ok rs δ1 =>
    intro h vs H1 s1 a1
    obtain ⟨ds, δ2, xs, f, hn, hi, rf, rr, s2, k⟩ := (h vs H1 s1 a1).ex
    unfold itemsD at hi
    split at hi <;> try (cases hi; done)
    all_goals first | cases ‹Ik.rng = _›; done | skip
    · simp at hn
    · split at hi
      · rename_i hb
        cases hi
        cases rr with
        | cons r t =>
          cases r
          cases t with
          | cons r t =>
            cases r
            cases t
            obtain ⟨b1, b2⟩ := big62_of hb.1
            obtain ⟨b3, b4⟩ := big62_of hb.2
            exact ⟨_, _, rfl, ⟨b1, b2, b3, b4⟩, k _ _ _ s2 itd_rng⟩
      · cases hi
    · simp at hn
theorem snd_rng3 {p : Option Nat} {e e2 e3 : E} {x : Str} {q : Pos} (hx : x = "range") (hg : Gl X x) (hm : X.mg x = none) (ha : PA X [a', b', c'] (tDA κ io W (evEs T p [e, e2, e3]))) (hs : starEach [a', b', c'] X.env = (false, eval a' X.env) :: starEach [b', c'] X.env) (hpl : (backTo pos (starEach [b', c'] X.env)).any (·.1) = false) :
    PI X tg (.Call (.Name x q) [a', b', c'] [] pos) (tDI κ io W .rng (evEs T p [e, e2, e3])) := by
  subst hx
  refine ⟨fun pins s σ H R I ⟨δ, τ, sr, h⟩ => (pi_range3 hg hm (PA.imp ha fun σ H Q q => q) hs hpl).run pins s σ H R I (?_ : tDA κ io W (evEs T p [e, e2, e3]) σ H _)⟩
  refine ⟨δ, τ, sr, ?_⟩
  have h2 := args_got h
  revert h2
  cases evEs T p [e, e2, e3] δ with
  | bad => exact fun h => h
  | ex x δ1 => exact fun h => h
  | ok rs δ1 =>
    intro h vs H1 s1 a1
    obtain ⟨ds, δ2, xs, f, hn, hi, rf, rr, s2, k⟩ := (h vs H1 s1 a1).ex
    unfold itemsD at hi
    split at hi <;> try (cases hi; done)
    all_goals first | cases ‹Ik.rng = _›; done | skip
    · simp at hn
    · simp at hn
    · split at hi
      · rename_i hb
        cases hi
        cases rr with
        | cons r t =>
          cases r
          cases t with
          | cons r t =>
            cases r
            cases t with
            | cons r t =>
              cases r
              cases t
              obtain ⟨b1, b2⟩ := big62_of hb.1
              obtain ⟨b3, b4⟩ := big62_of hb.2
              exact ⟨_, _, _, _, rfl, RgC.neg b1 b2 b3 b4, k _ _ _ s2 itd_rngC⟩
      · cases hi
def Itse (x : Str) : It := ⟨fun i _ => i < x.cps.size, fun i H v H' => ∃ T c, v = .ref T ∧ H T = none ∧ H' = upd H T (.tup [.int (i : Nat), .str ⟨#[c]⟩]) ∧ x.cps[i]? = some c, fun i _ => x.cps.size ≤ i⟩
theorem turn_enum_str {P : Program} {w : World} {K : PySem.W.Frag} {elts : List Expr} {kk : Nat} {tpos : Pos} (e it : Addr) (x : Str) (t : Tok) :
    Turn P w K (.Tuple elts kk tpos) (Itse x) [e, it] e (fun i h => (∃ old, IsEnum h e it ((i : Nat) : Int) old) ∧ h.IsStrIter it (strIterType x) x t i ∧ e ≠ it ∧ i ≤ x.cps.size) where
  mem := by simp
  obj := fun i h st b hb => by
    obtain ⟨⟨old, he⟩, ⟨o, ho, hc, hd⟩, _, _⟩ := st
    have e' : b = e ∨ b = it := by simpa using hb
    rcases e' with z | z
    · rw [z]; exact ⟨_, he, fun v q => nomatch q⟩
    · rw [z]; exact ⟨o, ho, fun v q => by rw [hd] at q; cases q⟩
  keep := fun i h h' st k => let ⟨⟨old, he⟩, ⟨o, ho, r⟩, hne, hle⟩ := st; ⟨⟨old, k e (by simp) _ he⟩, ⟨o, k it (by simp) o ho, r⟩, hne, hle⟩
  item := by
    intro X hP hw hK hc i pins s σ H E I hf st hg
    subst hP hw hK
    obtain ⟨⟨old, he⟩, hit, hne, hle⟩ := st
    have hel : e < s.heap.objs.size := Heap.lt_size he
    have hil : it < s.heap.objs.size := by obtain ⟨_, q, _⟩ := hit; exact Heap.lt_size q
    have D := Draws.text (prog := X.prog) (w := X.w) (A := X.A.in1) (I.ok.hd hc) it x t
    refine wpAny_pyNext_enum_itemC D he hit hg hne (by simpa using hne) fun u h' tk hu ho hit' hT hsz hk => ?_
    obtain ⟨c, u', hcx, rfl⟩ := hu
    refine ⟨_, rfl, wpAny_letOwnedTupleGo_enum (s := { s with heap := h', toks := tk + 1 }) ho fun h'' he' sb => ?_⟩
    have hT2 : h''.get? s.heap.objs.size = some { cls := .type "tuple", data := .seq #[.int i tk, .str ⟨#[c]⟩ u'] } := (sb.2 _ (Nat.ne_of_gt hel)).trans hT
    have new : ObjOk X.prog X.w (upd H s.heap.objs.size (.tup [.int (i : Nat), .str ⟨#[c]⟩])) h'' s.heap.objs.size (.tup [.int (i : Nat), .str ⟨#[c]⟩]) :=
      ⟨by show 2 ≤ sizeLine; decide, [.int i tk, .str ⟨#[c]⟩ u'], .cons ⟨_, rfl⟩ (.cons ⟨_, rfl⟩ .nil), ⟨_, hT2, rfl, _, rfl⟩⟩
    have I1 : Inv X pins σ (upd H s.heap.objs.size (.tup [.int (i : Nat), .str ⟨#[c]⟩])) { s with heap := h'', toks := tk + 1 } :=
      I.turnedNew (ch := [e, it]) (fun b ob hb q => (sb.2 b (fun z => hb (by simp [z]))).trans (hk b ob (fun z => hb (by simp [z])) (fun z => hb (by simp [z])) q)) hf (Nat.le_refl _) new
    refine ⟨.ref s.heap.objs.size, _, I1, rfl, ⟨_, c, rfl, I.hok.fresh (Nat.le_refl _), rfl, hcx⟩, ⟨⟨.str ⟨#[c]⟩ u', ?_⟩, ?_, hne, hg⟩, fun b hb => ?_⟩
    · have e1 : ((i + 1 : Nat) : Int) = (i : Int) + 1 := by omega
      rw [e1]; exact he'
    · obtain ⟨o, ho2, r⟩ := id hit'
      exact ⟨o, (sb.2 it (Ne.symm hne)).trans ho2, r⟩
    · have hb' : b < s.heap.objs.size := by
        have e' : b = e ∨ b = it := by simpa using hb
        rcases e' with z | z
        · rw [z]; exact hel
        · rw [z]; exact hil
      rw [upd_ne (Nat.ne_of_lt hb')]
      exact (hf b hb).1
  done := by
    intro X hP hw hK hc i pins s σ H E I hf st hg
    subst hP hw hK
    obtain ⟨⟨old, he⟩, hit, hne, hle⟩ := st
    obtain ⟨f0, f1, f2, f3, f4, f5⟩ := hf it (by simp)
    have D := Draws.text (prog := X.prog) (w := X.w) (A := X.A.in1) (I.ok.hd hc) it x t
    have hi : i = x.cps.size := Nat.le_antisymm hle hg
    subst hi
    exact wpAny_pyNext_enum_endD D he hit fun h' eb => ⟨rfl, I.turned (t' := s.toks) (fun b o hb q => eb b o hb q) f0 f1 f3 f4 f5⟩
  self := fun A i s Q E st h => let ⟨⟨_, he⟩, _⟩ := st; wpAny_pyIter_enum he h
theorem meets_enumerate_newT (l : Addr) (items : Array Value) (n : Nat) (dct : Option Addr) (sl : Array (Option Value)) :
    Meets (Builtin.«enumerate.__new__» ⟨[.type "enumerate", .ref l], []⟩) (fun _ R s => s.heap.get? l = some { cls := .type "tuple", dict := dct, data := .seq items n, slots := sl } ∧
      R (.ok (.ret (.ref (s.heap.push { cls := .type "tuple_iterator", data := .fields #[.ref l, .int 0 0] }).objs.size)))
        { s with heap := (s.heap.push { cls := .type "tuple_iterator", data := .fields #[.ref l, .int 0 0] }).push { cls := .type "enumerate", data := .fields #[.none, .bool false, .ref s.heap.objs.size, rawInt 0, .none, .none] } }) :=
  .of_wp fun prog w A R s h => by
    obtain ⟨hp, g, d, tk, os⟩ := s; obtain ⟨hl, h⟩ := h
    have hsub := sub_enumerate
    have hL : Heap.IsTuple (Shared.heap ⟨hp, g, d, tk, os⟩) l items := ⟨_, hl, rfl, n, rfl⟩
    wp_walk using AutoSeq1.wpAny_loadPart' hl
    refine wpAny_stack_any fun st => wpAny_pure ?_
    split
    · rename_i c _ _ _ _ _
      cases (c == Value.type "enumerate")
      · wp_walk using AutoSeq1.wpAny_loadPart' hl, wpAny_pyIter_tuple hL
        exact ⟨_, rfl, h⟩
      · wp_walk using AutoSeq1.wpAny_loadPart' hl, wpAny_pyIter_tuple hL
        exact ⟨_, rfl, h⟩
    · wp_walk using AutoSeq1.wpAny_loadPart' hl, wpAny_pyIter_tuple hL
      exact ⟨_, rfl, h⟩
theorem call_enumerate_tup {prog : Program} {w : World} {A : Around} {E : Value → Shared → Prop} {s : Shared} {l : Addr} {items : Array Value} {Q : Value → Shared → Prop} (hL : s.heap.IsTuple l items)
    (h : ∀ h', IsEnum h' (s.heap.objs.size + 1) s.heap.objs.size 0 .none → h'.IsTupleIter s.heap.objs.size l 0 → h'.objs.size = s.heap.objs.size + 2 →
      (∀ b o, s.heap.get? b = some o → h'.get? b = some o) → Q (.ref (s.heap.objs.size + 1)) { s with heap := h' }) :
    wpAny (model prog w) A (call (.type "enumerate") [.ref l]) Q E s := by
  obtain ⟨⟨c, dct, dt, sl⟩, hl, hc, n, hd⟩ := hL
  replace hc : c = .type "tuple" := hc
  replace hd : dt = .seq items n := hd
  subst hc hd
  refine callType_new F.called_enumerate (by decide) (F.typeCall_enumerate_1 _) (F.newCall_enumerate_1 _) (fun obj => F.args_object_init_2 obj _) F.entry_enumerate_new
    (meets_enumerate_newT l items n dct sl) ⟨hl, ?_⟩
  have hz : (s.heap.push { cls := .type "tuple_iterator", data := .fields #[.ref l, .int 0 0] }).objs.size = s.heap.objs.size + 1 := Heap.size_push ..
  show _ ∧ _
  rw [hz]
  have he : IsEnum ((s.heap.push { cls := .type "tuple_iterator", data := .fields #[.ref l, .int 0 0] }).push
      { cls := .type "enumerate", data := .fields #[.none, .bool false, .ref s.heap.objs.size, rawInt 0, .none, .none] }) (s.heap.objs.size + 1) s.heap.objs.size 0 .none := by
    have := Heap.get?_push_size (s.heap.push { cls := .type "tuple_iterator", data := .fields #[.ref l, .int 0 0] })
      (o := { cls := .type "enumerate", data := .fields #[.none, .bool false, .ref s.heap.objs.size, rawInt 0, .none, .none] }) rfl
    rw [hz] at this; exact this
  refine ⟨⟨_, he, rfl⟩, h _ he ⟨_, Heap.get?_push_of_some _ (Heap.get?_push_size _ rfl), rfl, rfl⟩ (by rw [Heap.size_push, hz]) fun b o x => Heap.get?_push_of_some _ (Heap.get?_push_of_some _ x)⟩
def Itet (K : PySem.W.Frag) (a : Addr) (n : Nat) : It :=
  ⟨fun i H => ∃ (xs : List V) (x : V), SqT K H a xs ∧ xs.length = n ∧ xs[i]? = some x, fun i H v H' => ∃ T x, v = .ref T ∧ H T = none ∧ H' = upd H T (.tup [.int (i : Nat), x]) ∧ ∀ xs, SqT K H a xs → xs[i]? = some x, fun i H => ∃ xs : List V, SqT K H a xs ∧ xs.length = n ∧ xs.length ≤ i⟩
theorem turn_enum_tup {P : Program} {w : World} {K : PySem.W.Frag} {elts : List Expr} {kk : Nat} {tpos : Pos} (a e it : Addr) (n : Nat) :
    Turn P w K (.Tuple elts kk tpos) (Itet K a n) [e, it] e (fun i h => (∃ old, IsEnum h e it ((i : Nat) : Int) old) ∧ h.IsTupleIter it a i ∧ e ≠ it ∧ i ≤ n) where
  mem := by simp
  obj := fun i h st b hb => by
    obtain ⟨⟨old, he⟩, ⟨o, ho, hc, hd⟩, _⟩ := st
    have e' : b = e ∨ b = it := by simpa using hb
    rcases e' with z | z
    · rw [z]; exact ⟨_, he, fun v q => nomatch q⟩
    · rw [z]; exact ⟨o, ho, fun v q => by rw [hd] at q; cases q⟩
  keep := fun i h h' st k => let ⟨⟨old, he⟩, hi, hne, hle⟩ := st; ⟨⟨old, k e (by simp) _ he⟩, hi.at fun o q => k it (by simp) o q, hne, hle⟩
  item := by
    intro X hP hw hK hc i pins s σ H E I hf st hg
    subst hP hw hK
    obtain ⟨⟨old, he⟩, hit, hne, hle⟩ := st
    obtain ⟨xs, x, hq, hxn, hx⟩ := hg
    obtain ⟨its, rv, p, hz⟩ := I.tuple hq
    obtain ⟨u, hu, ru⟩ := rv.get hx
    have hel : e < s.heap.objs.size := Heap.lt_size he
    have hil : it < s.heap.objs.size := by obtain ⟨_, q, _⟩ := hit; exact Heap.lt_size q
    have hea : e ≠ a := fun z => by
      obtain ⟨o, ho, hc2, _⟩ := id p
      rw [← z] at ho
      have e1 := Option.some.inj (ho.symm.trans he)
      rw [e1] at hc2
      exact absurd (Value.type.inj hc2) (by decide)
    have hai : a ≠ it := fun z => by
      obtain ⟨o, ho, hc2, _⟩ := id p
      obtain ⟨o', ho', hc3, _⟩ := id hit
      rw [z] at ho
      have e1 := Option.some.inj (ho.symm.trans ho')
      rw [e1, hc3] at hc2
      exact absurd (Value.type.inj hc2) (by decide)
    have D := Draws.tuple (prog := X.prog) (w := X.w) (A := X.A.in1) (I.ok.hd hc) it a hai its.toArray
    have hlt : i < its.toArray.size := by
      have := (List.getElem?_eq_some_iff.mp hu).1
      rw [List.size_toArray]
      exact this
    refine wpAny_pyNext_enum_itemC D he ⟨hit, p⟩ hlt hne (by simp [hne, hea]) fun u' h' tk hu' ho hit' hT hsz hk => ?_
    have eu : u' = u := by
      have h1 : its[i]? = some u' := by simpa using hu'
      rw [h1] at hu
      exact Option.some.inj hu
    subst eu
    refine ⟨_, rfl, wpAny_letOwnedTupleGo_enum (s := { s with heap := h', toks := tk + 1 }) ho fun h'' he' sb => ?_⟩
    have hT2 : h''.get? s.heap.objs.size = some { cls := .type "tuple", data := .seq #[.int i tk, u'] } := (sb.2 _ (Nat.ne_of_gt hel)).trans hT
    have new : ObjOk X.prog X.w (upd H s.heap.objs.size (.tup [.int (i : Nat), x])) h'' s.heap.objs.size (.tup [.int (i : Nat), x]) :=
      ⟨by show 2 ≤ sizeLine; decide, [.int i tk, u'], .cons ⟨_, rfl⟩ (.cons ru .nil), ⟨_, hT2, rfl, _, rfl⟩⟩
    have I1 : Inv X pins σ (upd H s.heap.objs.size (.tup [.int (i : Nat), x])) { s with heap := h'', toks := tk + 1 } :=
      I.turnedNew (ch := [e, it]) (fun b ob hb q => (sb.2 b (fun z => hb (by simp [z]))).trans (hk b ob (fun z => hb (by simp [z])) (fun z => hb (by simp [z])) q)) hf (Nat.le_refl _) new
    refine ⟨.ref s.heap.objs.size, _, I1, rfl, ⟨_, x, rfl, I.hok.fresh (Nat.le_refl _), rfl, fun ys hy => by rw [I.tuple_inj hy hq]; exact hx⟩, ⟨⟨u', ?_⟩, ?_, hne, ?_⟩, fun b hb => ?_⟩
    · have e1 : ((i + 1 : Nat) : Int) = (i : Int) + 1 := by omega
      rw [e1]; exact he'
    · obtain ⟨o, ho2, r⟩ := id hit'.1
      exact ⟨o, (sb.2 it (Ne.symm hne)).trans ho2, r⟩
    · have := (List.getElem?_eq_some_iff.mp hx).1
      omega
    · have hb' : b < s.heap.objs.size := by
        have e' : b = e ∨ b = it := by simpa using hb
        rcases e' with z | z
        · rw [z]; exact hel
        · rw [z]; exact hil
      rw [upd_ne (Nat.ne_of_lt hb')]
      exact (hf b hb).1
  done := by
    intro X hP hw hK hc i pins s σ H E I hf st hg
    subst hP hw hK
    obtain ⟨⟨old, he⟩, hit, hne, hle⟩ := st
    obtain ⟨xs, hq, hxn, hx⟩ := hg
    obtain ⟨its, rv, p, hz⟩ := I.tuple hq
    obtain ⟨f0, f1, f2, f3, f4, f5⟩ := hf it (by simp)
    have hai : a ≠ it := fun z => by
      obtain ⟨o, ho, hc2, _⟩ := id p
      obtain ⟨o', ho', hc3, _⟩ := id hit
      rw [z] at ho
      have e1 := Option.some.inj (ho.symm.trans ho')
      rw [e1, hc3] at hc2
      exact absurd (Value.type.inj hc2) (by decide)
    have D := Draws.tuple (prog := X.prog) (w := X.w) (A := X.A.in1) (I.ok.hd hc) it a hai its.toArray
    have hl := rv.length
    have hi : i = its.toArray.size := by rw [List.size_toArray]; omega
    exact wpAny_pyNext_enum_endD D he ⟨by rw [← hi]; exact hit, p⟩ fun h' eb => ⟨rfl, I.turned (t' := s.toks) (fun b o hb q => eb b o hb q) f0 f1 f3 f4 f5⟩
  self := fun A i s Q E st h => let ⟨⟨_, he⟩, _⟩ := st; wpAny_pyIter_enum he h
def iEnumX (K : PySem.W.Frag) (ta : TA) : TI := fun σ H R => ta σ H fun vs H1 => (∃ a xs, vs = [.ref a] ∧ SqL K H1 a xs ∧ R (Ite K a) H1) ∨ (∃ x, vs = [.str x] ∧ R (Itse x) H1) ∨ ∃ a xs, vs = [.ref a] ∧ SqT K H1 a xs ∧ R (Itet K a xs.length) H1
theorem pi_enumX {X : Cx} {e : Expr} {ta : TA} {p pos tpos : Pos} {elts : List Expr} {kk : Nat} (hg : Gl X "enumerate") (hm : X.mg "enumerate" = none) (ha : PA X [e] ta) (hs : starEach [e] X.env = [(false, eval e X.env)] := by rfl) :
    PI X (.Tuple elts kk tpos) (.Call (.Name "enumerate" p) [e] [] pos) (iEnumX X.K ta) := by
  refine ⟨fun pins s σ H R I h => ?_⟩
  refine Call_ (ld_blt I hg hm boot_enumerate (PyProof.Rows.callWith_type1 (thn (ha.run pos pins s σ H _ I h) fun us s1 ⟨vs, H1, I1, r1, q1⟩ => ?_) hs rfl))
  rcases q1 with ⟨a, xs, ex, hq, q⟩ | ⟨x, ex, q⟩ | ⟨a, xs, ex, hq, q⟩
  rotate_left 2
  · subst ex
    cases r1 with
    | cons r rr =>
      cases rr
      cases r
      obtain ⟨its, rv, p', hz⟩ := I1.tuple hq
      refine call_enumerate_tup p' fun h' he hit hsz hk => wpAny_pyIter_enum he ?_
      have I2 : Inv X pins σ H1 { s1 with heap := h' } := I1.kept (t' := s1.toks) hk
      refine ⟨s1.heap.objs.size + 1, [s1.heap.objs.size + 1, s1.heap.objs.size], _, _, H1, rfl, I2, turn_enum_tup a (s1.heap.objs.size + 1) s1.heap.objs.size xs.length, ⟨⟨.none, he⟩, hit, Nat.succ_ne_self _, Nat.zero_le _⟩, fun b hb => ?_, q⟩
      have e' : b = s1.heap.objs.size + 1 ∨ b = s1.heap.objs.size := by simpa using hb
      have hle : s1.heap.objs.size ≤ b := by
        rcases e' with z | z
        · rw [z]; exact Nat.le_add_right _ _
        · rw [z]; exact Nat.le_refl _
      exact I1.fpOk hle (I1.hok.fresh hle)
  · subst ex
    cases r1 with
    | cons r rr =>
      cases rr
      cases r
      obtain ⟨its, rv, p', hz⟩ := I1.list hq
      refine call_enumerate_list p'.isList fun h' he hit hsz hk => wpAny_pyIter_enum he ?_
      have I2 : Inv X pins σ H1 { s1 with heap := h' } := I1.kept (t' := s1.toks) hk
      refine ⟨s1.heap.objs.size + 1, [s1.heap.objs.size + 1, s1.heap.objs.size], _, _, H1, rfl, I2, turn_enum a (s1.heap.objs.size + 1) s1.heap.objs.size, ⟨⟨.none, he⟩, hit, Nat.succ_ne_self _⟩, fun b hb => ?_, q⟩
      have e' : b = s1.heap.objs.size + 1 ∨ b = s1.heap.objs.size := by simpa using hb
      have hle : s1.heap.objs.size ≤ b := by
        rcases e' with z | z
        · rw [z]; exact Nat.le_add_right _ _
        · rw [z]; exact Nat.le_refl _
      exact I1.fpOk hle (I1.hok.fresh hle)
  · subst ex
    cases r1 with
    | cons r rr =>
      cases rr
      obtain ⟨t, rfl⟩ := r
      refine call_enumerate_str fun h' he hit hsz hk => wpAny_pyIter_enum he ?_
      have I2 : Inv X pins σ H1 { s1 with heap := h' } := I1.kept (t' := s1.toks) hk
      refine ⟨s1.heap.objs.size + 1, [s1.heap.objs.size + 1, s1.heap.objs.size], _, _, H1, rfl, I2, turn_enum_str (s1.heap.objs.size + 1) s1.heap.objs.size x t, ⟨⟨.none, he⟩, hit, Nat.succ_ne_self _, Nat.zero_le _⟩, fun b hb => ?_, q⟩
      have e' : b = s1.heap.objs.size + 1 ∨ b = s1.heap.objs.size := by simpa using hb
      have hle : s1.heap.objs.size ≤ b := by
        rcases e' with z | z
        · rw [z]; exact Nat.le_add_right _ _
        · rw [z]; exact Nat.le_refl _
      exact I1.fpOk hle (I1.hok.fresh hle)
theorem itd_enum_tup {K : PySem.W.Frag} (hK : κ.K = K) {a : Addr} {ds : List D} : ItD κ (Itet K a ds.length) [(some (.ref a), .val (.tup ds))] (enumD 0 ds) := by
  refine ⟨fun H L i r h => ?_, fun H L i r h => ?_, fun H L i x H' d r hd ⟨p, y, ex, hp, e, h⟩ => ?_⟩
  · obtain ⟨f, vs, rf, q, rs⟩ := sqt_of hK r List.mem_cons_self
    rw [enumD_len] at h
    exact ⟨vs, vs[i]'(by rw [rs.length]; exact h), q, rs.length, by simp⟩
  · obtain ⟨f, vs, rf, q, rs⟩ := sqt_of hK r List.mem_cons_self
    rw [enumD_len] at h
    exact ⟨vs, q, rs.length, by rw [rs.length]; exact h⟩
  · subst e ex
    obtain ⟨f, vs, rf, q, rs⟩ := sqt_of hK r List.mem_cons_self
    obtain ⟨e, he, rfl⟩ := enumD_get hd
    obtain ⟨v, hv, rv⟩ := rs.get he
    have e2 := h vs q
    rw [hv] at e2
    cases e2
    have := laid_pair (x := .int (i : Nat)) (d := .int ((0 + i : Nat) : Int)) rf (by rw [Nat.zero_add]; exact .int _) rv hp
    exact this
theorem itd_enum_str {t : List Nat} (ok : ∀ c ∈ t, c < 1114112) {es : List En} : ItD κ (Itse ⟨t.toArray⟩) es (enumD 0 (t.map fun c => .str [c])) := by
  refine ⟨fun H L i r h => ?_, fun H L i r h => ?_, fun H L i x H' d r hd ⟨p, c, ex, hp, e, hc⟩ => ?_⟩
  · rw [enumD_len] at h
    simpa [Itse] using h
  · rw [enumD_len] at h
    simpa [Itse] using h
  · subst e ex
    obtain ⟨e, he, rfl⟩ := enumD_get hd
    rw [List.getElem?_map] at he
    have hc2 : t[i]? = some c := by simpa using hc
    rw [hc2] at he
    cases he
    obtain ⟨f, rf⟩ := r
    have sm : Same H (upd H p (.tup [.int (i : Nat), .str ⟨#[c]⟩])) := fun b o q => by rw [upd_ne (ne_of_none q hp)]; exact q
    rw [Nat.zero_add]
    exact ⟨_, rf.laidV hp (.tup (.inl (.inl upd_same)) (.cons (.int _) (.cons (.str [c] fun y hy => by
      have : y = c := by simpa using hy
      subst this
      exact ok _ (List.mem_of_getElem? hc2)) .nil)))⟩
theorem snd_enum {p : Option Nat} {e : E} {x : Str} {q tpos : Pos} {elts : List Expr} {kk : Nat} (hK : κ.K = X.K) (hx : x = "enumerate") (hg : Gl X x) (hm : X.mg x = none) (ha : PA X [a'] (tDA κ io W (evEs T p [e]))) (hs : starEach [a'] X.env = [(false, eval a' X.env)]) :
    PI X (.Tuple elts kk tpos) (.Call (.Name x q) [a'] [] pos) (tDI κ io W .enm (evEs T p [e])) := by
  subst hx
  refine ⟨fun pins s σ H R I ⟨δ, τ, sr, h⟩ => (pi_enumX hg hm (PA.imp ha fun σ H Q q => q) hs).run pins s σ H R I (?_ : tDA κ io W (evEs T p [e]) σ H _)⟩
  refine ⟨δ, τ, sr, ?_⟩
  have h2 := args_got h
  revert h2
  cases evEs T p [e] δ with
  | bad => exact fun h => h
  | ex x δ1 => exact fun h => h
  | ok rs δ1 =>
    intro h vs H1 s1 a1
    obtain ⟨ds, δ2, xs, f, hn, hi, rf, rr, s2, k⟩ := (h vs H1 s1 a1).ex
    unfold itemsD at hi
    split at hi <;> try (cases hi; done)
    all_goals first | cases ‹Ik.enm = _›; done | skip
    · cases hi
      cases rr with
      | cons r t =>
        cases t
        cases r with
        | lst q rs => exact .inl ⟨_, _, rfl, hK ▸ (q.mono rf.same).sq, k [_] _ _ s2 (itd_enum hK)⟩
    · cases hi
      cases rr with
      | cons r t =>
        cases t
        obtain ⟨rfl, ok⟩ := rep_str r
        exact .inr (.inl ⟨_, rfl, k [_] _ _ s2 (itd_enum_str ok)⟩)
    · cases hi
      cases rr with
      | cons r t =>
        cases t
        cases r with
        | tup q rs =>
          have hl := rs.length
          exact .inr (.inr ⟨_, _, rfl, hK ▸ (sqT_mono rf.same q), by rw [hl]; exact k [_] _ _ s2 (itd_enum_tup hK)⟩)
theorem snd_zip {p : Option Nat} {e e2 : E} {x : Str} {q tpos : Pos} {elts : List Expr} {kk : Nat} (hK : κ.K = X.K) (hx : x = "zip") (hg : Gl X x) (hm : X.mg x = none) (ha : PA X [a', b'] (tDA κ io W (evEs T p [e, e2]))) (hs : starEach [a', b'] X.env = (false, eval a' X.env) :: starEach [b'] X.env) (hpl : (backTo pos (starEach [b'] X.env)).any (·.1) = false) :
    PI X (.Tuple elts kk tpos) (.Call (.Name x q) [a', b'] [] pos) (tDI κ io W .zip (evEs T p [e, e2])) := by
  subst hx
  refine ⟨fun pins s σ H R I ⟨δ, τ, sr, h⟩ => (pi_zip hg hm (PA.imp ha fun σ H Q q => q) hs hpl).run pins s σ H R I (?_ : tDA κ io W (evEs T p [e, e2]) σ H _)⟩
  refine ⟨δ, τ, sr, ?_⟩
  have h2 := args_got h
  revert h2
  cases evEs T p [e, e2] δ with
  | bad => exact fun h => h
  | ex x δ1 => exact fun h => h
  | ok rs δ1 =>
    intro h vs H1 s1 a1
    obtain ⟨ds, δ2, xs, f, hn, hi, rf, rr, s2, k⟩ := (h vs H1 s1 a1).ex
    unfold itemsD at hi
    split at hi <;> try (cases hi; done)
    all_goals first | cases ‹Ik.zip = _›; done | skip
    cases hi
    cases rr with
    | cons r t =>
      cases t with
      | cons r2 t =>
        cases t
        cases r with
        | lst q rs =>
          cases r2 with
          | lst q2 rs2 => exact ⟨_, _, _, _, rfl, hK ▸ (q.mono rf.same).sq, hK ▸ (q2.mono rf.same).sq, k [_, _] _ _ s2 (itd_zip hK)⟩
end
end PyV
set_option Elab.async false
set_option linter.all false
set_option maxRecDepth 100000
set_option maxHeartbeats 2000000
namespace PyV
open PySem PySem.Spec PyProof.Rows L2

section
variable {κ : Kx} {io : Nat → V → Prop} {W : WX} {σ : L2.St} {f H : Hp} {δ δ' : Ss} {τ τ' ρ : List En} {Q : VK} {T : Tab} {X : Cx} {a' b' e' c' tg : Expr} {es' : List Expr} {pos : Pos} {pins : List (Addr × Obj)} {s : Shared} {p : Option Nat}
def IoP (io : Nat → V → Prop) (p : Option Nat) : Prop := ∀ j v, io j v → gdP p j
theorem SR.store {i : Nat} {v : V} {x : Sl} (hp : IoP io p) (s : SR κ io σ H δ ((some v, x) :: τ)) (h : stS p i x δ = some δ') : SR κ io (σ.set i (some v)) H δ' τ := by
  unfold stS at h
  split at h
  · cases h
  · rename_i hn
    cases h
    have h1 : ¬ gdP p i := fun z => hn (.inl z)
    have hlt : i < δ.length := by
      rcases Nat.lt_or_ge i δ.length with q | q
      · exact q
      · exact absurd (.inr q) hn
    refine ⟨by rw [List.length_set, List.length_set]; exact s.len, ?_, fun j w e => ?_⟩
    · obtain ⟨L, p1, _, p3⟩ := zip_split s.len hlt τ
      have r : Rel κ H ((some v, x) :: L) := (s.rel.perm (List.perm_middle.trans ((p1.cons _).trans (List.Perm.swap ..)))).tail
      exact r.perm (p3 (some v) x).symm
    · have hne : i ≠ j := fun z => h1 (by rw [z]; exact hp j w e)
      rw [List.getElem?_set_ne hne]
      exact s.io j w e
theorem stS_len {i : Nat} {x : Sl} (h : stS p i x δ = some δ') : δ'.length = δ.length := by
  unfold stS at h
  split at h
  · cases h
  · cases h
    exact List.length_set ..
mutual
def tvs : PyV.T → List Nat
  | .v i => [i]
  | .tup ts => tvss ts
def tvss : List PyV.T → List Nat
  | [] => []
  | t :: ts => tvs t ++ tvss ts
end
def OutS (vs : List Nat) (σ σ' : L2.St) : Prop := σ'.length = σ.length ∧ ∀ i, i ∉ vs → σ'[i]? = σ[i]?
theorem OutS.trans {vs ws : List Nat} {σ σ1 σ2 : L2.St} (h : OutS vs σ σ1) (k : OutS ws σ1 σ2) : OutS (vs ++ ws) σ σ2 :=
  ⟨k.1.trans h.1, fun i hi => by
    rw [List.mem_append, not_or] at hi
    rw [k.2 i hi.2, h.2 i hi.1]⟩
def gD (κ : Kx) (io : Nat → V → Prop) (p : Option Nat) (t : PyV.T) : TG := fun v σ H Q => ∃ d δ δ' τ, SR κ io σ H δ ((some v, .val d) :: τ) ∧ asgT p t d δ = some δ' ∧ ∀ σ' H', SR κ io σ' H' δ' τ → OutS (tvs t) σ σ' → Q σ' H'
def gsD (κ : Kx) (io : Nat → V → Prop) (p : Option Nat) (ts : List PyV.T) : TGs := fun vs σ H Q => ∃ ds δ δ' τ, vs.length = ds.length ∧ SR κ io σ H δ (argE none vs ds ++ τ) ∧ asgTs p ts ds δ = some δ' ∧ ∀ σ' H', SR κ io σ' H' δ' τ → OutS (tvss ts) σ σ' → Q σ' H'
theorem PG.imp {t t' : TG} (h : PG X tg t) (k : ∀ v σ H Q, t' v σ H Q → t v σ H Q) : PG X tg t' := ⟨fun pins s σ H v u Q I r q => h.run pins s σ H v u Q I r (k v σ H Q q)⟩
theorem PGs.imp {t t' : TGs} {ts : List Expr} (h : PGs X ts t) (k : ∀ v σ H Q, t' v σ H Q → t v σ H Q) : PGs X ts t' := ⟨fun pins s σ H v u Q I r q => h.run pins s σ H v u Q I r (k v σ H Q q)⟩
theorem snd_tv {i : Nat} {x : Str} (hp : IoP io p) (hN : X.N.Nodup) (hi : X.N[i]? = some x) (hx : Loc X.env.scope x) (hf : X.fn x = true ∨ X.env.scope.names.lookup x = some .local) : PG X (.Name x pos) (gD κ io p (.v i)) :=
  PG.imp (pg_name hN hi hx hf) fun v σ H Q ⟨d, δ, δ', τ, s, h, k⟩ => k _ _ (s.store hp (by simpa only [asgT] using h)) ⟨List.length_set .., fun j hj => List.getElem?_set_ne (fun z => hj (by simp [tvs, z]))⟩
theorem snd_tnil : PGs X [] (gsD κ io p []) := PGs.imp pgs_nil fun vs σ H Q ⟨ds, δ, δ', τ, hl, s, h, k⟩ => by
  cases ds with
  | nil =>
    simp only [asgTs] at h
    cases h
    have hv : vs = [] := List.eq_nil_of_length_eq_zero hl
    subst hv
    exact ⟨rfl, k _ _ s ⟨rfl, fun _ _ => rfl⟩⟩
  | cons d ds => simp [asgTs] at h
theorem snd_tcons {t : PyV.T} {ts : List PyV.T} (h1 : PG X a' (gD κ io p t)) (h2 : PGs X es' (gsD κ io p ts)) (hs : (assignEach (a' :: es') X.env).map (·.2) = assign a' X.env :: (assignEach es' X.env).map (·.2)) : PGs X (a' :: es') (gsD κ io p (t :: ts)) :=
  PGs.imp (pgs_cons h1 h2 hs) fun vs σ H Q ⟨ds, δ, δ', τ, hl, s, h, k⟩ => by
    cases ds with
    | nil => simp [asgTs] at h
    | cons d ds =>
      cases vs with
      | nil => simp at hl
      | cons v vs =>
        simp only [asgTs] at h
        split at h
        · cases h
        · rename_i δ1 h1
          exact ⟨v, vs, rfl, d, δ, δ1, argE none vs ds ++ τ, s, h1, fun σ1 H1 s1 o1 => ⟨ds, δ1, δ', τ, by simpa using hl, s1, h, fun σ2 H2 s2 o2 => k σ2 H2 s2 (by simpa [tvss] using o1.trans o2)⟩⟩
theorem rel_more {L : List En} : ∀ {vs : List V} {ds : List D}, RelF κ f H L → Reps κ f vs ds → RelF κ f H (argE none vs ds ++ L)
  | _, _, r, .nil => r
  | _, _, r, .cons q t => (rel_more r t).val q
theorem asgTs_len : ∀ {ts : List PyV.T} {ds : List D} {δ δ' : Ss}, asgTs p ts ds δ = some δ' → ts.length = ds.length
  | [], [], _, _, _ => rfl
  | [], _ :: _, _, _, h => by simp [asgTs] at h
  | _ :: _, [], _, _, h => by simp [asgTs] at h
  | t :: ts, d :: ds, δ, δ', h => by
    simp only [asgTs] at h
    split at h
    · cases h
    · rw [List.length_cons, List.length_cons, asgTs_len h]
theorem PG.or {t t' : TG} (h : PG X tg t) (h' : PG X tg t') : PG X tg (fun v σ H Q => t v σ H Q ∨ t' v σ H Q) := ⟨fun pins s σ H v u Q I r q => q.elim (h.run pins s σ H v u Q I r) (h'.run pins s σ H v u Q I r)⟩
theorem snd_ttup {ts : List PyV.T} {k : Nat} (hK : κ.K = X.K) (hc : X.calm = true) (h : PGs X es' (gsD κ io p ts)) (hn : (assignEach es' X.env).length = ts.length) (hst : (assignEach es' X.env).findIdx? (·.1) = none) : PG X (.Tuple es' k pos) (gD κ io p (.tup ts)) :=
  PG.imp (PG.or (pg_tup hc h hn hst) (pg_lst hc h hn hst)) fun v σ H Q ⟨d, δ, δ', τ, s, h, k⟩ => by
    cases d with
    | tup ds =>
      simp only [asgT] at h
      obtain ⟨f, rf, q⟩ := rel_val s.rel (x := v) (d := .tup ds) (by simp)
      cases q with
      | @tup a vs _ q rs =>
        refine .inl ⟨_, _, rfl, hK ▸ sqT_mono rf.same q, by rw [rs.length, ← asgTs_len h], ds, δ, δ', τ, rs.length, ⟨s.len, ?_, s.io⟩, h, k⟩
        have r2 : RelF κ f H (argE none vs ds ++ (σ.zip δ ++ τ)) := rel_more ((rf.perm List.perm_middle).tail) rs
        exact Rel.perm (List.perm_append_comm_assoc ..) ⟨f, r2⟩
    | lst ds =>
      simp only [asgT] at h
      obtain ⟨f, rf, q⟩ := rel_val s.rel (x := v) (d := .lst ds) (by simp)
      cases q with
      | @lst a vs _ q rs =>
        refine .inr ⟨_, _, rfl, hK ▸ (q.mono rf.same).sq, by rw [rs.length, ← asgTs_len h], ds, δ, δ', τ, rs.length, ⟨s.len, ?_, s.io⟩, h, k⟩
        have r2 : RelF κ f H (argE none vs ds ++ (σ.zip δ ++ τ)) := rel_more ((rf.perm List.perm_middle).tail) rs
        exact Rel.perm (List.perm_append_comm_assoc ..) ⟨f, r2⟩
    | _ => simp [asgT] at h
theorem PS.imp {st : Stmt} {t t' : TS} (h : PS X st t) (k : ∀ D σ H, t' D σ H → t D σ H) : PS X st t' := ⟨fun pins s σ H D I q => h.run pins s σ H D I (k D σ H q)⟩
theorem PSs.imp {st : List Stmt} {t t' : TS} (h : PSs X st t) (k : ∀ D σ H, t' D σ H → t D σ H) : PSs X st t' := ⟨fun pins s σ H D I q => h.run pins s σ H D I (k D σ H q)⟩
theorem seqS {α : Type} {den : Ss → R Rv} {f : Rv → Ss → R Fl} {D : Ends} {K : V → Hp → Prop} (hp : postS κ io W τ D ((den δ).bind f)) (hs : SR κ io σ H δ (ρ ++ τ))
    (k : ∀ r δ1 v H1, SR κ io σ H1 δ1 (ent r v :: (ρ ++ τ)) → AliOk σ r v → postS κ io W τ D (f r δ1) → K v H1) : tD κ io W den σ H K := by
  refine ⟨δ, ρ ++ τ, hs, ?_⟩
  cases e : den δ with
  | ok r δ1 =>
    rw [e] at hp
    exact fun v H1 s1 a => k r δ1 v H1 s1 a hp
  | ex x δ1 =>
    rw [e] at hp
    exact fun cls d H1 s1 xr => hp cls d σ H1 s1.cut xr
  | bad =>
    rw [e] at hp
    exact hp
theorem seqST {den : Ss → R Bool} {f : Bool → Ss → R Fl} {D : Ends} {K : Bool → Hp → Prop} (hp : postS κ io W τ D ((den δ).bind f)) (hs : SR κ io σ H δ (ρ ++ τ))
    (k : ∀ b δ1 H1, SR κ io σ H1 δ1 (ρ ++ τ) → postS κ io W τ D (f b δ1) → K b H1) : tDT κ io W den σ H K := by
  refine ⟨δ, ρ ++ τ, hs, ?_⟩
  cases e : den δ with
  | ok r δ1 =>
    rw [e] at hp
    exact fun H1 s1 => k r δ1 H1 s1 hp
  | ex x δ1 =>
    rw [e] at hp
    exact fun cls d H1 s1 xr => hp cls d σ H1 s1.cut xr
  | bad =>
    rw [e] at hp
    exact hp
theorem seqSA {den : Ss → R (List Rv)} {f : List Rv → Ss → R Fl} {D : Ends} {K : List V → Hp → Prop} (hp : postS κ io W τ D ((den δ).bind f)) (hs : SR κ io σ H δ (ρ ++ τ))
    (k : ∀ rs δ1 vs H1, SR κ io σ H1 δ1 (ents rs vs ++ (ρ ++ τ)) → Alis σ rs vs → postS κ io W τ D (f rs δ1) → K vs H1) : tDA κ io W den σ H K := by
  refine ⟨δ, ρ ++ τ, hs, ?_⟩
  cases e : den δ with
  | ok r δ1 =>
    rw [e] at hp
    exact fun vs H1 s1 a => k r δ1 vs H1 s1 a hp
  | ex x δ1 =>
    rw [e] at hp
    exact fun cls d H1 s1 xr => hp cls d σ H1 s1.cut xr
  | bad =>
    rw [e] at hp
    exact hp
theorem SR.sl1 {r : Rv} {v : V} {x : Sl} (s : SR κ io σ H δ (ent r v :: τ)) (a : AliOk σ r v) (h : slR δ r = some (x, δ')) : SR κ io σ H δ' ((some v, x) :: τ) := by
  cases r with
  | own d =>
    simp only [slR, Option.some.injEq, Prod.mk.injEq] at h
    obtain ⟨rfl, rfl⟩ := h
    exact s
  | val d =>
    simp only [slR, Option.some.injEq, Prod.mk.injEq] at h
    obtain ⟨rfl, rfl⟩ := h
    exact s
  | ali i =>
    cases hd : fz δ (.ali i) with
    | none =>
      simp only [slR, hd] at h
      cases h
    | some q =>
      obtain ⟨d, δ1⟩ := q
      simp only [slR, hd] at h
      cases h
      exact s.fz1 a hd
theorem nxO_post {o : Option Ss} {D : Ends} (h : postS κ io W τ D (nxO o)) : ∃ δ', o = some δ' ∧ ∀ σ H, SR κ io σ H δ' τ → D.nx σ H := by
  unfold nxO at h
  split at h
  · exact ⟨_, rfl, h⟩
  · exact h.elim
theorem snd_asgv {n i : Nat} {x : Str} {e : E} {pos' : Pos} (hp : IoP io p) (hN : X.N.Nodup) (hi : X.N[i]? = some x) (hx : Loc X.env.scope x) (hf : X.fn x = true ∨ X.env.scope.names.lookup x = some .local) (ha : PE X a' (tD κ io W (evE T p e))) (hs : swapsWith a' (some (.Name x pos')) pos.line X.env = pure false) :
    PS X (.Assign [.Name x pos'] a' pos) (tDS κ io W (evS T p n (.asg (.v i) e))) :=
  PS.imp (ps_set hN hi hx ha hs hf) fun D σ H ⟨δ, τ, s, h⟩ => by
    simp only [evS] at h
    refine seqS (α := Unit) (ρ := []) h s fun r δ1 v H1 s1 a1 h1 => ?_
    obtain ⟨δ', h2, h3⟩ := nxO_post h1
    unfold putR at h2
    split at h2
    · rename_i x δ2 hx
      exact h3 _ _ ((s1.sl1 a1 hx).store hp h2)
    · cases h2
theorem snd_asgt {n : Nat} {ts : List PyV.T} {e : E} (ha : PE X a' (tD κ io W (evE T p e))) (hg : PG X tg (gD κ io p (.tup ts))) (hs : swapsWithSole [tg] a' pos.line X.env = pure false) (hw : swappedStores [tg] a' X.env = pure none)
    (h1 : (assignEach [tg] X.env).map (·.2) = [assign tg X.env]) : PS X (.Assign [tg] a' pos) (tDS κ io W (evS T p n (.asg (.tup ts) e))) :=
  PS.imp (ps_asg ha hg hs hw h1) fun D σ H ⟨δ, τ, s, h⟩ => by
    simp only [evS] at h
    refine seqS (α := Unit) (ρ := []) h s fun r δ1 v H1 s1 a1 h1 => ?_
    split at h1
    · rename_i d δ2 hd
      obtain ⟨δ', h2, h3⟩ := nxO_post h1
      exact ⟨d, δ2, δ', τ, s1.fz1 a1 hd, h2, fun σ' H' s' _ => h3 σ' H' s'⟩
    · exact h1.elim
theorem snd_par2 {n i j : Nat} {x y : Str} {a b : E} {px py pt : Pos} {kt k2 pt2} (hp : IoP io p) (hc : X.calm = true) (hN : X.N.Nodup) (hi : X.N[i]? = some x) (hj : X.N[j]? = some y) (hij : i ≠ j) (hx : X.env.scope.names.lookup x = some .local) (hy : X.env.scope.names.lookup y = some .local)
    (ha : PA X [a', b'] (tDA κ io W (evEs T p [a, b]))) (hw : swappedStores [.Tuple [.Name x px, .Name y py] kt pt] (.Tuple [a', b'] k2 pt2) X.env = pure (some [x, y]))
    (hs : swapsWithSole [.Tuple [.Name x px, .Name y py] kt pt] (.Tuple [a', b'] k2 pt2) pos.line X.env = pure false) :
    PS X (.Assign [.Tuple [.Name x px, .Name y py] kt pt] (.Tuple [a', b'] k2 pt2) pos) (tDS κ io W (evS T p n (.par [i, j] [a, b]))) :=
  PS.imp (ps_par hc hN hi hj hij hx hy ha hw hs) fun D σ H ⟨δ, τ, s, h⟩ => by
    simp only [evS] at h
    refine seqSA (ρ := []) h s fun rs δ1 vs H1 s1 a1 h1 => ?_
    obtain ⟨δ', h2, h3⟩ := nxO_post h1
    cases a1 with
    | nil => simp at h2
    | @cons r1 v1 _ _ q1 t1 =>
      cases t1 with
      | nil =>
        exfalso
        unfold putRs at h2
        split at h2
        · rename_i xs δ2 hx
          simp only [slRs] at hx
          split at hx
          · cases hx
          · cases hx
            simp only [stSs] at h2
            split at h2 <;> cases h2
        · cases h2
      | @cons r2 v2 rs2 vs2 q2 t2 =>
        unfold putRs at h2
        split at h2
        · rename_i xs δ2 hx
          simp only [slRs] at hx
          split at hx
          · cases hx
          · rename_i x1 δ3 hx1
            split at hx
            · cases hx
            · rename_i xs2 δ4 hx2
              cases hx
              split at hx2
              · cases hx2
              · rename_i x2 δ5 hx3
                split at hx2
                · cases hx2
                · rename_i xs3 δ6 hx4
                  cases hx2
                  cases t2 with
                  | cons q3 t3 =>
                    exfalso
                    simp only [stSs] at h2
                    split at h2
                    · cases h2
                    · split at h2
                      · cases h2
                      · simp only [slRs] at hx4
                        split at hx4
                        · cases hx4
                        · split at hx4
                          · cases hx4
                          · cases hx4
                            simp at h2
                  | nil =>
                    simp only [slRs] at hx4
                    cases hx4
                    have e0 : SR κ io σ H1 δ1 (ent r1 v1 :: ent r2 v2 :: τ) := s1.perm (List.Perm.swap ..)
                    have e1 : SR κ io σ H1 δ3 ((some v1, x1) :: ent r2 v2 :: τ) := e0.sl1 q1 hx1
                    have e2 : SR κ io σ H1 δ2 ((some v1, x1) :: (some v2, x2) :: τ) := by
                      have := (e1.perm (List.Perm.swap ..)).sl1 q2 hx3
                      exact this.perm (List.Perm.swap ..)
                    simp only [stSs] at h2
                    split at h2
                    · cases h2
                    · rename_i δ7 h7
                      split at h2
                      · cases h2
                      · rename_i δ8 h8
                        cases h2
                        exact ⟨v1, v2, rfl, h3 _ _ ((e2.store hp h7).store hp h8)⟩
        · cases h2
theorem inp_add : OpR X (inplaceOp .Add) (fun x y H Q => (∃ i j, x = .int i ∧ y = .int j ∧ Q (.int (i + j)) H) ∨ ∃ i j, x = .str i ∧ y = .str j ∧ i.length + j.length ≤ sizeLine ∧ Q (.str (i ++ j)) H) := by
  intro pins s σ H x y v u Q I rx ry h
  rcases h with h | h
  · exact iop_add pins s σ H x y v u Q I rx ry h
  · exact iop_add_str pins s σ H x y v u Q I rx ry h
def rAug (o : Op) : R2 := fun x y H Q => ∃ d e z, Rep κ H x d ∧ Rep κ H y e ∧ augD o d e = some z ∧ ∀ v, (∀ g, Rep κ g v z) → Q v H
theorem op_aug (o : Op) : OpR X (inplaceOp (opP o)) (rAug (κ := κ) o) := by
  intro pins s σ H x y v u Q I rx ry ⟨d, e, z, kx, ky, hz, hq⟩
  have two : ∀ {i j}, d = .int i → e = .int j → x = .int i ∧ y = .int j := fun e1 e2 => by
    subst e1 e2
    exact ⟨rep_int kx, rep_int ky⟩
  cases o with
  | add =>
    unfold augD at hz
    split at hz <;> try (cases hz; done)
    all_goals first | cases ‹Op.add = _›; done | skip
    · obtain ⟨rfl, rfl⟩ := two rfl rfl
      cases hz
      exact inp_add pins s σ H _ _ v u Q I rx ry (.inl ⟨_, _, rfl, rfl, hq _ fun g => .int _⟩)
    · rename_i a b _
      obtain ⟨rfl, v1⟩ := rep_str kx
      obtain ⟨rfl, v2⟩ := rep_str ky
      split at hz
      · rename_i hl
        cases hz
        refine inp_add pins s σ H _ _ v u Q I rx ry (.inr ⟨_, _, rfl, rfl, by rw [lineEq]; simpa [Str.length] using hl, ?_⟩)
        have ee : (⟨a.toArray⟩ : Str) ++ (⟨b.toArray⟩ : Str) = ⟨(a ++ b).toArray⟩ := by
          show Str.mk (a.toArray ++ b.toArray) = _
          simp
        rw [ee]
        exact hq _ fun g => .str _ fun c hc => (List.mem_append.mp hc).elim (v1 c) (v2 c)
      · cases hz
  | sub =>
    unfold augD at hz
    split at hz <;> try (cases hz; done)
    all_goals first | cases ‹Op.sub = _›; done | skip
    obtain ⟨rfl, rfl⟩ := two rfl rfl
    cases hz
    exact iop_sub pins s σ H _ _ v u Q I rx ry ⟨_, _, rfl, rfl, hq _ fun g => .int _⟩
  | bor =>
    unfold augD at hz
    split at hz <;> try (cases hz; done)
    all_goals first | cases ‹Op.bor = _›; done | skip
    obtain ⟨rfl, rfl⟩ := two rfl rfl
    cases hz
    exact iop_or pins s σ H _ _ v u Q I rx ry ⟨_, _, rfl, rfl, hq _ fun g => .int _⟩
  | _ => simp [augD] at hz
theorem snd_aug {n i : Nat} {x : Str} {o : Op} {e : E} {pos' : Pos} (hp : IoP io p) (hN : X.N.Nodup) (hi : X.N[i]? = some x) (hx : Loc X.env.scope x) (hf : X.fn x = true ∨ X.env.scope.names.lookup x = some .local) (ha : PE X a' (tD κ io W (evE T p e))) :
    PS X (.AugAssign (.Name x pos') (opP o) a' pos) (tDS κ io W (evS T p n (.aug i o e))) :=
  PS.imp (ps_aug hN hi hx ha (op_aug (κ := κ) o) hf) fun D σ H ⟨δ, τ, s, h⟩ => by
    simp only [evS] at h
    split at h
    · rename_i d hd
      obtain ⟨v, e, m⟩ := s.slot hd (by simp)
      have s0 : SR κ io σ H δ ([(some v, .val d)] ++ τ) := ⟨s.len, (s.rel.dup (List.mem_append_left _ m)).perm List.perm_middle.symm, s.io⟩
      refine ⟨v, e, seqS (α := Unit) h s0 fun r δ1 w H1 s1 a1 h1 => ?_⟩
      split at h1
      · rename_i d'
        split at h1
        · rename_i z hz
          obtain ⟨δ', h2, h3⟩ := nxO_post h1
          obtain ⟨f, rf⟩ := s1.rel
          obtain ⟨v1, e1, q1⟩ := rf.at (ov := some v) (d := d) (by simp)
          obtain ⟨w1, e2, q2⟩ := rf.at (ov := some w) (d := d') (by simp [ent, slotOf])
          cases e1
          cases e2
          refine ⟨d, d', z, q1.mono rf.same, q2.mono rf.same, hz, fun u hu => h3 _ _ ?_⟩
          exact SR.store hp (x := .val z) ((s1.tl.tl).scal hu) h2
        · exact h1.elim
      · exact h1.elim
    · exact h.elim
end
end PyV
set_option Elab.async false
set_option linter.all false
set_option maxRecDepth 100000
set_option maxHeartbeats 2000000
namespace PyV
open PySem PySem.Spec PyProof.Rows L2

section
variable {κ : Kx} {io : Nat → V → Prop} {W : WX} {σ : L2.St} {f H : Hp} {δ δ' : Ss} {τ τ' ρ : List En} {Q : VK} {T : Tab} {X : Cx} {a' b' e' c' tg : Expr} {es' : List Expr} {pos : Pos} {pins : List (Addr × Obj)} {s : Shared} {p : Option Nat} {n : Nat}
theorem SR.mut {i : Nat} {d : D} (len : σ.length = δ.length) (hio : ∀ j v, io j v → σ[j]? = some (some v)) (rf : RelF κ f H (σ.zip δ ++ τ)) (h : sl? δ i = .own d) :
    ∃ a, σ[i]? = some (some (.ref a)) ∧ f a = none ∧ Own κ f H a d ∧ ∀ u d', Own κ f (upd H a u) a d' → SR κ io σ (upd H a u) (δ.set i (.own d')) τ := by
  have s : SR κ io σ H δ τ := ⟨len, ⟨f, rf⟩, hio⟩
  obtain ⟨v, e, m⟩ := s.slot h (by simp)
  obtain ⟨a, e1, hf, o⟩ := rf.atO (List.mem_append_left _ m)
  cases e1
  have hlt : i < δ.length := by
    rw [← len]
    exact (List.getElem?_eq_some_iff.mp e).1
  refine ⟨a, e, hf, o, fun u d' o' => ⟨by rw [List.length_set]; exact len, ?_, hio⟩⟩
  obtain ⟨L, p1, p2, _⟩ := zip_split len hlt τ
  have e2 : ((σ[i]?).getD none, δ.getD i .emp) = (some (.ref a), .own d) := by
    rw [e]
    exact congrArg (Prod.mk (some (V.ref a))) h
  rw [e2] at p1
  have q := p2 (.own d')
  rw [e] at q
  exact Rel.perm q.symm ⟨f, (rf.perm p1).mut o'⟩
theorem var_at {i : Nat} {x : Str} {px : Pos} (hN : X.N[i]? = some x) (hv : Vis X.env.scope x) (hd : (x == ("__debug__" : Str)) = false) (hc : (x == ("__classdict__" : Str)) = false) : PE X (.Name x px) (fun σ H Q => ∃ v, σ[i]? = some (some v) ∧ Q v H) :=
  PE.imp (pe_var hN hv hd hc) fun σ H Q h => h
theorem one_arg {e : E} (h : PE X e' (tD κ io W (evE T p e))) (hs : starEach [e'] X.env = (false, eval e' X.env) :: starEach [] X.env) : PA X [e'] (tCons (tD κ io W (evE T p e)) tNil) := pa_cons h pa_nil hs
theorem snd_app {i : Nat} {x m : Str} {e : E} {px apos cpos : Pos} (hm : m = "append") (hN : X.N[i]? = some x) (hv : Vis X.env.scope x) (hd : (x == ("__debug__" : Str)) = false) (hc : (x == ("__classdict__" : Str)) = false) (ha : PE X e' (tD κ io W (evE T p e)))
    (hs : starEach [e'] X.env = (false, eval e' X.env) :: starEach [] X.env) (hbase : attributeBase (.Name x px) m X.env (eval (.Name x px) X.env) = eval (.Name x px) X.env)
    (hfew : ((backTo cpos (starEach [e'] X.env)).all (fun x => !x.1) && (backToKw cpos (keywordEach [] X.env)).all (fun x => x.1.isSome) && decide (([e'] : List Expr).length + ([] : List Keyword).length + (if ([] : List Keyword).isEmpty then 0 else 1) < 30)) = true)
    (hline : (apos.endLine == cpos.line) = true) (hsw : swapsWith (.Call (.Attribute (.Name x px) m apos) [e'] [] cpos) none pos.line X.env = pure false) :
    PS X (.Expr (.Call (.Attribute (.Name x px) m apos) [e'] [] cpos) pos) (tDS κ io W (evS T p n (.app i e))) := by
  subst hm
  refine PS.imp (ps_expr (pe_bm F.plainAttrs_list F.slot_list_append F.type_list_append mt_append (var_at hN hv hd hc) (one_arg ha hs) hbase hfew hline hs rfl) hsw) fun D σ H ⟨δ, τ, s, h⟩ => ?_
  simp only [evS] at h
  split at h
  · rename_i ds0 h0
    obtain ⟨v0, e0, m0⟩ := s.slot h0 (by simp)
    obtain ⟨f0, rf0⟩ := s.rel
    obtain ⟨b, e1, _, o0⟩ := rf0.atO (List.mem_append_left _ m0)
    cases e1
    cases o0 with
    | lst q0 r0 =>
      refine ⟨.ref b, e0, .inl ⟨rfl, _, .inl (.inl q0)⟩, ?_⟩
      refine seqS (α := Unit) (ρ := []) h s fun r δ1 v H1 s1 a1 h1 => ?_
      split at h1
      · rename_i d δ2 hd
        have s2 : SR κ io σ H1 δ2 ((some v, .val d) :: τ) := s1.fz1 a1 hd
        split at h1
        · rename_i ds hds
          split at h1
          · rename_i hl
            obtain ⟨f, rf⟩ := s2.rel
            obtain ⟨a, ea, hf, o, mu⟩ := SR.mut s2.len s2.io rf hds
            rw [e0] at ea
            cases ea
            obtain ⟨v', e2, rv⟩ := rf.at (ov := some v) (d := d) (by simp)
            cases e2
            cases o with
            | @lst vs _ q rs =>
              refine ⟨b, vs, v, rfl, rfl, q, by rw [rs.length, lineEq]; exact hl, ?_⟩
              have := (mu (.lst (vs ++ [v])) (.lst (ds ++ [d])) (.lst upd_same (rs.snoc rv))).tl
              exact h1 _ _ this
          · exact h1.elim
        · exact h1.elim
      · exact h1.elim
  · exact h.elim
theorem snd_ext {i : Nat} {x m : Str} {e : E} {px apos cpos : Pos} (hm : m = "extend") (hN : X.N[i]? = some x) (hv : Vis X.env.scope x) (hd : (x == ("__debug__" : Str)) = false) (hc : (x == ("__classdict__" : Str)) = false) (ha : PE X e' (tD κ io W (evE T p e)))
    (hs : starEach [e'] X.env = (false, eval e' X.env) :: starEach [] X.env) (hbase : attributeBase (.Name x px) m X.env (eval (.Name x px) X.env) = eval (.Name x px) X.env)
    (hfew : ((backTo cpos (starEach [e'] X.env)).all (fun x => !x.1) && (backToKw cpos (keywordEach [] X.env)).all (fun x => x.1.isSome) && decide (([e'] : List Expr).length + ([] : List Keyword).length + (if ([] : List Keyword).isEmpty then 0 else 1) < 30)) = true)
    (hline : (apos.endLine == cpos.line) = true) (hsw : swapsWith (.Call (.Attribute (.Name x px) m apos) [e'] [] cpos) none pos.line X.env = pure false) :
    PS X (.Expr (.Call (.Attribute (.Name x px) m apos) [e'] [] cpos) pos) (tDS κ io W (evS T p n (.ext i e))) := by
  subst hm
  refine PS.imp (ps_expr (pe_bm F.plainAttrs_list F.slot_list_extend F.type_list_extend mt_extend (var_at hN hv hd hc) (one_arg ha hs) hbase hfew hline hs rfl) hsw) fun D σ H ⟨δ, τ, s, h⟩ => ?_
  simp only [evS] at h
  split at h
  · rename_i ds0 h0
    obtain ⟨v0, e0, m0⟩ := s.slot h0 (by simp)
    obtain ⟨f0, rf0⟩ := s.rel
    obtain ⟨b, e1, _, o0⟩ := rf0.atO (List.mem_append_left _ m0)
    cases e1
    cases o0 with
    | lst q0 r0 =>
      refine ⟨.ref b, e0, .inl ⟨rfl, _, .inl (.inl q0)⟩, ?_⟩
      refine seqS (α := Unit) (ρ := []) h s fun r δ1 v H1 s1 a1 h1 => ?_
      split at h1
      · rename_i es
        split at h1
        · rename_i ds hds
          split at h1
          · rename_i hl
            have s2 : SR κ io σ H1 δ1 ((some v, .own (.lst es)) :: τ) := s1
            obtain ⟨f, rf⟩ := s2.rel
            obtain ⟨a, ea, hf, o, mu⟩ := SR.mut s2.len s2.io rf hds
            rw [e0] at ea
            cases ea
            obtain ⟨c, e2, _, ov⟩ := rf.atO (ov := some v) (d := .lst es) (by simp)
            cases e2
            cases o with
            | @lst vs _ q rs =>
              cases ov with
              | @lst ws _ q2 rs2 =>
                refine ⟨b, c, vs, ws, rfl, rfl, q, q2, by rw [rs.length, rs2.length, lineEq]; exact hl, ?_⟩
                have := (mu (.lst (vs ++ ws)) (.lst (ds ++ es)) (.lst upd_same (rs.append rs2))).tl
                exact h1 _ _ this
          · exact h1.elim
        · exact h1.elim
      · exact h1.elim
  · exact h.elim
theorem placeD_ixN {k : Nat} {i : Int} : placeD k i = ixN k i := by
  unfold placeD ixN
  rfl
theorem snd_set (kx : KX κ X) (hu : X.A.units + 64 < cLine) {i : Nat} {x : Str} {k e : E} {px spos : Pos} (hN : X.N[i]? = some x) (hv : Vis X.env.scope x) (hd : (x == ("__debug__" : Str)) = false) (hc : (x == ("__classdict__" : Str)) = false) (ha : PE X e' (tD κ io W (evE T p e))) (hk : PE X a' (tD κ io W (evE T p k)))
    (has : ∀ v, assign (.Subscript (.Name x px) a' spos) X.env v = (do
      let ov ← holding [v] (eval (.Name x px) X.env)
      let iv ← holding [v, ov] (eval a' X.env)
      standAt spos
      holding [v, ov, iv] (setItem ov iv v)
      release [v, ov, iv] []))
    (hs : swapsWithSole [.Subscript (.Name x px) a' spos] e' pos.line X.env = pure false) (hw : swappedStores [.Subscript (.Name x px) a' spos] e' X.env = pure none)
    (h1 : (assignEach [.Subscript (.Name x px) a' spos] X.env).map (·.2) = [assign (.Subscript (.Name x px) a' spos) X.env]) :
    PS X (.Assign [.Subscript (.Name x px) a' spos] e' pos) (tDS κ io W (evS T p n (.set i k e))) := by
  refine PS.imp (ps_asg ha (pg_sub (var_at hN hv hd hc) hk (PSet.or set_list (set_dct kx hu)) has) hs hw h1) fun D σ H ⟨δ, τ, s, h⟩ => ?_
  simp only [evS] at h
  refine seqS (α := Unit) (ρ := []) h s fun r δ1 v H1 s1 a1 h1 => ?_
  split at h1
  · rename_i d δ2 hd
    have s2 : SR κ io σ H1 δ2 ([(some v, .val d)] ++ τ) := s1.fz1 a1 hd
    split at h1
    · rename_i ds0 h0
      obtain ⟨v0, e0, _⟩ := s2.slot h0 (by simp)
      refine ⟨v0, e0, seqS (α := Unit) h1 s2 fun r2 δ3 w H2 s3 a2 h2 => ?_⟩
      split at h2
      · rename_i j ds hds
        split at h2
        · rename_i m hm
          have ew : w = .int j := s3.topI
          subst ew
          obtain ⟨f, rf⟩ := s3.rel
          obtain ⟨a, ea, hf, o, mu⟩ := SR.mut s3.len s3.io rf hds
          rw [e0] at ea
          cases ea
          obtain ⟨v', e2, rv⟩ := rf.at (ov := some v) (d := d) (by simp)
          cases e2
          cases o with
          | @lst vs _ q rs =>
            refine .inl ⟨a, vs, j, m, rfl, rfl, q, by rw [rs.length, ← placeD_ixN]; exact hm, ?_⟩
            exact h2 _ _ (mu (.lst (vs.set m v)) (.lst (ds.set m d)) (.lst upd_same (Reps.set rv m rs))).tl.tl
        · exact h2.elim
      · exact h2.elim
    · rename_i t0 ks0 vs0 h0
      obtain ⟨v0, e0, _⟩ := s2.slot h0 (by simp)
      refine ⟨v0, e0, seqS (α := Unit) h1 s2 fun r2 δ3 w H2 s3 a2 h2 => ?_⟩
      split at h2
      · rename_i kd t ks vs hds
        split at h2
        · rename_i hk
          obtain ⟨f, rf⟩ := s3.rel
          obtain ⟨v1, ew, rw1⟩ := rf.at (ov := some w) (d := kd) (by simp [ent, slotOf])
          cases ew
          obtain ⟨a, ea, hf, o, mu⟩ := SR.mut s3.len s3.io rf hds
          rw [e0] at ea
          cases ea
          obtain ⟨v', e2, rv⟩ := rf.at (ov := some v) (d := d) (by simp)
          cases e2
          cases o with
          | @dct ob _ tr _ _ q n dd ek r1 r2 =>
            subst ek
            refine .inr ⟨a, ob, t, tr, kd, rfl, ⟨q, n, dd, r1.mono rf.same⟩, hk.1, rw1.mono rf.same, by have := hk.2; rw [List.length_map] at this; rw [lineEq]; exact this, fun o' d' => ?_⟩
            refine h2 _ _ (mu (atO a o') (.dct t (dputK (tr.map (·.1)) kd) (dputV (tr.map (·.1)) vs kd d)) (.dct upd_same n d' tput_keys.symm ?_ ?_)).tl.tl
            · exact tput_kreps r1 rw1
            · exact tput_vreps r2 rv
        · exact h2.elim
      · exact h2.elim
    · exact h1.elim
  · exact h1.elim
theorem zip_put {f : Hp} {g : Str} {v : V} {d : D} (hv : Rep κ f v d) : ∀ {ns : List Str} {vs : List V} {ds : List D}, ns.length = vs.length → Reps κ f vs ds → ∃ ws, putF g v (ns.zip vs) = (fputD g d ns ds).1.zip ws ∧ (fputD g d ns ds).1.length = ws.length ∧ Reps κ f ws (fputD g d ns ds).2
  | [], [], [], _, .nil => ⟨[v], rfl, rfl, .cons hv .nil⟩
  | n :: ns, w :: vs, e :: ds, hl, .cons r t => by
    by_cases h : n = g
    · subst h
      refine ⟨v :: vs, ?_, ?_, ?_⟩
      · simp [putF, fputD]
      · simp only [fputD, if_true]
        simpa using hl
      · simp only [fputD, if_true]
        exact .cons hv t
    · obtain ⟨ws, h1, h2, h3⟩ := zip_put (g := g) hv (ns := ns) (vs := vs) (ds := ds) (by simpa using hl) t
      refine ⟨w :: ws, ?_, ?_, ?_⟩
      · simp only [fputD, if_neg h, List.zip_cons_cons, putF]
        simp [h, h1]
      · simp only [fputD, if_neg h, List.length_cons, h2]
      · simp only [fputD, if_neg h]
        exact .cons r h3
theorem snd_fld {i : Nat} {x g : Str} {e : E} {px pos' : Pos} (hN : X.N[i]? = some x) (hv : Vis X.env.scope x) (hd : (x == ("__debug__" : Str)) = false) (hc : (x == ("__classdict__" : Str)) = false) (hcl : ClsOk κ X.K) (hf : FldOk κ X.K g) (ha : PE X e' (tD κ io W (evE T p e)))
    (hs : swapsWith e' (some (.Attribute (.Name x px) g pos')) pos.line X.env = pure false) : PS X (.Assign [.Attribute (.Name x px) g pos'] e' pos) (tDS κ io W (evS T p n (.fld i g e))) := by
  refine PS.imp (ps_fld (var_at hN hv hd hc) ha hs) fun D σ H ⟨δ, τ, s, h⟩ => ?_
  simp only [evS] at h
  refine seqS (α := Unit) (ρ := []) h s fun r δ1 v H1 s1 a1 h1 => ?_
  split at h1
  · rename_i d δ2 hd
    have s2 : SR κ io σ H1 δ2 ((some v, .val d) :: τ) := s1.fz1 a1 hd
    split at h1
    · rename_i c ns ds hds
      split at h1
      · rename_i hl
        obtain ⟨f, rf⟩ := s2.rel
        obtain ⟨a, ea, hff, o, mu⟩ := SR.mut s2.len s2.io rf hds
        obtain ⟨v', e2, rv⟩ := rf.at (ov := some v) (d := d) (by simp)
        cases e2
        cases o with
        | @obj dx _ _ vs _ hlt q hlen rs =>
          obtain ⟨ws, h2, h3, h4⟩ := zip_put (g := g) rv hlen rs
          refine ⟨_, ea, a, κ.cls c, dx, _, rfl, q, hcl c hlt, hf c hlt, by rw [List.length_zip, ← hlen]; omega, ?_⟩
          rw [h2]
          exact h1 _ _ (mu _ _ (.obj hlt upd_same h3 h4)).tl
      · exact h1.elim
    · exact h1.elim
  · exact h1.elim
theorem snd_exp {e : E} (ha : PE X a' (tD κ io W (evE T p e))) (hs : swapsWith a' none pos.line X.env = pure false) : PS X (.Expr a' pos) (tDS κ io W (evS T p n (.exp e))) :=
  PS.imp (ps_expr ha hs) fun D σ H ⟨δ, τ, s, h⟩ => by
    simp only [evS] at h
    exact seqS (α := Unit) (ρ := []) h s fun r δ1 v H1 s1 a1 h1 => h1 _ _ s1.tl
theorem snd_doc {x j pos'} : PS X (.Expr (.Constant (.str x) j pos) pos') (tDS κ io W (evS T p n .pas)) := PS.imp ps_doc fun D σ H ⟨δ, τ, s, h⟩ => by
  simp only [evS] at h
  exact h _ _ s
theorem snd_pas : PS X (.Pass pos) (tDS κ io W (evS T p n .pas)) := PS.imp ps_pass fun D σ H ⟨δ, τ, s, h⟩ => by
  simp only [evS] at h
  exact h _ _ s
theorem snd_brk : PS X (.Break pos) (tDS κ io W (evS T p n .brk)) := PS.imp ps_break fun D σ H ⟨δ, τ, s, h⟩ => by
  simp only [evS] at h
  exact h _ _ s
theorem snd_cnt : PS X (.Continue pos) (tDS κ io W (evS T p n .cnt)) := PS.imp ps_continue fun D σ H ⟨δ, τ, s, h⟩ => by
  simp only [evS] at h
  exact h _ _ s
theorem snd_nevS {st : Stmt} : PS X st (tDS κ io W (evS T p n .nev)) := PS.imp ps_never fun D σ H ⟨δ, τ, s, h⟩ => by
  simp only [evS] at h
  exact h
theorem snd_nevE : PE X e' (tD κ io W (evE T p .nop)) := ⟨fun pins s σ H Q I ⟨δ, τ, sr, h⟩ => by
  simp only [evE] at h
  exact h.elim⟩
theorem snd_ret {e : E} (ha : PE X a' (tD κ io W (evE T p e))) : PS X (.Return (some a') pos) (tDS κ io W (evS T p n (.ret e))) :=
  PS.imp (ps_ret ha) fun D σ H ⟨δ, τ, s, h⟩ => by
    simp only [evS] at h
    refine seqS (α := Unit) (ρ := []) h s fun r δ1 v H1 s1 a1 h1 => ?_
    split at h1
    · rename_i d fr δ2 hr
      cases r with
      | val d' =>
        simp only [retD, Option.some.injEq, Prod.mk.injEq] at hr
        obtain ⟨rfl, rfl, rfl⟩ := hr
        exact h1 _ _ _ s1
      | own d' =>
        simp only [retD, Option.some.injEq, Prod.mk.injEq] at hr
        obtain ⟨rfl, rfl, rfl⟩ := hr
        exact h1 _ _ _ s1
      | ali i =>
        have hi := a1 i rfl
        have s2 := s1.tl
        simp only [retD] at hr
        split at hr
        · rename_i d' hsl
          split at hr
          · cases hr
          · cases hr
            have hlt : i < δ1.length := by
              rw [← s2.len]
              exact (List.getElem?_eq_some_iff.mp hi).1
            obtain ⟨L, p1, p2, _⟩ := zip_split s2.len hlt τ
            have e2 : ((σ[i]?).getD none, δ1.getD i .emp) = (some v, .own d) := by
              rw [hi]
              exact congrArg (Prod.mk (some v)) hsl
            rw [e2] at p1
            have q := p2 .emp
            rw [hi] at q
            refine h1 v σ H1 ⟨by rw [List.length_set]; exact s2.len, ?_, s2.io⟩
            have r1 : Rel κ H1 ((some v, .emp) :: (some v, .own d) :: L) := (s2.rel.perm p1).emp
            exact r1.perm ((List.Perm.swap ..).trans ((q.symm.cons _).trans List.perm_middle.symm))
        · rename_i d' hsl
          cases hr
          have s3 : SR κ io σ H1 δ1 ((some v, .val d) :: τ) := s1.fz1 a1 (by simp only [fz]; rw [hsl])
          exact h1 _ _ _ s3
        · cases hr
    · exact h1.elim
theorem snd_rtn : PS X (.Return none pos) (tDS κ io W (evS T p n .rtn)) := PS.imp ps_retN fun D σ H ⟨δ, τ, s, h⟩ => by
  simp only [evS] at h
  exact h .non σ H (s.scal fun g => .non)
theorem snd_ife {c : E} {a b : List S} {as bs : List Stmt} (hc : PT X c' (tDT κ io W fun s => tstR (evE T p c s))) (ha : PSs X as (tDS κ io W (evB T p n a))) (hb : PSs X bs (tDS κ io W (evB T p n b))) : PS X (.If c' as bs pos) (tDS κ io W (evS T p n (.ife c a b))) :=
  PS.imp (ps_if hc ha hb) fun D σ H ⟨δ, τ, s, h⟩ => by
    simp only [evS] at h
    refine seqST (den := fun s => tstR (evE T p c s)) (ρ := []) h s fun k δ1 H1 s1 h1 => ?_
    cases k with
    | true => exact ⟨δ1, τ, s1, h1⟩
    | false => exact ⟨δ1, τ, s1, h1⟩
theorem snd_bnil : PSs X [] (tDS κ io W (evB T p n [])) := PSs.imp pss_nil fun D σ H ⟨δ, τ, s, h⟩ => by
  simp only [evB] at h
  exact h _ _ s
theorem snd_bcons {st : S} {r : List S} {st' : Stmt} {r' : List Stmt} (h1 : PS X st' (tDS κ io W (evS T p n st))) (h2 : PSs X r' (tDS κ io W (evB T p n r))) : PSs X (st' :: r') (tDS κ io W (evB T p n (st :: r))) :=
  PSs.imp (pss_cons h1 h2) fun D σ H ⟨δ, τ, s, h⟩ => by
    simp only [evB] at h
    refine ⟨δ, τ, s, ?_⟩
    cases e : evS T p n st δ with
    | bad => rw [e] at h; exact h
    | ex x δ1 => rw [e] at h; exact h
    | ok fl δ1 =>
      rw [e] at h
      cases fl with
      | nx => exact fun σ1 H1 s1 => ⟨δ1, τ, s1, h⟩
      | rt d fr => exact h
      | bk => exact h
      | ct => exact h
theorem postS.more {D : Ends} {r : R Fl} (h : postS κ io W τ D r) : postS κ io W (ρ ++ τ) D r := by
  cases r with
  | bad => exact h
  | ex x δ => exact fun cls d σ H s => h cls d σ H s.cut
  | ok fl δ =>
    cases fl with
    | nx => exact fun σ H s => h σ H s.cut
    | bk => exact fun σ H s => h σ H s.cut
    | ct => exact fun σ H s => h σ H s.cut
    | rt d fr => exact fun v σ H s => h v σ H (s.subl ((List.sublist_append_right ρ τ).cons₂ _))
theorem snd_whl {c : E} {b : List S} {bs : List Stmt} (hp : PassesOwn (model X.prog X.w) X.A X.env X.xe) (hc : PT X c' (tDT κ io W fun s => tstR (evE T p c s))) (hb : PSs X bs (tDS κ io W (evB T p n b))) : PS X (.While c' bs [] pos) (tDS κ io W (evS T p n (.whl c b))) :=
  PS.imp (ps_while hp hc hb) fun D σ H ⟨δ, τ, s, h⟩ => by
    simp only [evS] at h
    refine ⟨fun m σ H => ∃ δ, SR κ io σ H δ τ ∧ postS κ io W τ D (whlN (fun s => tstR (evE T p c s)) (evB T p n b) m δ), ⟨n, δ, s, h⟩, fun m σ H ⟨δ, s, h⟩ => ?_⟩
    cases m with
    | zero => exact h.elim
    | succ m =>
      simp only [whlN] at h
      have h2 : postS κ io W τ D ((tstR (evE T p c δ)).bind fun k s1 => if k = true then (match evB T p n b s1 with
          | .ok .nx s2 => whlN (fun s => tstR (evE T p c s)) (evB T p n b) m s2
          | .ok .ct s2 => whlN (fun s => tstR (evE T p c s)) (evB T p n b) m s2
          | .ok .bk s2 => .ok .nx s2
          | r => r) else .ok .nx s1) := by
        cases e : tstR (evE T p c δ) with
        | bad => rw [e] at h; exact h
        | ex x δ1 => rw [e] at h; exact h
        | ok k δ1 =>
          rw [e] at h
          cases k <;> exact h
      refine seqST (den := fun s => tstR (evE T p c s)) (ρ := []) h2 s fun k δ1 H1 s1 h1 => ?_
      cases k with
      | false => exact h1 _ _ s1
      | true =>
        rw [if_pos rfl]
        simp only [if_true] at h1
        refine ⟨fun σ' H' => ∃ δ', SR κ io σ' H' δ' τ ∧ postS κ io W τ D (whlN (fun s => tstR (evE T p c s)) (evB T p n b) m δ'), fun σ' H' q => ⟨m, Nat.lt_succ_self m, q⟩, δ1, τ, s1, ?_⟩
        cases e : evB T p n b δ1 with
        | bad => rw [e] at h1; exact h1
        | ex x δ2 => rw [e] at h1; exact h1
        | ok fl δ2 =>
          rw [e] at h1
          cases fl with
          | nx => exact fun σ2 H2 s2 => ⟨δ2, s2, h1⟩
          | ct => exact fun σ2 H2 s2 => ⟨δ2, s2, h1⟩
          | bk => exact h1
          | rt d fr => exact h1
theorem snd_for {t : PyV.T} {k : Ik} {its : List E} {b : List S} {bs : List Stmt} (hp : PassesOwn (model X.prog X.w) X.A X.env X.xe) (hc : X.calm = true) (hi : PI X tg e' (tDI κ io W k (evEs T p its))) (hg : PG X tg (gD κ io p t)) (hb : PSs X bs (tDS κ io W (evB T p n b)))
    (hs : ∀ x, foldedSetIterable e' X.env x = pure x) : PS X (.For tg e' bs [] pos) (tDS κ io W (evS T p n (.for_ t k its b))) :=
  PS.imp (ps_for hp hc hi hg hb hs) fun D σ H ⟨δ, τ, s, h⟩ => by
    simp only [evS] at h
    refine ⟨δ, τ, s, ?_⟩
    cases e : evEs T p its δ with
    | bad => rw [e] at h; exact h
    | ex x δ1 => rw [e] at h; exact fun cls d H1 s1 xr => h cls d σ H1 s1 xr
    | ok rs δ1 =>
      rw [e] at h
      simp only [R.bind] at h
      split at h
      · exact h.elim
      · rename_i ds δ2 hf
        split at h
        · exact h.elim
        · rename_i xs hx
          refine ⟨ds, δ2, xs, hf, hx, fun es J H1 s1 it => ?_⟩
          refine ⟨fun i m σ H => i + m = xs.length ∧ ∃ δ, SR κ io σ H δ (es ++ τ) ∧ postS κ io W τ D (forL (asgT p t) (evB T p n b) (xs.drop i) δ), ⟨xs.length, by omega, δ2, s1, h⟩, fun i m σ H ⟨hm, δ, s, h⟩ => ?_⟩
          have rl : Rel κ H (es ++ (σ.zip δ ++ τ)) := s.rel.perm (List.perm_append_comm_assoc ..)
          rcases Nat.lt_or_ge i xs.length with hlt | hge
          · refine .inr ⟨it.go H _ i rl hlt, fun σ' H' => i + 1 + (m - 1) = xs.length ∧ ∃ δ', SR κ io σ' H' δ' (es ++ τ) ∧ postS κ io W τ D (forL (asgT p t) (evB T p n b) (xs.drop (i + 1)) δ'), fun σ' H' q => ⟨m - 1, by omega, q⟩, fun x H' hy => ?_⟩
            have hgx : xs[i]? = some xs[i] := by simp [hlt]
            have r2 := it.yld H _ i x H' _ rl hgx hy
            have s2 : SR κ io σ H' δ ((some x, .val xs[i]) :: (es ++ τ)) := ⟨s.len, r2.perm ((List.Perm.cons _ (List.perm_append_comm_assoc es _ τ)).trans List.perm_middle.symm), s.io⟩
            rw [List.drop_eq_getElem_cons hlt] at h
            simp only [forL] at h
            split at h
            · exact h.elim
            · rename_i δ3 h3
              refine ⟨xs[i], δ, δ3, es ++ τ, s2, h3, fun σ3 H3 s3 _ => ⟨δ3, es ++ τ, s3, ?_⟩⟩
              cases e : evB T p n b δ3 with
              | bad => rw [e] at h; exact h
              | ex x δ2 =>
                rw [e] at h
                exact fun cls d σ H s => h cls d σ H s.cut
              | ok fl δ4 =>
                rw [e] at h
                cases fl with
                | nx => exact fun σ2 H2 s2 => ⟨by omega, δ4, s2, h⟩
                | ct => exact fun σ2 H2 s2 => ⟨by omega, δ4, s2, h⟩
                | bk => exact fun σ2 H2 s2 => h σ2 H2 s2.cut
                | rt d fr => exact fun v σ2 H2 s2 => h v σ2 H2 (s2.subl ((List.sublist_append_right es τ).cons₂ _))
          · refine .inl ⟨it.stop H _ i rl hge, ?_⟩
            rw [List.drop_eq_nil_of_le hge] at h
            exact h σ H s.cut
end
end PyV
set_option Elab.async false
set_option linter.all false
set_option maxRecDepth 100000
set_option maxHeartbeats 2000000
namespace PyV
open PySem PySem.Spec PyProof.Rows L2

section
variable {κ : Kx} {io : Nat → V → Prop} {W : WX} {σ σ' : L2.St} {f H : Hp} {δ δ' : Ss} {τ τ' ρ M : List En} {Q : VK} {T : Tab} {X : Cx} {a' b' e' c' tg : Expr} {es' : List Expr} {pos : Pos} {pins : List (Addr × Obj)} {s : Shared} {p : Option Nat} {n : Nat}
theorem wipeS_len : ∀ vs : List Nat, (wipeS vs δ).length = δ.length
  | [] => rfl
  | v :: vs => by simp only [wipeS, List.length_set, wipeS_len vs]
theorem wipe_at {i : Nat} : ∀ {vs : List Nat}, i ∉ vs → (wipe σ vs)[i]? = σ[i]?
  | [], _ => rfl
  | v :: vs, h => by
    rw [List.mem_cons, not_or] at h
    show ((wipe σ vs).set v none)[i]? = σ[i]?
    rw [List.getElem?_set_ne (Ne.symm h.1), wipe_at h.2]
theorem wipe_in {i : Nat} : ∀ {vs : List Nat}, i ∈ vs → (wipe σ vs)[i]? = if i < σ.length then some none else none
  | v :: vs, h => by
    show ((wipe σ vs).set v none)[i]? = _
    by_cases e : v = i
    · subst e
      rw [List.getElem?_set, wipe_length]
      simp
    · rw [List.getElem?_set_ne e]
      rcases List.mem_cons.mp h with h | h
      · exact absurd h.symm e
      · exact wipe_in h
theorem wipe_out {vs ws : List Nat} (h : OutS ws (wipe σ vs) σ') (hw : ∀ i ∈ ws, i ∈ vs) : wipe σ' vs = wipe σ vs := by
  have hl : σ'.length = σ.length := h.1.trans (wipe_length ..)
  apply List.ext_getElem?
  intro i
  by_cases hi : i ∈ vs
  · rw [wipe_in hi, wipe_in hi, hl]
  · rw [wipe_at hi, h.2 i fun z => hi (hw i z)]
theorem Rel.wipe (hl : σ.length = δ.length) (r : Rel κ H (σ.zip δ ++ M)) : ∀ vs : List Nat, Rel κ H ((L2.wipe σ vs).zip (wipeS vs δ) ++ M)
  | [] => r
  | v :: vs => by
    have ih := Rel.wipe hl r vs
    show Rel κ H (((L2.wipe σ vs).set v none).zip ((wipeS vs δ).set v .emp) ++ M)
    have hl2 : (L2.wipe σ vs).length = (wipeS vs δ).length := by rw [wipe_length, wipeS_len, hl]
    rcases Nat.lt_or_ge v (wipeS vs δ).length with hv | hv
    · obtain ⟨L, p1, _, p3⟩ := zip_split hl2 hv M
      exact ((ih.perm p1).tail.emp (o := none)).perm (p3 none .emp).symm
    · rw [List.set_eq_of_length_le (by omega), List.set_eq_of_length_le hv]
      exact ih
theorem SR.wipe {vs : List Nat} (s : SR κ io σ H δ τ) (hp : ∀ j v, io j v → j ∉ vs) : SR κ io (L2.wipe σ vs) H (wipeS vs δ) τ :=
  ⟨by rw [wipe_length, wipeS_len, s.len], s.rel.wipe s.len vs, fun j v e => by
    rw [wipe_at (hp j v e)]
    exact s.io j v e⟩
def saved (σ : L2.St) (δ : Ss) (vs : List Nat) : List En := vs.map fun v => ((σ[v]?).getD none, δ.getD v .emp)
def NoOwn (δ : Ss) (vs : List Nat) : Prop := ∀ v ∈ vs, ∀ d, sl? δ v ≠ .own d
theorem noOwn_of {vs : List Nat} (h : noOwn p vs δ = true) : NoOwn δ vs ∧ ∀ v ∈ vs, ¬ gdP p v := by
  unfold noOwn at h
  rw [List.all_eq_true] at h
  refine ⟨fun v hv d e => ?_, fun v hv e => ?_⟩
  · have := h v hv
    rw [e] at this
    simp at this
  · have := (Bool.and_eq_true _ _ ▸ h v hv).1
    exact of_decide_eq_true this e
theorem Rel.again {e : En} (r : Rel κ H M) (hm : e ∈ M) (hn : ∀ d, e.2 ≠ .own d) : Rel κ H (e :: M) := by
  obtain ⟨ov, sl⟩ := e
  cases sl with
  | emp => exact r.emp
  | own d => exact absurd rfl (hn d)
  | val d =>
    obtain ⟨f, rf⟩ := r
    obtain ⟨v, e1, q⟩ := rf.at hm
    subst e1
    exact ⟨f, rf.val q⟩
theorem Rel.save (hl : σ.length = δ.length) (r : Rel κ H (σ.zip δ ++ M)) : ∀ {vs : List Nat}, NoOwn δ vs → Rel κ H (σ.zip δ ++ (saved σ δ vs ++ M))
  | [], _ => r
  | v :: vs, h => by
    have ih := Rel.save hl r (vs := vs) fun u hu => h u (List.mem_cons_of_mem _ hu)
    show Rel κ H (σ.zip δ ++ (((σ[v]?).getD none, δ.getD v .emp) :: (saved σ δ vs ++ M)))
    refine Rel.perm List.perm_middle.symm ?_
    rcases Nat.lt_or_ge v δ.length with hv | hv
    · refine ih.again (List.mem_append_left _ (List.mem_of_getElem? (i := v) ?_)) fun d e => h v List.mem_cons_self d e
      have h2 : v < σ.length := by omega
      rw [List.getElem?_zip_eq_some]
      exact ⟨by simp [h2], by simp [hv]⟩
    · have e1 : σ[v]? = none := List.getElem?_eq_none (by omega)
      have e2 : δ.getD v .emp = .emp := by simp [List.getD, List.getElem?_eq_none hv]
      rw [e1, e2]
      exact ih.emp
def restV (σ : L2.St) : List Nat → L2.St → L2.St
  | [], σ' => σ'
  | v :: vs, σ' => (restV σ vs σ').set v ((σ[v]?).getD none)
theorem restV_len : ∀ vs : List Nat, (restV σ vs σ').length = σ'.length
  | [] => rfl
  | v :: vs => by simp only [restV, List.length_set, restV_len vs]
theorem restS_len : ∀ vs : List Nat, (restS δ vs δ').length = δ'.length
  | [] => rfl
  | v :: vs => by simp only [restS, List.length_set, restS_len vs]
theorem restV_at {i : Nat} : ∀ {vs : List Nat}, (restV σ vs σ')[i]? = if i ∈ vs ∧ i < σ'.length then some ((σ[i]?).getD none) else σ'[i]?
  | [] => by simp [restV]
  | v :: vs => by
    show ((restV σ vs σ').set v _)[i]? = _
    by_cases e : v = i
    · subst e
      rw [List.getElem?_set, restV_len]
      simp
      by_cases h : v < σ'.length
      · simp [h]
      · simp [h]
    · rw [List.getElem?_set_ne e, restV_at]
      have : (i = v) = False := by simpa using fun z => e z.symm
      simp [List.mem_cons, this]
theorem restV_wipe {vs : List Nat} : restV σ vs (L2.wipe σ vs) = σ := by
  apply List.ext_getElem?
  intro i
  rw [restV_at, wipe_length]
  by_cases h : i ∈ vs ∧ i < σ.length
  · rw [if_pos h]
    simp [h.2]
  · rw [if_neg h]
    by_cases hi : i ∈ vs
    · rw [wipe_in hi, if_neg fun z => h ⟨hi, z⟩]
      exact (List.getElem?_eq_none (by
        rcases Nat.lt_or_ge i σ.length with z | z
        · exact absurd ⟨hi, z⟩ h
        · exact z)).symm
    · rw [wipe_at hi]
theorem Rel.rest (hl : σ'.length = δ'.length) : ∀ {vs : List Nat}, NoOwn δ vs → (∀ e ∈ saved σ δ vs, e ∈ M) → Rel κ H (σ'.zip δ' ++ M) → Rel κ H ((restV σ vs σ').zip (restS δ vs δ') ++ M)
  | [], _, _, r => r
  | v :: vs, h, hm, r => by
    have ih := Rel.rest hl (vs := vs) (fun u hu => h u (List.mem_cons_of_mem _ hu)) (fun e he => hm e (List.mem_cons_of_mem _ he)) r
    show Rel κ H (((restV σ vs σ').set v ((σ[v]?).getD none)).zip ((restS δ vs δ').set v (sl? δ v)) ++ M)
    have hl2 : (restV σ vs σ').length = (restS δ vs δ').length := by rw [restV_len, restS_len, hl]
    rcases Nat.lt_or_ge v (restS δ vs δ').length with hv | hv
    · obtain ⟨L, p1, _, p3⟩ := zip_split hl2 hv M
      have q := ih.perm p1
      have me : ((σ[v]?).getD none, δ.getD v .emp) ∈ ((restV σ vs σ')[v]?.getD none, (restS δ vs δ').getD v .emp) :: L := p1.mem_iff.mp (List.mem_append_right _ (hm _ List.mem_cons_self))
      have q2 := q.again me fun d e => h v List.mem_cons_self d e
      exact (q2.sub ((List.sublist_cons_self ..).cons₂ _)).perm (p3 _ _).symm
    · rw [List.set_eq_of_length_le (by omega), List.set_eq_of_length_le hv]
      exact ih

def condD (T : Tab) (p : Option Nat) (c : E) : Ss → R Bool := match c with
  | .nop => fun s => .ok true s
  | c => fun s => tstR (evE T p c s)
theorem lc_eq {elt c : E} {t : PyV.T} {k : Ik} {its : List E} {own : List Nat} {s : Ss} : evE T p (.lc elt t k its c own) s = (evEs T p its s).bind fun rs s1 => match fzs s1 rs with
    | none => .bad
    | some (ds, s2) => match itemsD k ds with
      | none => .bad
      | some xs => if noOwn p own s2 = true then
          match lcL (asgT p t) (condD T p c) (evE T p elt) (wipeS own) xs [] (wipeS own s2) with
          | .ok acc s3 => .ok (.own (.lst acc)) (restS s2 own s3)
          | _ => .bad
        else .bad := by
  unfold evE
  cases c <;> rfl
def wF : WX := fun _ _ _ _ => False
theorem takes_blk {s : Shared} {H : Hp} {scope : Scope} {cenv : Env} {fp : List Addr} : Takes (X.blk s H scope cenv fp) wF := fun u s' ⟨a, B, sI, pins, σ, H, cls, d, e, I, nb, up, sky, na, os, ag, w⟩ => w.elim
theorem PTs.imp {ifs : List Expr} {t t' : TT} (h : PTs X ifs t) (k : ∀ σ H Q, t' σ H Q → t σ H Q) : PTs X ifs t' := ⟨fun pins s σ H Q I q => h.run pins s σ H Q I (k σ H Q q)⟩
theorem snd_no_if : PTs X [] (tDT κ io W (condD T p .nop)) := PTs.imp pts_nil fun σ H Q ⟨δ, τ, s, h⟩ => h H s
theorem snd_one_if {c : E} (ne : c ≠ .nop) (h : PT X c' (tDT κ io W fun s => tstR (evE T p c s))) : PTs X [c'] (tDT κ io W (condD T p c)) := PTs.imp (pts_one h) fun σ H Q q => by
  have e : condD T p c = fun s => tstR (evE T p c s) := by
    cases c <;> first | rfl | exact absurd rfl ne
  rw [e] at q
  exact q
theorem lc_use {J : It} {es : List En} {xs : List D} {acc : List D} {s3 : Ss} {vs : List Nat} {t : PyV.T} {c elt : E} {R : D → Prop} (hp : IoP io p) (sr : SR κ io σ H δ (es ++ τ)) (it : ItD κ J es xs) (hno : noOwn p vs δ = true) (htv : ∀ i ∈ tvs t, i ∈ vs)
    (hl : lcL (asgT p t) (condD T p c) (evE T p elt) (wipeS vs) xs [] (wipeS vs δ) = .ok acc s3) (hq : okE κ io σ τ Q (.own (.lst acc)) (restS δ vs s3)) :
    ∀ D, H D = none → ∃ W : Nat → Nat → Hp → Prop, (∃ m, W 0 m (upd H D (.lst []))) ∧ ∀ i m H, W i m H →
      (J.stop i H ∧ Q (.ref D) H) ∨ (J.go i H ∧ ∃ Nx : Hp → Prop, (∀ H', Nx H' → ∃ m', m' < m ∧ W (i + 1) m' H') ∧ ∀ x H', J.yld i H x H' → gD κ io p t x (L2.wipe σ vs) H' fun σ2 H2 => L2.wipe σ2 vs = L2.wipe σ vs ∧ tDT κ io wF (condD T p c) σ2 H2 fun b H3 =>
        if b = true then tD κ io wF (evE T p elt) σ2 H3 fun y H4 => ∃ acc, H4 D = some (.lst acc) ∧ acc.length < sizeLine ∧ Nx (upd H4 D (.lst (acc ++ [y]))) else Nx H3) := by
  intro A hA
  obtain ⟨no, np⟩ := noOwn_of hno
  have hio : ∀ j v, io j v → j ∉ vs := fun j v e hm => np j hm (hp j v e)
  have s1 : SR κ io (L2.wipe σ vs) H (wipeS vs δ) (saved σ δ vs ++ (es ++ τ)) := SR.wipe ⟨sr.len, sr.rel.save sr.len no, sr.io⟩ hio
  refine ⟨fun i m H => i + m = xs.length ∧ ∃ δi ai, SR κ io (L2.wipe σ vs) H δi ((some (.ref A), .own (.lst ai)) :: (saved σ δ vs ++ (es ++ τ))) ∧ lcL (asgT p t) (condD T p c) (evE T p elt) (wipeS vs) (xs.drop i) ai δi = .ok acc s3,
    ⟨xs.length, by omega, _, [], ?_, hl⟩, fun i m H ⟨hm, δi, ai, s, h⟩ => ?_⟩
  · obtain ⟨f, rf⟩ := s1.rel
    have := rf.laid (u := .lst []) (d := .lst []) hA (.lst upd_same .nil)
    exact ⟨s1.len, Rel.perm List.perm_middle.symm ⟨f, this⟩, s1.io⟩
  · have rl : Rel κ H (es ++ ((L2.wipe σ vs).zip δi ++ ((some (.ref A), .own (.lst ai)) :: (saved σ δ vs ++ τ)))) := by
      refine s.rel.perm ?_
      refine List.Perm.trans ?_ (List.perm_append_comm_assoc ..)
      refine List.Perm.append_left _ ?_
      refine List.Perm.trans (List.Perm.cons _ (List.perm_append_comm_assoc ..)) ?_
      exact List.perm_middle.symm
    rcases Nat.lt_or_ge i xs.length with hlt | hge
    · refine .inr ⟨it.go H _ i rl hlt, fun H' => i + 1 + (m - 1) = xs.length ∧ ∃ δj aj, SR κ io (L2.wipe σ vs) H' δj ((some (.ref A), .own (.lst aj)) :: (saved σ δ vs ++ (es ++ τ))) ∧ lcL (asgT p t) (condD T p c) (evE T p elt) (wipeS vs) (xs.drop (i + 1)) aj δj = .ok acc s3,
        fun H' q => ⟨m - 1, by omega, q⟩, fun x H' hy => ?_⟩
      have hgx : xs[i]? = some xs[i] := by simp [hlt]
      have r2 := it.yld H _ i x H' _ rl hgx hy
      have s2 : SR κ io (L2.wipe σ vs) H' δi ((some x, .val xs[i]) :: ((some (.ref A), .own (.lst ai)) :: (saved σ δ vs ++ (es ++ τ)))) := by
        refine ⟨s.len, r2.perm ?_, s.io⟩
        refine List.Perm.trans (List.Perm.cons _ ?_) List.perm_middle.symm
        refine List.Perm.trans (List.perm_append_comm_assoc ..) (List.Perm.append_left _ ?_)
        exact List.perm_middle.trans (List.Perm.cons _ (List.perm_append_comm_assoc ..))
      rw [List.drop_eq_getElem_cons hlt] at h
      simp only [lcL] at h
      split at h
      · cases h
      · rename_i δ3 h3
        refine ⟨xs[i], δi, δ3, _, s2, h3, fun σ2 H2 s3' out => ⟨wipe_out out htv, δ3, _, s3', ?_⟩⟩
        have hw := wipe_out out htv
        have back : ∀ {H' : Hp} {δ' : Ss} {L : List En}, SR κ io σ2 H' δ' L → SR κ io (L2.wipe σ vs) H' (wipeS vs δ') L := fun {H' δ' L} q => hw ▸ q.wipe hio
        cases e : condD T p c δ3 with
        | bad => rw [e] at h; cases h
        | ex x s => rw [e] at h; cases h
        | ok b δ4 =>
          rw [e] at h
          intro H3 s4
          cases b with
          | false =>
            rw [if_neg Bool.false_ne_true]
            exact ⟨by omega, wipeS vs δ4, ai, back s4, h⟩
          | true =>
            rw [if_pos rfl]
            refine ⟨δ4, _, s4, ?_⟩
            simp only at h
            cases e2 : evE T p elt δ4 with
            | bad => rw [e2] at h; cases h
            | ex x s => rw [e2] at h; cases h
            | ok r δ5 =>
              rw [e2] at h
              simp only at h
              intro y H4 s5 a5
              split at h
              · cases h
              · rename_i z δ6 hz
                split at h
                · rename_i hlen
                  have s6 : SR κ io σ2 H4 δ6 ((some y, .val z) :: (some (.ref A), .own (.lst ai)) :: (saved σ δ vs ++ (es ++ τ))) := s5.fz1 a5 hz
                  obtain ⟨f, rf⟩ := s6.rel
                  obtain ⟨y', e3, ry⟩ := rf.at (ov := some y) (d := z) (by simp)
                  cases e3
                  obtain ⟨A', e4, hfA, o⟩ := rf.atO (ov := some (.ref A)) (d := .lst ai) (by simp)
                  cases e4
                  cases o with
                  | @lst ws _ q rs =>
                    refine ⟨ws, q, by rw [rs.length, lineEq]; exact hlen, by omega, wipeS vs δ6, ai ++ [z], back ?_, h⟩
                    have pm : (σ2.zip δ6 ++ ((some y, .val z) :: (some (.ref A), .own (.lst ai)) :: (saved σ δ vs ++ (es ++ τ)))).Perm ((some (.ref A), .own (.lst ai)) :: (σ2.zip δ6 ++ ((some y, .val z) :: (saved σ δ vs ++ (es ++ τ))))) :=
                      (List.Perm.append_left _ (List.Perm.swap ..)).trans List.perm_middle
                    have r7 := (rf.perm pm).mut (u := .lst (ws ++ [y])) (d' := .lst (ai ++ [z])) (.lst upd_same (rs.snoc ry))
                    refine ⟨s6.len, Rel.perm List.perm_middle.symm (Rel.sub ?_ ⟨f, r7⟩), s6.io⟩
                    exact ((List.sublist_cons_self ..).append_left _).cons₂ _
                · cases h
    · refine .inl ⟨it.stop H _ i rl hge, ?_⟩
      rw [List.drop_eq_nil_of_le hge] at h
      simp only [lcL] at h
      cases h
      refine hq (.ref A) H ⟨?_, ?_, sr.io⟩ (fun i e => nomatch e)
      · have := s.len
        rw [wipe_length] at this
        rw [restS_len]
        exact this
      · have r3 := Rel.rest (σ := σ) (δ := δ) s.len no (fun e he => List.mem_cons_of_mem _ (List.mem_append_left _ he)) s.rel
        rw [restV_wipe] at r3
        refine r3.sub (List.Sublist.append_left ?_ _)
        show List.Sublist (_ :: τ) (_ :: (saved σ δ vs ++ (es ++ τ)))
        refine List.Sublist.cons₂ _ ?_
        exact (List.sublist_append_right es τ).trans (List.sublist_append_right _ _)
section
variable {elt' iter' : Expr} {ifs : List Expr} {scope : Scope} {own : List (Str × Nat)} {elt c : E} {t : PyV.T} {k : Ik} {its : List E}
theorem lc_read (hp : IoP io p) (htv : ∀ i ∈ tvs t, i ∈ own.map (·.2)) : ∀ σ H Q, tD κ io W (evE T p (.lc elt t k its c (own.map (·.2)))) σ H Q →
    tLc (tDI κ io W k (evEs T p its)) (gD κ io p t) (tDT κ io wF (condD T p c)) (tD κ io wF (evE T p elt)) (own.map (·.2)) σ H Q := fun σ H Q ⟨δ, τ, s, h⟩ => by
  rw [lc_eq] at h
  refine ⟨δ, τ, s, ?_⟩
  cases e : evEs T p its δ with
  | bad => rw [e] at h; exact h
  | ex x δ1 => rw [e] at h; exact h
  | ok rs δ1 =>
    rw [e] at h
    simp only [R.bind] at h
    split at h
    · exact h.elim
    · rename_i ds δ2 hf
      split at h
      · exact h.elim
      · rename_i xs hx
        split at h
        · rename_i hno
          refine ⟨ds, δ2, xs, hf, hx, fun es J H1 s1 it => ?_⟩
          split at h
          · rename_i acc s3 hl
            exact lc_use (R := fun _ => True) hp s1 it hno htv hl h
          · exact h.elim
        · exact h.elim
theorem snd_lc (hp : IoP io p) (hc : X.calm = true) (hN : X.N.Nodup) (hi : PI X tg iter' (tDI κ io W k (evEs T p its))) (ok : BlkOk X.N X.env.scope scope own)
    (hg : ∀ (s : Shared) (H : Hp) (C : Addr) (cl : List (Str × Addr)) (fp : List Addr), PG (X.blk s H scope (compEnvC scope cl C X.env) fp) tg (gD κ io p t)) (ht : ∀ (s : Shared) (H : Hp) (C : Addr) (cl : List (Str × Addr)) (fp : List Addr), PTs (X.blk s H scope (compEnvC scope cl C X.env) fp) ifs (tDT κ io wF (condD T p c)))
    (he : ∀ (s : Shared) (H : Hp) (C : Addr) (cl : List (Str × Addr)) (fp : List Addr), PE (X.blk s H scope (compEnvC scope cl C X.env) fp) elt' (tD κ io wF (evE T p elt))) (hs : ∀ x, foldedSetIterable iter' X.env x = pure x) (htv : ∀ i ∈ tvs t, i ∈ own.map (·.2)) :
    PE X (.ListComp elt' [⟨tg, iter', ifs, 0⟩] scope pos) (tD κ io W (evE T p (.lc elt t k its c (own.map (·.2))))) :=
  PE.imp (pe_lc hc hN hi ok hg ht he hs) (lc_read hp htv)
theorem snd_setLc {i : Nat} {y : Str} {py spos : Pos} (hp : IoP io p) (hc : X.calm = true) (hN : X.N.Nodup) (hy : X.N[i]? = some y) (hyl : X.env.scope.names.lookup y = some .local) (hsw : swapsWith (.ListComp elt' [⟨tg, iter', ifs, 0⟩] scope pos) (some (.Name y py)) spos.line X.env = pure true)
    (hi : PI X tg iter' (tDI κ io W k (evEs T p its))) (ok : BlkOk X.N X.env.scope scope own)
    (hg : ∀ (s : Shared) (H : Hp) (C : Addr) (cl : List (Str × Addr)) (fp : List Addr), PG (X.blk s H scope (compEnvC scope cl C X.env) fp) tg (gD κ io p t)) (ht : ∀ (s : Shared) (H : Hp) (C : Addr) (cl : List (Str × Addr)) (fp : List Addr), PTs (X.blk s H scope (compEnvC scope cl C X.env) fp) ifs (tDT κ io wF (condD T p c)))
    (he : ∀ (s : Shared) (H : Hp) (C : Addr) (cl : List (Str × Addr)) (fp : List Addr), PE (X.blk s H scope (compEnvC scope cl C X.env) fp) elt' (tD κ io wF (evE T p elt))) (hs : ∀ x, foldedSetIterable iter' X.env x = pure x) (htv : ∀ i ∈ tvs t, i ∈ own.map (·.2)) :
    PS X (.Assign [.Name y py] (.ListComp elt' [⟨tg, iter', ifs, 0⟩] scope pos) spos) (tDS κ io W (evS T p n (.asg (.v i) (.lc elt t k its c (own.map (·.2)))))) :=
  PS.imp (ps_setLc hc hN hy hyl hsw hi ok hg ht he hs) fun D σ H ⟨δ, τ, s, h⟩ => by
    simp only [evS] at h
    refine lc_read (W := W) hp htv σ H _ (seqS (α := Unit) (ρ := []) h s fun r δ1 v H1 s1 a1 h1 => ?_)
    obtain ⟨δ', h2, h3⟩ := nxO_post h1
    unfold putR at h2
    split at h2
    · rename_i x δ2 hx
      exact h3 _ _ ((s1.sl1 a1 hx).store hp h2)
    · cases h2
end
end
end PyV
set_option Elab.async false
set_option linter.all false
set_option maxRecDepth 100000
set_option maxHeartbeats 2000000
namespace PyV
open PySem PySem.Spec PyProof.Rows L2

section
variable {κ : Kx} {io : Nat → V → Prop} {W : WX} {σ : L2.St} {H : Hp} {δ δ' : Ss} {τ τ' ρ : List En} {X : Cx} {a' b' c' d' e' : Expr} {es' : List Expr} {pos apos : Pos} {Q : VK} {T : Tab} {p : Option Nat}
theorem cons_read {e : E} {es : List E} : ∀ (σ : L2.St) (H : Hp) (Q : List V → Hp → Prop), tDA κ io W (evEs T p (e :: es)) σ H Q → tCons (tD κ io W (evE T p e)) (tDA κ io W (evEs T p es)) σ H Q := fun σ H Q ⟨δ, τ, s, h⟩ => by
  simp only [evEs] at h
  refine seqD (ρ := []) h s fun r δ1 v H1 s1 a1 h1 => seqA (ρ := [ent r v]) h1 s1 fun rs δ2 vs H2 s2 a2 h2 => ?_
  refine h2 (v :: vs) H2 (s2.perm ?_) (.cons a1 a2)
  show (ents rs vs ++ ([ent r v] ++ τ)).Perm ((ents rs vs ++ [ent r v]) ++ τ)
  simp
theorem cons_mono {t t' : TE} {u u' : TA} (h : ∀ σ H Q, t' σ H Q → t σ H Q) (k : ∀ σ H Q, u' σ H Q → u σ H Q) (hm : ∀ σ H (Q Q' : VK), (∀ v H, Q v H → Q' v H) → t' σ H Q → t' σ H Q') : ∀ σ H Q, tCons t' u' σ H Q → tCons t u σ H Q := fun σ H Q q =>
  h σ H _ (hm σ H _ _ (fun v H1 q1 => k σ H1 _ q1) q)
theorem tD_mono {den : Ss → R Rv} : ∀ σ H (Q Q' : VK), (∀ v H, Q v H → Q' v H) → tD κ io W den σ H Q → tD κ io W den σ H Q' := fun σ H Q Q' m ⟨δ, τ, s, h⟩ => by
  refine ⟨δ, τ, s, ?_⟩
  cases e : den δ with
  | bad => rw [e] at h; exact h
  | ex x δ1 => rw [e] at h; exact h
  | ok r δ1 => rw [e] at h; exact fun v H1 s1 a1 => m v H1 (h v H1 s1 a1)
theorem ppz_two {ke ve : E} {es : List E} {keys : List (Option Expr)} {values : List Expr} (hk : PE X a' (tD κ io W (evE T p ke))) (hv : PE X b' (tD κ io W (evE T p ve))) (hr : PPz X pos keys values (tDA κ io W (evEs T p es))) :
    PPz X pos (some a' :: keys) (b' :: values) (tDA κ io W (evEs T p (ke :: ve :: es))) :=
  (ppz_cons hk hv hr).imp fun σ H Q q => cons_mono (fun _ _ _ z => z) (fun σ H Q z => cons_read σ H Q z) tD_mono σ H Q (cons_read σ H Q q)
theorem ppz_none : PPz X pos [] [] (tDA κ io W (evEs T p [])) := ppz_nil.imp fun σ H Q ⟨δ, τ, s, h⟩ => h [] H s .nil
theorem relF_laidD {f H : Hp} {L : List En} {a : Addr} {o : Obj} {t : Bool} {tr : List (D × V × V)} {ks ds : List D} (hp : H a = none) (rf : RelF κ f H L) (n : (a == sysModules) = false) (d : DctO κ.w t o tr) (ek : ks = tr.map (·.1)) (r1 : Reps κ f (tr.map (·.2.1)) ks)
    (r2 : Reps κ f (tr.map (·.2.2)) ds) : RelF κ f (upd H a (atO a o)) ((some (.ref a), .own (.dct t ks ds)) :: L) := rf.laid hp (.dct upd_same n d ek r1 r2)
theorem tpairs_D {f : Hp} {t : Bool} : ∀ {vs : List V} {ds ks0 vs0 ks1 vs1 : List D} {tr : List (D × V × V)}, Reps κ f vs ds → dpairs t ks0 vs0 ds = some (ks1, vs1) → ks0 = tr.map (·.1) → Reps κ f (tr.map (·.2.1)) ks0 → Reps κ f (tr.map (·.2.2)) vs0 →
    ∃ tr', tpairs t tr (vs.zip ds) = some tr' ∧ ks1 = tr'.map (·.1) ∧ Reps κ f (tr'.map (·.2.1)) ks1 ∧ Reps κ f (tr'.map (·.2.2)) vs1
  | _, _, _, _, _, _, tr, .nil, e, ek, r1, r2 => by
    simp only [dpairs, Option.some.injEq, Prod.mk.injEq] at e
    obtain ⟨rfl, rfl⟩ := e
    exact ⟨tr, rfl, ek, r1, r2⟩
  | _, _, _, _, _, _, tr, .cons _ .nil, e, _, _, _ => by simp [dpairs] at e
  | _, _, _, _, _, _, tr, .cons (v := kv) (d := kd) q1 (.cons (v := v) (d := d) q2 q), e, ek, r1, r2 => by
    simp only [dpairs] at e
    split at e
    · rename_i hk
      subst ek
      have k1 := tput_kreps (v := v) r1 q1
      have k2 := tput_vreps (k := kd) (kv := kv) r2 q2
      obtain ⟨tr', e1, e2, e3, e4⟩ := tpairs_D q e (tput_keys (kv := kv) (v := v)).symm k1 k2
      refine ⟨tr', ?_, e2, e3, e4⟩
      simp only [List.zip_cons_cons, tpairs, if_pos hk]
      exact e1
    · cases e
theorem zip_fst {vs : List V} {ds : List D} (h : vs.length = ds.length) : (vs.zip ds).map (·.1) = vs ∧ (vs.zip ds).map (·.2) = ds := ⟨List.map_fst_zip (Nat.le_of_eq h), List.map_snd_zip (Nat.le_of_eq h.symm)⟩
theorem evEs_length {rs : List Rv} {vs : List V} {ds : List D} (h : PyV.fzs δ rs = some (ds, δ')) (a : Alis σ rs vs) : vs.length = ds.length := by rw [a.length, fzs_length h]
theorem snd_dct0 {t : Bool} : PE X (.Dict [] [] pos) (tD κ io W (evE T p (.dct t []))) := PE.imp (pe_znew (κ := κ) (t := t)) fun σ H Q ⟨δ, τ, s, h⟩ => by
  intro q o hq hn d
  simp only [evE, evEs, R.bind, fzs, dpairs, List.length_nil] at h
  rw [if_pos (by decide)] at h
  obtain ⟨f, rf⟩ := s.rel
  refine h (.ref q) _ ⟨s.len, Rel.perm List.perm_middle.symm ⟨f, relF_laidD hq rf hn d rfl .nil .nil⟩, s.io⟩ (fun i e => nomatch e)
theorem snd_dct (kx : KX κ X) (hu : X.A.units + 64 < cLine) {t : Bool} {es : List E} {keys : List (Option Expr)} {values : List Expr} (hp : PPz X pos keys values (tDA κ io W (evEs T p es))) (hall : keys.all (·.isSome) = true) (hl : keys.length = values.length) (h0 : keys ≠ []) (h15 : keys.length ≤ 15) :
    PE X (.Dict keys values pos) (tD κ io W (evE T p (.dct t es))) := by
  refine PE.imp (pe_zdisp (t := t) kx hu hp hall hl h0 h15) fun σ H Q ⟨δ, τ, s, h⟩ => ?_
  intro q o hq hn hd
  simp only [evE] at h
  have sL : SR κ io σ (upd H q (atO q o)) δ ([(some (.ref q), .own (.dct t [] []))] ++ τ) := by
    obtain ⟨f, rf⟩ := s.rel
    exact ⟨s.len, Rel.perm (List.perm_middle (l₁ := σ.zip δ)).symm ⟨f, relF_laidD hq rf hn hd rfl .nil .nil⟩, s.io⟩
  refine seqA (ρ := [(some (.ref q), .own (.dct t [] []))]) h sL fun rs δ1 vs H1 s1 a1 h1 => ?_
  split at h1
  · rename_i ds δ2 hds
    split at h1
    · rename_i ks vs1 hpr
      split at h1
      · rename_i hlen
        obtain ⟨f, rf, r, len, hio⟩ := s1.kept a1 hds
        have rq := rf.perm (List.perm_middle (l₁ := σ.zip δ2))
        obtain ⟨q', e1, hfq, oq⟩ := rq.atO (ov := some (.ref q)) (d := .dct t [] []) (by simp)
        cases e1
        cases oq with
        | @dct o2 _ tr2 _ _ hq2 hn2 d2 ek2 _ _ =>
          have et2 : tr2 = [] := by cases tr2 with | nil => rfl | cons x l => simp at ek2
          subst et2
          obtain ⟨tr', e2, e3, e4, e5⟩ := tpairs_D (tr := []) r hpr rfl .nil .nil
          obtain ⟨z1, z2⟩ := zip_fst r.length
          refine ⟨⟨o2, hq2, d2⟩, ?_, vs.zip ds, tr', z1.symm, ?_, e2, fun o' d' => ?_⟩
          · have := evEs_length hds a1
            omega
          · rw [z1, z2]
            exact r.mono rf.same
          · refine h1 (.ref q) _ ⟨len, Rel.perm List.perm_middle.symm ⟨f, ?_⟩, hio⟩ (fun i e => nomatch e)
            exact rq.mut (.dct upd_same hn d' e3 e4 e5)
      · exact h1.elim
    · exact h1.elim
  · exact h1.elim
theorem snd_get1 (kx : KX κ X) (hu : X.A.units + 64 < cLine) {a k : E} (ha : PE X a' (tD κ io W (evE T p a))) (hk : PE X b' (tD κ io W (evE T p k))) (m : M1 X a' "get" apos b' pos) :
    PE X (.Call (.Attribute a' "get" apos) [b'] [] pos) (tD κ io W (evE T p (.get1 a k))) := by
  refine PE.imp (pe_zget1 kx hu ha hk m) fun σ H Q ⟨δ, τ, s, h⟩ => ?_
  simp only [evE] at h
  refine seqD (ρ := []) h s fun r δ1 v H1 s1 a1 h1 => ?_
  split at h1
  · rename_i t0 ks0 vs0 hd0
    obtain ⟨f0, rf0⟩ := s1.rel
    obtain ⟨b, o, tr, rfl, da, _⟩ := dct_of rf0.same (s1.read (by simp [ent]) a1 hd0 rf0)
    refine ⟨b, rfl, ⟨o, _, tr, da⟩, seqD (ρ := [ent r (.ref b)]) h1 s1 fun r2 δ2 v2 H2 s2 a2 h2 => ?_⟩
    split at h2
    · rename_i t ks vs kd hd
      split at h2
      · rename_i hk
        obtain ⟨f, rf⟩ := s2.rel
        obtain ⟨b', o3, tr3, e1, da3, ek, _, rv⟩ := dct_of rf.same (s2.read (by simp [ent]) a1 hd rf)
        cases e1
        subst ek
        obtain ⟨vk, e2, rk⟩ := rf.at (ov := some v2) (d := kd) (by simp [ent, slotOf])
        cases e2
        refine ⟨o3, t, tr3, kd, da3, hk, rk.mono rf.same, ?_⟩
        have s4 := s2.tl.tl
        have rf4 : RelF κ f H2 (σ.zip δ2 ++ τ) := rf.sub ((List.sublist_append_right [_, _] τ).append_left _)
        refine fin_rep s4.len s4.io rf4 h2 ?_
        have g := tget_rep (k := kd) rv
        cases e4 : tget tr3 kd <;> cases e5 : dget (tr3.map (·.1)) vs kd <;> rw [e4, e5] at g
        · exact .non
        · exact g.elim
        · exact g.elim
        · exact g
      · exact h2.elim
    · exact h2.elim
  · exact h1.elim
theorem snd_get2 (kx : KX κ X) (hu : X.A.units + 64 < cLine) {a k x : E} (ha : PE X a' (tD κ io W (evE T p a))) (hk : PE X b' (tD κ io W (evE T p k))) (hx : PE X c' (tD κ io W (evE T p x))) (m : M2 X a' "get" apos b' c' pos) :
    PE X (.Call (.Attribute a' "get" apos) [b', c'] [] pos) (tD κ io W (evE T p (.get2 a k x))) := by
  refine PE.imp (pe_zget2 kx hu ha hk hx m) fun σ H Q ⟨δ, τ, s, h⟩ => ?_
  simp only [evE] at h
  refine seqD (ρ := []) h s fun r δ1 v H1 s1 a1 h1 => ?_
  split at h1
  · rename_i t0 ks0 vs0 hd0
    obtain ⟨f0, rf0⟩ := s1.rel
    obtain ⟨b, o, tr, rfl, da, _⟩ := dct_of rf0.same (s1.read (by simp [ent]) a1 hd0 rf0)
    refine ⟨b, rfl, ⟨o, _, tr, da⟩, seqD (ρ := [ent r (.ref b)]) h1 s1 fun r2 δ2 v2 H2 s2 a2 h2 => seqD (ρ := [ent r2 v2, ent r (.ref b)]) h2 s2 fun r3 δ3 v3 H3 s3 a3 h3 => ?_⟩
    split at h3
    · rename_i t ks vs kd xd hd
      split at h3
      · rename_i hk
        obtain ⟨f, rf⟩ := s3.rel
        obtain ⟨b', o3, tr3, e1, da3, ek, _, rv⟩ := dct_of rf.same (s3.read (by simp [ent]) a1 hd rf)
        cases e1
        subst ek
        obtain ⟨vk, e2, rk⟩ := rf.at (ov := some v2) (d := kd) (by simp [ent, slotOf])
        cases e2
        obtain ⟨vx, e3, rx⟩ := rf.at (ov := some v3) (d := xd) (by simp [ent, slotOf])
        cases e3
        refine ⟨o3, t, tr3, kd, da3, hk, rk.mono rf.same, ?_⟩
        have s4 := s3.tl.tl.tl
        have rf4 : RelF κ f H3 (σ.zip δ3 ++ τ) := rf.sub ((List.sublist_append_right [_, _, _] τ).append_left _)
        refine fin_rep s4.len s4.io rf4 h3 ?_
        have g := tget_rep (k := kd) rv
        cases e4 : tget tr3 kd <;> cases e5 : dget (tr3.map (·.1)) vs kd <;> rw [e4, e5] at g
        · exact rx
        · exact g.elim
        · exact g.elim
        · exact g
      · exact h3.elim
    · exact h3.elim
  · exact h1.elim
end
end PyV
set_option Elab.async false
set_option linter.all false
set_option maxRecDepth 100000
set_option maxHeartbeats 4000000
namespace PyV
open PySem PySem.Spec PyProof.Rows L2

section
variable {κ : Kx} {X : Cx} {pins : List (Addr × Obj)} {σ : L2.St} {H : Hp} {s : Shared} {a : Addr} {o : Obj} {t : Bool} {tr : List (D × V × V)} {y v : V} {k : D} {u r : Value} {A : Around} {E : Value → Shared → Prop}
theorem room8' (hu : A.units + 64 < cLine) : (nestedKind X.prog X.w).room A := by
  show A.units + 8 < cLine
  omega
theorem z_dictSet {Q : Unit → Shared → Prop} (kx : KX κ X) (hu : A.units + 64 < cLine) (I : Inv X pins σ H s) (d : DAt κ H a o t tr) (hk : okK t k = true) (rk : Rep κ H y k) (hl : tr.length < sizeLine) (ry : RelV y u) (rv : RelV v r)
    (h : ∀ o' s', DctO κ.w t o' (tput tr k y v) → Inv X pins σ (upd H a (atO a o')) s' → Q () s') : wpAny (model X.prog X.w) A (dictSet a u r) Q E s := by
  obtain ⟨hK, hw⟩ := kx
  have mu : Mut (H a) := by rw [d.at_]; exact True.intro
  have sz : (tput tr k y v).length ≤ sizeLine := Nat.le_trans tput_le hl
  have nd := tput_nd (kv := y) (v := v) hk d.o.okk d.o.nd
  cases t with
  | false =>
    have hl := leaf_V hk rk
    subst hl
    obtain ⟨prs, dd, rel⟩ := d.leaf (P := X.prog) (by rw [hw]; exact I.hok)
    have hz : prs.length ≤ sizeLine := by rw [← Paired.length rel]; exact d.o.sz
    have kk := leaf_kV (tput_kreps (v := v) d.ks rk |> fun z => by rw [← tput_keys (kv := kV (lkOf k)) (v := v)] at z; exact z) (tput_okk d.o.okk hk)
    rw [hw] at dd
    refine wpAny_dictSet_pairs (hsz := hz) (kV_is ry) dd fun h' dd' hs => ?_
    obtain ⟨o', e', do'⟩ := leaf_back dd' (leaf_put hk rv rel d.o.okk (let ⟨_, _, _, _, _, _, _, _, z⟩ := dd; z)) kk nd sz
    exact h o' _ (by rw [hw]; exact do') (d_write I mu hs ⟨o', e'⟩ (atO_ok e'))
  | true =>
    have kin : κ.K.In s.heap := by rw [hK]; exact I.kIn
    obtain ⟨nk, ek⟩ := okK_nk hk
    obtain ⟨b, rfl, hb⟩ := tup_key (P := X.prog) (w := X.w) I.hok kin rk hk ek
    cases (show u = Value.ref b from ry)
    obtain ⟨xs, dd, rel⟩ := d.tup (P := X.prog) (by rw [hw]; exact I.hok) kin
    have hz : xs.length ≤ sizeLine := by rw [← Paired.length rel]; exact d.o.sz
    rw [hw] at dd
    refine wpAny_dictSet_heap (hsz := hz) (room8' hu) hb dd fun h' dd' hs => ?_
    obtain ⟨o', e', do'⟩ := tup_back dd' (tup_put hk ek rv rel d.o.okk dd.nodup) (tput_okk d.o.okk hk) nd sz
    exact h o' _ (by rw [hw]; exact do') (d_write I mu hs ⟨o', e'⟩ (atO_ok e'))
end
section
variable {κ : Kx} {X : Cx}
def zDc (κ : Kx) (t : Bool) (wi : TI) (g : TG) (tt : TT) (tk tv : TE) (vs : List Nat) : TE := fun σ H Q => wi σ H fun J H1 => ∀ D o0, H1 D = none → (D == sysModules) = false → DctO κ.w t o0 [] →
  ∃ W : Nat → Nat → Hp → Prop, (∃ m, W 0 m (upd H1 D (atO D o0))) ∧ ∀ i m H, W i m H →
  (J.stop i H ∧ Q (.ref D) H) ∨ (J.go i H ∧ ∃ Nx : Hp → Prop, (∀ H', Nx H' → ∃ m', m' < m ∧ W (i + 1) m' H') ∧ ∀ x H', J.yld i H x H' → g x (L2.wipe σ vs) H' fun σ2 H2 => L2.wipe σ2 vs = L2.wipe σ vs ∧ tt σ2 H2 fun b H3 =>
    if b = true then tk σ2 H3 fun y H4 => tv σ2 H4 fun z H5 => ∃ o tr k, DAt κ H5 D o t tr ∧ okK t k = true ∧ Rep κ H5 y k ∧ tr.length < sizeLine ∧ ∀ o', DctO κ.w t o' (tput tr k y z) → Nx (upd H5 D (atO D o')) else Nx H3)
theorem zdc_core {t : Bool} {pins : List (Addr × Obj)} {s : Shared} {σ : L2.St} {H : Hp} {Q : VK} {kx vx tg iter : Expr} {ifs : List Expr} {scope : Scope} {own : List (Str × Nat)} {pos pos' : Pos} {wi : TI} {g : TG} {tt : TT} {tk tv : TE} {use : Option (Value → Sem Unit)} {Qf : Value → Shared → Prop}
    (kxx : KX κ X) (hu : X.A.units + 64 < cLine) (hc : X.calm = true) (hN : X.N.Nodup) (I : Inv X pins σ H s) (hi : PI X tg iter wi) (ok : BlkOk X.N X.env.scope scope own)
    (hg : ∀ (s : Shared) (H : Hp) (C : Addr) (cl : List (Str × Addr)) (fp : List Addr), PG (X.blk s H scope (compEnvC scope cl C X.env) fp) tg g) (ht : ∀ (s : Shared) (H : Hp) (C : Addr) (cl : List (Str × Addr)) (fp : List Addr), PTs (X.blk s H scope (compEnvC scope cl C X.env) fp) ifs tt)
    (hk : ∀ (s : Shared) (H : Hp) (C : Addr) (cl : List (Str × Addr)) (fp : List Addr), PE (X.blk s H scope (compEnvC scope cl C X.env) fp) kx tk)
    (he : ∀ (s : Shared) (H : Hp) (C : Addr) (cl : List (Str × Addr)) (fp : List Addr), PE (X.blk s H scope (compEnvC scope cl C X.env) fp) vx tv) (hs : ∀ x, foldedSetIterable iter X.env x = pure x)
    (h : zDc κ t wi g tt tk tv (own.map (·.2)) σ H Q)
    (hRR : ∀ D C s' m H', Inv X pins σ H' s' → Q (.ref D) H' → s'.heap.Ns C m → FpOk X pins H' C → compPost (model X.prog X.w) X.A X.xe use Qf (.ref D) C (.ok .next) s') :
    wpAny (model X.prog X.w) X.A (comprehension (.DictComp kx vx [⟨tg, iter, ifs, 0⟩] scope pos) scope X.env pos' newDict false (eval iter X.env) use) Qf X.xe s := by
  have hfree : ∀ y ∈ scope.names, y.2 = .free → ∃ c, X.env.cells.lookup y.1 = some c := fun y hy e => (ok.free y hy e).elim (fun k => I.ok.has _ (.inl k)) fun k => I.ok.has _ (.inr k)
  refine wpAny_comprehension_free (use := use) rfl hs (closure_ok hfree) ok.kind (fun y hy e => by rw [ok.uniq y hy, e]) (thn (hi.run pins s σ H _ I h) fun xv s1 hx => thn hx fun itv s2 h2 => ?_)
  obtain ⟨it, fp, tn, J, H2, e, I2, T, st2, f2, q⟩ := h2
  subst e
  refine wpAny_newObj_type (newEnv_comp ?_)
  have hbig : (s2.heap.objs.size == sysModules) = false := beq_eq_false_iff_ne.mpr (Ne.symm (Nat.ne_of_lt I2.big))
  generalize hD : s2.heap.objs.size = D at hbig ⊢
  have hDn : H2 D = none := I2.hok.fresh (Nat.le_of_eq hD)
  obtain ⟨W, ⟨m0, w0⟩, turn⟩ := q D { cls := .type "dict", data := .dict #[] } hDn hbig DctO.empty
  generalize hs3 : ({ s2 with heap := s2.heap.push { cls := .type "dict", data := .dict #[] } } : Shared) = s3
  have I3 : Inv X pins σ (upd H2 D (atO D { cls := .type "dict", data := .dict #[] })) s3 := by
    rw [← hs3, ← hD]
    exact I2.laid (t' := s2.toks) (fun b o e => Heap.get?_push_of_some _ e) (Nat.le_refl _) (atO_ok (Heap.get?_push_size _ rfl))
  have h3 : s3.heap = s2.heap.push { cls := .type "dict", data := .dict #[] } := by rw [← hs3]
  have sz : ∀ b ∈ fp, b < s2.heap.objs.size := fun b hb => Heap.lt_size (T.obj _ _ st2 b hb).choose_spec.1
  generalize hH3 : upd H2 D (atO D { cls := .type "dict", data := .dict #[] }) = H3 at I3 w0
  have f3 : ∀ b ∈ fp, FpOk X pins H3 b ∧ b < s3.heap.objs.size := fun b hb => by
    have hlt := sz b hb
    refine ⟨⟨?_, (f2 b hb).2⟩, by rw [h3, Heap.size_push]; exact Nat.lt_succ_of_lt hlt⟩
    rw [← hH3, upd_ne (by rw [← hD]; exact Nat.ne_of_lt hlt)]
    exact (f2 b hb).1
  have st3 : tn 0 s3.heap := T.keep _ _ _ st2 fun b _ o e => by rw [h3]; exact Heap.get?_push_of_some _ e
  have I4 := block_start I3 ok hN f3
  have pg := hg s3 H3 s3.heap.objs.size (cellsFrom (s3.heap.objs.size + 1) scope.names (cloFrom X.env.cells scope.names [])) fp
  have pt := ht s3 H3 s3.heap.objs.size (cellsFrom (s3.heap.objs.size + 1) scope.names (cloFrom X.env.cells scope.names [])) fp
  have pk := hk s3 H3 s3.heap.objs.size (cellsFrom (s3.heap.objs.size + 1) scope.names (cloFrom X.env.cells scope.names [])) fp
  have pe := he s3 H3 s3.heap.objs.size (cellsFrom (s3.heap.objs.size + 1) scope.names (cloFrom X.env.cells scope.names [])) fp
  show codeAny _ _ (.compStart (.DictComp kx vx [⟨tg, iter, ifs, 0⟩] scope pos) 0 (.ref it) (.ref D) (compEnvC scope (cellsFrom (s3.heap.objs.size + 1) scope.names (cloFrom X.env.cells scope.names [])) s3.heap.objs.size X.env)) (compPost (model X.prog X.w) X.A X.xe use Qf (.ref D) s3.heap.objs.size) { s3 with heap := pushCells (s3.heap.push { cls := .type "dict", data := .dict #[] }) scope.names }
  generalize hce : compEnvC scope (cellsFrom (s3.heap.objs.size + 1) scope.names (cloFrom X.env.cells scope.names [])) s3.heap.objs.size X.env = ce at I4 pg pt pk pe ⊢
  have cL : ce.locals = s3.heap.objs.size := by subst hce; rfl
  generalize hs4 : ({ s3 with heap := pushCells (s3.heap.push { cls := .type "dict", data := .dict #[] }) scope.names } : Shared) = s4 at I4 ⊢
  have st4 : tn 0 s4.heap := T.keep _ _ _ st3 fun b _ o e => by rw [← hs4]; exact pushCells_keeps _ _ _ _ (Heap.get?_push_of_some _ e)
  have stat : ∀ {σ' : L2.St} {H' : Hp} {s' : Shared}, Inv (X.blk s3 H3 scope ce fp) [] σ' H' s' → (∀ b ∈ fp, H' b = none) → ∀ b ∈ fp, FpOk (X.blk s3 H3 scope ce fp) [] H' b := fun {σ' H' s'} I' hn b hb =>
    ⟨hn b hb, (I'.ok.exf b hb).1, I'.ok.exfs b hb, .inl hb, fun x c e => (I'.ok.exf b hb).2 x c e, fun p hp => absurd (show p ∈ ([] : List (Addr × Obj)) ++ [] from hp) (by simp)⟩
  have loop : codeAny (model X.prog X.w) X.A (.compLoop (.DictComp kx vx [⟨tg, iter, ifs, 0⟩] scope pos) 0 (.ref it) (.ref D) ce) (compPost (model X.prog X.w) X.A X.xe use Qf (.ref D) s3.heap.objs.size) s4 := by
    refine compLoop_anyD (fun n s' => ∃ i H', Inv (X.blk s3 H3 scope ce fp) [] (L2.wipe σ (own.map (·.2))) H' s' ∧ tn i s'.heap ∧ (∀ b ∈ fp, H' b = none) ∧ W i n H') ?_ m0 ⟨0, H3, I4, st4, fun b hb => (f3 b hb).1.1, w0⟩
    rintro n s5 ⟨i, H5, I5, st5, n5, w5⟩
    rcases turn i n H5 w5 with ⟨stop, qq⟩ | ⟨go, Nx, hNx, step⟩
    · refine thnF (T.done (X.blk s3 H3 scope ce fp) rfl rfl rfl hc i [] s5 _ H5 (fun _ _ => False) I5 (stat I5 n5) st5 stop) fun r s6 ⟨hr, I6⟩ => ?_
      subst hr
      have I7 : Inv X pins σ H5 s6 := I3.call' (ch := fp) I6.os I6.base I6.hok I6.bare fun b hb => ⟨(f3 b hb).1.2.2.2.1, (f3 b hb).1.2.1, (f3 b hb).1.2.2.2.2.1, (f3 b hb).1.2.2.2.2.2⟩
      have nC : H5 s3.heap.objs.size = none := by
        have z : H5 ce.locals = none := I6.free
        rwa [cL] at z
      obtain ⟨m, hn, _⟩ := I6.loc
      have hn : s6.heap.Ns ce.locals m := hn
      rw [cL] at hn
      exact hRR D s3.heap.objs.size s6 m H5 I7 qq hn (I3.fpOk (Nat.le_refl _) nC)
    · refine thnF (T.item (X.blk s3 H3 scope ce fp) rfl rfl rfl hc i [] s5 _ H5 (fun _ _ => False) I5 (stat I5 n5) st5 go) fun r s6 ⟨u, hr, h6⟩ => ?_
      subst hr
      refine thnF h6 fun _ s7 ⟨x, H7, I7, r7, y7, st7, n7⟩ => ?_
      have I7' := I7.pinned (stat I7 n7) (T.obj _ _ st7)
      refine thnF (pg.run _ s7 _ H7 x u _ I7' r7 (step x H7 y7)) fun _ s8 ⟨σ8, H8, I8, hw8, q8⟩ => ?_
      refine thnF (pt.run _ s8 σ8 H8 _ I8 q8) fun b s9 ⟨H9, I9, q9⟩ => ?_
      have fin : ∀ {s' : Shared} {H' : Hp}, Inv (X.blk s3 H3 scope ce fp) ([] ++ pinsAt fp s7.heap) σ8 H' s' → Nx H' → ∃ m, m < n ∧ ∃ i H', Inv (X.blk s3 H3 scope ce fp) [] (L2.wipe σ (own.map (·.2))) H' s' ∧ tn i s'.heap ∧ (∀ b ∈ fp, H' b = none) ∧ W i m H' := fun {s' H'} I' nx => by
        obtain ⟨m', hm, w'⟩ := hNx H' nx
        have pin' : ∀ b ∈ fp, ∀ o, s7.heap.get? b = some o → s'.heap.get? b = some o ∧ H' b = none := fun b hb o e => (I'.pin (b, o) (List.mem_append_right _ (List.mem_append_right _ (mem_pinsAt hb e)))).imp id (·.1)
        have hl : (L2.wipe σ (own.map (·.2))).length = σ8.length := by rw [← hw8, wipe_length]
        refine ⟨m', hm, i + 1, H', (I'.unpinned (pins := [])).weak hl (fun j v e => (wipe_some (by rw [← hw8] at e; exact e)).1), T.keep _ _ _ st7 fun b hb o e => (pin' b hb o e).1, fun b hb => ?_, w'⟩
        obtain ⟨o, e, _⟩ := T.obj _ _ st7 b hb
        exact (pin' b hb o e).2
      cases b with
      | false =>
        simp only [Bool.false_eq_true, if_false] at q9 ⊢
        exact fin I9 q9
      | true =>
        simp only [if_true] at q9 ⊢
        refine thnF (pk.run _ s9 σ8 H9 _ I9 q9) fun z s10 ⟨yk, H10, I10, r10, q10⟩ => ?_
        refine thnF (pe.run _ s10 σ8 H10 _ I10 q10) fun z2 s11 ⟨yv, H11, I11, r11, o5, tr5, k5, d5, hk5, rk5, hl5, nx⟩ => ?_
        exact z_dictSet (X := X.blk s3 H3 scope ce fp) ⟨kxx.K, kxx.w⟩ hu I11 d5 hk5 rk5 hl5 r10 r11 fun o' s12 d' I12 => fin I12 (nx o' d')
  exact codeAny_compStart_dict loop (T.self X.A 0 _ _ _ st4 loop)
section
variable {t : Bool} {kx vx tg iter : Expr} {ifs : List Expr} {scope : Scope} {own : List (Str × Nat)} {pos spos : Pos} {wi : TI} {g : TG} {tt : TT} {tk tv : TE}
theorem pe_zdc (kxx : KX κ X) (hu : X.A.units + 64 < cLine) (hc : X.calm = true) (hN : X.N.Nodup) (hi : PI X tg iter wi) (ok : BlkOk X.N X.env.scope scope own)
    (hg : ∀ (s : Shared) (H : Hp) (C : Addr) (cl : List (Str × Addr)) (fp : List Addr), PG (X.blk s H scope (compEnvC scope cl C X.env) fp) tg g) (ht : ∀ (s : Shared) (H : Hp) (C : Addr) (cl : List (Str × Addr)) (fp : List Addr), PTs (X.blk s H scope (compEnvC scope cl C X.env) fp) ifs tt)
    (hk : ∀ (s : Shared) (H : Hp) (C : Addr) (cl : List (Str × Addr)) (fp : List Addr), PE (X.blk s H scope (compEnvC scope cl C X.env) fp) kx tk)
    (he : ∀ (s : Shared) (H : Hp) (C : Addr) (cl : List (Str × Addr)) (fp : List Addr), PE (X.blk s H scope (compEnvC scope cl C X.env) fp) vx tv) (hs : ∀ x, foldedSetIterable iter X.env x = pure x) :
    PE X (.DictComp kx vx [⟨tg, iter, ifs, 0⟩] scope pos) (zDc κ t wi g tt tk tv (own.map (·.2))) := by
  refine ⟨fun pins s σ H Q I h => ?_⟩
  rw [arm_eval_DictComp]
  refine zdc_core kxx hu hc hN I hi ok hg ht hk he hs h fun D C s' m H' I' q hn f => ⟨m, hn, fun h'' sb => ?_⟩
  obtain ⟨f0, f1, f2, f3, f4, f5⟩ := f
  exact ⟨.ref D, H', I'.turned (t' := s'.toks) (fun b o hb e => (sb.2 b hb).trans e) f0 f1 f3 f4 f5, rfl, q⟩
theorem ps_setZdc {i : Nat} {y : Str} {py : Pos} (kxx : KX κ X) (hu : X.A.units + 64 < cLine) (hc : X.calm = true) (hN : X.N.Nodup) (hy : X.N[i]? = some y) (hyl : X.env.scope.names.lookup y = some .local)
    (hsw : swapsWith (.DictComp kx vx [⟨tg, iter, ifs, 0⟩] scope pos) (some (.Name y py)) spos.line X.env = pure true) (hi : PI X tg iter wi) (ok : BlkOk X.N X.env.scope scope own)
    (hg : ∀ (s : Shared) (H : Hp) (C : Addr) (cl : List (Str × Addr)) (fp : List Addr), PG (X.blk s H scope (compEnvC scope cl C X.env) fp) tg g) (ht : ∀ (s : Shared) (H : Hp) (C : Addr) (cl : List (Str × Addr)) (fp : List Addr), PTs (X.blk s H scope (compEnvC scope cl C X.env) fp) ifs tt)
    (hk : ∀ (s : Shared) (H : Hp) (C : Addr) (cl : List (Str × Addr)) (fp : List Addr), PE (X.blk s H scope (compEnvC scope cl C X.env) fp) kx tk)
    (he : ∀ (s : Shared) (H : Hp) (C : Addr) (cl : List (Str × Addr)) (fp : List Addr), PE (X.blk s H scope (compEnvC scope cl C X.env) fp) vx tv) (hs : ∀ x, foldedSetIterable iter X.env x = pure x) :
    PS X (.Assign [.Name y py] (.DictComp kx vx [⟨tg, iter, ifs, 0⟩] scope pos) spos) (tAsg (zDc κ t wi g tt tk tv (own.map (·.2))) (gName i)) := by
  refine ⟨fun pins s σ H D I h => ?_⟩
  rw [exec_Assign_Name_used _ _ _ _ hsw]
  refine wpAny_bind (wpAny_standAt (wpAny_bind ?_))
  show wpAny _ X.A (do let _ ← comprehension (.DictComp kx vx [⟨tg, iter, ifs, 0⟩] scope pos) scope X.env (firstIterPos [⟨tg, iter, ifs, 0⟩] pos) newDict false (eval iter X.env) (some (assign (.Name y py) X.env))) _ _ s
  have h : zDc κ t wi g tt tk tv (own.map (·.2)) σ H (fun x H1 => gName i x σ H1 D.nx) := h
  refine wpAny_bind (thn (zdc_core (Qf := fun _ s' => SP X pins D .next s') kxx hu hc hN I hi ok hg ht hk he hs h fun L C s' m H' I' q hn f => ?_) fun _ s' hq => wpAny_pure (wpAny_pure hq))
  show wpAny _ _ (assign (.Name y py) X.env (.ref L)) _ _ _
  refine wpAny_assign_Name (store_ok2 (v := V.ref L) I' hN hy (.inl hyl) rfl (fun s2 I2 ⟨a, sb, ha⟩ => ?_) (.inr hyl))
  obtain ⟨f0, f1, f2, f3, f4, f5⟩ := f
  have haC : C ≠ a := ha.elim (fun z => by rw [z]; exact f1) fun z e => f4 y a z e.symm
  exact ⟨m, hn.sameBut sb haC, fun h3 sb3 => ⟨_, H', I2.turned (t' := s2.toks) (fun b o hb e => (sb3.2 b hb).trans e) f0 f1 f3 f4 f5, q⟩⟩
end
end

section
variable {κ : Kx} {io : Nat → V → Prop} {W : WX} {σ σ' : L2.St} {f H : Hp} {δ δ' : Ss} {τ τ' ρ M : List En} {Q : VK} {T : Tab} {X : Cx} {a' b' e' c' tg : Expr} {es' : List Expr} {pos : Pos} {p : Option Nat} {n : Nat}
theorem zdc_use {J : It} {es : List En} {xs : List D} {t : Bool} {ks ds : List D} {s3 : Ss} {vs : List Nat} {tt : PyV.T} {c ke ve : E} (hp : IoP io p) (sr : SR κ io σ H δ (es ++ τ)) (it : ItD κ J es xs) (hno : noOwn p vs δ = true) (htv : ∀ i ∈ tvs tt, i ∈ vs)
    (hl : dcL t (asgT p tt) (condD T p c) (evE T p ke) (evE T p ve) (wipeS vs) xs [] [] (wipeS vs δ) = .ok (ks, ds) s3) (hq : okE κ io σ τ Q (.own (.dct t ks ds)) (restS δ vs s3)) :
    ∀ D o0, H D = none → (D == sysModules) = false → DctO κ.w t o0 [] → ∃ W : Nat → Nat → Hp → Prop, (∃ m, W 0 m (upd H D (atO D o0))) ∧ ∀ i m H, W i m H →
      (J.stop i H ∧ Q (.ref D) H) ∨ (J.go i H ∧ ∃ Nx : Hp → Prop, (∀ H', Nx H' → ∃ m', m' < m ∧ W (i + 1) m' H') ∧ ∀ x H', J.yld i H x H' → gD κ io p tt x (L2.wipe σ vs) H' fun σ2 H2 => L2.wipe σ2 vs = L2.wipe σ vs ∧ tDT κ io wF (condD T p c) σ2 H2 fun b H3 =>
        if b = true then tD κ io wF (evE T p ke) σ2 H3 fun y H4 => tD κ io wF (evE T p ve) σ2 H4 fun z H5 => ∃ o tr k, DAt κ H5 D o t tr ∧ okK t k = true ∧ Rep κ H5 y k ∧ tr.length < sizeLine ∧ ∀ o', DctO κ.w t o' (tput tr k y z) → Nx (upd H5 D (atO D o')) else Nx H3) := by
  intro A o0 hA hns hd0
  obtain ⟨no, np⟩ := noOwn_of hno
  have hio : ∀ j v, io j v → j ∉ vs := fun j v e hm => np j hm (hp j v e)
  have s1 : SR κ io (L2.wipe σ vs) H (wipeS vs δ) (saved σ δ vs ++ (es ++ τ)) := SR.wipe ⟨sr.len, sr.rel.save sr.len no, sr.io⟩ hio
  refine ⟨fun i m H => i + m = xs.length ∧ ∃ δi ki vi, SR κ io (L2.wipe σ vs) H δi ((some (.ref A), .own (.dct t ki vi)) :: (saved σ δ vs ++ (es ++ τ))) ∧ dcL t (asgT p tt) (condD T p c) (evE T p ke) (evE T p ve) (wipeS vs) (xs.drop i) ki vi δi = .ok (ks, ds) s3,
    ⟨xs.length, by omega, _, [], [], ?_, hl⟩, fun i m H ⟨hm, δi, ki, vi, s, h⟩ => ?_⟩
  · obtain ⟨f, rf⟩ := s1.rel
    exact ⟨s1.len, Rel.perm List.perm_middle.symm ⟨f, relF_laidD hA rf hns hd0 rfl .nil .nil⟩, s1.io⟩
  · have rl : Rel κ H (es ++ ((L2.wipe σ vs).zip δi ++ ((some (.ref A), .own (.dct t ki vi)) :: (saved σ δ vs ++ τ)))) := by
      refine s.rel.perm (List.Perm.trans (List.Perm.append_left _ ?_) (List.perm_append_comm_assoc ..))
      exact (List.Perm.cons _ (List.perm_append_comm_assoc ..)).trans List.perm_middle.symm
    rcases Nat.lt_or_ge i xs.length with hlt | hge
    · refine .inr ⟨it.go H _ i rl hlt, fun H' => i + 1 + (m - 1) = xs.length ∧ ∃ δj kj vj, SR κ io (L2.wipe σ vs) H' δj ((some (.ref A), .own (.dct t kj vj)) :: (saved σ δ vs ++ (es ++ τ))) ∧ dcL t (asgT p tt) (condD T p c) (evE T p ke) (evE T p ve) (wipeS vs) (xs.drop (i + 1)) kj vj δj = .ok (ks, ds) s3,
        fun H' q => ⟨m - 1, by omega, q⟩, fun x H' hy => ?_⟩
      have hgx : xs[i]? = some xs[i] := by simp [hlt]
      have r2 := it.yld H _ i x H' _ rl hgx hy
      have s2 : SR κ io (L2.wipe σ vs) H' δi ((some x, .val xs[i]) :: ((some (.ref A), .own (.dct t ki vi)) :: (saved σ δ vs ++ (es ++ τ)))) := by
        refine ⟨s.len, r2.perm ((List.Perm.cons _ ?_).trans List.perm_middle.symm), s.io⟩
        exact (List.perm_append_comm_assoc ..).trans (List.Perm.append_left _ (List.perm_middle.trans (List.Perm.cons _ (List.perm_append_comm_assoc ..))))
      rw [List.drop_eq_getElem_cons hlt] at h
      simp only [dcL] at h
      split at h
      · cases h
      · rename_i δ3 h3
        refine ⟨xs[i], δi, δ3, _, s2, h3, fun σ2 H2 s3' out => ⟨wipe_out out htv, δ3, _, s3', ?_⟩⟩
        have hw := wipe_out out htv
        have back : ∀ {H' : Hp} {δ' : Ss} {L : List En}, SR κ io σ2 H' δ' L → SR κ io (L2.wipe σ vs) H' (wipeS vs δ') L := fun {H' δ' L} q => hw ▸ q.wipe hio
        cases e : condD T p c δ3 with
        | bad => rw [e] at h; cases h
        | ex x s => rw [e] at h; cases h
        | ok b δ4 =>
          rw [e] at h
          intro H3 s4
          cases b with
          | false =>
            rw [if_neg Bool.false_ne_true]
            exact ⟨by omega, wipeS vs δ4, ki, vi, back s4, h⟩
          | true =>
            rw [if_pos rfl]
            simp only at h
            refine ⟨δ4, _, s4, ?_⟩
            cases e2 : evE T p ke δ4 with
            | bad => rw [e2] at h; cases h
            | ex x s => rw [e2] at h; cases h
            | ok r δ5 =>
              rw [e2] at h
              cases r with
              | own d => cases h
              | ali i => cases h
              | val kd =>
                simp only at h
                intro y H4 s5 a5
                refine ⟨δ5, _, s5, ?_⟩
                cases e3 : evE T p ve δ5 with
                | bad => rw [e3] at h; cases h
                | ex x s => rw [e3] at h; cases h
                | ok r2 δ6 =>
                  rw [e3] at h
                  simp only at h
                  intro z H5 s6 a6
                  split at h
                  · cases h
                  · rename_i zd δ7 hz
                    split at h
                    · rename_i hk
                      have s7 : SR κ io σ2 H5 δ7 ((some z, .val zd) :: (some y, .val kd) :: (some (.ref A), .own (.dct t ki vi)) :: (saved σ δ vs ++ (es ++ τ))) := s6.fz1 a6 hz
                      obtain ⟨f, rf⟩ := s7.rel
                      obtain ⟨z', e4, rz⟩ := rf.at (ov := some z) (d := zd) (by simp)
                      cases e4
                      obtain ⟨y', e5, ry⟩ := rf.at (ov := some y) (d := kd) (by simp)
                      cases e5
                      obtain ⟨A', e6, hfA, ow⟩ := rf.atO (ov := some (.ref A)) (d := .dct t ki vi) (by simp)
                      cases e6
                      cases ow with
                      | @dct o _ tr _ _ hq2 hn2 d2 ek2 r1 r2 =>
                        have hlen : tr.length < sizeLine := by
                          have := hk.2
                          rw [ek2, List.length_map] at this
                          rw [lineEq]; exact this
                        refine ⟨o, tr, kd, ⟨hq2, hn2, d2, ek2 ▸ r1.mono rf.same⟩, hk.1, ry.mono rf.same, hlen, fun o' d' => ⟨by omega, wipeS vs δ7, dputK ki kd, dputV ki vi kd zd, back ?_, h⟩⟩
                        have pm : (σ2.zip δ7 ++ ((some z, .val zd) :: (some y, .val kd) :: (some (.ref A), .own (.dct t ki vi)) :: (saved σ δ vs ++ (es ++ τ)))).Perm ((some (.ref A), .own (.dct t ki vi)) :: (σ2.zip δ7 ++ ((some z, .val zd) :: (some y, .val kd) :: (saved σ δ vs ++ (es ++ τ))))) :=
                          (List.Perm.append_left _ ((List.Perm.cons _ (List.Perm.swap ..)).trans (List.Perm.swap ..))).trans List.perm_middle
                        have r7 := (rf.perm pm).mut (u := atO A o') (d' := .dct t (dputK ki kd) (dputV ki vi kd zd)) (.dct upd_same hn2 d' (by rw [ek2]; exact tput_keys.symm) (by rw [ek2] at r1 ⊢; exact tput_kreps r1 ry) (by rw [ek2]; exact tput_vreps r2 rz))
                        refine ⟨s7.len, Rel.perm List.perm_middle.symm (Rel.sub ?_ ⟨f, r7⟩), s7.io⟩
                        exact (((List.sublist_cons_self ..).trans (List.sublist_cons_self ..)).append_left _).cons₂ _
                    · cases h
    · refine .inl ⟨it.stop H _ i rl hge, ?_⟩
      rw [List.drop_eq_nil_of_le hge] at h
      simp only [dcL] at h
      cases h
      refine hq (.ref A) H ⟨?_, ?_, sr.io⟩ (fun i e => nomatch e)
      · have := s.len
        rw [wipe_length] at this
        rw [restS_len]
        exact this
      · have r3 := Rel.rest (σ := σ) (δ := δ) s.len no (fun e he => List.mem_cons_of_mem _ (List.mem_append_left _ he)) s.rel
        rw [restV_wipe] at r3
        refine r3.sub (List.Sublist.append_left ?_ _)
        exact List.Sublist.cons₂ _ ((List.sublist_append_right es τ).trans (List.sublist_append_right _ _))
section
variable {kx vx iter' : Expr} {ifs : List Expr} {scope : Scope} {own : List (Str × Nat)} {ke ve c : E} {tt : PyV.T} {k : Ik} {its : List E} {t : Bool}
theorem dcV_eq {s : Ss} : evE T p (.dc t ke ve tt k its c (own.map (·.2))) s = (evEs T p its s).bind fun rs s1 => match fzs s1 rs with
    | none => .bad
    | some (ds, s2) => match itemsD k ds with
      | none => .bad
      | some xs => if noOwn p (own.map (·.2)) s2 = true then
          match dcL t (asgT p tt) (condD T p c) (evE T p ke) (evE T p ve) (wipeS (own.map (·.2))) xs [] [] (wipeS (own.map (·.2)) s2) with
          | .ok (ks, vs) s3 => .ok (.own (.dct t ks vs)) (restS s2 (own.map (·.2)) s3)
          | _ => .bad
        else .bad := by
  unfold evE
  cases c <;> rfl
theorem zdc_read (hp : IoP io p) (htv : ∀ i ∈ tvs tt, i ∈ own.map (·.2)) : ∀ σ H Q, tD κ io W (evE T p (.dc t ke ve tt k its c (own.map (·.2)))) σ H Q →
    zDc κ t (tDI κ io W k (evEs T p its)) (gD κ io p tt) (tDT κ io wF (condD T p c)) (tD κ io wF (evE T p ke)) (tD κ io wF (evE T p ve)) (own.map (·.2)) σ H Q := fun σ H Q ⟨δ, τ, s, h⟩ => by
  rw [dcV_eq] at h
  refine ⟨δ, τ, s, ?_⟩
  cases e : evEs T p its δ with
  | bad => rw [e] at h; exact h
  | ex x δ1 => rw [e] at h; exact h
  | ok rs δ1 =>
    rw [e] at h
    simp only [R.bind] at h
    split at h
    · exact h.elim
    · rename_i ds δ2 hf
      split at h
      · exact h.elim
      · rename_i xs hx
        split at h
        · rename_i hno
          refine ⟨ds, δ2, xs, hf, hx, fun es J H1 s1 it => ?_⟩
          split at h
          · rename_i ks vs s3 hl
            exact zdc_use hp s1 it hno htv hl h
          · exact h.elim
        · exact h.elim
theorem snd_dc (kxx : KX κ X) (hu : X.A.units + 64 < cLine) (hp : IoP io p) (hc : X.calm = true) (hN : X.N.Nodup) (hi : PI X tg iter' (tDI κ io W k (evEs T p its))) (ok : BlkOk X.N X.env.scope scope own)
    (hg : ∀ (s : Shared) (H : Hp) (C : Addr) (cl : List (Str × Addr)) (fp : List Addr), PG (X.blk s H scope (compEnvC scope cl C X.env) fp) tg (gD κ io p tt)) (ht : ∀ (s : Shared) (H : Hp) (C : Addr) (cl : List (Str × Addr)) (fp : List Addr), PTs (X.blk s H scope (compEnvC scope cl C X.env) fp) ifs (tDT κ io wF (condD T p c)))
    (hk : ∀ (s : Shared) (H : Hp) (C : Addr) (cl : List (Str × Addr)) (fp : List Addr), PE (X.blk s H scope (compEnvC scope cl C X.env) fp) kx (tD κ io wF (evE T p ke)))
    (he : ∀ (s : Shared) (H : Hp) (C : Addr) (cl : List (Str × Addr)) (fp : List Addr), PE (X.blk s H scope (compEnvC scope cl C X.env) fp) vx (tD κ io wF (evE T p ve))) (hs : ∀ x, foldedSetIterable iter' X.env x = pure x) (htv : ∀ i ∈ tvs tt, i ∈ own.map (·.2)) :
    PE X (.DictComp kx vx [⟨tg, iter', ifs, 0⟩] scope pos) (tD κ io W (evE T p (.dc t ke ve tt k its c (own.map (·.2))))) :=
  PE.imp (pe_zdc kxx hu hc hN hi ok hg ht hk he hs) (zdc_read hp htv)
theorem snd_setDc {i : Nat} {y : Str} {py spos : Pos} (kxx : KX κ X) (hu : X.A.units + 64 < cLine) (hp : IoP io p) (hc : X.calm = true) (hN : X.N.Nodup) (hy : X.N[i]? = some y) (hyl : X.env.scope.names.lookup y = some .local) (hsw : swapsWith (.DictComp kx vx [⟨tg, iter', ifs, 0⟩] scope pos) (some (.Name y py)) spos.line X.env = pure true)
    (hi : PI X tg iter' (tDI κ io W k (evEs T p its))) (ok : BlkOk X.N X.env.scope scope own)
    (hg : ∀ (s : Shared) (H : Hp) (C : Addr) (cl : List (Str × Addr)) (fp : List Addr), PG (X.blk s H scope (compEnvC scope cl C X.env) fp) tg (gD κ io p tt)) (ht : ∀ (s : Shared) (H : Hp) (C : Addr) (cl : List (Str × Addr)) (fp : List Addr), PTs (X.blk s H scope (compEnvC scope cl C X.env) fp) ifs (tDT κ io wF (condD T p c)))
    (hk : ∀ (s : Shared) (H : Hp) (C : Addr) (cl : List (Str × Addr)) (fp : List Addr), PE (X.blk s H scope (compEnvC scope cl C X.env) fp) kx (tD κ io wF (evE T p ke)))
    (he : ∀ (s : Shared) (H : Hp) (C : Addr) (cl : List (Str × Addr)) (fp : List Addr), PE (X.blk s H scope (compEnvC scope cl C X.env) fp) vx (tD κ io wF (evE T p ve))) (hs : ∀ x, foldedSetIterable iter' X.env x = pure x) (htv : ∀ i ∈ tvs tt, i ∈ own.map (·.2)) :
    PS X (.Assign [.Name y py] (.DictComp kx vx [⟨tg, iter', ifs, 0⟩] scope pos) spos) (tDS κ io W (evS T p n (.asg (.v i) (.dc t ke ve tt k its c (own.map (·.2)))))) :=
  PS.imp (ps_setZdc kxx hu hc hN hy hyl hsw hi ok hg ht hk he hs) fun D σ H ⟨δ, τ, s, h⟩ => by
    simp only [evS] at h
    refine zdc_read (W := W) hp htv σ H _ (seqS (α := Unit) (ρ := []) h s fun r δ1 v H1 s1 a1 h1 => ?_)
    obtain ⟨δ', h2, h3⟩ := nxO_post h1
    unfold putR at h2
    split at h2
    · rename_i x δ2 hx
      exact h3 _ _ ((s1.sl1 a1 hx).store hp h2)
    · cases h2
end
end
end PyV
set_option Elab.async false
set_option linter.all false
set_option maxRecDepth 100000
set_option maxHeartbeats 2000000
namespace PyV
open PySem PySem.Spec PyProof.Rows L2

section
variable {prog : Program} {w : World} {A : Around} {s : Shared} {E : Value → Shared → Prop} {r d : Addr} {es : Array DictEntry} {ep : Nat}
theorem sorted_views {Q : Value → Shared → Prop} {kw : List (Str × Value)} (hh : A.handled = none) (hv : s.heap.IsItemsView r d) (hm : DT.Raw s.heap d es ep) (hn : es.size ≤ sizeLine) (ak : argsOk "sorted" ⟨[.ref r], kw⟩)
    (h : ∀ (h' : Heap) (tk : Nat) (as : List Addr), (∀ b o, s.heap.get? b = some o → h'.get? b = some o) → s.heap.objs.size < h'.objs.size → as.length = es.size → DT.Made es s.heap.objs.size h' as →
      wpAny (model prog w) A.in1 (call (.builtin "list.sort") [.ref h'.objs.size] kw) (fun _ s' => Q (.ref h'.objs.size) s') E { s with heap := h'.push { cls := .type "list", data := .seq (as.map Value.ref).toArray }, toks := tk }) :
    wpAny (model prog w) A (call (.builtin "sorted") [.ref r] kw) Q E s := by
  refine call_function_entry_kw kind_sorted plain_sorted entry_sorted ak ?_
  unfold Builtin.«sorted»
  refine wpAny_bind (m := checkCount "sorted" 1 1 _) (wpAny_pure ?_)
  refine wpAny_bind (DT.collectI (A := A.in1) (es := es) (ep := ep) hh hv hm hn fun h1 tk as k1 k2 k3 k4 => ?_)
  refine wpAny_bind (wpAny_newList ?_ (by rw [List.length_map, k3]; exact hn))
  refine wpAny_bind (wpAny_holding (wpAny_mono (h h1 tk as k1 k2 k3 k4) (fun _ s' x => ?_) fun _ _ e => e))
  exact wpAny_pure ⟨_, rfl, x⟩
end
def lkA : List (Addr × (Int × Int)) → Addr → Int × Int
  | [], _ => (0, 0)
  | z :: r, a => if a = z.1 then z.2 else lkA r a
theorem lkA_map : ∀ {as : List Addr} {ps : List (Int × Int)}, as.Nodup → as.length = ps.length → as.map (lkA (as.zip ps)) = ps
  | [], [], _, _ => rfl
  | [], _ :: _, _, h => by simp at h
  | _ :: _, [], _, h => by simp at h
  | a :: as, p :: ps, nd, h => by
    rw [List.nodup_cons] at nd
    rw [List.zip_cons_cons, List.map_cons]
    have e1 : lkA ((a, p) :: as.zip ps) a = p := by simp [lkA]
    have e2 : as.map (lkA ((a, p) :: as.zip ps)) = as.map (lkA (as.zip ps)) := List.map_congr_left fun b hb => by
      have : b ≠ a := fun z => nd.1 (z ▸ hb)
      simp [lkA, this]
    rw [e1, e2, lkA_map nd.2 (by simpa using h)]
def adrV : Value → Addr
  | .ref a => a
  | _ => 0
section
variable {X : Cx} {κ : Kx} {pins : List (Addr × Obj)}
theorem tups_known {σ : L2.St} {H0 : Hp} {s : Shared} {hh : Heap} {tk : Nat} {P : Addr → List V → Prop} (I0 : Inv X pins σ H0 s) : ∀ (L : List Addr) (G : Hp), Inv X pins σ G { s with heap := hh, toks := tk } → L.Nodup →
    (∀ a ∈ L, s.heap.objs.size ≤ a ∧ G a = none ∧ ∃ vs, P a vs ∧ ∀ H2, ObjOk X.prog X.w H2 hh a (.tup vs)) →
    ∃ G2, Inv X pins σ G2 { s with heap := hh, toks := tk } ∧ (∀ c, c ∉ L → G2 c = G c) ∧ ∀ a ∈ L, ∃ vs, P a vs ∧ G2 a = some (.tup vs)
  | [], G, I, _, _ => ⟨G, I, fun _ _ => rfl, fun _ h => nomatch h⟩
  | b :: L, G, I, nd, all => by
    rw [List.nodup_cons] at nd
    obtain ⟨q1, q2, vs, q3, q4⟩ := all b List.mem_cons_self
    have J : Inv X pins σ (upd G b (.tup vs)) { s with heap := hh, toks := tk } := I.take (h' := hh) (t' := tk) (fun _ _ _ e => e) (I0.fpOk q1 q2) (q4 _)
    obtain ⟨G2, J2, keep, got⟩ := tups_known I0 L (upd G b (.tup vs)) J nd.2 fun c hc => by
      obtain ⟨c1, c2, c3⟩ := all c (List.mem_cons_of_mem _ hc)
      have ne : c ≠ b := fun z => nd.1 (z ▸ hc)
      exact ⟨c1, by rw [upd_ne ne]; exact c2, c3⟩
    refine ⟨G2, J2, fun c hc => ?_, fun c hc => ?_⟩
    · rw [List.mem_cons, not_or] at hc
      rw [keep c hc.2, upd_ne hc.1]
    · rcases List.mem_cons.mp hc with rfl | hc
      · exact ⟨vs, q3, by rw [keep _ nd.1, upd_same]⟩
      · exact got c hc
structure SrtA (H H2 : Hp) (l : Addr) (zs : List (Addr × (Int × Int))) : Prop where
  old : ∀ c, (∀ z ∈ zs, c ≠ z.1) → H2 c = H c
  new : ∀ z ∈ zs, H z.1 = none ∧ H2 z.1 = some (.tup [.int z.2.1, .int z.2.2])
  fre : H2 l = none
def ordP (b : Bool) (ps : List (Int × Int)) : List (Int × Int) := if b = true then (sortP ps).reverse else sortP ps
def srtQ (κ : Kx) (b : Bool) (a : Addr) (Q : VK) (H : Hp) : Prop := ∃ o t tr ps, DAt κ H a o t tr ∧ tr.map (fun x => (x.2.1, x.2.2)) = ps.map (fun p : Int × Int => (V.int p.1, V.int p.2)) ∧ ps.length ≤ 4000 ∧
  ∀ H2 l zs, SrtA H H2 l zs → zs.map (·.2) = ordP b ps → Q (.ref l) (upd H2 l (.lst (zs.map fun z => V.ref z.1)))
def revK (b : Bool) : List (Str × Value) := if b = true then [(Str.ofString "reverse", .bool true)] else []
theorem srt_run {b : Bool} {σ : L2.St} {H : Hp} {s : Shared} {v a : Addr} {Q : VK} (kx : KX κ X) (hc : X.calm = true) (I : Inv X pins σ H s) (hv : s.heap.IsItemsView v a) (h : srtQ κ b a Q H) :
    wpAny (model X.prog X.w) X.A (call (.builtin "sorted") [.ref v] (revK b)) (EP X pins σ Q) X.xe s := by
  obtain ⟨o, t, tr, ps, da, ep0, hl, q⟩ := h
  obtain ⟨es, ep, hdat, pe⟩ := da.o.dat
  have ho := da.get I.hok
  have hd : (a == sysModules) = false := da.ns
  have ln : tr.length = ps.length := by simpa using congrArg List.length ep0
  have le : tr.length = es.size := by rw [pe.length]; simp
  have hh : X.A.handled = none := I.ok.hd hc
  refine sorted_views (es := es) (ep := ep) hh hv ⟨o, ho, da.o.ex, hdat⟩ (by rw [← le]; exact da.o.sz) (by unfold revK; cases b; exact args_sorted1 _; exact args_sorted_rev _ _) fun h' tk as hk hlt hla hG => ?_
  have lap : as.length = ps.length := by omega
  have nd : as.Nodup := List.Pairwise.imp (fun h => Nat.ne_of_lt h) hG.rise
  -- the pairs
  have pr : ∀ (j : Nat) (c : Addr), as[j]? = some c → ∃ p t1 t2, ps[j]? = some p ∧ h'.get? c = some { cls := .type "tuple", data := .seq #[Value.int p.1 t1, Value.int p.2 t2] } := by
    intro j c hj
    obtain ⟨en, he, hg⟩ := hG.pairs j c hj
    have he' : es.toList[j]? = some en := by rw [Array.getElem?_toList]; exact he
    obtain ⟨x, hx, k, k1, k2, k3, k4, k5⟩ := L2.DX.pget pe he'
    have hm : (tr.map fun x => (x.2.1, x.2.2))[j]? = some (x.2.1, x.2.2) := by rw [List.getElem?_map, hx]; rfl
    rw [ep0, List.getElem?_map] at hm
    obtain ⟨p, hp, e⟩ := Option.map_eq_some_iff.mp hm
    have e1 : V.int p.1 = x.2.1 := congrArg Prod.fst e
    have e2 : V.int p.2 = x.2.2 := congrArg Prod.snd e
    rw [← e1] at k4
    rw [← e2] at k5
    obtain ⟨t1, k4⟩ := k4
    obtain ⟨t2, k5⟩ := k5
    exact ⟨p, t1, t2, hp, by rw [hg, k4, k5]⟩
  have km := lkA_map nd lap
  have kat : ∀ (j : Nat) (c : Addr) (p : Int × Int), as[j]? = some c → ps[j]? = some p → lkA (as.zip ps) c = p := fun j c p h1 h2 => by
    have e : (as.map (lkA (as.zip ps)))[j]? = some (lkA (as.zip ps) c) := by rw [List.getElem?_map, h1]; rfl
    rw [km, h2] at e
    exact (Option.some.inj e).symm
  have at_ : ∀ c ∈ as, ∃ t1 t2, h'.get? c = some { cls := .type "tuple", data := .seq #[Value.int (lkA (as.zip ps) c).1 t1, Value.int (lkA (as.zip ps) c).2 t2] } := fun c hc => by
    obtain ⟨j, hj⟩ := List.mem_iff_getElem?.mp hc
    obtain ⟨p, t1, t2, h1, h2⟩ := pr j c hj
    exact ⟨t1, t2, by rw [kat j c p hj h1]; exact h2⟩
  -- the heap of the sort
  have hob : (h'.push { cls := .type "list", data := .seq (as.map Value.ref).toArray }).get? h'.objs.size = some (seqObj "list" (as.map Value.ref).toArray 0) := Heap.get?_push_size _ rfl
  have ka : ∀ c u, h'.get? c = some u → (h'.push { cls := .type "list", data := .seq (as.map Value.ref).toArray }).get? c = some u := fun c u e => Heap.get?_push_of_some _ e
  generalize h'.push { cls := .type "list", data := .seq (as.map Value.ref).toArray } = h2 at hob ka ⊢
  have hz : (as.map Value.ref).length ≤ sizeLine := by rw [List.length_map, sizeLine_eq]; omega
  have ip : ∀ u ∈ as.map Value.ref, Srt.IsPair h2 u (lkA (as.zip ps) (adrV u)).1 (lkA (as.zip ps) (adrV u)).2 := fun u hu => by
    obtain ⟨c, hc, rfl⟩ := List.mem_map.mp hu
    obtain ⟨t1, t2, g⟩ := at_ c hc
    exact ⟨c, _, t1, t2, 0, rfl, ka _ _ g, rfl, rfl⟩
  have nt : ∀ u, h2.get? h'.objs.size = some u → u.cls ≠ .type "tuple" := fun u e z => by
    rw [hob] at e
    cases e
    injection z with z3
    exact absurd z3 (by decide)
  -- behind the sort
  have fin : ∀ (out : List Value) (arr : Array Value), arr.toList = (if b = true then out.reverse else out) → SrtO.Srtd (fun v u => SrtO.lexB (lkA (as.zip ps) (adrV v)) (lkA (as.zip ps) (adrV u))) out → out.Perm (as.map Value.ref) →
      EP X pins σ Q (.ref h'.objs.size) { s with heap := sortedHeap h2 h'.objs.size (as.map Value.ref) arr, toks := tk } := fun out arr ea hs hp => by
    have mo : ∀ u ∈ out, ∃ c ∈ as, u = Value.ref c := fun u hu => by
      obtain ⟨c, hc, e⟩ := List.mem_map.mp (hp.mem_iff.mp hu)
      exact ⟨c, hc, e.symm⟩
    have pm : (out.map fun u => lkA (as.zip ps) (adrV u)).Perm ps := by
      have e := hp.map fun u => lkA (as.zip ps) (adrV u)
      rw [List.map_map] at e
      have e2 : as.map ((fun u => lkA (as.zip ps) (adrV u)) ∘ Value.ref) = ps := km
      rw [e2] at e
      exact e
    have up : (out.map fun u => lkA (as.zip ps) (adrV u)).Pairwise (fun p q => leP p q = true) := by
      rw [List.pairwise_map]
      refine List.Pairwise.imp (fun {x y} h => ?_) hs
      have h4 := SrtO.lexB_no.mp h
      rw [leP_iff]
      omega
    have so : (arr.toList.map fun u => lkA (as.zip ps) (adrV u)) = ordP b ps := by
      have e0 := sortP_is pm up
      rw [ea]
      unfold ordP
      rw [← e0]
      split
      · rw [List.map_reverse]
      · rfl
    have pa : arr.toList.Perm (as.map Value.ref) := by
      rw [ea]
      split
      · exact (List.reverse_perm _).trans hp
      · exact hp
    have ma : ∀ u ∈ arr.toList, ∃ c ∈ as, u = Value.ref c := fun u hu => by
      obtain ⟨c, hc, e⟩ := List.mem_map.mp (pa.mem_iff.mp hu)
      exact ⟨c, hc, e.symm⟩
    have nl : h'.objs.size ∉ as := fun z => Nat.lt_irrefl _ (hG.there z)
    have kF : ∀ c u, c ≠ h'.objs.size → h2.get? c = some u → (sortedHeap h2 h'.objs.size (as.map Value.ref) arr).get? c = some u := fun c u hc e => (sortedHeap_old hc (Heap.lt_size e)).trans e
    have kS : ∀ c u, s.heap.get? c = some u → (sortedHeap h2 h'.objs.size (as.map Value.ref) arr).get? c = some u := fun c u e => kF c u (Nat.ne_of_lt (Nat.lt_trans (Heap.lt_size e) hlt)) (ka c u (hk c u e))
    obtain ⟨eF, heF⟩ := sortedHeap_at (vs := as.map Value.ref) (out := arr) hob
    have I1 : Inv X pins σ H { s with heap := sortedHeap h2 h'.objs.size (as.map Value.ref) arr, toks := tk } := I.kept (t' := tk) kS
    have hn0 : H h'.objs.size = none := I.hok.fresh (Nat.le_of_lt hlt)
    obtain ⟨H2, I2, old, new⟩ := tups_known (P := fun c vs => vs = [.int (lkA (as.zip ps) c).1, .int (lkA (as.zip ps) c).2]) I as H I1 nd fun c hc => by
      obtain ⟨t1, t2, g⟩ := at_ c hc
      have hb := hG.above c hc
      refine ⟨Nat.le_of_lt hb, I.hok.fresh (Nat.le_of_lt hb), _, rfl, fun G => ?_⟩
      exact ⟨by show 2 ≤ sizeLine; rw [sizeLine_eq]; omega, [_, _], .cons ⟨t1, rfl⟩ (.cons ⟨t2, rfl⟩ .nil), _, kF c _ (fun z => nl (z ▸ hc)) (ka c _ g), rfl, 0, rfl⟩
    have hn2 : H2 h'.objs.size = none := by rw [old _ nl]; exact hn0
    have el : (arr.toList.map fun u => (adrV u, lkA (as.zip ps) (adrV u))).map (fun z => V.ref z.1) = arr.toList.map fun u => V.ref (adrV u) := by
      rw [List.map_map]
      rfl
    have rv : Vals (arr.toList.map fun u => V.ref (adrV u)) arr.toList := by
      have go : ∀ us : List Value, (∀ u ∈ us, ∃ c ∈ as, u = Value.ref c) → Vals (us.map fun u => V.ref (adrV u)) us := fun us => by
        induction us with
        | nil => exact fun _ => .nil
        | cons u us ih =>
          intro hu
          obtain ⟨c, _, rfl⟩ := hu u List.mem_cons_self
          exact .cons rfl (ih fun x hx => hu x (List.mem_cons_of_mem _ hx))
      exact go _ ma
    have I3 : Inv X pins σ (upd H2 h'.objs.size (.lst (arr.toList.map fun u => V.ref (adrV u)))) { s with heap := sortedHeap h2 h'.objs.size (as.map Value.ref) arr, toks := tk } :=
      I2.take (h' := sortedHeap h2 h'.objs.size (as.map Value.ref) arr) (t' := tk) (fun _ _ _ e => e) (I.fpOk (Nat.le_of_lt hlt) hn2) ⟨by rw [List.length_map, pa.length_eq]; exact hz, arr.toList, eF, rv, heF⟩
    have fz : ∀ z ∈ arr.toList.map fun u => (adrV u, lkA (as.zip ps) (adrV u)), z.1 ∈ as ∧ z.2 = lkA (as.zip ps) z.1 := fun z hz => by
      obtain ⟨u, hu, rfl⟩ := List.mem_map.mp hz
      obtain ⟨c, hc, rfl⟩ := ma u hu
      exact ⟨hc, rfl⟩
    refine ⟨.ref h'.objs.size, _, I3, rfl, ?_⟩
    rw [← el]
    refine q H2 h'.objs.size _ ⟨fun c hc => old c fun hm => ?_, fun z hz => ?_, hn2⟩ ?_
    · have hv : Value.ref c ∈ arr.toList := pa.mem_iff.mpr (List.mem_map_of_mem hm)
      exact hc (c, lkA (as.zip ps) c) (List.mem_map.mpr ⟨_, hv, rfl⟩) rfl
    · obtain ⟨f1, f2⟩ := fz z hz
      obtain ⟨vs, f3, f4⟩ := new z.1 f1
      exact ⟨I.hok.fresh (Nat.le_of_lt (hG.above _ f1)), by rw [f4, f3, f2]⟩
    · rw [List.map_map]
      exact so
  cases b with
  | false =>
    refine wpAny_call_entry slot_list_sort ⟨_, hob, rfl⟩ entry_list_sort
      (SrtO.list_sort_ord (s := { s with heap := h2, toks := tk }) (SrtO.swo_lex fun u => lkA (as.zip ps) (adrV u)) hob hz (fun h3 => SrtO.pairs_sortableO (by omega) ip nt) fun out h1 h3 => ⟨.none, rfl, ?_⟩) (args_list_sort _)
    exact fin out out.toArray (by simp) h1 h3.perm
  | true =>
    refine wpAny_call_entry_kw slot_list_sort ⟨_, hob, rfl⟩ entry_list_sort
      (SrtR.list_sort_ordR (s := { s with heap := h2, toks := tk }) (b := true) (SrtO.swo_lex fun u => lkA (as.zip ps) (adrV u)) hob hz (fun h3 => SrtO.pairs_sortableO (by omega) ip nt) fun out h1 h3 => ⟨.none, rfl, ?_⟩) (args_list_sort_rev _ _)
    exact fin out out.toArray.reverse (by rw [Array.toList_reverse]; rfl) h1 (h3.perm.trans (List.reverse_perm _))
end
section
variable {κ : Kx} {io : Nat → V → Prop} {W : WX} {σ : L2.St} {f H : Hp} {δ δ' : Ss} {τ τ' ρ : List En} {Q : VK} {T : Tab} {X : Cx} {a' b' e' : Expr} {pos apos cpos : Pos} {L : List En}
def zItems (κ : Kx) (td : TE) : TE := fun σ H Q => td σ H fun x H1 => ∃ a o t tr, x = .ref a ∧ DAt κ H1 a o t tr ∧ ∀ p, H1 p = none → Q (.ref p) (upd H1 p (L2.DX.itemsO p a))
theorem pe_zview {td : TE} (hbase : attributeBase a' "items" X.env (eval a' X.env) = eval a' X.env) (hline : (apos.endLine == cpos.line) = true) (ho : PE X a' td) : PE X (.Call (.Attribute a' "items" apos) [] [] cpos) (zItems κ td) := by
  refine ⟨fun pins s σ H Q I h => ?_⟩
  refine wpAny_Call_method hbase (by rfl) hline PySem.F.plainAttrs_dict PySem.F.slot_dict_items PySem.F.type_dict_items (thn (ho.run pins s σ H _ I h) fun u s1 ⟨x, H1, I1, rx, a, ob, t, tr, ex, d, q1⟩ => ?_)
  subst ex
  obtain rfl : u = Value.ref a := rx
  refine ⟨d.typeIs I1, d.noDict I1, ?_⟩
  obtain ⟨es, ep, hdat, _⟩ := d.o.dat
  refine Calls.callWith_builtin rfl (_root_.PySem.evalArgs_none ?_)
  refine DT.callItems (es := es) (ep := ep) d.ns ⟨ob, d.get I1.hok, d.o.ex, hdat⟩ ?_
  have hf : H1 s1.heap.objs.size = none := I1.hok.fresh (Nat.le_refl _)
  exact ⟨.ref s1.heap.objs.size, upd H1 s1.heap.objs.size (L2.DX.itemsO s1.heap.objs.size a), I1.laid (t' := s1.toks) (fun b u e => Heap.get?_push_of_some _ e) (Nat.le_refl _) (L2.DX.itemsO_ok (Heap.get?_push_size _ rfl)), rfl, q1 _ hf⟩
def rSrt (κ : Kx) (b : Bool) : List V → Hp → VK → Prop := fun vs H Q => ∃ p a, vs = [.ref p] ∧ H p = some (L2.DX.itemsO p a) ∧ srtQ κ b a Q H
theorem cr_srt (kx : KX κ X) (hc : X.calm = true) : CallR X (.builtin "sorted") (rSrt κ false) := by
  intro pins s σ H vs us Q I r h
  obtain ⟨p, a, rfl, hp, q⟩ := h
  obtain rfl := Vals.ref1 r
  exact srt_run kx hc I (show ObjOk X.prog X.w H s.heap p (L2.DX.itemsO p a) from I.hok p _ hp).1 q
theorem cr_srtR (kx : KX κ X) (hc : X.calm = true) : CallRK X (.builtin "sorted") [Str.ofString "reverse"] (fun vs zs H Q => zs = [.bl true] ∧ rSrt κ true vs H Q) := by
  intro pins s σ H vs zs us ws Q I r rz h
  obtain ⟨rfl, p, a, rfl, hp, q⟩ := h
  obtain rfl := Vals.ref1 r
  obtain ⟨w1, rfl, e1⟩ := vals1 rz
  obtain rfl : w1 = Value.bool true := e1
  exact srt_run kx hc I (show ObjOk X.prog X.w H s.heap p (L2.DX.itemsO p a) from I.hok p _ hp).1 q
theorem RelF.tups {H2 : Hp} {l : Addr} {zs : List (Addr × (Int × Int))} (r : RelF κ f H L) (h : SrtA H H2 l zs) : ∃ f2, RelF κ f2 H2 L ∧ Reps κ f2 (zs.map fun z => V.ref z.1) ((zs.map (·.2)).map pairI) ∧ Same f f2 := by
  have nf : ∀ z ∈ zs, f z.1 = none := fun z hz => r.same.free (h.new z hz).1
  have sm : Same f (fun c => if zs.any (fun z => decide (c = z.1)) = true then H2 c else f c) := fun c u hc => by
    have : ¬ zs.any (fun z => decide (c = z.1)) = true := fun hm => by
      obtain ⟨z, hz, e⟩ := List.any_eq_true.mp hm
      rw [of_decide_eq_true e, nf z hz] at hc
      cases hc
    show (if _ then _ else _) = _
    rw [if_neg this]
    exact hc
  refine ⟨_, ⟨fun c u hc => ?_, fun e he => ?_, r.nd⟩, ?_, sm⟩
  · by_cases m : zs.any (fun z => decide (c = z.1)) = true
    · simp only [if_pos m] at hc
      exact hc
    · simp only [if_neg m] at hc
      rw [h.old c fun z hz e => m (List.any_eq_true.mpr ⟨z, hz, decide_eq_true e⟩)]
      exact r.same c u hc
  · have z := r.ent e he
    obtain ⟨ov, sl⟩ := e
    cases sl with
    | emp => exact trivial
    | val d =>
      obtain ⟨v, e1, q⟩ := z
      exact ⟨v, e1, q.mono sm⟩
    | own d =>
      obtain ⟨b, e1, hb, o⟩ := z
      have hne : H b ≠ none := by
        cases o with
        | lst q _ => rw [q]; simp
        | obj _ q _ _ => rw [q]; simp
        | dct q _ _ _ _ _ => rw [q]; simp
      have nb : ∀ z ∈ zs, b ≠ z.1 := fun z hz e => hne (by rw [e]; exact (h.new z hz).1)
      have nm : ¬ zs.any (fun z => decide (b = z.1)) = true := fun hm => by
        obtain ⟨z, hz, e⟩ := List.any_eq_true.mp hm
        exact nb z hz (of_decide_eq_true e)
      refine ⟨b, e1, ?_, o.mono sm (h.old b nb)⟩
      show (if _ then _ else _) = _
      rw [if_neg nm]
      exact hb
  · have all : ∀ z ∈ zs, (fun c => if zs.any (fun z => decide (c = z.1)) = true then H2 c else f c) z.1 = some (.tup [.int z.2.1, .int z.2.2]) := fun z hz => by
      have m : zs.any (fun y => decide (z.1 = y.1)) = true := List.any_eq_true.mpr ⟨z, hz, decide_eq_true rfl⟩
      show (if _ then _ else _) = _
      rw [if_pos m]
      exact (h.new z hz).2
    generalize (fun c => if zs.any (fun z => decide (c = z.1)) = true then H2 c else f c) = f2 at all
    clear h nf sm
    induction zs with
    | nil => exact .nil
    | cons z zs ih => exact .cons (.tup (.inl (.inl (all z List.mem_cons_self))) (.cons (.int _) (.cons (.int _) .nil))) (ih fun y hy => all y (List.mem_cons_of_mem _ hy))
theorem allP_reps {tr : List (D × V × V)} : ∀ {ks vs : List D} {ps : List (Int × Int)}, Reps κ f (tr.map (·.2.1)) ks → Reps κ f (tr.map (·.2.2)) vs → allP (zipD ks vs) = some ps → tr.map (fun x => (x.2.1, x.2.2)) = ps.map (fun p : Int × Int => (V.int p.1, V.int p.2)) := by
  induction tr with
  | nil =>
    intro ks vs ps r1 r2 h
    cases r1
    cases r2
    simp [zipD, allP] at h
    subst h
    rfl
  | cons x tr ih =>
    intro ks vs ps r1 r2 h
    cases r1 with
    | cons q1 r1 =>
    cases r2 with
    | cons q2 r2 =>
    rename_i d ds d2 ds2
    simp only [zipD] at h
    cases d <;> cases d2 <;> simp only [allP] at h <;> try (cases h; done)
    rename_i i j
    obtain ⟨ps', hp, e⟩ := Option.map_eq_some_iff.mp h
    subst e
    have e1 : x.2.1 = V.int i := rep_int q1
    have e2 : x.2.2 = V.int j := rep_int q2
    rw [List.map_cons, List.map_cons, ih r1 r2 hp, e1, e2]
theorem srt_use {p : Option Nat} {b : Bool} {a : E} {s0 : Ss} {r : Rv} {δ1 : Ss} {v : V} {H1 : Hp} (s1 : SR κ io σ H1 δ1 (ent r v :: τ)) (a1 : AliOk σ r v)
    (h1 : post κ io W σ τ (okE κ io σ τ Q) (match rd δ1 r with
    | some (.dct false ks vs) => (match allP (zipD ks vs) with
      | some ps => if ps.length ≤ 4000 then R.ok (.own (.lst ((if b = true then (sortP ps).reverse else sortP ps).map pairI))) δ1 else .bad
      | none => .bad)
    | _ => .bad)) : ∃ a o t tr, v = .ref a ∧ DAt κ H1 a o t tr ∧ ∀ p, H1 p = none → srtQ κ b a Q (upd H1 p (L2.DX.itemsO p a)) := by
  split at h1
  · rename_i ks vs hd
    split at h1
    · rename_i ps hps
      split at h1
      · rename_i hl
        obtain ⟨f, rf⟩ := s1.rel
        obtain ⟨a, o, tr, rfl, da, ek, r1, r2⟩ := dct_of rf.same (s1.read (by simp [ent]) a1 hd rf)
        refine ⟨a, o, false, tr, rfl, da, fun p hp => ?_⟩
        have e1 : Same H1 (upd H1 p (L2.DX.itemsO p a)) := fun c u hc => by rw [upd_ne (ne_of_none hc hp)]; exact hc
        refine ⟨o, false, tr, ps, ⟨e1 _ _ da.at_, da.ns, da.o, da.ks.mono e1⟩, allP_reps r1 r2 hps, hl, fun H2 l zs sa so => ?_⟩
        obtain ⟨f2, rf2, rp, _⟩ := (rf.grow e1).tups sa
        rw [so] at rp
        have rf3 : RelF κ f2 H2 (σ.zip δ1 ++ τ) := rf2.sub (List.Sublist.append_left (List.sublist_cons_self _ _) _)
        have lay := rf3.laid (u := .lst (zs.map fun z => V.ref z.1)) (d := .lst ((ordP b ps).map pairI)) sa.fre (.lst upd_same rp)
        exact h1 (.ref l) _ ⟨s1.len, Rel.perm List.perm_middle.symm ⟨_, lay⟩, s1.io⟩ (fun i e => nomatch e)
      · exact h1.elim
    · exact h1.elim
  · exact h1.elim
theorem snd_srt {p : Option Nat} {a : E} {x : Str} {q : Pos} (kx : KX κ X) (hx : x = "sorted") (hc : X.calm = true) (hg : Gl X x) (hm : X.mg x = none) (ha : PE X a' (tD κ io W (evE T p a))) (hbase : attributeBase a' "items" X.env (eval a' X.env) = eval a' X.env) (hline : (apos.endLine == cpos.line) = true) :
    PE X (.Call (.Name x q) [.Call (.Attribute a' "items" apos) [] [] cpos] [] pos) (tD κ io W (evE T p (.srt false a))) := by
  subst hx
  refine PE.imp (pe_callB (cr_srt kx hc) hg hm (by rfl) (pa_cons (pe_zview (κ := κ) hbase hline ha) pa_nil (by rfl)) (by decide) (by decide) (by rfl) (by rfl)) fun σ H Q ⟨δ, τ, s, h⟩ => ?_
  simp only [evE] at h
  refine seqD (ρ := []) h s fun r δ1 v H1 s1 a1 h1 => ?_
  obtain ⟨a, o, t, tr, rfl, da, k⟩ := srt_use (b := false) (p := p) (a := .non) (s0 := []) s1 a1 h1
  exact ⟨a, o, t, tr, rfl, da, fun p' hp' => ⟨p', a, rfl, upd_same, k p' hp'⟩⟩
theorem snd_srtR {p : Option Nat} {a : E} {x nm : Str} {q kp bp : Pos} {j : Nat} (kx : KX κ X) (hx : x = "sorted") (hn : nm = "reverse") (hc : X.calm = true) (hg : Gl X x) (hm : X.mg x = none) (ha : PE X a' (tD κ io W (evE T p a))) (hbase : attributeBase a' "items" X.env (eval a' X.env) = eval a' X.env) (hline : (apos.endLine == cpos.line) = true) :
    PE X (.Call (.Name x q) [.Call (.Attribute a' "items" apos) [] [] cpos] [⟨some nm, .Constant (.bool true) j bp, kp⟩] pos) (tD κ io W (evE T p (.srt true a))) := by
  subst hx
  subst hn
  refine PE.imp (pe_callBK (cr_srtR kx hc) hg hm (by rfl) (pa_cons (pe_zview (κ := κ) hbase hline ha) pa_nil (by rfl)) (pk_cons pe_bl pk_nil) (by decide) (by decide) (by rfl) (by rfl) (by rfl) (by rfl) (by rfl)) fun σ H Q ⟨δ, τ, s, h⟩ => ?_
  simp only [evE] at h
  refine seqD (ρ := []) h s fun r δ1 v H1 s1 a1 h1 => ?_
  obtain ⟨a, o, t, tr, rfl, da, k⟩ := srt_use (b := true) (p := p) (a := .non) (s0 := []) s1 a1 h1
  exact ⟨a, o, t, tr, rfl, da, fun p' hp' => ⟨rfl, p', a, rfl, upd_same, k p' hp'⟩⟩
end
end PyV
set_option Elab.async false
set_option linter.all false
set_option maxRecDepth 100000
set_option maxHeartbeats 2000000
namespace PyV
open PySem PySem.Spec PyProof.Rows L2

structure RseOk (κ : Kx) (K : PySem.W.Frag) (mg : Str → Option Value) (c : Nat) (x : Str) : Prop where
  kx : κ.x c = true
  ex : PySem.W.excIn K (κ.cls c) [.type "ValueError", .type "Exception", .type "BaseException", .type "object"] "ValueError.__new__" = true
  gC : mg x = some (.ref (κ.cls c))
  kC : PySem.W.keepIn K (.ref (κ.cls c)) = true
  sb : PySem.W.subIn K (.ref (κ.cls c)) (.type "BaseException") = some true
  ty : PySem.W.typeIn K (.ref (κ.cls c)) = some (.type "type")
section
variable {κ : Kx} {io : Nat → V → Prop} {W : WX} {T : Tab} {X : Cx} {p : Option Nat} {n : Nat}
theorem snd_rse {c j : Nat} {x m : Str} {q p2 cpos pos : Pos} (hc : X.calm = true) (tk : Takes X W) (ok : RseOk κ X.K X.mg c x) (hg : Gl X x) (hdb : (x == ("__debug__" : Str)) = false) :
    PS X (.Raise (some (.Call (.Name x q) [.Constant (.str m) j p2] [] cpos)) none pos) (tDS κ io W (evS T p n (.rse c))) :=
  PS.imp (ps_raise hc tk (pmk_own PySem.F.excBase_ValueError ok.ex ok.gC ok.kC (raises_own ok.sb ok.ty) hg hdb)) fun D σ H ⟨δ, τ, s, h⟩ => by
    simp only [evS] at h
    exact h _ _ σ H s ⟨rfl, rfl, ok.kx, rfl⟩
end

theorem exZ_ok {P : Program} {w : World} {H : Hp} {h : Heap} {a : Addr} {cls : Value} {d : Option Addr} {oe : Obj} {vs : Array Value} (e : h.get? a = some oe) (c : oe.cls = cls) (k : oe.dict = d) (f : oe.data = .fields vs) : ObjOk P w H h a (ExZ cls d a) :=
  ⟨⟨oe, vs, e, c, k, f⟩, ⟨oe, e⟩, fun _ _ ⟨o, v, q, r⟩ k => ⟨o, v, k o q, r⟩⟩
section
variable {X : Cx} {pins : List (Addr × Obj)} {σ : L2.St} {H : Hp} {s : Shared}
theorem Inv.toSuite (I : Inv X pins σ H s) (a : Addr) : Inv (X.suite a (X.pn ++ pins)) [] σ H s :=
  ⟨I.ok.suite _ _, I.os, I.bare, I.base, I.loc, I.cell, I.free, I.freeC, fun p hp => I.pin p (by rw [List.append_nil] at hp; exact hp), I.hok, I.len⟩
theorem Inv.ofSuite {a : Addr} {pn' : List (Addr × Obj)} (I : Inv (X.suite a (X.pn ++ pins)) pn' σ H s) (ok : X.Ok) : Inv X pins σ H s :=
  ⟨ok, I.os, I.bare, I.base, I.loc, I.cell, I.free, I.freeC, fun p hp => I.pin p (List.mem_append_left _ hp), I.hok, I.len⟩
theorem Inv.keepX {sI s' : Shared} {B : Heap} {a : Addr} {o : HO} (I : Inv X pins σ H sI) (nb : ∀ b o, sI.heap.get? b = some o → b ∉ frs X.stack → B.get? b = some o) (st : B.StaysIn s'.heap) (up : sI.heap.UpToSlots s'.heap) (os : s'.os = sI.os) (ag : AllBare s'.gens)
    (gn : sI.heap.get? a = none) (na : H a = none) (hok : HOk X.prog X.w (upd H a o) s'.heap) : Inv X pins σ (upd H a o) s' := by
  have ne : ∀ b o, sI.heap.get? b = some o → b ≠ a := fun b o e z => by
    rw [z, gn] at e
    cases e
  have nf : ∀ b ∈ frs X.stack, ∀ o, sI.heap.get? b = some o → ∃ sl, s'.heap.get? b = some { o with slots := sl } := fun b hb o e => by
    obtain ⟨_, o', e', hd⟩ := I.stack.mem hb
    rw [e] at e'
    cases e'
    exact up b o e hd
  refine I.call' (ch := []) os ⟨fun b o e _ hb _ => st b o (nb b o e hb), fun b o e _ hb _ => nf b hb o e, fun b o e n _ => by rw [upd_ne (ne b o e)]; exact n, fun b o e _ => ?_, fun b xs e => by rw [upd_ne (ne_of_none e na)]; exact e, fun b o u e => by rw [upd_ne (ne_of_none e na)]; exact e,
    fun b ps e => ⟨#[], by rw [upd_ne (ne_of_none e na), e]; simp⟩⟩ hok ag fun b z => nomatch z
  by_cases hb : b ∈ frs X.stack
  · obtain ⟨sl, q⟩ := nf b hb o e
    exact ⟨_, q⟩
  · exact ⟨_, st b o (nb b o e hb)⟩
end
def wKp (K : PySem.W.Frag) (c : Value) (i : Nat) (ts : Addr → TS) (D : Ends) : WX := fun cls d σ H => PySem.W.exmOne K cls c = some true ∧
  ∀ a, H a = none → ts a { nx := fun σ' H' => D.nx (σ'.set i none) H', rt := D.rt, bk := fun σ' H' => D.bk (σ'.set i none) H', ct := fun σ' H' => D.ct (σ'.set i none) H' } (σ.set i (some (.ref a))) (upd H a (ExZ cls d a))
section
variable {X : Cx} {x n : Str} {c : Value} {i : Nat} {body suite : List Stmt} {b₀ : Stmt} {np pos pos' : Pos} {tb : WX → TS} {ts : Addr → TS}
theorem ps_try_keep (hs : X.stack = X.env :: X.outer) (hf : X.env.frame = some X.env.locals) (hN : X.N.Nodup) (hi : X.N[i]? = some n) (hln : X.env.kindOf n = some .local) (hc : Names X x c)
    (hb : ∀ (W : WX) (pn : List (Addr × Obj)) (xe : Value → Shared → Prop), Takes (X.tr pn xe) W → PassesOwn (model X.prog X.w) X.A X.env xe → PSs (X.tr pn xe) body (tb W))
    (hsu : ∀ (a : Addr) (pn : List (Addr × Obj)), PSs (X.suite a pn) (b₀ :: suite) (ts a)) :
    PS X (.Try body [.ExceptHandler (some (.Name x np)) (some n) (b₀ :: suite) pos'] [] [] pos) (fun D σ H => tb (wKp X.K c i ts D) D σ H) := by
  refine ⟨fun pins s σ H D I h => ?_⟩
  have ok := I.ok
  have hfr : X.A.frames = some (X.env :: X.outer) := by rw [ok.frames, hs]
  have hloc : L2.Loc X.env.scope n := .inl hln
  refine wpAny_Try_except ?_
  refine wpAny_mono ((hb (wKp X.K c i ts D) (X.pn ++ pins) (fun e s₁ => wpAny (model X.prog X.w) X.A (noteFrame e X.env) (fun _ s₂ => wpAny (model X.prog X.w) X.A (setFlight e none) (fun _ s₃ =>
    wpAny (model X.prog X.w) X.A (handleBy e X.env [.ExceptHandler (some (.Name x np)) (some n) (b₀ :: suite) pos']) (SP X pins D) X.xe s₃) X.xe s₂) X.xe s₁) (fun u s' xx => ?_) PassesOwn.looking).run [] s σ H D (I.toTry _) h) (fun f s1 hsp => ?_) (fun e s1 he => he)
  · -- the exception comes down here
    obtain ⟨a, B, sI, pins', σ', H', cls, d, rfl, J', nb, up, sky, na, os, ag, hex, hgo⟩ := xx
    have J : Inv X pins σ' H' sI := J'.ofTry ok
    have skyB : B.get? a = none := by
      rcases sky with z | z | z
      · exact z.2.1
      · exact z.2.1
      · exact z.2.1
    have sky' : Sky B (X.env :: X.outer) a (Zc cls d) X.env.locals s'.heap := by rw [← hs]; exact sky
    show wpAny (model X.prog X.w) X.A (noteFrame (.ref a) X.env) _ _ _
    refine Sky.land Zc.steady hfr hf sky' fun h3 fl3 up3 => ?_
    have J3 : Inv X pins σ' H' { s' with heap := h3 } := J.landed nb fl3.1 (up.trans up3) os ag
    obtain ⟨oe3, vs3, he3, hz3, hd3⟩ := fl3.there
    have gn : sI.heap.get? a = none := by
      cases q : sI.heap.get? a with
      | none => rfl
      | some o =>
        by_cases hm : a ∈ frs X.stack
        · obtain ⟨_, o', e', hnf⟩ := J.stack.mem hm
          rw [hs] at hm
          obtain ⟨_, o2, e2, hnf2⟩ := fl3.2.2.1.mem hm
          rw [he3] at e2
          cases e2
          exact absurd hd3 (hnf2 _)
        · have := nb a o q hm
          rw [skyB] at this
          cases this
    have LT : PySem.W.Looks (model X.prog X.w) h3 (typeOf (.ref a)) cls := fun A Q E s k q => wpAny_typeOf_ref (k _ _ he3) (by rw [hz3.1]; exact q)
    have LM := PySem.W.exm_one (M := model X.prog X.w) (J3.kIn) LT hex
    refine wpAny_handleBy_cons (codeAny_handlers_test ?_) (by intro q; cases q)
    have S3 := Inv.toSuite J3 a
    have test : ∀ {Q : Value → Shared → Prop} {E : Value → Shared → Prop}, Q c { s' with heap := h3 } → wpAny (model X.prog X.w) (X.A.mark (some (.ref a))) (eval (.Name x np) X.env) Q E { s' with heap := h3 } := fun {Q E} q => by
      obtain ⟨hg, hdbg, hm | ⟨hm, hv, hnn⟩⟩ := hc
      · exact ld_glob (X := X.suite a (X.pn ++ pins)) S3 hg hm q hdbg
      · exact ld_blt (X := X.suite a (X.pn ++ pins)) S3 hg hm hv q hnn hdbg
    refine test (LM.here ?_)
    refine codeAny_handlers_suite_as ?_
    refine HandSPX.lands_againZ fl3 fun h4 fl4 up4 => ?_
    have J4 : Inv X pins σ' H' { s' with heap := h4 } := J.landed nb fl4.1 ((up.trans up3).trans up4) os ag
    obtain ⟨oe4, vs4, he4, hz4, hd4⟩ := fl4.there
    have K4 : Inv X pins σ' (upd H' a (ExZ cls d a)) { s' with heap := h4 } := Inv.keepX J nb fl4.1 ((up.trans up3).trans up4) os ag gn na (HOk.laidN J4.hok (fun _ _ e => e) na (exZ_ok he4 hz4.1 hz4.2 hd4))
    refine store_ok (X := X.suite a (X.pn ++ pins)) (v := .ref a) (Inv.toSuite K4 a) hN hi hloc rfl (fun s5 S5 => ?_) (.inr hln)
    refine wpAny_mono ((hsu a (X.pn ++ pins)).run [] s5 _ _ _ S5 (hgo a na)) (fun f s6 hsp => ?_) (fun _ _ z => False.elim z)
    have end_ : ∀ {σ6 : L2.St} {H6 : Hp} {Q : Shared → Prop}, Inv (X.suite a (X.pn ++ pins)) [] σ6 H6 s6 → (∀ s7, Inv X pins (σ6.set i none) H6 s7 → Q s7) →
        wpAny (model X.prog X.w) X.A (do bindName X.env n .none; unbindBehindTheSuite X.env n pos') (fun _ s7 => Q s7) X.xe s6 := fun {σ6 H6 Q} S6 hq => gone_ok (Inv.ofSuite S6 ok) hN hi hln hq
    cases f with
    | next =>
      obtain ⟨σ6, H6, S6, q6⟩ := hsp
      exact end_ S6 fun s7 J7 => ⟨_, _, J7, q6⟩
    | brk =>
      obtain ⟨σ6, H6, S6, q6⟩ := hsp
      exact end_ S6 fun s7 J7 => ⟨_, _, J7, q6⟩
    | cont =>
      obtain ⟨σ6, H6, S6, q6⟩ := hsp
      exact end_ S6 fun s7 J7 => ⟨_, _, J7, q6⟩
    | ret u =>
      obtain ⟨v6, σ6, H6, S6, r6, q6⟩ := hsp
      exact end_ S6 fun s7 J7 => ⟨_, _, _, J7, r6, q6⟩
  · cases f with
    | next =>
      obtain ⟨σ', H', J', q⟩ := hsp
      exact wpAny_execs_nil ⟨σ', H', J'.ofTry ok, q⟩
    | brk =>
      obtain ⟨σ', H', J', q⟩ := hsp
      exact ⟨σ', H', J'.ofTry ok, q⟩
    | cont =>
      obtain ⟨σ', H', J', q⟩ := hsp
      exact ⟨σ', H', J'.ofTry ok, q⟩
    | ret u =>
      obtain ⟨v, σ', H', J', r, q⟩ := hsp
      exact ⟨v, σ', H', J'.ofTry ok, r, q⟩
end
section
variable {κ : Kx} {io : Nat → V → Prop} {W : WX} {T : Tab} {X : Cx} {p : Option Nat} {n : Nat} {σ : L2.St} {H : Hp} {δ δ' : Ss} {τ : List En}
theorem SR.unset {i : Nat} (hp : IoP io p) (s : SR κ io σ H δ τ) (h : stS p i .emp δ = some δ') : SR κ io (σ.set i none) H δ' τ := by
  unfold stS at h
  split at h
  · cases h
  · rename_i hn
    cases h
    have h1 : ¬ gdP p i := fun z => hn (.inl z)
    have hlt : i < δ.length := by
      rcases Nat.lt_or_ge i δ.length with q | q
      · exact q
      · exact absurd (.inr q) hn
    refine ⟨by rw [List.length_set, List.length_set]; exact s.len, ?_, fun j w e => ?_⟩
    · obtain ⟨L, p1, _, p3⟩ := zip_split s.len hlt τ
      have r : Rel κ H ((none, .emp) :: L) := Rel.emp ((s.rel.perm p1).tail)
      exact r.perm (p3 none .emp).symm
    · have hne : i ≠ j := fun z => h1 (by rw [z]; exact hp j w e)
      rw [List.getElem?_set_ne hne]
      exact s.io j w e
def tKp (i j : Nat) : TS := fun D σ H => ∃ v, σ[i]? = some (some v) ∧ D.nx (σ.set j (some v)) H
theorem snd_tya {i j : Nat} {b : List S} {body suite : List Stmt} {b₀ : Stmt} {x nm : Str} {np pos pos' : Pos} {k : Nat} (hp : IoP io p) (hs : X.stack = X.env :: X.outer) (hf : X.env.frame = some X.env.locals) (hN : X.N.Nodup) (hi : X.N[i]? = some nm) (hln : X.env.kindOf nm = some .local) (hc : Names X x (.ref (κ.cls k))) (hij : i ≠ j)
    (hex : ∀ c, κ.x c = true → PySem.W.exmOne X.K (.ref (κ.cls c)) (.ref (κ.cls k)) = some true)
    (hb : ∀ (W : WX) (pn : List (Addr × Obj)) (xe : Value → Shared → Prop), Takes (X.tr pn xe) W → PassesOwn (model X.prog X.w) X.A X.env xe → PSs (X.tr pn xe) body (tDS κ io W (evB T p n b)))
    (hsu : ∀ (a : Addr) (pn : List (Addr × Obj)), PSs (X.suite a pn) (b₀ :: suite) (tKp i j)) :
    PS X (.Try body [.ExceptHandler (some (.Name x np)) (some nm) (b₀ :: suite) pos'] [] [] pos) (tDS κ io W (evS T p n (.tya i j b))) :=
  PS.imp (ps_try_keep (ts := fun _ => tKp i j) hs hf hN hi hln hc hb hsu) fun D σ H ⟨δ, τ, s, h⟩ => by
    refine ⟨δ, τ, s, ?_⟩
    simp only [evS] at h
    generalize evB T p n b δ = z at h ⊢
    cases z with
    | bad => exact h
    | ok fl δ1 => cases fl <;> exact h
    | ex y δ1 =>
      simp only at h
      split at h
      · exact h.elim
      · rename_i δ2 h2
        split at h
        · exact h.elim
        · rename_i δ3 h3
          intro cls d σ1 H1 s1 hr
          obtain ⟨rfl, _, hx, rfl⟩ := hr
          refine ⟨hex _ hx, fun a na => ?_⟩
          obtain ⟨f, rf⟩ := s1.rel
          have s3 : SR κ io σ1 (upd H1 a (ExZ (.ref (κ.cls y.c)) none a)) δ1 ((some (.ref a), .val (.exc y.c [] [])) :: τ) :=
            ⟨s1.len, Rel.perm List.perm_middle.symm ⟨_, rf.laidV na (.exc (d := none) (vs := []) upd_same hx (.inl ⟨rfl, rfl⟩) rfl .nil)⟩, s1.io⟩
          have hlt : i < σ1.length := by
            have := stS_len h2
            rw [s1.len, ← this]
            unfold stS at h3
            split at h3
            · cases h3
            · rename_i hn
              rcases Nat.lt_or_ge i δ2.length with q | q
              · exact q
              · exact absurd (.inr q) hn
          refine ⟨.ref a, by rw [List.getElem?_set_self hlt], ?_⟩
          show D.nx (((σ1.set i (some (.ref a))).set j (some (.ref a))).set i none) _
          have e : ((σ1.set i (some (V.ref a))).set j (some (.ref a))).set i none = (σ1.set j (some (.ref a))).set i none := by
            rw [List.set_comm _ _ hij, List.set_set]
          rw [e]
          exact h _ _ (SR.unset hp (s3.store hp h2) h3)
end

section
variable {κ : Kx} {X : Cx} {pins : List (Addr × Obj)} {σ : L2.St} {H : Hp} {s : Shared}
mutual
theorem rep_rK (I : Inv X pins σ H s) (hK : κ.K = X.K) : ∀ {n : Nat} {v : V} {d : D} {u : Value}, Rep κ H v d → RelV v u → okR n d = true → (pyR d).shown.length ≤ sizeLine →
    ∃ as bs, Reads s.heap u (pyR d) as ∧ ReadAtMost s.heap (pyR d).depth bs ∧ ReprK X.prog X.w bs s.heap (pyR d).depth u (pyR d).shown
  | _, _, _, _, .non, r, _, _ => by
    cases r
    exact ⟨_, [], .none, (fun _ h => nomatch h), by simp only [pyR, PyData.shown]; exact .of_is ReprIs.none _ _ _⟩
  | _, _, _, _, .bl b, r, _, _ => by
    cases r
    exact ⟨_, [], .bool b, (fun _ h => nomatch h), by simp only [pyR, PyData.shown]; exact .of_is (ReprIs.bool b) _ _ _⟩
  | n, _, _, _, .int i, r, h, _ => by
    obtain ⟨t, rfl⟩ := r
    have h' : i.natAbs.log2 < 1920 := by cases n <;> simpa [okR] using h
    exact ⟨_, [], .int i t, (fun _ h => nomatch h), by simp only [pyR, PyData.shown]; exact .of_is (ReprIs.int t h') _ _ _⟩
  | _, _, _, _, .str x ok, r, _, hz => by
    obtain ⟨t, rfl⟩ := r
    exact ⟨_, [], .str _ t, (fun _ h => nomatch h), by simp only [pyR, PyData.shown]; exact .of_is (ReprIs.str _ t (by simpa only [pyR, PyData.shown] using hz)) _ _ _⟩
  | 0, _, _, _, .lst q t, _, h, _ => by simp [okR] at h
  | 0, _, _, _, .tup q t, _, h, _ => by simp [okR] at h
  | n + 1, _, _, _, .lst (a := a) (ds := ds) q t, r, h, hz => by
    cases r
    have hz' : (listText (PyData.shownAll (pysR ds))).length ≤ sizeLine := by simpa only [pyR, PyData.shown] using hz
    have q' := q.sq
    rw [hK] at q'
    obtain ⟨its, rv, ⟨o, m, ho, hc, _, hd⟩, _⟩ := I.list q'
    obtain ⟨as, bs, h4, hb, hk⟩ := reps_rK I hK t rv (show ds.all (okR n) = true by simpa [okR] using h) fun x hx => Nat.le_trans (listText_mem_le hx) hz'
    have rr : Reads s.heap (.ref a) (.list (pysR ds)) _ := .list ho hc hd h4
    have hna : a ∉ bs := not_mem_of_deeper rr (by simp only [PyData.depth]; omega) hb
    refine ⟨_, a :: bs, rr, ReadAtMost.cons rr (by simp only [pyR, PyData.depth]; omega) hb, ?_⟩
    simp only [pyR, PyData.depth, PyData.shown]
    cases its with
    | nil =>
      have e : PyData.shownAll (pysR ds) = [] := List.eq_nil_of_length_eq_zero (by simpa using hk.length_eq)
      rw [e, listText_nil]
      exact ReprK.listEmpty ho hc hd
    | cons x l => exact ReprK.list ho hc hd hna (by simpa using hk.length_eq) (fun i y e => hk.item i y (by simpa using e))
  | n + 1, _, _, _, .tup (a := a) (ds := ds) q t, r, h, hz => by
    cases r
    have hz' : (tupleText (PyData.shownAll (pysR ds))).length ≤ sizeLine := by simpa only [pyR, PyData.shown] using hz
    rw [hK] at q
    obtain ⟨its, rv, ⟨o, ho, hc, m, hd⟩, _⟩ := I.tuple q
    obtain ⟨as, bs, h4, hb, hk⟩ := reps_rK I hK t rv (show ds.all (okR n) = true by simpa [okR] using h) fun x hx => Nat.le_trans (tupleText_mem_le hx) hz'
    have rr : Reads s.heap (.ref a) (.tuple (pysR ds)) _ := .tuple ho hc hd h4
    have hna : a ∉ bs := not_mem_of_deeper rr (by simp only [PyData.depth]; omega) hb
    refine ⟨_, a :: bs, rr, ReadAtMost.cons rr (by simp only [pyR, PyData.depth]; omega) hb, ?_⟩
    simp only [pyR, PyData.depth, PyData.shown]
    exact ReprK.tuple ho hc hd hna hk
  | n, _, _, _, .obj _ _ _ _, _, h, _ => by cases n <;> simp [okR] at h
  | n, _, _, _, .exc _ _ _ _ _, _, h, _ => by cases n <;> simp [okR] at h
  | n, _, _, _, .gho _, _, h, _ => by cases n <;> simp [okR] at h
  | n, _, _, _, .dct (a := a) (o := ob) (tr := tr) (ks := ks) q ne o k r1 r2, r, h, hz => by
    cases r
    have hks : ks = [] := by cases n <;> simpa [okR] using h
    have htr : tr = [] := by
      rw [hks] at k
      exact List.map_eq_nil_iff.mp k.symm
    subst htr
    obtain ⟨es, ep, hd, pr⟩ := o.dat
    have hes : es = #[] := by
      have e : es.toList = [] := by cases hq : es.toList with
        | nil => rfl
        | cons x l =>
          rw [hq] at pr
          cases pr
      exact Array.toList_eq_nil_iff.mp e
    subst hes
    have ho : s.heap.get? a = some ob := (I.hok a _ q).1
    have rr : Reads s.heap (.ref a) (.dict []) _ := .dict ho o.ex.1 hd .nil .nil
    refine ⟨_, [a], rr, ReadAtMost.cons (n := 0) (bs := []) rr (Nat.zero_le _) (fun _ h => nomatch h), ?_⟩
    simp only [pyR, PyData.depth, PyData.shown, PyData.depthKv, PyData.shownKv]
    exact ReprK.dict ho o.ex.1 hd ne (by simp) .nil
theorem reps_rK (I : Inv X pins σ H s) (hK : κ.K = X.K) : ∀ {n : Nat} {vs : List V} {ds : List D} {us : List Value}, Reps κ H vs ds → Vals vs us → ds.all (okR n) = true → (∀ t ∈ PyData.shownAll (pysR ds), t.length ≤ sizeLine) →
    ∃ as bs, ReadsAll s.heap us (pysR ds) as ∧ ReadAtMost s.heap (PyData.depthAll (pysR ds)) bs ∧ ReprAllK X.prog X.w bs s.heap (PyData.depthAll (pysR ds)) us (PyData.shownAll (pysR ds))
  | _, _, _, _, .nil, r, _, _ => by
    cases r
    exact ⟨_, [], .nil, (fun _ h => nomatch h), .nil⟩
  | n, _, _, _, .cons (d := d) (ds := ds) t ts, r, h, hz => by
    cases r with
    | cons r1 r2 =>
      simp only [List.all_cons, Bool.and_eq_true] at h
      obtain ⟨as1, b1, h1, hb1, k1⟩ := rep_rK I hK t r1 h.1 (hz _ (by simp only [pysR, PyData.shownAll]; exact List.mem_cons_self ..))
      obtain ⟨as2, b2, h2, hb2, k2⟩ := reps_rK I hK ts r2 h.2 fun x hx => hz _ (by simp only [pysR, PyData.shownAll]; exact List.mem_cons_of_mem _ hx)
      refine ⟨_, b1 ++ b2, .cons h1 h2, ?_, ?_⟩
      · simp only [pysR, PyData.depthAll]
        exact (hb1.mono (Nat.le_max_left _ _)).append (hb2.mono (Nat.le_max_right _ _))
      · simp only [pysR, PyData.depthAll, PyData.shownAll]
        exact .cons ((k1.more fun b hb => List.mem_append_left _ hb).level_le (Nat.le_max_left _ _)) (k2.more_le (fun b hb => List.mem_append_right _ hb) (Nat.le_max_right _ _))
end
theorem pysR_len : ∀ ds : List D, (PyData.shownAll (pysR ds)).length = ds.length
  | [] => rfl
  | d :: ds => congrArg (· + 1) (pysR_len ds)
mutual
theorem rep_leR {f : Hp} : ∀ {n : Nat} {v : V} {d : D}, Rep κ f v d → okR n d = true → (pyR d).shown.length ≤ szD d
  | _, _, _, .non, _ => by show (Str.ofString "None").length ≤ 5; decide
  | _, _, _, .bl b, _ => by cases b <;> (show (Str.ofString _).length ≤ 6; decide)
  | n, _, _, .int i, h => int_text_len_1921 (by cases n <;> simpa [okR] using h)
  | _, _, _, .str s ok, _ => by
    have := StrLaws.reprText_len ⟨s.toArray⟩ (fun c hc => Nat.lt_of_lt_of_le (ok c hc) (by decide))
    have e : (⟨s.toArray⟩ : Str).length = s.length := by simp [Str.length]
    rw [e] at this
    show (reprText ⟨s.toArray⟩).length ≤ 10 * s.length + 3
    omega
  | 0, _, _, .lst q t, h => by simp [okR] at h
  | 0, _, _, .tup q t, h => by simp [okR] at h
  | n + 1, _, _, .lst (ds := ds) _ r, h => by
    have h2 := listText_len_le (PyData.shownAll (pysR ds))
    have h3 := reps_leR r (show ds.all (okR n) = true by simpa [okR] using h)
    rw [pysR_len] at h2
    show (listText (PyData.shownAll (pysR ds))).length ≤ szs ds + 3
    omega
  | n + 1, _, _, .tup (ds := ds) _ r, h => by
    have h2 := tupleText_len_le (PyData.shownAll (pysR ds))
    have h3 := reps_leR r (show ds.all (okR n) = true by simpa [okR] using h)
    rw [pysR_len] at h2
    show (tupleText (PyData.shownAll (pysR ds))).length ≤ szs ds + 4
    omega
  | n, _, _, .obj _ _ _ _, h => by cases n <;> simp [okR] at h
  | n, _, _, .dct _ _ _ _ _ _, h => by
    simp only [pyR, PyData.shown, PyData.shownKv]
    show (dictText []).length ≤ 2
    decide
  | n, _, _, .exc _ _ _ _ _, h => by cases n <;> simp [okR] at h
  | n, _, _, .gho _, h => by cases n <;> simp [okR] at h
theorem reps_leR {f : Hp} : ∀ {n : Nat} {vs : List V} {ds : List D}, Reps κ f vs ds → ds.all (okR n) = true → ((PyData.shownAll (pysR ds)).map (·.length)).sum + 2 * ds.length ≤ szs ds
  | _, _, _, .nil, _ => by simp [pysR, PyData.shownAll, szs]
  | _, _, _, .cons r q, h => by
    simp only [List.all_cons, Bool.and_eq_true] at h
    have h1 := rep_leR r h.1
    have h2 := reps_leR q h.2
    simp only [pysR, PyData.shownAll, List.map_cons, List.sum_cons, List.length_cons, szs]
    omega
end
mutual
theorem depR : ∀ {n : Nat} {d : D}, okR n d = true → (pyR d).depth ≤ n + 1
  | n, .non, _ => by simp [pyR, PyData.depth]
  | n, .bl _, _ => by simp [pyR, PyData.depth]
  | n, .int _, _ => by simp [pyR, PyData.depth]
  | n, .str _, _ => by simp [pyR, PyData.depth]
  | 0, .lst ds, h => by simp [okR] at h
  | 0, .tup ds, h => by simp [okR] at h
  | n + 1, .lst ds, h => by
    have := depsR (n := n) (ds := ds) (by simpa [okR] using h)
    simp only [pyR, PyData.depth]
    omega
  | n + 1, .tup ds, h => by
    have := depsR (n := n) (ds := ds) (by simpa [okR] using h)
    simp only [pyR, PyData.depth]
    omega
  | n, .dct _ _ _, _ => by simp [pyR, PyData.depth, PyData.depthKv]
  | n, .obj _ _ _, _ => by simp [pyR, PyData.depth]
  | n, .exc _ _ _, _ => by simp [pyR, PyData.depth]
  | n, .gho _, _ => by simp [pyR, PyData.depth]
theorem depsR : ∀ {n : Nat} {ds : List D}, (∀ d ∈ ds, okR n d = true) → PyData.depthAll (pysR ds) ≤ n + 1
  | _, [], _ => by simp [pysR, PyData.depthAll]
  | n, d :: ds, h => by
    have h1 := depR (h d List.mem_cons_self)
    have h2 := depsR (n := n) (ds := ds) fun e he => h e (List.mem_cons_of_mem _ he)
    simp only [pysR, PyData.depthAll]
    exact Nat.max_le.mpr ⟨h1, h2⟩
end
theorem call_reprR (hg : X.A.guards = some []) (hu : X.A.units + 64 < cLine) : CallR X (.builtin "repr") (fun xs H Q => ∃ v d, xs = [v] ∧ Rep κ H v d ∧ κ.K = X.K ∧ okR 8 d = true ∧ szD d ≤ 16777216 ∧ Q (.str ⟨(reprR d).toArray⟩) H) := by
  intro pins s σ H xs us Q I r h
  obtain ⟨v, d, rfl, rp, hK, hs, hz, hq⟩ := h
  obtain ⟨u, rfl, rv⟩ := vals1 r
  have hle := rep_leR rp hs
  have hsz : (pyR d).shown.length ≤ sizeLine := by rw [lineEq]; omega
  have dep := depR hs
  have e : (⟨(reprR d).toArray⟩ : Str) = (pyR d).shown := by
    unfold reprR
    simp
  rw [e] at hq
  have ans : ∀ (h' : Heap) (t : Tok) (k : Nat), (∀ b o, s.heap.get? b = some o → h'.get? b = some o) → EP X pins σ Q (.str (pyR d).shown t) { s with heap := h', toks := k } := fun h' t k keep =>
    ⟨.str (pyR d).shown, H, I.kept keep, ⟨t, rfl⟩, hq⟩
  obtain ⟨as, bs, rr, hb, hk⟩ := rep_rK I hK rp rv hs hsz
  have fin : ∀ {T idr : String}, ShowsBy X.prog X.w s.heap (match u with | .ref a => a | _ => 0) (pyR d) T idr → ∀ a, u = .ref a → wpAny (model X.prog X.w) X.A (call (.builtin "repr") [u]) (EP X pins σ Q) X.xe s := fun {T idr} S a ea => by
    subst ea
    exact call_repr_slot (by omega) (S.typeIs s fun _ _ e => e) S.slotRepr (S.call X.A.in1 X.xe s _ hg (by show X.A.units + 1 + (pyR d).depth < cLine; omega) (fun _ _ e => e) fun h' u tk hk => ⟨_, _, rfl, ans h' u tk hk⟩)
  cases rp with
  | non =>
    cases rv
    exact PySem.P.repr_of_none (ans s.heap _ _ fun _ _ e => e)
  | bl b =>
    cases rv
    exact PySem.P.repr_of_bool (by cases b <;> exact ans s.heap _ _ fun _ _ e => e)
  | int i =>
    obtain ⟨t, rfl⟩ := rv
    exact PySem.P.repr_of_int (by simpa [okR] using hs) (ans s.heap _ _ fun _ _ e => e)
  | str z ok =>
    obtain ⟨t, rfl⟩ := rv
    exact PySem.P.repr_of_str (ans s.heap _ _ fun _ _ e => e) hsz
  | obj c q l t => simp [okR] at hs
  | exc q c dd l t => simp [okR] at hs
  | gho q => simp [okR] at hs
  | @lst a vs ds q t =>
    cases rv
    refine fin (T := "list") (idr := "list.__repr__") ?_ a rfl
    have hz' : (listText (PyData.shownAll (pysR ds))).length ≤ sizeLine := by simpa only [pyR, PyData.shown] using hsz
    have q' := q.sq
    rw [hK] at q'
    obtain ⟨its, rw', ⟨o, m, ho, hc, _, hd⟩, _⟩ := I.list q'
    obtain ⟨as, bs, h4, hb, hk⟩ := reps_rK I hK t rw' (show ds.all (okR 7) = true by simpa [okR] using hs) fun x hx => Nat.le_trans (listText_mem_le hx) hz'
    have rr : Reads s.heap (.ref a) (.list (pysR ds)) _ := .list ho hc hd h4
    have hna : a ∉ bs := not_mem_of_deeper rr (by simp only [PyData.depth]; omega) hb
    refine ⟨F.slot_list_repr.toG, F.slot_list_str, F.slot_list_format, fun s2 hk0 => ⟨o, hk0 _ _ ho, hc⟩, fun A E s2 Q hg hu hk0 hQ => ?_⟩
    simp only [pyR, PyData.depth] at hu
    simp only [pyR, PyData.shown] at hQ
    cases its with
    | nil =>
      have e : PyData.shownAll (pysR ds) = [] := List.eq_nil_of_length_eq_zero (by simpa using hk.length_eq)
      rw [e, listText_nil] at hQ
      exact call_list_repr_empty ⟨o, hk0 _ _ ho, hc⟩ (hk0 _ _ ho) hd (hQ s2.heap _ _ fun _ _ e => e)
    | cons x l => exact call_list_reprK ho hc hd hna (by simpa using hk.length_eq) (fun i y e => hk.item i y (by simpa using e)) hg (fun b _ => Clear.nil b) hu hk0 hQ hz'
  | @tup a vs ds q t =>
    cases rv
    refine fin (T := "tuple") (idr := "tuple.__repr__") ?_ a rfl
    have hz' : (tupleText (PyData.shownAll (pysR ds))).length ≤ sizeLine := by simpa only [pyR, PyData.shown] using hsz
    rw [hK] at q
    obtain ⟨its, rw', ⟨o, ho, hc, m, hd⟩, _⟩ := I.tuple q
    obtain ⟨as, bs, h4, hb, hk⟩ := reps_rK I hK t rw' (show ds.all (okR 7) = true by simpa [okR] using hs) fun x hx => Nat.le_trans (tupleText_mem_le hx) hz'
    have rr : Reads s.heap (.ref a) (.tuple (pysR ds)) _ := .tuple ho hc hd h4
    have hna : a ∉ bs := not_mem_of_deeper rr (by simp only [PyData.depth]; omega) hb
    refine ⟨F.slot_tuple_repr, F.slot_tuple_str, F.slot_tuple_format, fun s2 hk0 => ⟨o, hk0 _ _ ho, hc⟩, fun A E s2 Q hg hu hk0 hQ => ?_⟩
    simp only [pyR, PyData.depth] at hu
    simp only [pyR, PyData.shown] at hQ
    exact call_tuple_reprK ho hc hd hna hk hg (fun b _ => Clear.nil b) hu hk0 hQ hz'
  | @dct a ob tt tr ks dv q ne o k r1 r2 =>
    cases rv
    refine fin (T := "dict") (idr := "dict.__repr__") ?_ a rfl
    have hks : ks = [] := by simpa [okR] using hs
    have htr : tr = [] := by
      rw [hks] at k
      exact List.map_eq_nil_iff.mp k.symm
    subst htr
    obtain ⟨es, ep, hd, pr⟩ := o.dat
    have hes : es = #[] := by
      have e : es.toList = [] := by cases hq : es.toList with
        | nil => rfl
        | cons x l =>
          rw [hq] at pr
          cases pr
      exact Array.toList_eq_nil_iff.mp e
    subst hes
    have ho : s.heap.get? a = some ob := (I.hok a _ q).1
    refine ⟨F.slot_dict_repr, F.slot_dict_str, F.slot_dict_format, fun s2 hk0 => ⟨ob, hk0 _ _ ho, o.ex.1⟩, fun A E s2 Q hg hu hk0 hQ => ?_⟩
    simp only [pyR, PyData.depth, PyData.depthKv] at hu
    simp only [pyR, PyData.shown, PyData.shownKv] at hQ
    exact call_dict_reprK (as := []) (d := 0) ho o.ex.1 hd ne (by simp) .nil hg (fun b _ => Clear.nil b) hu hk0 hQ (Nat.le_trans (show (dictText []).length ≤ 2 by decide) (by rw [lineEq]; omega))
mutual
theorem rep_shR {f : Hp} : ∀ {n : Nat} {v : V} {d : D}, Rep κ f v d → okR n d = true → okS (pyR d).shown
  | _, _, _, .non, _ => okS.of _
  | _, _, _, .bl b, _ => by cases b <;> exact okS.of _
  | _, _, _, .int i, _ => okS.of _
  | _, _, _, .str s ok, _ => okS.repr (x := ⟨s.toArray⟩) (by intro c hc; exact ok c hc)
  | 0, _, _, .lst q t, h => by simp [okR] at h
  | 0, _, _, .tup q t, h => by simp [okR] at h
  | n + 1, _, _, .lst _ r, h => (okS.from (z := Str.empty) _ _ _ (okS.of _) (reps_shR r (by simpa [okR] using h))).add (okS.of _)
  | n + 1, _, _, .tup _ r, h => ((okS.of _).add (okS.join (okS.of _) _ (reps_shR r (by simpa [okR] using h)))).add (by split <;> exact okS.of _)
  | n, _, _, .obj _ _ _ _, h => by cases n <;> simp [okR] at h
  | n, _, _, .dct _ _ _ _ _ _, h => by
    simp only [pyR, PyData.shown, PyData.shownKv]
    show okS (dictText [])
    exact ((okS.of _).add (okS.join (okS.of _) [] (fun t h => by cases h))).add (okS.of _)
  | n, _, _, .exc _ _ _ _ _, h => by cases n <;> simp [okR] at h
  | n, _, _, .gho _, h => by cases n <;> simp [okR] at h
theorem reps_shR {f : Hp} : ∀ {n : Nat} {vs : List V} {ds : List D}, Reps κ f vs ds → (∀ d ∈ ds, okR n d = true) → ∀ t ∈ PyData.shownAll (pysR ds), okS t
  | _, _, _, .nil, _, t, h => by simp [pysR, PyData.shownAll] at h
  | n, _, _, .cons r q, ho, t, h => by
    simp only [pysR, PyData.shownAll] at h
    rcases List.mem_cons.mp h with rfl | h
    · exact rep_shR r (ho _ List.mem_cons_self)
    · exact reps_shR q (fun e he => ho e (List.mem_cons_of_mem _ he)) t h
end
variable {io : Nat → V → Prop} {W : WX} {T : Tab} {a' : Expr} {pos : Pos}
theorem snd_rpr {p : Option Nat} {a : E} {x : Str} {q : Pos} (hx : x = "repr") (hK : κ.K = X.K) (hgd : X.A.guards = some []) (hu : X.A.units + 64 < cLine) (hg : Gl X x) (hm : X.mg x = none) (ha : PE X a' (tD κ io W (evE T p a))) (hs : starEach [a'] X.env = (false, eval a' X.env) :: starEach [] X.env) :
    PE X (.Call (.Name x q) [a'] [] pos) (tD κ io W (evE T p (.rpr a))) := by
  subst hx
  refine PE.imp (pe_callB (call_reprR (κ := κ) hgd hu) hg hm (by rfl) (pa_cons ha pa_nil hs) (by decide) (by decide) hs (by rfl)) fun σ H Q ⟨δ, τ, s, h⟩ => ?_
  simp only [evE] at h
  refine seqD (ρ := []) h s fun r δ1 v H1 s1 a1 h1 => ?_
  split at h1
  · rename_i d hd
    split at h1
    · rename_i hc
      obtain ⟨f, rf⟩ := s1.rel
      have r0 := rep_of rf.same (s1.read (by simp [ent]) a1 hd rf)
      exact ⟨v, d, rfl, r0, hK, hc.1, hc.2, fin_str s1.tl h1 fun c hc' => rep_shR r0 hc.1 c hc'⟩
    · exact h1.elim
  · exact h1.elim
end
end PyV
set_option Elab.async false
set_option linter.all false
set_option maxRecDepth 100000
set_option maxHeartbeats 2000000
namespace PyV
open PySem PySem.Spec PyProof.Rows L2

section
variable {κ : Kx} {io : Nat → V → Prop} {W : WX} {σ σ' : L2.St} {f H : Hp} {δ δ' : Ss} {τ τ' ρ M : List En} {Q : VK} {T : Tab} {X : Cx} {a' b' e' c' tg : Expr} {es' : List Expr} {pos : Pos} {pins : List (Addr × Obj)} {s : Shared} {p : Option Nat} {n : Nat}
def setAll : L2.St → List Nat → List V → L2.St
  | σ, i :: is, v :: vs => setAll (σ.set i (some v)) is vs
  | σ, _, _ => σ
def slE : List V → List Sl → List En
  | v :: vs, x :: xs => (some v, x) :: slE vs xs
  | _, _ => []
theorem SR.sls : ∀ {rs : List Rv} {vs : List V} {xs : List Sl} {δ : Ss} {τ : List En}, SR κ io σ H δ (ents rs vs ++ τ) → Alis σ rs vs → slRs δ rs = some (xs, δ') → SR κ io σ H δ' (slE vs xs ++ τ) ∧ vs.length = xs.length
  | [], _, xs, δ, τ, s, a, h => by
    cases a
    simp only [slRs] at h
    cases h
    exact ⟨s, rfl⟩
  | r :: rs, _, xs, δ, τ, s, a, h => by
    cases a with
    | @cons _ v _ vs a1 a2 =>
      simp only [slRs] at h
      split at h
      · cases h
      · rename_i x δ1 hx
        split at h
        · cases h
        · rename_i xs2 δ2 hxs
          cases h
          have s1 : SR κ io σ H δ (ent r v :: (ents rs vs ++ τ)) := s.perm (by
            show ((ents rs vs ++ [ent r v]) ++ τ).Perm _
            simpa using List.perm_middle)
          have s3 : SR κ io σ H δ1 (ents rs vs ++ ((some v, x) :: τ)) := (s1.sl1 a1 hx).perm List.perm_middle.symm
          obtain ⟨s4, l⟩ := SR.sls s3 a2 hxs
          exact ⟨s4.perm List.perm_middle, congrArg (· + 1) l⟩
theorem SR.stores (hp : IoP io p) : ∀ {is : List Nat} {vs : List V} {xs : List Sl} {σ : L2.St} {δ : Ss}, vs.length = xs.length → SR κ io σ H δ (slE vs xs ++ τ) → stSs p is xs δ = some δ' → SR κ io (setAll σ is vs) H δ' τ ∧ is.length = vs.length
  | [], vs, xs, σ, δ, hl, s, h => by
    cases xs with
    | nil =>
      simp only [stSs] at h
      cases h
      have : vs = [] := List.eq_nil_of_length_eq_zero hl
      subst this
      exact ⟨s, rfl⟩
    | cons x xs => simp [stSs] at h
  | i :: is, vs, xs, σ, δ, hl, s, h => by
    cases xs with
    | nil => simp [stSs] at h
    | cons x xs =>
      cases vs with
      | nil => simp at hl
      | cons v vs =>
        simp only [stSs] at h
        split at h
        · cases h
        · rename_i δ1 h1
          obtain ⟨q, l⟩ := SR.stores hp (by simpa using hl) (s.store (x := x) hp h1) h
          exact ⟨q, congrArg (· + 1) l⟩
theorem SR.puts {is : List Nat} {rs : List Rv} {vs : List V} (hp : IoP io p) (s : SR κ io σ H δ (ents rs vs ++ τ)) (a : Alis σ rs vs) (h : putRs p is rs δ = some δ') : SR κ io (setAll σ is vs) H δ' τ ∧ is.length = vs.length := by
  unfold putRs at h
  split at h
  · rename_i xs δ1 hx
    obtain ⟨s1, l⟩ := s.sls a hx
    exact s1.stores hp l h
  · cases h
theorem snd_par3 {n i j l : Nat} {x y z : Str} {a b c : E} {px py pz pt : Pos} {kt k2 pt2} (hp : IoP io p) (hc : X.calm = true) (hN : X.N.Nodup) (hi : X.N[i]? = some x) (hj : X.N[j]? = some y) (hl : X.N[l]? = some z) (hij : i ≠ j) (hil : i ≠ l) (hjl : j ≠ l)
    (hx : X.env.scope.names.lookup x = some .local) (hy : X.env.scope.names.lookup y = some .local) (hz : X.env.scope.names.lookup z = some .local)
    (ha : PA X [a', b', c'] (tDA κ io W (evEs T p [a, b, c]))) (hw : swappedStores [.Tuple [.Name x px, .Name y py, .Name z pz] kt pt] (.Tuple [a', b', c'] k2 pt2) X.env = pure (some [x, y, z]))
    (hs : swapsWithSole [.Tuple [.Name x px, .Name y py, .Name z pz] kt pt] (.Tuple [a', b', c'] k2 pt2) pos.line X.env = pure false) :
    PS X (.Assign [.Tuple [.Name x px, .Name y py, .Name z pz] kt pt] (.Tuple [a', b', c'] k2 pt2) pos) (tDS κ io W (evS T p n (.par [i, j, l] [a, b, c]))) :=
  PS.imp (ps_par3 hc hN hi hj hl hij hil hjl hx hy hz ha hw hs) fun D σ H ⟨δ, τ, s, h⟩ => by
    simp only [evS] at h
    refine seqSA (ρ := []) h s fun rs δ1 vs H1 s1 a1 h1 => ?_
    obtain ⟨δ', h2, h3⟩ := nxO_post h1
    obtain ⟨s2, ln⟩ := s1.puts hp a1 h2
    match vs, ln, s2 with
    | [u, v, w], _, s2 => exact ⟨u, v, w, rfl, h3 _ _ s2⟩
end

structure Nm where
  fn : Nat → Str
  gl : Nat → Str
  cl : Nat → Str
  lv : Nat → Nat
  kd : Nat → Nat
  fld : Str → Bool
  gk : Nat → Bool
  ty : Ty → Bool
  xc : Nat → Bool
structure Mc where
  N : List Str
  sc : Scope
  lsc : Scope
  k : Nat
  ok : List Nat
  ini : Nat → Nat
def visB (sc : Scope) (x : Str) : Bool := match sc.names.lookup x with
  | some .local => true
  | some .cell => true
  | some .free => true
  | _ => false
def locB (sc : Scope) (x : Str) : Bool := match sc.names.lookup x with
  | some .local => true
  | some .cell => true
  | _ => false
def loc1B (sc : Scope) (x : Str) : Bool := match sc.names.lookup x with
  | some .local => true
  | _ => false
def glB (sc : Scope) (x : Str) : Bool := match sc.names.lookup x with
  | some .globalImplicit => true
  | _ => false
def nmB (x : Str) : Bool := !(x == ("__debug__" : Str)) && !(x == ("__classdict__" : Str))
def opB : Op → Operator → Bool
  | .add, .Add => true
  | .sub, .Sub => true
  | .mul, .Mult => true
  | .fdiv, .FloorDiv => true
  | .mod, .Mod => true
  | .pow, .Pow => true
  | .shl, .LShift => true
  | .shr, .RShift => true
  | .band, .BitAnd => true
  | .bor, .BitOr => true
  | .bxor, .BitXor => true
  | _, _ => false
def coB : Co → CmpOp → Bool
  | .eq, .Eq => true
  | .ne, .NotEq => true
  | .lt, .Lt => true
  | .le, .LtE => true
  | .gt, .Gt => true
  | .ge, .GtE => true
  | .inn, .In => true
  | .nin, .NotIn => true
  | _, _ => false
theorem opB_eq {o : Op} {q : Operator} (h : opB o q = true) : q = opP o := by cases o <;> cases q <;> first | rfl | cases h
theorem coB_eq {o : Co} {q : CmpOp} (h : coB o q = true) : q = coP o := by cases o <;> cases q <;> first | rfl | cases h
def nsB : Expr → Bool
  | .Starred _ _ => false
  | _ => true
theorem nsB_star {a : Expr} {r : List Expr} {env : Env} (h : nsB a = true) : starEach (a :: r) env = (false, eval a env) :: starEach r env := by
  cases a <;> first | rfl | cases h
def nsBs : List Expr → Bool
  | [] => true
  | a :: r => nsB a && nsBs r
theorem nsBs_any {pos : Pos} {env : Env} : ∀ {r : List Expr}, nsBs r = true → (backTo pos (starEach r env)).any (·.1) = false
  | [], _ => rfl
  | a :: r, h => by
    simp only [nsBs, Bool.and_eq_true] at h
    rw [nsB_star h.1]
    show (false || (backTo pos (starEach r env)).any (·.1)) = false
    rw [nsBs_any h.2]
    rfl
def bsB : Expr → Bool
  | .Call (.Name id _) [] [] _ => id != ("super" : Str)
  | _ => true
theorem bsB_base {a : Expr} {g : Str} {env : Env} {w : Sem Value} (h : bsB a = true) : attributeBase a g env w = w := by
  cases a <;> first | rfl | skip
  rename_i f as ks p
  cases f <;> first | rfl | skip
  rename_i id q
  cases as <;> cases ks <;> first | rfl | skip
  have h2 : (id != ("super" : Str)) = true := h
  unfold attributeBase
  simp only [h2, Bool.true_or, if_true]
def ixB : Expr → Bool
  | .Slice _ _ none _ => false
  | _ => true
theorem ixB_plain {b : Expr} (h : ixB b = true) : PlainIx b := fun o i => by
  cases b <;> first | rfl | skip
  rename_i lo hi st q
  cases st
  · cases h
  · rfl
theorem noSet_folded {e : Expr} {env : Env} (h : noSet e = true) : ∀ x, foldedSetIterable e env x = pure x := fun x => by
  cases e <;> first | rfl | cases h
def tvB : Expr → Bool
  | .UnaryOp .Not _ _ => false
  | .BoolOp _ _ _ => false
  | .IfExp _ _ _ _ => false
  | .Compare _ _ _ _ => false
  | _ => true
theorem tvB_truth {a : Expr} {env : Env} (h : tvB a = true) : ∀ whole, isTrue a env whole = (do let v ← whole; standAt a.pos; holding [v] (truthy v)) := fun whole => by
  cases a <;> first | rfl | (cases h; done) | skip
  rename_i o x q
  cases o <;> first | rfl | cases h
def ncB : Expr → Bool
  | .ListComp _ _ _ _ => false
  | .SetComp _ _ _ _ => false
  | .DictComp _ _ _ _ _ => false
  | _ => true
theorem ncB_swaps {a : Expr} {t : Option Expr} {l : Nat} {env : Env} (h : ncB a = true) : swapsWith a t l env = pure false := by
  cases a <;> first | rfl | cases h
def isNop : E → Bool
  | .nop => true
  | _ => false
theorem isNop_ne {e : E} (h : isNop e = false) : e ≠ .nop := fun z => by rw [z] at h; cases h
def mtN : Mt → Str
  | .count => "count"
  | .join => "join"
  | .split => "split"
  | .partition => "partition"
  | _ => ""
mutual
def mtT (m : Mc) : T → Expr → Bool
  | .v i, e' => match e' with
    | .Name x _ => decide (m.N[i]? = some x) && locB m.lsc x
    | _ => false
  | .tup ts, e' => match e' with
    | .Tuple es _ _ => mtTs m ts es
    | _ => false
def mtTs (m : Mc) : List T → List Expr → Bool
  | [], es => match es with
    | [] => true
    | _ => false
  | t :: ts, es => match es with
    | e :: es => mtT m t e && mtTs m ts es
    | [] => false
end
def tyNm (nm : Nm) : Ty → Str
  | .tint => "int"
  | .tbool => "bool"
  | .tstr => "str"
  | .ttuple => "tuple"
  | .tlist => "list"
  | .tval => "ValueError"
  | .cls c => nm.cl c
def tstB : E → Expr → Bool
  | .and a b, e' => match e' with
    | .BoolOp .And (a' :: b' :: rest) pos => tstB a a' && (match rest with
      | [] => tstB b b'
      | r :: rs => tstB b (.BoolOp .And (b' :: r :: rs) pos))
    | _ => false
  | .or a b, e' => match e' with
    | .BoolOp .Or (a' :: b' :: rest) pos => tstB a a' && (match rest with
      | [] => tstB b b'
      | r :: rs => tstB b (.BoolOp .Or (b' :: r :: rs) pos))
    | _ => false
  | .not a, e' => match e' with
    | .UnaryOp .Not a' _ => tstB a a'
    | _ => false
  | .cmp _ _ _, _ => true
  | .ch2 _ _ _ _ _, _ => true
  | .ch3 _ _ _ _ _ _ _, _ => true
  | .ch4 _ _ _ _ _ _ _ _ _, _ => true
  | .isn _, _ => true
  | .nsn _, _ => true
  | _, e' => tvB e'
def inner (m : Mc) (scope : Scope) : Mc := { m with sc := relS scope m.sc, lsc := scope }
def ownN (m : Mc) (own : List Nat) : List (Str × Nat) := own.map fun i => ((m.N[i]?).getD "", i)
def itB (sc : Scope) (k : Ik) (iter tg : Expr) : Bool := match k with
  | .plain => nsB iter
  | .rng => match iter with
    | .Call (.Name x _) es' [] _ => decide (x = "range") && glB sc x && (es'.length == 1 || es'.length == 2 || es'.length == 3)
    | _ => false
  | .enm => match iter, tg with
    | .Call (.Name x _) [_] [] _, .Tuple _ _ _ => decide (x = "enumerate") && glB sc x
    | _, _ => false
  | .zip => match iter, tg with
    | .Call (.Name x _) [_, _] [] _, .Tuple _ _ _ => decide (x = "zip") && glB sc x
    | _, _ => false
  | .itm => match iter, tg with
    | .Call (.Attribute a' g apos) [] [] pos, .Tuple _ _ _ => decide (g = "items") && bsB a' && (apos.endLine == pos.line)
    | _, _ => false
  | .vls => match iter with
    | .Call (.Attribute a' g apos) [] [] pos => decide (g = "values") && bsB a' && (apos.endLine == pos.line)
    | _ => false
def itEs (k : Ik) (iter : Expr) : List Expr := match k with
  | .plain => [iter]
  | .itm => match iter with
    | .Call (.Attribute a' _ _) _ _ _ => [a']
    | _ => []
  | .vls => match iter with
    | .Call (.Attribute a' _ _) _ _ _ => [a']
    | _ => []
  | _ => match iter with
    | .Call _ es' _ _ => es'
    | _ => []
mutual
def mtE (nm : Nm) : Mc → E → Expr → Bool
  | m, .var i, e' => match e' with
    | .Name x _ => decide (m.N[i]? = some x) && visB m.sc x && nmB x
    | _ => false
  | m, .non, e' => match e' with
    | .Constant .none _ _ => true
    | _ => false
  | m, .bl b, e' => match e' with
    | .Constant (.bool c) _ _ => b == c
    | _ => false
  | m, .int b, e' => match e' with
    | .Constant (.int c) _ _ => decide (b = c)
    | _ => false
  | m, .str b, e' => match e' with
    | .Constant (.str c) _ _ => decide (c.cps.toList = b) && b.all fun c => decide (c < 1114112)
    | _ => false
  | m, .glb g, e' => match e' with
    | .Name x _ => decide (nm.gl g = x) && nm.gk g && glB m.sc x && nmB x
    | _ => false
  | m, .bin o a b, e' => match e' with
    | .BinOp a' q b' _ => opB o q && mtE nm m a a' && mtE nm m b b'
    | _ => false
  | m, .neg a, e' => match e' with
    | .UnaryOp .USub a' _ => mtE nm m a a'
    | _ => false
  | m, .cmp o a b, e' => match e' with
    | .Compare a' [q] [b'] _ => coB o q && noSet b' && mtE nm m a a' && mtE nm m b b'
    | _ => false
  | m, .ch2 a o b o2 c, e' => match e' with
    | .Compare a' [q, q2] [b', c'] _ => coB o q && coB o2 q2 && noSet c' && mtE nm m a a' && mtE nm m b b' && mtE nm m c c'
    | _ => false
  | m, .ch3 a o b o2 c o3 d, e' => match e' with
    | .Compare a' [q, q2, q3] [b', c', d'] _ => coB o q && coB o2 q2 && coB o3 q3 && noSet d' && mtE nm m a a' && mtE nm m b b' && mtE nm m c c' && mtE nm m d d'
    | _ => false
  | m, .ch4 a o b o2 c o3 d o4 f, e' => match e' with
    | .Compare a' [q, q2, q3, q4] [b', c', d', f'] _ => coB o q && coB o2 q2 && coB o3 q3 && coB o4 q4 && noSet f' && mtE nm m a a' && mtE nm m b b' && mtE nm m c c' && mtE nm m d d' && mtE nm m f f'
    | _ => false
  | m, .isn a, e' => match e' with
    | .Compare a' [.Is] [.Constant .none _ _] _ => mtE nm m a a'
    | _ => false
  | m, .nsn a, e' => match e' with
    | .Compare a' [.IsNot] [.Constant .none _ _] _ => mtE nm m a a'
    | _ => false
  | m, .and a b, e' => match e' with
    | .BoolOp .And (a' :: b' :: rest) pos => mtE nm m a a' && (match rest with
      | [] => mtE nm m b b'
      | r :: rs => mtE nm m b (.BoolOp .And (b' :: r :: rs) pos))
    | _ => false
  | m, .or a b, e' => match e' with
    | .BoolOp .Or (a' :: b' :: rest) pos => mtE nm m a a' && (match rest with
      | [] => mtE nm m b b'
      | r :: rs => mtE nm m b (.BoolOp .Or (b' :: r :: rs) pos))
    | _ => false
  | m, .not a, e' => match e' with
    | .UnaryOp .Not a' _ => mtE nm m a a'
    | _ => false
  | m, .ite c a b, e' => match e' with
    | .IfExp c' a' b' _ => mtE nm m c c' && tstB c c' && mtE nm m a a' && mtE nm m b b'
    | _ => false
  | m, .itt c a b, e' => match e' with
    | .IfExp c' a' b' _ => mtE nm m c c' && tvB c' && mtE nm m a a' && mtE nm m b b'
    | _ => false
  | m, .tup es, e' => match e' with
    | .Tuple es' _ _ => mtEs nm m es es'
    | _ => false
  | m, .lst es, e' => match e' with
    | .List es' _ => mtEs nm m es es'
    | _ => false
  | m, .lstS k es, e' => match e' with
    | .List es' _ => mtXs nm m k es es'
    | _ => false
  | m, .att a f, e' => match e' with
    | .Attribute a' g _ => decide (f = g) && nm.fld f && bsB a' && mtE nm m a a'
    | _ => false
  | m, .sub a b, e' => match e' with
    | .Subscript a' b' _ => ixB b' && mtE nm m a a' && mtE nm m b b'
    | _ => false
  | m, .nop, _ => true
  | m, .slc a lo hi, e' => match e' with
    | .Subscript a' (.Slice lo' hi' none _) _ => mtE nm m a a' && (match lo' with
        | none => isNop lo
        | some l => !isNop lo && mtE nm m lo l) && (match hi' with
        | none => isNop hi
        | some l => !isNop hi && mtE nm m hi l)
    | _ => false
  | m, .rev a, e' => match e' with
    | .Subscript a' (.Slice none none (some (.UnaryOp .USub (.Constant (.int 1) _ _) _)) _) _ => mtE nm m a a'
    | _ => false
  | m, .call f es, e' => match e' with
    | .Call (.Name x _) es' [] _ => m.ok.contains f && decide (nm.lv f ≤ m.k) && decide (nm.kd f = 0) && decide (nm.fn f = x) && glB m.sc x && nmB x && mtEs nm m es es'
    | _ => false
  | m, .cbr f es, e' => match e' with
    | .Call (.Name x _) es' [] _ => m.ok.contains f && decide (nm.lv f ≤ m.k) && decide (nm.kd f = 0) && decide (nm.fn f = x) && glB m.sc x && nmB x && mtEs nm m es es'
    | _ => false
  | m, .bi b es, e' => match e' with
    | .Call (.Name x _) es' [] _ => decide (biN b = x) && decide (x ≠ "") && glB m.sc x && !es'.isEmpty && mtEs nm m es es'
    | _ => false
  | m, .mth t a es, e' => match e' with
    | .Call (.Attribute a' g apos) [b'] [] pos => decide (mtN t = g) && decide (g ≠ "") && bsB a' && (apos.endLine == pos.line) && (es.length == 1) && mtE nm m a a' && mtEs nm m es [b']
    | _ => false
  | m, .bits a, e' => match e' with
    | .Call (.Attribute a' g apos) [] [] pos => decide (g = "bit_length") && bsB a' && (apos.endLine == pos.line) && mtE nm m a a'
    | _ => false
  | m, .sst b a, e' => match e' with
    | .Call (.Name x _) [.Call (.Name y _) [a'] [] _] [] _ => decide (x = sstN b) && decide (y = "set") && glB m.sc x && glB m.sc y && nsB a' && mtE nm m a a'
    | _ => false
  | m, .prp f a, e' => match e' with
    | .Attribute a' g _ => m.ok.contains f && decide (nm.lv f + 1 ≤ m.k) && decide (nm.kd f = 1) && decide (nm.fn f = g) && bsB a' && mtE nm m a a'
    | _ => false
  | m, .umt f a es, e' => match e' with
    | .Call (.Attribute a' g apos) es' [] pos => m.ok.contains f && decide (nm.lv f ≤ m.k) && decide (nm.kd f = 3) && decide (nm.fn f = g) && bsB a' && (apos.endLine == pos.line) && decide (es'.length < 30) && mtE nm m a a' && mtEs nm m es es'
    | _ => false
  | m, .new c es, e' => match e' with
    | .Call (.Name x _) es' [] _ => m.ok.contains (m.ini c) && decide (nm.lv (m.ini c) + 1 ≤ m.k) && decide (nm.kd (m.ini c) = 2) && decide (nm.cl c = x) && glB m.sc x && nmB x && mtEs nm m es es'
    | _ => false
  | m, .isi a t, e' => match e' with
    | .Call (.Name x _) [a', .Name y _] [] _ => decide (x = "isinstance") && glB m.sc x && nsB a' && nm.ty t && decide (tyNm nm t = y) && glB m.sc y && nmB y && mtE nm m a a'
    | _ => false
  | m, .lc elt t k its c own, e' => match e' with
    | .ListComp elt' [⟨tg, iter, ifs, 0⟩] scope _ => blkC m.N m.sc scope (ownN m own) && (tvs t).all (own.contains ·) && noSet iter && itB m.sc k iter tg && mtEs nm m its (itEs k iter) && mtT (inner m scope) t tg &&
        (match ifs with
         | [] => isNop c
         | [c'] => !isNop c && tstB c c' && mtE nm (inner m scope) c c'
         | _ => false) && mtE nm (inner m scope) elt elt'
    | _ => false
  | m, .dct t es, e' => match e' with
    | .Dict keys values _ => (es.isEmpty && keys.isEmpty && values.isEmpty) || (!keys.isEmpty && decide (keys.length ≤ 15) && mtKv nm m es keys values)
    | _ => false
  | m, .get2 a k x, e' => match e' with
    | .Call (.Attribute a' g apos) [b', c'] [] pos => decide (g = "get") && bsB a' && (apos.endLine == pos.line) && nsB b' && nsB c' && mtE nm m a a' && mtE nm m k b' && mtE nm m x c'
    | _ => false
  | m, .get1 a k, e' => match e' with
    | .Call (.Attribute a' g apos) [b'] [] pos => decide (g = "get") && bsB a' && (apos.endLine == pos.line) && nsB b' && mtE nm m a a' && mtE nm m k b'
    | _ => false
  | _, .emq _, _ => false
  | m, .rpr a, e' => match e' with
    | .Call (.Name x _) [a'] [] _ => decide (x = "repr") && glB m.sc x && nsB a' && mtE nm m a a'
    | _ => false
  | m, .lrg a, e' => match e' with
    | .Call (.Name x _) [.Call (.Name y _) [a'] [] _] [] _ => decide (x = "list") && decide (y = "range") && glB m.sc x && glB m.sc y && nsB a' && mtE nm m a a'
    | _ => false
  | m, .srt b a, e' => match e' with
    | .Call (.Name x _) [.Call (.Attribute a' g apos) [] [] cpos] kws _ => decide (x = "sorted") && decide (g = "items") && glB m.sc x && bsB a' && (apos.endLine == cpos.line) && mtE nm m a a' && (match kws with
      | [] => !b
      | [⟨some k, .Constant (.bool true) _ _, _⟩] => b && decide (k = "reverse")
      | _ => false)
    | _ => false
  | m, .dc t ke ve tg k its c own, e' => match e' with
    | .DictComp k' v' [⟨tg', iter, ifs, 0⟩] scope _ => blkC m.N m.sc scope (ownN m own) && (tvs tg).all (own.contains ·) && noSet iter && itB m.sc k iter tg' && mtEs nm m its (itEs k iter) && mtT (inner m scope) tg tg' &&
        (match ifs with
         | [] => isNop c
         | [c'] => !isNop c && tstB c c' && mtE nm (inner m scope) c c'
         | _ => false) && mtE nm (inner m scope) ke k' && mtE nm (inner m scope) ve v'
    | _ => false
/-- keys and values in turns -/
def mtKv (nm : Nm) : Mc → List E → List (Option Expr) → List Expr → Bool
  | _, [], ks, vs => ks.isEmpty && vs.isEmpty
  | m, e :: es, ks, vs => match es with
    | [] => false
    | f :: es => match ks, vs with
      | some k :: ks, v :: vs => mtE nm m e k && mtE nm m f v && mtKv nm m es ks vs
      | _, _ => false
def mtEs (nm : Nm) : Mc → List E → List Expr → Bool
  | m, [], es' => match es' with
    | [] => true
    | _ => false
  | m, e :: es, es' => match es' with
    | e' :: es' => nsB e' && mtE nm m e e' && mtEs nm m es es'
    | [] => false
def mtXs (nm : Nm) : Mc → Nat → List E → List Expr → Bool
  | m, _, [], es' => match es' with
    | [] => true
    | _ => false
  | m, 0, e :: es, es' => match es' with
    | e' :: es' => nsB e' && mtE nm m e e' && mtXs nm m 0 es es'
    | [] => false
  | m, k + 1, e :: es, es' => match es' with
    | .Starred e' _ :: es' => mtE nm m e e' && mtXs nm m k es es'
    | _ => false
end
end PyV
set_option Elab.async false
set_option linter.all false
set_option maxRecDepth 100000
set_option maxHeartbeats 2000000
namespace PyV
open PySem PySem.Spec PyProof.Rows L2

structure Gc where
  P : Program
  w : World
  mg : Str → Option Value
  base : Heap
  κ : Kx
  T : Tab
  nm : Nm
def Known (g : Gc) (f : Nat) : Prop := ∃ (fa : Addr) (fd : FuncData) (ps : List Str), Fg g.P g.w g.κ.K g.mg g.base (g.nm.lv f) fa fd ps (spD g.κ g.T f) ∧ Binds g.κ.K fd ps [] ∧
  (g.nm.kd f = 0 → g.mg (g.nm.fn f) = some (.ref fa) ∧ PySem.W.keepIn g.κ.K (.ref fa) = true) ∧
  (g.nm.kd f = 1 → ∃ pr, ∀ c, c < g.κ.n → g.T.mem f c = true → PropOf g.κ.K (g.κ.cls c) (g.nm.fn f) pr fa) ∧
  (g.nm.kd f = 2 → ∀ c, g.T.ini c = f → c < g.κ.n ∧ g.T.io f = some 0 ∧ Mk g.κ.K (g.κ.cls c) fa ∧ g.mg (g.nm.cl c) = some (.ref (g.κ.cls c))) ∧
  (g.nm.kd f = 3 → g.T.nm f = g.nm.fn f ∧ PySem.W.keepIn g.κ.K (.ref fa) = true ∧ ∀ c, c < g.κ.n → g.T.mem f c = true → Meth g.κ.K (g.κ.cls c) (g.nm.fn f) fa)
def EqKnown (g : Gc) (f c : Nat) : Prop := ∃ (fa : Addr) (fd : FuncData) (ps : List Str), Fg g.P g.w g.κ.K g.mg g.base (g.nm.lv f) fa fd ps (spD g.κ g.T f) ∧ Binds g.κ.K fd ps [] ∧
  PySem.W.findIn g.κ.K (.ref (g.κ.cls c)) "__eq__" = some (some (.ref fa)) ∧ PySem.W.isFn g.κ.K (.ref fa) = true
def bNames : List Str := ["len", "abs", "int", "str", "repr", "list", "tuple", "max", "min", "sum", "all", "any", "sorted", "isinstance", "range", "enumerate", "zip", "bool", "set", "divmod", "ValueError"]
structure Gf (g : Gc) : Prop where
  bn : ∀ x ∈ bNames, g.mg x = none
  cls : ClsOk g.κ g.κ.K
  fld : ∀ s, g.nm.fld s = true → FldOk g.κ g.κ.K s
  gl : ∀ i, g.nm.gk i = true → ∃ v u, g.mg (g.nm.gl i) = some u ∧ RelV v u ∧ ∀ f, Rep g.κ f v (g.T.gl i)
  isi : ∀ t, g.nm.ty t = true → IsiOk g.κ g.κ.K t
  cln : ∀ c, g.nm.ty (.cls c) = true → g.mg (g.nm.cl c) = some (.ref (g.κ.cls c))
  eq : ∀ c f, g.T.eqf c = some f → c < g.κ.n → EqKnown g f c
  w : g.κ.w = g.w
  rse : ∀ c, g.nm.xc c = true → RseOk g.κ g.κ.K g.mg c (g.nm.cl c)
  exm : ∀ c, g.κ.x c = true → PySem.W.exmOne g.κ.K (.ref (g.κ.cls c)) (.ref (g.κ.cls 4)) = some true
structure XOk (g : Gc) (X : Cx) (m : Mc) (W : WX) : Prop where
  eP : X.prog = g.P
  eW : X.w = g.w
  eK : X.K = g.κ.K
  eM : X.mg = g.mg
  eB : X.base = g.base
  N : X.N = m.N
  sc : X.env.scope = m.sc
  nd : m.N.Nodup
  calm : X.calm = true
  gd : X.A.guards = some []
  room : Room m.k X.A
  tk : Takes X W
  fn : ∀ x, locB m.lsc x = true → L2.Loc X.env.scope x ∧ (X.fn x = true ∨ X.env.scope.names.lookup x = some .local)
  known : ∀ f, m.ok.contains f = true → Known g f
  ini : m.ini = g.T.ini
  ek : ∀ c f, g.T.eqf c = some f → c < g.κ.n → g.nm.lv f ≤ m.k

section
variable {g : Gc} {X : Cx} {m : Mc} {W : WX} {io : Nat → V → Prop} {p : Option Nat} {e' : Expr} {es' : List Expr} {e : E} {es : List E}
theorem XOk.kx (x : XOk g X m W) (gf : Gf g) : KX g.κ X := ⟨x.eK.symm, gf.w.trans x.eW.symm⟩
theorem XOk.hu (x : XOk g X m W) : X.A.units + 64 < cLine := by have := x.room.un; omega
theorem XOk.vis (x : XOk g X m W) {y : Str} (h : visB m.sc y = true) : Vis X.env.scope y := by
  unfold visB at h
  unfold Vis
  rw [x.sc]
  split at h
  · exact .inl (by assumption)
  · exact .inr (.inl (by assumption))
  · exact .inr (.inr (by assumption))
  · cases h
theorem XOk.loc1 (x : XOk g X m W) {y : Str} (h : loc1B m.sc y = true) : X.env.scope.names.lookup y = some .local := by
  unfold loc1B at h
  rw [x.sc]
  split at h
  · assumption
  · cases h
theorem XOk.glob (x : XOk g X m W) {y : Str} (h : glB m.sc y = true) : Gl X y := by
  unfold glB at h
  show X.env.scope.names.lookup y = _
  rw [x.sc]
  split at h
  · assumption
  · cases h
theorem nmB_of {y : Str} (h : nmB y = true) : (y == ("__debug__" : Str)) = false ∧ (y == ("__classdict__" : Str)) = false := by
  unfold nmB at h
  rw [Bool.and_eq_true] at h
  exact ⟨by simpa using h.1, by simpa using h.2⟩
theorem XOk.at (x : XOk g X m W) {i : Nat} {y : Str} (h : m.N[i]? = some y) : X.N[i]? = some y := by rw [x.N]; exact h
theorem XOk.bn (x : XOk g X m W) (gf : Gf g) {y : Str} (h : y ∈ bNames) : X.mg y = none := by rw [x.eM]; exact gf.bn y h
theorem XOk.fg (x : XOk g X m W) {k : Nat} {fa : Addr} {fd : FuncData} {ps : List Str} {sp : Sp} (F : Fg g.P g.w g.κ.K g.mg g.base k fa fd ps sp) : Fg X.prog X.w X.K X.mg X.base k fa fd ps sp := by
  rw [x.eP, x.eW, x.eK, x.eM, x.eB]
  exact F
theorem XOk.cmp (x : XOk g X m W) (o : Co) : OpR X (compareOp (coP o)) (rCmp g.κ.K o) := by
  rw [← x.eK]
  exact op_cmp x.hu o
theorem XOk.cmpX (x : XOk g X m W) (gf : Gf g) (o : Co) : OpR X (compareOp (coP o)) (rCmpX g.κ g.T o) :=
  op_cmpX (x.kx gf) x.eK.symm x.hu (op_eqD x.gd fun c f h hc => by
    obtain ⟨fa, fd, ps, F, B, h1, h2⟩ := gf.eq c f h hc
    exact ⟨fa, fd, ps, _, x.fg F, by rw [x.eK]; exact B, by rw [x.eK]; exact h1, by rw [x.eK]; exact h2, x.room.mono (x.ek c f h hc)⟩) o
theorem XOk.blk (x : XOk g X m W) {scope : Scope} {s : Shared} {H : Hp} {cl : List (Str × Addr)} {C : Addr} {fp : List Addr} : XOk g (X.blk s H scope (compEnvC scope cl C X.env) fp) (inner m scope) wF where
  eP := x.eP
  eW := x.eW
  eK := x.eK
  eM := x.eM
  eB := x.eB
  N := x.N
  sc := by
    show relS scope X.env.scope = relS scope m.sc
    rw [x.sc]
  nd := x.nd
  calm := x.calm
  gd := x.gd
  room := x.room
  tk := takes_blk
  fn := fun y h => by
    have look : ∀ {l : List (Str × NameKind)} {k : NameKind}, l.lookup y = some k → k ≠ .free → (l.map fun (n, k) => if (k == .free && m.sc.kind == .function && m.sc.names.lookup n == some .cell) = true then (n, NameKind.cell) else (n, k)).lookup y = some k := by
      intro l k hl hk
      induction l with
      | nil => simp at hl
      | cons q l ih =>
        obtain ⟨n, k2⟩ := q
        rw [List.lookup_cons] at hl
        rw [List.map_cons]
        by_cases e : (y == n) = true
        · rw [e] at hl
          cases hl
          have : (k == NameKind.free) = false := by simpa using hk
          simp only [this, Bool.false_and, Bool.false_eq_true, if_false]
          rw [List.lookup_cons, e]
        · have e2 : (y == n) = false := by simpa using e
          rw [e2] at hl
          have ih2 := ih hl
          simp only
          split
          · rw [List.lookup_cons, e2]
            exact ih2
          · rw [List.lookup_cons, e2]
            exact ih2
    show L2.Loc (relS scope X.env.scope) y ∧ ((scope.names.lookup y == some .cell) = true ∨ (relS scope X.env.scope).names.lookup y = some .local)
    rw [x.sc]
    have h : locB scope y = true := h
    unfold locB at h
    split at h
    · rename_i hl
      have e := look hl (by decide)
      exact ⟨.inl e, .inr e⟩
    · rename_i hl
      have e := look hl (by decide)
      exact ⟨.inr e, .inl (by rw [hl]; rfl)⟩
    · cases h
  known := x.known
  ini := x.ini
  ek := x.ek
end
end PyV
set_option Elab.async false
set_option linter.all false
set_option maxRecDepth 100000
set_option maxHeartbeats 4000000
namespace PyV
open PySem PySem.Spec PyProof.Rows L2

def isBO : Expr → Bool
  | .BoolOp _ _ _ => true
  | _ => false
structure Snd (κ : Kx) (io : Nat → V → Prop) (W : WX) (T : Tab) (p : Option Nat) (X : Cx) (e : E) (e' : Expr) : Prop where
  pe : PE X e' (tD κ io W (evE T p e))
  pt : tstB e e' = true → PT X e' (tDT κ io W fun s => tstR (evE T p e s))
  pw : isBO e' = true → tstB e e' = true → PW X e' (tDT κ io W fun s => tstR (evE T p e s))
section
variable {g : Gc} {X : Cx} {m : Mc} {W : WX} {io : Nat → V → Prop} {p : Option Nat} {e' : Expr} {es' : List Expr} {e : E} {es : List E} {κ : Kx} {T : Tab}
theorem Snd.of (h : PE X e' (tD κ io W (evE T p e))) (ht : tstB e e' = true → tvB e' = true) : Snd κ io W T p X e e' :=
  ⟨h, fun t => snd_test h (tvB_truth (ht t)), fun b t => by
    have := ht t
    cases e' <;> first | (cases b; done) | cases this⟩
theorem Snd.ofT (h : PE X e' (tD κ io W (evE T p e))) (ht : PT X e' (tDT κ io W fun s => tstR (evE T p e s))) (hb : isBO e' = false) : Snd κ io W T p X e e' :=
  ⟨h, fun _ => ht, fun b => by rw [hb] at b; cases b⟩
theorem mtEs_ns {nm : Nm} : ∀ {es : List E} {es' : List Expr}, mtEs nm m es es' = true → nsBs es' = true ∧ es.length = es'.length
  | [], es', h => by
    simp only [mtEs] at h
    split at h
    · exact ⟨rfl, rfl⟩
    · cases h
  | e :: es, es', h => by
    simp only [mtEs] at h
    split at h
    · simp only [Bool.and_eq_true] at h
      obtain ⟨q1, q2⟩ := mtEs_ns h.2
      exact ⟨by simp [nsBs, h.1.1, q1], congrArg (· + 1) q2⟩
    · cases h
theorem ns_first (h : nsBs es' = true) (pos : Pos) (env : Env) : (∀ e r, es' = e :: r → starEach es' env = (false, eval e env) :: starEach r env) ∧ (∀ e r, es' = e :: r → (backTo pos (starEach r env)).any (·.1) = false) := by
  refine ⟨fun e r q => ?_, fun e r q => ?_⟩
  · subst q
    simp only [nsBs, Bool.and_eq_true] at h
    exact nsB_star h.1
  · subst q
    simp only [nsBs, Bool.and_eq_true] at h
    exact nsBs_any h.2
theorem len_nil (h : es.length = es'.length) : es' = [] → es = [] := fun q => by
  subst q
  exact List.eq_nil_of_length_eq_zero h
theorem biN_mem {b : Bi} (h : biN b ≠ "") : biN b ∈ bNames := by
  cases b <;> first | (exact absurd rfl h) | decide
theorem tyW_name (x : XOk g X m W) (gf : Gf g) {t : Ty} {y : Str} {q : Pos} (ht : g.nm.ty t = true) (hy : tyNm g.nm t = y) (hg : glB m.sc y = true) (hn : nmB y = true) : PE X (.Name y q) (tC (tyW g.κ t)) := by
  obtain ⟨h1, h2⟩ := nmB_of hn
  cases t with
  | cls c => exact pe_glob (x.glob hg) (by rw [x.eM, ← hy]; exact gf.cln c ht) rfl h1
  | tint => have e : y = "int" := hy.symm; subst e; exact pe_bltn (x.glob hg) (x.bn gf (by decide)) (by rfl) rfl
  | tbool => have e : y = "bool" := hy.symm; subst e; exact pe_bltn (x.glob hg) (x.bn gf (by decide)) (by rfl) rfl
  | tstr => have e : y = "str" := hy.symm; subst e; exact pe_bltn (x.glob hg) (x.bn gf (by decide)) (by rfl) rfl
  | ttuple => have e : y = "tuple" := hy.symm; subst e; exact pe_bltn (x.glob hg) (x.bn gf (by decide)) (by rfl) rfl
  | tval => have e : y = "ValueError" := hy.symm; subst e; exact pe_bltn (x.glob hg) (x.bn gf (by decide)) (by rfl) rfl
  | tlist => have e : y = "list" := hy.symm; subst e; exact pe_bltn (x.glob hg) (x.bn gf (by decide)) (by rfl) rfl
theorem mtT_ns {t : PyV.T} {e' : Expr} (h : mtT m t e' = true) {r : List Expr} {env : Env} : assignEach (e' :: r) env = (false, assign e' env) :: assignEach r env := by
  cases t with
  | v i =>
    simp only [mtT] at h
    split at h
    · rfl
    · cases h
  | tup ts =>
    simp only [mtT] at h
    split at h
    · rfl
    · cases h
theorem mtTs_len : ∀ {ts : List PyV.T} {es : List Expr} {env : Env}, mtTs m ts es = true → (assignEach es env).length = ts.length ∧ (assignEach es env).findIdx? (·.1) = none
  | [], es, env, h => by
    simp only [mtTs] at h
    split at h
    · exact ⟨rfl, rfl⟩
    · cases h
  | t :: ts, es, env, h => by
    simp only [mtTs] at h
    split at h
    · simp only [Bool.and_eq_true] at h
      obtain ⟨q1, q2⟩ := mtTs_len (env := env) h.2
      rw [mtT_ns h.1]
      refine ⟨congrArg (· + 1) q1, ?_⟩
      rw [List.findIdx?_cons]
      simp [q2]
    · cases h
mutual
theorem sndT_ (x : XOk g X m W) (hp : IoP io p) : ∀ (t : PyV.T) {e' : Expr}, mtT m t e' = true → PG X e' (gD g.κ io p t)
  | .v i, e', h => by
    simp only [mtT] at h
    split at h
    · simp only [Bool.and_eq_true, decide_eq_true_eq] at h
      obtain ⟨q1, q2⟩ := x.fn _ h.2
      exact snd_tv hp (by rw [x.N]; exact x.nd) (x.at h.1) q1 q2
    · cases h
  | .tup ts, e', h => by
    simp only [mtT] at h
    split at h
    · obtain ⟨q1, q2⟩ := mtTs_len (env := X.env) h
      exact snd_ttup x.eK.symm x.calm (sndTs_ x hp ts h) q1 q2
    · cases h
theorem sndTs_ (x : XOk g X m W) (hp : IoP io p) : ∀ (ts : List PyV.T) {es' : List Expr}, mtTs m ts es' = true → PGs X es' (gsD g.κ io p ts)
  | [], es', h => by
    simp only [mtTs] at h
    split at h
    · exact snd_tnil
    · cases h
  | t :: ts, es', h => by
    simp only [mtTs] at h
    split at h
    · simp only [Bool.and_eq_true] at h
      exact snd_tcons (sndT_ x hp t h.1) (sndTs_ x hp ts h.2) (by rw [mtT_ns h.1]; rfl)
    · cases h
end
theorem snd_iter (x : XOk g X m W) (gf : Gf g) {k : Ik} {its : List E} {iter tg : Expr} (hi : itB m.sc k iter tg = true) (hm : mtEs g.nm m its (itEs k iter) = true) (ha : PA X (itEs k iter) (tDA g.κ io W (evEs g.T p its)))
    (h1 : ∀ e e', its = [e] → itEs k iter = [e'] → PE X e' (tD g.κ io W (evE g.T p e))) : PI X tg iter (tDI g.κ io W k (evEs g.T p its)) := by
  obtain ⟨ns, ln⟩ := mtEs_ns hm
  cases k with
  | plain =>
    have e1 : itEs .plain iter = [iter] := rfl
    rw [e1] at ln
    match its, ln with
    | [e], _ => exact snd_it x.eK.symm (h1 e iter rfl rfl)
  | rng =>
    unfold itB at hi
    simp only at hi
    split at hi
    · rename_i y q es' pos
      simp only [Bool.and_eq_true, decide_eq_true_eq, Bool.or_eq_true, beq_iff_eq] at hi
      obtain ⟨⟨hy, hg⟩, hl⟩ := hi
      have e1 : itEs .rng (.Call (.Name y q) es' [] pos) = es' := rfl
      rw [e1] at ln ha ns
      have hmg : X.mg y = none := x.bn gf (by rw [hy]; decide)
      rcases hl with (hl | hl) | hl
      · match es', its, hl, ln, ns with
        | [a'], [a], _, _, ns =>
          simp only [nsBs, Bool.and_eq_true] at ns
          exact snd_rng1 hy (x.glob hg) hmg ha (nsB_star ns.1)
      · match es', its, hl, ln, ns with
        | [a', b'], [a, b], _, _, ns =>
          simp only [nsBs, Bool.and_eq_true] at ns
          exact snd_rng2 hy (x.glob hg) hmg ha (by rw [nsB_star ns.1, nsB_star ns.2.1]; rfl) (nsB_star ns.2.1)
      · match es', its, hl, ln, ns with
        | [a', b', c'], [a, b, c], _, _, ns =>
          simp only [nsBs, Bool.and_eq_true] at ns
          exact snd_rng3 hy (x.glob hg) hmg ha (nsB_star ns.1) (nsBs_any (by simp only [nsBs, Bool.and_eq_true]; exact ns.2))
    · cases hi
  | enm =>
    unfold itB at hi
    simp only at hi
    split at hi
    · rename_i y q a' pos elts kk tpos
      simp only [Bool.and_eq_true, decide_eq_true_eq] at hi
      obtain ⟨hy, hg⟩ := hi
      have e1 : itEs .enm (.Call (.Name y q) [a'] [] pos) = [a'] := rfl
      rw [e1] at ln ha ns
      match its, ln with
      | [a], _ =>
        simp only [nsBs, Bool.and_eq_true] at ns
        exact snd_enum x.eK.symm hy (x.glob hg) (x.bn gf (by rw [hy]; decide)) ha (nsB_star ns.1)
    · cases hi
  | zip =>
    unfold itB at hi
    simp only at hi
    split at hi
    · rename_i y q a' b' pos elts kk tpos
      simp only [Bool.and_eq_true, decide_eq_true_eq] at hi
      obtain ⟨hy, hg⟩ := hi
      have e1 : itEs .zip (.Call (.Name y q) [a', b'] [] pos) = [a', b'] := rfl
      rw [e1] at ln ha ns
      match its, ln with
      | [a, b], _ =>
        simp only [nsBs, Bool.and_eq_true] at ns
        exact snd_zip x.eK.symm hy (x.glob hg) (x.bn gf (by rw [hy]; decide)) ha (nsB_star ns.1) (nsBs_any (by simp only [nsBs, Bool.and_eq_true]; exact ns.2))
    · cases hi
  | itm =>
    unfold itB at hi
    simp only at hi
    split at hi
    · rename_i a' g' apos pos elts kk tpos
      simp only [Bool.and_eq_true, decide_eq_true_eq] at hi
      obtain ⟨⟨hy, hb⟩, hl⟩ := hi
      subst hy
      have e1 : itEs .itm (.Call (.Attribute a' "items" apos) [] [] pos) = [a'] := rfl
      rw [e1] at ln
      match its, ln with
      | [e], _ => exact snd_itm (h1 e a' rfl rfl) (bsB_base hb) hl
    · cases hi
  | vls =>
    unfold itB at hi
    simp only at hi
    split at hi
    · rename_i a' g' apos pos
      simp only [Bool.and_eq_true, decide_eq_true_eq] at hi
      obtain ⟨⟨hy, hb⟩, hl⟩ := hi
      subst hy
      have e1 : itEs .vls (.Call (.Attribute a' "values" apos) [] [] pos) = [a'] := rfl
      rw [e1] at ln
      match its, ln with
      | [e], _ => exact snd_vls (h1 e a' rfl rfl) (bsB_base hb) hl
    · cases hi
end
end PyV
set_option Elab.async false
set_option linter.all false
set_option maxRecDepth 100000
set_option maxHeartbeats 8000000
namespace PyV
open PySem PySem.Spec PyProof.Rows L2

section
variable {g : Gc} (gf : Gf g)
theorem kn_call {X : Cx} {m : Mc} {W : WX} {io : Nat → V → Prop} {p : Option Nat} {es' : List Expr} {es : List E} (x : XOk g X m W) {f : Nat} {y : Str} {q pos : Pos} (h1 : m.ok.contains f = true) (h2 : g.nm.lv f ≤ m.k) (h3 : g.nm.kd f = 0) (h4 : g.nm.fn f = y) (h5 : glB m.sc y = true) (h6 : nmB y = true)
    (hm : mtEs g.nm m es es' = true) (ha : PA X es' (tDA g.κ io W (evEs g.T p es))) : PE X (.Call (.Name y q) es' [] pos) (tD g.κ io W (evE g.T p (.call f es))) := by
  obtain ⟨fa, fd, ps, F, B, k0, _, _, _⟩ := x.known f h1
  obtain ⟨c1, c2⟩ := k0 h3
  obtain ⟨ns, ln⟩ := mtEs_ns hm
  obtain ⟨n1, n2⟩ := ns_first ns pos X.env
  exact snd_call (x.fg F) (x.room.mono h2) x.gd (x.glob h5) (by rw [x.eM, ← h4]; exact c1) (by rw [x.eK]; exact c2) (by rw [x.eK]; exact B) x.tk ha (len_nil ln) (nmB_of h6).1 n1 n2
theorem kn_cbr {X : Cx} {m : Mc} {W : WX} {io : Nat → V → Prop} {p : Option Nat} {es' : List Expr} {es : List E} (x : XOk g X m W) {f : Nat} {y : Str} {q pos : Pos} (h1 : m.ok.contains f = true) (h2 : g.nm.lv f ≤ m.k) (h3 : g.nm.kd f = 0) (h4 : g.nm.fn f = y) (h5 : glB m.sc y = true) (h6 : nmB y = true)
    (hm : mtEs g.nm m es es' = true) (ha : PA X es' (tDA g.κ io W (evEs g.T p es))) : PE X (.Call (.Name y q) es' [] pos) (tD g.κ io W (evE g.T p (.cbr f es))) := by
  obtain ⟨fa, fd, ps, F, B, k0, _, _, _⟩ := x.known f h1
  obtain ⟨c1, c2⟩ := k0 h3
  obtain ⟨ns, ln⟩ := mtEs_ns hm
  obtain ⟨n1, n2⟩ := ns_first ns pos X.env
  exact snd_cbr (x.fg F) (x.room.mono h2) x.gd (x.glob h5) (by rw [x.eM, ← h4]; exact c1) (by rw [x.eK]; exact c2) (by rw [x.eK]; exact B) x.tk ha (len_nil ln) (nmB_of h6).1 n1 n2
theorem kn_prp {X : Cx} {m : Mc} {W : WX} {io : Nat → V → Prop} {p : Option Nat} {a' : Expr} {a : E} (gf : Gf g) (x : XOk g X m W) {f : Nat} {y : Str} {pos : Pos} (h1 : m.ok.contains f = true) (h2 : g.nm.lv f + 1 ≤ m.k) (h3 : g.nm.kd f = 1) (h4 : g.nm.fn f = y) (h5 : bsB a' = true)
    (ha : PE X a' (tD g.κ io W (evE g.T p a))) : PE X (.Attribute a' y pos) (tD g.κ io W (evE g.T p (.prp f a))) := by
  obtain ⟨fa, fd, ps, F, B, _, k1, _, _⟩ := x.known f h1
  obtain ⟨pr, c1⟩ := k1 h3
  subst h4
  exact snd_prp ha (fun c hc hm => ⟨by rw [x.eK]; exact gf.cls c hc, by rw [x.eK]; exact c1 c hc hm⟩) (x.fg F) (x.room.mono h2) x.gd (by rw [x.eK]; exact B) (bsB_base h5)
theorem kn_new {X : Cx} {m : Mc} {W : WX} {io : Nat → V → Prop} {p : Option Nat} {es' : List Expr} {es : List E} (x : XOk g X m W) {c : Nat} {y : Str} {q pos : Pos} (h1 : m.ok.contains (m.ini c) = true) (h2 : g.nm.lv (m.ini c) + 1 ≤ m.k) (h3 : g.nm.kd (m.ini c) = 2) (h4 : g.nm.cl c = y) (h5 : glB m.sc y = true) (h6 : nmB y = true)
    (hm : mtEs g.nm m es es' = true) (ha : PA X es' (tDA g.κ io W (evEs g.T p es))) : PE X (.Call (.Name y q) es' [] pos) (tD g.κ io W (evE g.T p (.new c es))) := by
  obtain ⟨fa, fd, ps, F, B, _, _, k2, _⟩ := x.known _ h1
  rw [x.ini] at h2 h3 F k2
  obtain ⟨c1, c2, c3, c4⟩ := k2 h3 c rfl
  obtain ⟨ns, ln⟩ := mtEs_ns hm
  obtain ⟨n1, n2⟩ := ns_first ns pos X.env
  exact snd_new c1 c2 (by rw [x.eK]; exact c3) (x.fg F) (x.room.mono h2) x.gd (x.glob h5) (by rw [x.eM, ← h4]; exact c4) (by rw [x.eK]; exact B) x.tk ha (len_nil ln) (nmB_of h6).1 n1 n2
theorem nsBs_all {pos : Pos} {env : Env} : ∀ {r : List Expr}, nsBs r = true → (backTo pos (starEach r env)).all (fun x => !x.1) = true
  | [], _ => rfl
  | a :: r, h => by
    simp only [nsBs, Bool.and_eq_true] at h
    rw [nsB_star h.1]
    show (!false && (backTo pos (starEach r env)).all (fun x => !x.1)) = true
    rw [nsBs_all h.2]
    rfl
theorem kn_umt {X : Cx} {m : Mc} {W : WX} {io : Nat → V → Prop} {p : Option Nat} {a' : Expr} {es' : List Expr} {a : E} {es : List E} (gf : Gf g) (x : XOk g X m W) {f : Nat} {y : Str} {apos pos : Pos} (h1 : m.ok.contains f = true) (h2 : g.nm.lv f ≤ m.k) (h3 : g.nm.kd f = 3) (h4 : g.nm.fn f = y) (h5 : bsB a' = true)
    (hl : (apos.endLine == pos.line) = true) (hlen : es'.length < 30) (hm : mtEs g.nm m es es' = true) (ha : PE X a' (tD g.κ io W (evE g.T p a))) (hs : PA X es' (tDA g.κ io W (evEs g.T p es))) : PE X (.Call (.Attribute a' y apos) es' [] pos) (tD g.κ io W (evE g.T p (.umt f a es))) := by
  obtain ⟨fa, fd, ps, F, B, _, _, _, k3⟩ := x.known f h1
  obtain ⟨c1, c2, c3⟩ := k3 h3
  subst h4
  obtain ⟨ns, ln⟩ := mtEs_ns hm
  obtain ⟨n1, n2⟩ := ns_first ns pos X.env
  exact snd_umt ha (fun c hc hm => ⟨by rw [x.eK]; exact gf.cls c hc, by rw [x.eK]; exact c3 c hc hm⟩) c1 (x.fg F) (x.room.mono h2) x.gd (by rw [x.eK]; exact B) x.tk (by rw [x.eK]; exact c2) hs (len_nil ln) n1 n2
    (meth_eq (bsB_base h5) (nsBs_all ns) hlen hl)
theorem mtKv_len {nm : Nm} {m : Mc} : ∀ {es : List E} {ks : List (Option Expr)} {vs : List Expr}, mtKv nm m es ks vs = true → ks.all (·.isSome) = true ∧ ks.length = vs.length ∧ True
  | [], ks, vs, h => by
    simp only [mtKv, Bool.and_eq_true, List.isEmpty_iff] at h
    obtain ⟨rfl, rfl⟩ := h
    exact ⟨rfl, rfl, trivial⟩
  | [e], ks, vs, h => by simp [mtKv] at h
  | e :: f :: es, ks, vs, h => by
    simp only [mtKv] at h
    split at h
    · simp only [Bool.and_eq_true] at h
      obtain ⟨a, b, _⟩ := mtKv_len h.2
      exact ⟨by rw [List.all_cons, a]; rfl, by rw [List.length_cons, List.length_cons, b], trivial⟩
    · cases h
mutual
theorem sndE (gf : Gf g) : ∀ (e : E) {e' : Expr} {X : Cx} {m : Mc} {W : WX} {io : Nat → V → Prop} {p : Option Nat}, XOk g X m W → IoP io p → mtE g.nm m e e' = true → Snd g.κ io W g.T p X e e'
  | .var i, e', X, m, W, io, p, x, hp, h => by
    simp only [mtE] at h
    split at h
    · simp only [Bool.and_eq_true, decide_eq_true_eq] at h
      obtain ⟨⟨h1, h2⟩, h3⟩ := h
      obtain ⟨n1, n2⟩ := nmB_of h3
      exact Snd.of (snd_var (x.at h1) (x.vis h2) n1 n2) fun t => t
    · cases h
  | .non, e', X, m, W, io, p, x, hp, h => by
    simp only [mtE] at h
    split at h
    · exact Snd.of snd_non fun t => t
    · cases h
  | .bl b, e', X, m, W, io, p, x, hp, h => by
    simp only [mtE] at h
    split at h
    · rw [eq_of_beq h]
      exact Snd.of snd_bl fun t => rfl
    · cases h
  | .int b, e', X, m, W, io, p, x, hp, h => by
    simp only [mtE] at h
    split at h
    · rw [of_decide_eq_true h]
      exact Snd.of snd_int fun t => rfl
    · cases h
  | .str b, e', X, m, W, io, p, x, hp, h => by
    simp only [mtE] at h
    split at h
    · simp only [Bool.and_eq_true, decide_eq_true_eq, List.all_eq_true] at h
      exact Snd.of (snd_str h.1 h.2) fun t => t
    · cases h
  | .glb i, e', X, m, W, io, p, x, hp, h => by
    simp only [mtE] at h
    split at h
    · simp only [Bool.and_eq_true, decide_eq_true_eq] at h
      obtain ⟨⟨⟨h1, h2⟩, h3⟩, h4⟩ := h
      obtain ⟨v, u, k1, k2, k3⟩ := gf.gl i h2
      exact Snd.of (snd_glb (x.glob h3) (by rw [x.eM, ← h1]; exact k1) k2 k3 (nmB_of h4).1) fun t => t
    · cases h
  | .bin o a b, e', X, m, W, io, p, x, hp, h => by
    simp only [mtE] at h
    split at h
    · simp only [Bool.and_eq_true] at h
      obtain ⟨⟨h1, h2⟩, h3⟩ := h
      cases opB_eq h1
      exact Snd.of (snd_bin x.eK (sndE gf a x hp h2).pe (sndE gf b x hp h3).pe) fun t => t
    · cases h
  | .neg a, e', X, m, W, io, p, x, hp, h => by
    simp only [mtE] at h
    split at h
    · exact Snd.of (snd_neg (sndE gf a x hp h).pe) fun t => rfl
    · cases h
  | .cmp o a b, e', X, m, W, io, p, x, hp, h => by
    simp only [mtE] at h
    split at h
    · simp only [Bool.and_eq_true] at h
      obtain ⟨⟨⟨h1, h2⟩, h3⟩, h4⟩ := h
      cases coB_eq h1
      have ha := (sndE gf a x hp h3).pe
      have hb := (sndE gf b x hp h4).pe
      exact Snd.ofT (snd_cmp (x.cmpX gf o) h2 ha hb) (sndT_cmp (x.cmpX gf o) h2 ha hb) rfl
    · cases h
  | .ch2 a o b o2 c, e', X, m, W, io, p, x, hp, h => by
    simp only [mtE] at h
    split at h
    · simp only [Bool.and_eq_true] at h
      obtain ⟨⟨⟨⟨⟨h1, h2⟩, h3⟩, h4⟩, h5⟩, h6⟩ := h
      cases coB_eq h1
      cases coB_eq h2
      have ha := (sndE gf a x hp h4).pe
      have hb := (sndE gf b x hp h5).pe
      have hc := (sndE gf c x hp h6).pe
      exact Snd.ofT (snd_ch2 (x.cmp o) (x.cmp o2) h3 ha hb hc) (sndT_ch2 (x.cmp o) (x.cmp o2) h3 ha hb hc) rfl
    · cases h
  | .ch3 a o b o2 c o3 d, e', X, m, W, io, p, x, hp, h => by
    simp only [mtE] at h
    split at h
    · simp only [Bool.and_eq_true] at h
      obtain ⟨⟨⟨⟨⟨⟨⟨h1, h2⟩, h3⟩, h4⟩, h5⟩, h6⟩, h7⟩, h8⟩ := h
      cases coB_eq h1
      cases coB_eq h2
      cases coB_eq h3
      have ha := (sndE gf a x hp h5).pe
      have hb := (sndE gf b x hp h6).pe
      have hc := (sndE gf c x hp h7).pe
      have hd := (sndE gf d x hp h8).pe
      exact Snd.ofT (snd_ch3 (x.cmp o) (x.cmp o2) (x.cmp o3) h4 ha hb hc hd) (sndT_ch3 (x.cmp o) (x.cmp o2) (x.cmp o3) h4 ha hb hc hd) rfl
    · cases h
  | .ch4 a o b o2 c o3 d o4 f, e', X, m, W, io, p, x, hp, h => by
    simp only [mtE] at h
    split at h
    · simp only [Bool.and_eq_true] at h
      obtain ⟨⟨⟨⟨⟨⟨⟨⟨⟨h1, h2⟩, h3⟩, h9⟩, h4⟩, h5⟩, h6⟩, h7⟩, h8⟩, h10⟩ := h
      cases coB_eq h1
      cases coB_eq h2
      cases coB_eq h3
      cases coB_eq h9
      have ha := (sndE gf a x hp h5).pe
      have hb := (sndE gf b x hp h6).pe
      have hc := (sndE gf c x hp h7).pe
      have hd := (sndE gf d x hp h8).pe
      have hf := (sndE gf f x hp h10).pe
      exact Snd.ofT (snd_ch4 (x.cmp o) (x.cmp o2) (x.cmp o3) (x.cmp o4) h4 ha hb hc hd hf) (sndT_ch4 (x.cmp o) (x.cmp o2) (x.cmp o3) (x.cmp o4) h4 ha hb hc hd hf) rfl
    · cases h
  | .isn a, e', X, m, W, io, p, x, hp, h => by
    simp only [mtE] at h
    split at h
    · have ha := (sndE gf a x hp h).pe
      exact Snd.ofT (snd_isn ha) (sndT_isn ha) rfl
    · cases h
  | .nsn a, e', X, m, W, io, p, x, hp, h => by
    simp only [mtE] at h
    split at h
    · have ha := (sndE gf a x hp h).pe
      exact Snd.ofT (snd_nsn ha) (sndT_nsn ha) rfl
    · cases h
  | .and a b, e', X, m, W, io, p, x, hp, h => by
    simp only [mtE] at h
    split at h
    · rename_i a' b' rest pos
      rw [Bool.and_eq_true] at h
      obtain ⟨h1, h2⟩ := h
      have ka := sndE gf a x hp h1
      cases rest with
      | nil =>
        have kb := sndE gf b x hp h2
        have pw : tstB (.and a b) (.BoolOp .And [a', b'] pos) = true → PW X (.BoolOp .And [a', b'] pos) (tDT g.κ io W fun s => tstR (evE g.T p (.and a b) s)) := fun t => by
          simp only [tstB, Bool.and_eq_true] at t
          exact sndT_and (ka.pt t.1) (pw_and1 (kb.pt t.2))
        exact ⟨snd_and ka.pe (pe_one kb.pe), fun t => (pw t).pt, fun _ t => pw t⟩
      | cons r rs =>
        have kb := sndE gf b x hp h2
        have pw : tstB (.and a b) (.BoolOp .And (a' :: b' :: r :: rs) pos) = true → PW X (.BoolOp .And (a' :: b' :: r :: rs) pos) (tDT g.κ io W fun s => tstR (evE g.T p (.and a b) s)) := fun t => by
          simp only [tstB, Bool.and_eq_true] at t
          exact sndT_and (ka.pt t.1) (kb.pw rfl t.2)
        exact ⟨snd_and ka.pe kb.pe, fun t => (pw t).pt, fun _ t => pw t⟩
    · cases h
  | .or a b, e', X, m, W, io, p, x, hp, h => by
    simp only [mtE] at h
    split at h
    · rename_i a' b' rest pos
      rw [Bool.and_eq_true] at h
      obtain ⟨h1, h2⟩ := h
      have ka := sndE gf a x hp h1
      cases rest with
      | nil =>
        have kb := sndE gf b x hp h2
        have pw : tstB (.or a b) (.BoolOp .Or [a', b'] pos) = true → PW X (.BoolOp .Or [a', b'] pos) (tDT g.κ io W fun s => tstR (evE g.T p (.or a b) s)) := fun t => by
          simp only [tstB, Bool.and_eq_true] at t
          exact sndT_or (ka.pt t.1) (pw_or1 (kb.pt t.2))
        exact ⟨snd_or ka.pe (pe_one kb.pe), fun t => (pw t).pt, fun _ t => pw t⟩
      | cons r rs =>
        have kb := sndE gf b x hp h2
        have pw : tstB (.or a b) (.BoolOp .Or (a' :: b' :: r :: rs) pos) = true → PW X (.BoolOp .Or (a' :: b' :: r :: rs) pos) (tDT g.κ io W fun s => tstR (evE g.T p (.or a b) s)) := fun t => by
          simp only [tstB, Bool.and_eq_true] at t
          exact sndT_or (ka.pt t.1) (kb.pw rfl t.2)
        exact ⟨snd_or ka.pe kb.pe, fun t => (pw t).pt, fun _ t => pw t⟩
    · cases h
  | .not a, e', X, m, W, io, p, x, hp, h => by
    simp only [mtE] at h
    split at h
    · have ka := sndE gf a x hp h
      refine ⟨snd_not ka.pe, fun t => ?_, fun b => nomatch b⟩
      simp only [tstB] at t
      exact sndT_not (ka.pt t)
    · cases h
  | .ite c a b, e', X, m, W, io, p, x, hp, h => by
    simp only [mtE] at h
    split at h
    · simp only [Bool.and_eq_true] at h
      obtain ⟨⟨⟨h1, h2⟩, h3⟩, h4⟩ := h
      exact Snd.of (snd_ite ((sndE gf c x hp h1).pt h2) (sndE gf a x hp h3).pe (sndE gf b x hp h4).pe) fun t => t
    · cases h
  | .itt c a b, e', X, m, W, io, p, x, hp, h => by
    simp only [mtE] at h
    split at h
    · simp only [Bool.and_eq_true] at h
      obtain ⟨⟨⟨h1, h2⟩, h3⟩, h4⟩ := h
      exact Snd.of (snd_itt (sndE gf c x hp h1).pe (tvB_truth h2) (sndE gf a x hp h3).pe (sndE gf b x hp h4).pe) fun t => t
    · cases h
  | .tup es, e', X, m, W, io, p, x, hp, h => by
    simp only [mtE] at h
    split at h
    · exact Snd.of (snd_tup (sndEs gf es x hp h)) fun t => t
    · cases h
  | .lst es, e', X, m, W, io, p, x, hp, h => by
    simp only [mtE] at h
    split at h
    · exact Snd.of (snd_lst (sndEs gf es x hp h)) fun t => t
    · cases h
  | .lstS k es, e', X, m, W, io, p, x, hp, h => by
    simp only [mtE] at h
    split at h
    · exact Snd.of (snd_lstS (sndXs gf k es x hp h)) fun t => t
    · cases h
  | .att a f, e', X, m, W, io, p, x, hp, h => by
    simp only [mtE] at h
    split at h
    · simp only [Bool.and_eq_true, decide_eq_true_eq] at h
      obtain ⟨⟨⟨h1, h2⟩, h3⟩, h4⟩ := h
      subst h1
      exact Snd.of (snd_att (by rw [x.eK]; exact gf.cls) (by rw [x.eK]; exact gf.fld _ h2) (bsB_base h3) (sndE gf a x hp h4).pe) fun t => t
    · cases h
  | .sub a b, e', X, m, W, io, p, x, hp, h => by
    simp only [mtE] at h
    split at h
    · simp only [Bool.and_eq_true] at h
      obtain ⟨⟨h1, h2⟩, h3⟩ := h
      exact Snd.of (snd_sub (x.kx gf) x.hu x.eK.symm (ixB_plain h1) (sndE gf a x hp h2).pe (sndE gf b x hp h3).pe) fun t => t
    · cases h
  | .nop, e', X, m, W, io, p, x, hp, h => Snd.of snd_nevE fun t => t
  | .slc a lo hi, e', X, m, W, io, p, x, hp, h => by
    simp only [mtE] at h
    split at h
    · rename_i a' lo' hi' p2 pos
      simp only [Bool.and_eq_true] at h
      obtain ⟨⟨h1, h2⟩, h3⟩ := h
      have kl : PO X lo' (tDO g.κ io W (partD g.T p lo)) := by
        cases lo' with
        | none =>
          cases lo <;> first | (cases h2; done) | exact po_nop
        | some l =>
          simp only [Bool.and_eq_true, Bool.not_eq_true'] at h2
          exact po_snd (isNop_ne h2.1) (sndE gf lo x hp h2.2).pe
      have kh : PO X hi' (tDO g.κ io W (partD g.T p hi)) := by
        cases hi' with
        | none =>
          cases hi <;> first | (cases h3; done) | exact po_nop
        | some l =>
          simp only [Bool.and_eq_true, Bool.not_eq_true'] at h3
          exact po_snd (isNop_ne h3.1) (sndE gf hi x hp h3.2).pe
      exact Snd.of (snd_slc x.eK.symm (sndE gf a x hp h1).pe kl kh) fun t => rfl
    · cases h
  | .rev a, e', X, m, W, io, p, x, hp, h => by
    simp only [mtE] at h
    split at h
    · exact Snd.of (snd_rev x.eK.symm (sndE gf a x hp h).pe) fun t => t
    · cases h
  | .call f es, e', X, m, W, io, p, x, hp, h => by
    simp only [mtE] at h
    split at h
    · simp only [Bool.and_eq_true, decide_eq_true_eq] at h
      obtain ⟨⟨⟨⟨⟨⟨h1, h2⟩, h3⟩, h4⟩, h5⟩, h6⟩, h7⟩ := h
      exact Snd.of (kn_call x h1 h2 h3 h4 h5 h6 h7 (sndEs gf es x hp h7)) fun t => rfl
    · cases h
  | .cbr f es, e', X, m, W, io, p, x, hp, h => by
    simp only [mtE] at h
    split at h
    · simp only [Bool.and_eq_true, decide_eq_true_eq] at h
      obtain ⟨⟨⟨⟨⟨⟨h1, h2⟩, h3⟩, h4⟩, h5⟩, h6⟩, h7⟩ := h
      exact Snd.of (kn_cbr x h1 h2 h3 h4 h5 h6 h7 (sndEs gf es x hp h7)) fun t => rfl
    · cases h
  | .bi b es, e', X, m, W, io, p, x, hp, h => by
    simp only [mtE] at h
    split at h
    · rename_i y q es' pos
      simp only [Bool.and_eq_true, decide_eq_true_eq] at h
      obtain ⟨⟨⟨⟨h1, h2⟩, h3⟩, h4⟩, h5⟩ := h
      cases es' with
      | nil => cases h4
      | cons e1 r =>
        obtain ⟨ns, ln⟩ := mtEs_ns h5
        obtain ⟨n1, n2⟩ := ns_first ns pos X.env
        refine Snd.of (snd_bi h1 h2 (cr_bi x.calm x.gd x.hu x.eK.symm b) (x.glob h3) (x.bn gf (by rw [← h1]; exact biN_mem (by rw [h1]; exact h2))) (sndEs gf es x hp h5) (n1 _ _ rfl) (n2 _ _ rfl)) fun t => rfl
    · cases h
  | .mth t a es, e', X, m, W, io, p, x, hp, h => by
    simp only [mtE] at h
    split at h
    · rename_i a' nm' apos b' pos
      simp only [Bool.and_eq_true, decide_eq_true_eq] at h
      obtain ⟨⟨⟨⟨⟨⟨h1, h2⟩, h3⟩, h4⟩, h5⟩, h6⟩, h7⟩ := h
      match es, h5 with
      | [e1], _ =>
        simp only [mtEs, Bool.and_eq_true] at h7
        have hb := (sndE gf e1 x hp h7.1.2).pe
        have ha := (sndE gf a x hp h6).pe
        have hs : starEach [b'] X.env = [(false, eval b' X.env)] := nsB_star h7.1.1
        refine Snd.of ?_ fun t => rfl
        cases t with
        | count =>
          subst h1
          exact snd_m1 F.slot_str_count F.type_str_count mt_count1 ha hb hs (bsB_base h3) h4
        | join =>
          subst h1
          exact snd_m1 F.slot_str_join F.type_str_join (mt_join1 x.eK.symm) ha hb hs (bsB_base h3) h4
        | split =>
          subst h1
          exact snd_m1 F.slot_str_split F.type_str_split mt_split1 ha hb hs (bsB_base h3) h4
        | partition =>
          subst h1
          exact snd_m1 F.slot_str_partition F.type_str_partition mt_part1 ha hb hs (bsB_base h3) h4
        | _ => exact absurd h1.symm h2
    · cases h
  | .bits a, e', X, m, W, io, p, x, hp, h => by
    simp only [mtE] at h
    split at h
    · simp only [Bool.and_eq_true, decide_eq_true_eq] at h
      obtain ⟨⟨⟨h1, h2⟩, h3⟩, h4⟩ := h
      subst h1
      exact Snd.of (snd_bits (sndE gf a x hp h4).pe (bsB_base h2) h3) fun t => rfl
    · cases h
  | .sst b a, e', X, m, W, io, p, x, hp, h => by
    simp only [mtE] at h
    split at h
    · simp only [Bool.and_eq_true, decide_eq_true_eq] at h
      obtain ⟨⟨⟨⟨⟨h1, h2⟩, h3⟩, h4⟩, h5⟩, h6⟩ := h
      exact Snd.of (snd_sst h1 h2 x.eK.symm x.calm (x.glob h3) (x.bn gf (by rw [h1]; cases b <;> decide)) (x.glob h4) (x.bn gf (by rw [h2]; decide)) (sndE gf a x hp h6).pe (nsB_star h5)) fun t => rfl
    · cases h
  | .prp f a, e', X, m, W, io, p, x, hp, h => by
    simp only [mtE] at h
    split at h
    · simp only [Bool.and_eq_true, decide_eq_true_eq] at h
      obtain ⟨⟨⟨⟨⟨h1, h2⟩, h3⟩, h4⟩, h5⟩, h6⟩ := h
      exact Snd.of (kn_prp gf x h1 h2 h3 h4 h5 (sndE gf a x hp h6).pe) fun t => t
    · cases h
  | .umt f a es, e', X, m, W, io, p, x, hp, h => by
    simp only [mtE] at h
    split at h
    · simp only [Bool.and_eq_true, decide_eq_true_eq] at h
      obtain ⟨⟨⟨⟨⟨⟨⟨⟨h1, h2⟩, h3⟩, h4⟩, h5⟩, h6⟩, h7⟩, h8⟩, h9⟩ := h
      exact Snd.of (kn_umt gf x h1 h2 h3 h4 h5 h6 h7 h9 (sndE gf a x hp h8).pe (sndEs gf es x hp h9)) fun t => rfl
    · cases h
  | .new c es, e', X, m, W, io, p, x, hp, h => by
    simp only [mtE] at h
    split at h
    · simp only [Bool.and_eq_true, decide_eq_true_eq] at h
      obtain ⟨⟨⟨⟨⟨⟨h1, h2⟩, h3⟩, h4⟩, h5⟩, h6⟩, h7⟩ := h
      exact Snd.of (kn_new x h1 h2 h3 h4 h5 h6 h7 (sndEs gf es x hp h7)) fun t => rfl
    · cases h
  | .isi a t, e', X, m, W, io, p, x, hp, h => by
    simp only [mtE] at h
    split at h
    · rename_i y q a' z q2 pos
      simp only [Bool.and_eq_true, decide_eq_true_eq] at h
      obtain ⟨⟨⟨⟨⟨⟨⟨h1, h2⟩, h3⟩, h4⟩, h5⟩, h6⟩, h7⟩, h8⟩ := h
      exact Snd.of (snd_isi h1 x.eK.symm (by rw [x.eK]; exact gf.isi t h4) (x.glob h2) (x.bn gf (by rw [h1]; decide)) (sndE gf a x hp h8).pe (tyW_name x gf h4 h5 h6 h7) (nsB_star h3) rfl rfl) fun t => rfl
    · cases h
  | .lc elt t k its c own, e', X, m, W, io, p, x, hp, h => by
    simp only [mtE] at h
    split at h
    · rename_i elt' tg iter ifs scope pos
      simp only [Bool.and_eq_true, List.all_eq_true] at h
      obtain ⟨⟨⟨⟨⟨⟨⟨h1, h2⟩, h3⟩, h4⟩, h5⟩, h6⟩, h7⟩, h8⟩ := h
      have eown : (ownN m own).map (·.2) = own := by
        unfold ownN
        rw [List.map_map]
        exact (List.map_congr_left fun a _ => rfl).trans (List.map_id own)
      have ok : BlkOk X.N X.env.scope scope (ownN m own) := by
        rw [x.N, x.sc]
        exact blkOk_by h1
      have hi := snd_iter x gf h4 h5 (sndEs gf its x hp h5) fun e e1 he he1 => by
        rw [he1, he] at h5
        simp only [mtEs, Bool.and_eq_true] at h5
        have hme : e ∈ its := by rw [he]; exact List.mem_cons_self
        match its, he with
        | [e], rfl => exact (sndE gf e x hp h5.1.2).pe
      have ht : ∀ i ∈ tvs t, i ∈ (ownN m own).map (·.2) := fun i hi => by
        rw [eown]
        have := h2 i hi
        simpa using this
      have := snd_lc (T := g.T) (elt' := elt') (tg := tg) (iter' := iter) (ifs := ifs) (pos := pos) (own := ownN m own) (elt := elt) (c := c) (W := W) hp x.calm (by rw [x.N]; exact x.nd) hi ok (fun s H C cl fp => sndT_ x.blk hp t h6)
        (fun s H C cl fp => by
          split at h7
          · cases c <;> first | (cases h7; done) | exact snd_no_if
          · rename_i c'
            simp only [Bool.and_eq_true, Bool.not_eq_true'] at h7
            exact snd_one_if (isNop_ne h7.1.1) ((sndE gf c x.blk hp h7.2).pt h7.1.2)
          · cases h7)
        (fun s H C cl fp => (sndE gf elt x.blk hp h8).pe) (noSet_folded h3) ht
      rw [eown] at this
      exact Snd.of this fun t => rfl
    · cases h
  | .dct t es, e', X, m, W, io, p, x, hp, h => by
    simp only [mtE] at h
    split at h
    · rename_i keys values pos
      simp only [Bool.or_eq_true, Bool.and_eq_true, decide_eq_true_eq, Bool.not_eq_true', List.isEmpty_iff] at h
      rcases h with ⟨⟨h1, h2⟩, h3⟩ | ⟨⟨h1, h2⟩, h3⟩
      · subst h1 h2 h3
        exact Snd.of snd_dct0 fun t => t
      · obtain ⟨q1, q2, q3⟩ := mtKv_len h3
        exact Snd.of (snd_dct (x.kx gf) x.hu (sndKv gf es x hp h3) q1 q2 (by intro z; rw [z] at h1; cases h1) h2) fun t => t
    · cases h
  | .get2 a k y, e', X, m, W, io, p, x, hp, h => by
    simp only [mtE] at h
    split at h
    · simp only [Bool.and_eq_true, decide_eq_true_eq] at h
      obtain ⟨⟨⟨⟨⟨⟨⟨h1, h2⟩, h3⟩, h4⟩, h5⟩, h6⟩, h7⟩, h8⟩ := h
      subst h1
      exact Snd.of (snd_get2 (x.kx gf) x.hu (sndE gf a x hp h6).pe (sndE gf k x hp h7).pe (sndE gf y x hp h8).pe ⟨bsB_base h2, by rw [nsB_star h4, nsB_star h5]; rfl, h3, by rw [nsB_star h4, nsB_star h5]; rfl⟩) fun t => rfl
    · cases h
  | .get1 a k, e', X, m, W, io, p, x, hp, h => by
    simp only [mtE] at h
    split at h
    · simp only [Bool.and_eq_true, decide_eq_true_eq] at h
      obtain ⟨⟨⟨⟨⟨h1, h2⟩, h3⟩, h4⟩, h5⟩, h6⟩ := h
      subst h1
      exact Snd.of (snd_get1 (x.kx gf) x.hu (sndE gf a x hp h5).pe (sndE gf k x hp h6).pe ⟨bsB_base h2, by rw [nsB_star h4]; rfl, h3, by rw [nsB_star h4]; rfl⟩) fun t => rfl
    · cases h
  | .emq _, _, _, _, _, _, _, _, _, h => by simp [mtE] at h
  | .rpr a, e', X, m, W, io, p, x, hp, h => by
    simp only [mtE] at h
    split at h
    · simp only [Bool.and_eq_true, decide_eq_true_eq] at h
      obtain ⟨⟨⟨h1, h2⟩, h3⟩, h4⟩ := h
      exact Snd.of (snd_rpr h1 x.eK.symm x.gd x.hu (x.glob h2) (x.bn gf (by rw [h1]; decide)) (sndE gf a x hp h4).pe (nsB_star h3)) fun t => rfl
    · cases h
  | .lrg a, e', X, m, W, io, p, x, hp, h => by
    simp only [mtE] at h
    split at h
    · simp only [Bool.and_eq_true, decide_eq_true_eq] at h
      obtain ⟨⟨⟨⟨⟨h1, h2⟩, h3⟩, h4⟩, h5⟩, h6⟩ := h
      exact Snd.of (snd_lrg h1 h2 x.eK.symm x.calm (x.glob h3) (x.bn gf (by rw [h1]; decide)) (x.glob h4) (x.bn gf (by rw [h2]; decide)) (sndE gf a x hp h6).pe (nsB_star h5)) fun t => rfl
    · cases h
  | .srt b a, e', X, m, W, io, p, x, hp, h => by
    simp only [mtE] at h
    split at h
    · simp only [Bool.and_eq_true, decide_eq_true_eq] at h
      obtain ⟨⟨⟨⟨⟨⟨h1, h2⟩, h3⟩, h4⟩, h5⟩, h6⟩, h7⟩ := h
      split at h7
      · obtain rfl : b = false := by simpa using h7
        subst h2
        exact Snd.of (snd_srt (x.kx gf) h1 x.calm (x.glob h3) (x.bn gf (by rw [h1]; decide)) (sndE gf a x hp h6).pe (bsB_base h4) h5) fun t => rfl
      · simp only [Bool.and_eq_true, decide_eq_true_eq] at h7
        obtain ⟨rfl, h8⟩ := h7
        subst h2
        exact Snd.of (snd_srtR (x.kx gf) h1 h8 x.calm (x.glob h3) (x.bn gf (by rw [h1]; decide)) (sndE gf a x hp h6).pe (bsB_base h4) h5) fun t => rfl
      · cases h7
    · cases h
  | .dc t ke ve tg k its c own, e', X, m, W, io, p, x, hp, h => by
    simp only [mtE] at h
    split at h
    · rename_i kx vx tg' iter ifs scope pos
      simp only [Bool.and_eq_true, List.all_eq_true] at h
      obtain ⟨⟨⟨⟨⟨⟨⟨⟨h1, h2⟩, h3⟩, h4⟩, h5⟩, h6⟩, h7⟩, h8⟩, h9⟩ := h
      have eown : (ownN m own).map (·.2) = own := by
        unfold ownN
        rw [List.map_map]
        exact (List.map_congr_left fun a _ => rfl).trans (List.map_id own)
      have ok : BlkOk X.N X.env.scope scope (ownN m own) := by
        rw [x.N, x.sc]
        exact blkOk_by h1
      have hi := snd_iter x gf h4 h5 (sndEs gf its x hp h5) fun e e1 he he1 => by
        rw [he1, he] at h5
        simp only [mtEs, Bool.and_eq_true] at h5
        match its, he with
        | [e], rfl => exact (sndE gf e x hp h5.1.2).pe
      have ht : ∀ i ∈ tvs tg, i ∈ (ownN m own).map (·.2) := fun i hi => by
        rw [eown]
        have := h2 i hi
        simpa using this
      have := snd_dc (T := g.T) (kx := kx) (vx := vx) (t := t) (tg := tg') (iter' := iter) (ifs := ifs) (pos := pos) (own := ownN m own) (ke := ke) (ve := ve) (c := c) (W := W) (x.kx gf) x.hu hp x.calm (by rw [x.N]; exact x.nd) hi ok (fun s H C cl fp => sndT_ x.blk hp tg h6)
        (fun s H C cl fp => by
          split at h7
          · cases c <;> first | (cases h7; done) | exact snd_no_if
          · rename_i c'
            simp only [Bool.and_eq_true, Bool.not_eq_true'] at h7
            exact snd_one_if (isNop_ne h7.1.1) ((sndE gf c x.blk hp h7.2).pt h7.1.2)
          · cases h7)
        (fun s H C cl fp => (sndE gf ke x.blk hp h8).pe) (fun s H C cl fp => (sndE gf ve x.blk hp h9).pe) (noSet_folded h3) ht
      rw [eown] at this
      exact Snd.of this fun t => rfl
    · cases h
theorem sndKv (gf : Gf g) : ∀ (es : List E) {ks : List (Option Expr)} {vs : List Expr} {X : Cx} {m : Mc} {W : WX} {io : Nat → V → Prop} {p : Option Nat} {pos : Pos}, XOk g X m W → IoP io p → mtKv g.nm m es ks vs = true → PPz X pos ks vs (tDA g.κ io W (evEs g.T p es))
  | [], ks, vs, X, m, W, io, p, pos, x, hp, h => by
    simp only [mtKv, Bool.and_eq_true, List.isEmpty_iff] at h
    obtain ⟨rfl, rfl⟩ := h
    exact ppz_none
  | [e], ks, vs, X, m, W, io, p, pos, x, hp, h => by simp [mtKv] at h
  | e :: f :: es, ks, vs, X, m, W, io, p, pos, x, hp, h => by
    simp only [mtKv] at h
    split at h
    · simp only [Bool.and_eq_true] at h
      exact ppz_two (sndE gf e x hp h.1.1).pe (sndE gf f x hp h.1.2).pe (sndKv gf es x hp h.2)
    · cases h
theorem sndEs (gf : Gf g) : ∀ (es : List E) {es' : List Expr} {X : Cx} {m : Mc} {W : WX} {io : Nat → V → Prop} {p : Option Nat}, XOk g X m W → IoP io p → mtEs g.nm m es es' = true → PA X es' (tDA g.κ io W (evEs g.T p es))
  | [], es', X, m, W, io, p, x, hp, h => by
    simp only [mtEs] at h
    split at h
    · exact snd_nil
    · cases h
  | e :: es, es', X, m, W, io, p, x, hp, h => by
    simp only [mtEs] at h
    split at h
    · simp only [Bool.and_eq_true] at h
      exact snd_cons (sndE gf e x hp h.1.2).pe (sndEs gf es x hp h.2) (nsB_star h.1.1)
    · cases h
theorem sndXs (gf : Gf g) : ∀ (k : Nat) (es : List E) {es' : List Expr} {X : Cx} {m : Mc} {W : WX} {io : Nat → V → Prop} {p : Option Nat}, XOk g X m W → IoP io p → mtXs g.nm m k es es' = true → PA X es' (tDA g.κ io W (evXs g.T p k es))
  | k, [], es', X, m, W, io, p, x, hp, h => by
    simp only [mtXs] at h
    split at h
    · exact PA.imp (snd_nil (T := g.T) (p := p)) fun σ H Q q => by simpa only [evXs, evEs] using q
    · cases h
  | 0, e :: es, es', X, m, W, io, p, x, hp, h => by
    simp only [mtXs] at h
    split at h
    · simp only [Bool.and_eq_true] at h
      exact snd_consX (sndE gf e x hp h.1.2).pe (sndXs gf 0 es x hp h.2) (nsB_star h.1.1)
    · cases h
  | k + 1, e :: es, es', X, m, W, io, p, x, hp, h => by
    simp only [mtXs] at h
    split at h
    · simp only [Bool.and_eq_true] at h
      exact snd_star x.eK.symm (sndE gf e x hp h.1).pe (sndXs gf k es x hp h.2)
    · cases h
end
end
end PyV
set_option Elab.async false
set_option linter.all false
set_option maxRecDepth 100000
set_option maxHeartbeats 8000000
namespace PyV
open PySem PySem.Spec PyProof.Rows L2

def kindFn (sc : Scope) : Bool := match sc.kind with
  | .function => true
  | _ => false
def stn (sc : Scope) (line : Nat) : Expr → Option Str := fun
  | .Name id pos => if sc.names.lookup id == some .local && pos.line == line then some id else none
  | _ => none
def swS (sc : Scope) (ts vs : List Expr) : Option (Option (List Str)) :=
  if (!(ts.length == 2 || ts.length == 3) || vs.length != ts.length) = true then some none
  else if (vs.any fun | .Starred .. => true | _ => false) = true then some none
  else if ((ts.filterMap (stn sc ((ts.head?.map (·.pos.line)).getD 0))).length != ts.length || (ts.filterMap (stn sc ((ts.head?.map (·.pos.line)).getD 0))).eraseDups.length != (ts.filterMap (stn sc ((ts.head?.map (·.pos.line)).getD 0))).length) = true then some none
  else if vs.all (foldedForSure 8) = true then some none
  else if vs.all (constantsAlone 8) = true then none
  else some (some (ts.filterMap (stn sc ((ts.head?.map (·.pos.line)).getD 0))))
theorem swS_eq {env : Env} {sc : Scope} {ts vs : List Expr} {k k2 : Nat} {p p2 : Pos} {r : Option (List Str)} (hs : env.scope = sc) (hk : kindFn sc = true) (h : swS sc ts vs = some r) : swappedStores [.Tuple ts k p] (.Tuple vs k2 p2) env = pure r := by
  have bk : env.blockKind = .function := by
    unfold Env.blockKind
    rw [hs]
    unfold kindFn at hk
    cases e : sc.kind <;> rw [e] at hk <;> first | (cases hk; done) | rfl
  have e1 : (fun x : Expr => match x with
      | .Name id pos => if env.kindOf id == some .local && pos.line == ((ts.head?.map (·.pos.line)).getD 0) then some id else none
      | _ => none) = stn sc ((ts.head?.map (·.pos.line)).getD 0) := by
    subst hs
    funext x
    cases x <;> rfl
  unfold swS at h
  unfold swappedStores
  simp only [bk]
  rw [show (ScopeKind.function != ScopeKind.function) = false from rfl, Bool.or_false]
  suffices key : ∀ names : List Str, names = ts.filterMap (stn sc ((ts.head?.map (·.pos.line)).getD 0)) →
      (if (!(ts.length == 2 || ts.length == 3) || vs.length != ts.length) = true then pure none
       else if (vs.any fun | .Starred .. => true | _ => false) = true then pure none
       else if (names.length != ts.length || names.eraseDups.length != names.length) = true then pure none
       else if vs.all (foldedForSure 8) = true then pure none
       else if vs.all (constantsAlone 8) = true then (do
         unsupported "assign.tuple-of-constant-expressions:order-of-the-stores"
         pure (some names))
       else pure (some names) : Sem (Option (List Str))) = pure r from by
    refine key _ ?_
    exact congrArg (fun f => ts.filterMap f) e1
  intro names hn
  rw [← hn] at h
  by_cases h1 : (!(ts.length == 2 || ts.length == 3) || vs.length != ts.length) = true
  · rw [if_pos h1] at h ⊢
    cases h
    rfl
  rw [if_neg h1] at h ⊢
  by_cases h2 : (vs.any fun | .Starred .. => true | _ => false) = true
  · rw [if_pos h2] at h ⊢
    cases h
    rfl
  rw [if_neg h2] at h ⊢
  split at h
  · rename_i h3
    rw [if_pos h3]
    cases h
    rfl
  rename_i h3
  rw [if_neg h3]
  by_cases h4 : vs.all (foldedForSure 8) = true
  · rw [if_pos h4] at h ⊢
    cases h
    rfl
  rw [if_neg h4] at h ⊢
  by_cases h5 : vs.all (constantsAlone 8) = true
  · rw [if_pos h5] at h
    cases h
  rw [if_neg h5] at h ⊢
  cases h
  rfl
def ntB : Expr → Bool
  | .Tuple _ _ _ => false
  | _ => true
theorem ntB_sw {a tg : Expr} {env : Env} (h : ntB a = true) : swappedStores [tg] a env = pure none := by
  cases a <;> first | (cases h; done) | (cases tg <;> rfl)
end PyV
set_option Elab.async false
set_option linter.all false
set_option maxRecDepth 100000
set_option maxHeartbeats 8000000
namespace PyV
open PySem PySem.Spec PyProof.Rows L2

def swB (sc : Scope) (y : Str) (py lpos : Pos) (scope : Scope) : Bool :=
  sc.names.lookup y == some .local && py.line == lpos.line && !(scope.names.any fun (n, k) => n == y && (k == .local || k == .cell))
theorem swB_eq {env : Env} {sc : Scope} {y : Str} {py lpos : Pos} {scope : Scope} {elt : Expr} {gs : List Comprehension} {l : Nat} (hs : env.scope = sc) (hk : kindFn sc = true) :
    swapsWith (.ListComp elt gs scope lpos) (some (.Name y py)) l env = pure (swB sc y py lpos scope) := by
  have bk : (env.blockKind == .function) = true := by
    unfold Env.blockKind
    rw [hs]
    unfold kindFn at hk
    cases e : sc.kind <;> rw [e] at hk <;> first | (cases hk; done) | rfl
  subst hs
  show (pure (env.blockKind == .function && env.kindOf y == some .local && py.line == lpos.line && !(scope.names.any fun (n, k) => n == y && (k == .local || k == .cell))) : Sem Bool) = _
  rw [bk, Bool.true_and]
  rfl
theorem swB_eqD {env : Env} {sc : Scope} {y : Str} {py lpos : Pos} {scope : Scope} {kx vx : Expr} {gs : List Comprehension} {l : Nat} (hs : env.scope = sc) (hk : kindFn sc = true) :
    swapsWith (.DictComp kx vx gs scope lpos) (some (.Name y py)) l env = pure (swB sc y py lpos scope) := swB_eq (elt := kx) (gs := gs) (l := l) hs hk
theorem sw_tup {a : Expr} {es : List Expr} {k l : Nat} {p : Pos} {env : Env} : swapsWithSole [.Tuple es k p] a l env = pure false := by
  show swapsWith a (some (.Tuple es k p)) l env = pure false
  cases a <;> rfl
theorem sw_sub {a o i : Expr} {l : Nat} {p : Pos} {env : Env} : swapsWithSole [.Subscript o i p] a l env = pure false := by
  show swapsWith a (some (.Subscript o i p)) l env = pure false
  cases a <;> rfl
theorem sw_att {a o : Expr} {f : Str} {l : Nat} {p : Pos} {env : Env} : swapsWith a (some (.Attribute o f p)) l env = pure false := by
  cases a <;> rfl
theorem swS_sub {a o i : Expr} {p : Pos} {env : Env} : swappedStores [.Subscript o i p] a env = pure none := by
  cases a <;> rfl
mutual
def mtS (nm : Nm) (m : Mc) : S → Stmt → Bool
  | .asg (.v i) e, st => match st with
    | .Assign [.Name y py] e1 _ => decide (m.N[i]? = some y) && locB m.lsc y && mtE nm m e e1 && (match e1 with
        | .ListComp _ _ scope lpos => !swB m.sc y py lpos scope || loc1B m.sc y
        | .DictComp _ _ _ scope lpos => !swB m.sc y py lpos scope || loc1B m.sc y
        | e1 => ncB e1)
    | _ => false
  | .asg (.tup ts) e, st => match st with
    | .Assign [.Tuple es k tp] e1 _ => mtT m (.tup ts) (.Tuple es k tp) && mtE nm m e e1 && (match e1 with
        | .Tuple vs _ _ => decide (swS m.sc es vs = some none)
        | _ => true)
    | _ => false
  | .par is es, st => match st with
    | .Assign [.Tuple [.Name x px, .Name y py] _ _] (.Tuple [a', b'] _ _) _ => (match is with
      | [i, j] => decide (m.N[i]? = some x) && decide (m.N[j]? = some y) && decide (i ≠ j) && loc1B m.sc x && loc1B m.sc y && decide (swS m.sc [.Name x px, .Name y py] [a', b'] = some (some [x, y])) && (es.length == 2) && mtEs nm m es [a', b']
      | _ => false)
    | .Assign [.Tuple [.Name x px, .Name y py, .Name z pz] _ _] (.Tuple [a', b', c'] _ _) _ => (match is with
      | [i, j, l] => decide (m.N[i]? = some x) && decide (m.N[j]? = some y) && decide (m.N[l]? = some z) && decide (i ≠ j) && decide (i ≠ l) && decide (j ≠ l) && loc1B m.sc x && loc1B m.sc y && loc1B m.sc z &&
          decide (swS m.sc [.Name x px, .Name y py, .Name z pz] [a', b', c'] = some (some [x, y, z])) && (es.length == 3) && mtEs nm m es [a', b', c']
      | _ => false)
    | _ => false
  | .parT is es, st => match st with
    | .Assign [.Tuple es1 _ _] (.Tuple vs _ _) _ => mtTs m (is.map T.v) es1 && decide (swS m.sc es1 vs = some none) && mtEs nm m es vs
    | _ => false
  | .parU t is es, st => match st with
    | .Assign [.Tuple (tg :: es1) _ _] (.Tuple vs _ _) _ => mtTs m (t :: is.map T.v) (tg :: es1) && decide (swS m.sc (tg :: es1) vs = some none) && mtEs nm m es vs
    | _ => false
  | .aug i o e, st => match st with
    | .AugAssign (.Name y _) q e1 _ => decide (m.N[i]? = some y) && locB m.lsc y && opB o q && mtE nm m e e1
    | _ => false
  | .app i e, st => match st with
    | .Expr (.Call (.Attribute (.Name y _) f apos) [e1] [] cpos) _ => decide (f = "append") && decide (m.N[i]? = some y) && visB m.sc y && nmB y && (apos.endLine == cpos.line) && nsB e1 && mtE nm m e e1
    | _ => false
  | .ext i e, st => match st with
    | .Expr (.Call (.Attribute (.Name y _) f apos) [e1] [] cpos) _ => decide (f = "extend") && decide (m.N[i]? = some y) && visB m.sc y && nmB y && (apos.endLine == cpos.line) && nsB e1 && mtE nm m e e1
    | _ => false
  | .set i k e, st => match st with
    | .Assign [.Subscript (.Name y _) k1 _] e1 _ => decide (m.N[i]? = some y) && visB m.sc y && nmB y && ixB k1 && mtE nm m k k1 && mtE nm m e e1
    | _ => false
  | .fld i f e, st => match st with
    | .Assign [.Attribute (.Name y _) h _] e1 _ => decide (f = h) && nm.fld f && decide (m.N[i]? = some y) && visB m.sc y && nmB y && mtE nm m e e1
    | _ => false
  | .exp e, st => match st with
    | .Expr e1 _ => ncB e1 && mtE nm m e e1
    | _ => false
  | .ife c a b, st => match st with
    | .If c1 as bs _ => mtE nm m c c1 && tstB c c1 && mtB nm m a as && mtB nm m b bs
    | _ => false
  | .for_ t k its b, st => match st with
    | .For tg iter bs [] _ => noSet iter && itB m.sc k iter tg && mtEs nm m its (itEs k iter) && mtT m t tg && mtB nm m b bs
    | _ => false
  | .whl c b, st => match st with
    | .While c1 bs [] _ => mtE nm m c c1 && tstB c c1 && mtB nm m b bs
    | _ => false
  | .ret e, st => match st with
    | .Return (some e1) _ => mtE nm m e e1
    | _ => false
  | .rtn, st => match st with
    | .Return none _ => true
    | _ => false
  | .brk, st => match st with
    | .Break _ => true
    | _ => false
  | .cnt, st => match st with
    | .Continue _ => true
    | _ => false
  | .pas, st => match st with
    | .Pass _ => true
    | .Expr (.Constant (.str _) _ _) _ => true
    | _ => false
  | .rse c, st => match st with
    | .Raise (some (.Call (.Name x _) [.Constant (.str _) _ _] [] _)) none _ => nm.xc c && decide (nm.cl c = x) && glB m.sc x && nmB x
    | _ => false
  | .tya i j b, st => match st with
    | .Try body [.ExceptHandler (some (.Name x _)) (some y) [.Assign [.Name z _] (.Name y2 _) _] _] [] [] _ => decide (m.N[i]? = some y) && decide (m.N[j]? = some z) && decide (y2 = y) && decide (i ≠ j) && nm.ty (.cls 4) && decide (nm.cl 4 = x) && glB m.sc x && nmB x && loc1B m.sc y && nmB y && locB m.lsc z && mtB nm m b body
    | _ => false
  | .nev, _ => true
def mtB (nm : Nm) (m : Mc) : List S → List Stmt → Bool
  | [], sts => match sts with
    | [] => true
    | _ => false
  | s :: r, sts => match sts with
    | st :: sts => mtS nm m s st && mtB nm m r sts
    | [] => false
end
section
variable {g : Gc} {X : Cx} {m : Mc} {W : WX} {io : Nat → V → Prop} {p : Option Nat} {n : Nat}
def gNm (is : List Nat) : TGs := fun vs σ H Q => vs.length = is.length ∧ Q (setAll σ is vs) H
theorem pgs_nm (x : XOk g X m W) : ∀ {is : List Nat} {es : List Expr}, mtTs m (is.map T.v) es = true → PGs X es (gNm is)
  | [], [], _ => PGs.imp pgs_nil fun vs σ H Q ⟨h1, h2⟩ => by
    have : vs = [] := List.eq_nil_of_length_eq_zero h1
    subst this
    exact ⟨rfl, h2⟩
  | [], _ :: _, h => by simp [mtTs] at h
  | _ :: _, [], h => by simp [mtTs] at h
  | i :: is, e' :: es, h => by
    simp only [List.map_cons, mtTs, Bool.and_eq_true] at h
    obtain ⟨h1, h2⟩ := h
    have hns := mtT_ns (r := es) (env := X.env) h1
    simp only [mtT] at h1
    split at h1
    · rename_i y py
      simp only [Bool.and_eq_true, decide_eq_true_eq] at h1
      obtain ⟨a1, a2⟩ := h1
      obtain ⟨q1, q2⟩ := x.fn _ a2
      refine PGs.imp (pgs_cons (pg_name (by rw [x.N]; exact x.nd) (x.at a1) q1 q2) (pgs_nm x h2) (by rw [hns]; rfl)) fun vs σ H Q ⟨e1, e2⟩ => ?_
      cases vs with
      | nil => simp at e1
      | cons v vs => exact ⟨v, vs, rfl, by simpa using e1, e2⟩
    · cases h1
theorem stSs_len {p : Option Nat} : ∀ {is : List Nat} {xs : List Sl} {δ δ' : Ss}, stSs p is xs δ = some δ' → is.length = xs.length
  | [], [], _, _, _ => rfl
  | [], _ :: _, _, _, h => by simp [stSs] at h
  | _ :: _, [], _, _, h => by simp [stSs] at h
  | i :: is, x :: xs, δ, δ', h => by
    simp only [stSs] at h
    split at h
    · cases h
    · exact congrArg (· + 1) (stSs_len h)
theorem snd_parT {n : Nat} {is : List Nat} {es : List E} {names es' : List Expr} {kt k2 : Nat} {pt pt2 pos : Pos} {io : Nat → V → Prop} {p : Option Nat} (hp : IoP io p) (hc : X.calm = true) (hn : PGs X names (gNm is)) (ha : PA X es' (tDA g.κ io W (evEs g.T p es)))
    (hlen : (assignEach names X.env).length = is.length) (hst : (assignEach names X.env).findIdx? (·.1) = none) (hs : swapsWithSole [.Tuple names kt pt] (.Tuple es' k2 pt2) pos.line X.env = pure false) (hw : swappedStores [.Tuple names kt pt] (.Tuple es' k2 pt2) X.env = pure none)
    (h1 : (assignEach [.Tuple names kt pt] X.env).map (·.2) = [assign (.Tuple names kt pt) X.env]) : PS X (.Assign [.Tuple names kt pt] (.Tuple es' k2 pt2) pos) (tDS g.κ io W (evS g.T p n (.parT is es))) :=
  PS.imp (ps_asg (pe_tup ha) (pg_tup hc hn hlen hst) hs hw h1) fun D σ H ⟨δ, τ, s, h⟩ => by
    simp only [evS] at h
    refine seqSA (ρ := []) h s fun rs δ1 vs H1 s1 a1 h1 => ?_
    split at h1
    · rename_i hl
      obtain ⟨δ', h2, h3⟩ := nxO_post h1
      obtain ⟨s2, ln⟩ := s1.puts hp a1 h2
      have sz : vs.length ≤ sizeLine := by rw [← ln]; exact hl
      refine ⟨sz, fun q hq => ⟨q, vs, rfl, .inl (.inl upd_same), ln.symm, ln.symm, h3 _ _ (s2.grow fun b o e => ?_)⟩⟩
      rw [upd_ne (ne_of_none e hq)]
      exact e
    · exact h1.elim
theorem snd_parU {n : Nat} {t : PyV.T} {is : List Nat} {es : List E} {tg : Expr} {names es' : List Expr} {kt k2 : Nat} {pt pt2 pos : Pos} {io : Nat → V → Prop} {p : Option Nat} (hp : IoP io p) (hc : X.calm = true) (hn : PGs X (tg :: names) (gCons (gD g.κ io p t) (gNm is))) (ha : PA X es' (tDA g.κ io W (evEs g.T p es)))
    (hlen : (assignEach (tg :: names) X.env).length = is.length + 1) (hst : (assignEach (tg :: names) X.env).findIdx? (·.1) = none) (hs : swapsWithSole [.Tuple (tg :: names) kt pt] (.Tuple es' k2 pt2) pos.line X.env = pure false) (hw : swappedStores [.Tuple (tg :: names) kt pt] (.Tuple es' k2 pt2) X.env = pure none)
    (h1 : (assignEach [.Tuple (tg :: names) kt pt] X.env).map (·.2) = [assign (.Tuple (tg :: names) kt pt) X.env]) : PS X (.Assign [.Tuple (tg :: names) kt pt] (.Tuple es' k2 pt2) pos) (tDS g.κ io W (evS g.T p n (.parU t is es))) :=
  PS.imp (ps_asg (pe_tup ha) (pg_tup hc hn hlen hst) hs hw h1) fun D σ H ⟨δ, τ, s, h⟩ => by
    simp only [evS] at h
    refine seqSA (ρ := []) h s fun rs δ1 vs H1 s1 a1 h1 => ?_
    cases a1 with
    | nil => exact h1.elim
    | @cons r v rs vs a1 a2 =>
      simp only at h1
      split at h1
      · rename_i d δ2 hd
        split at h1
        · rename_i xs δ3 hx
          split at h1
          · rename_i δ4 h4
            split at h1
            · rename_i hl
              obtain ⟨δ5, h5, h6⟩ := nxO_post h1
              have s2 : SR g.κ io σ H1 δ1 (ent r v :: (ents rs vs ++ τ)) := s1.perm (by
                show ((ents rs vs ++ [ent r v]) ++ ([] ++ τ)).Perm _
                simpa using List.perm_middle)
              have s3 : SR g.κ io σ H1 δ2 (ents rs vs ++ ((some v, .val d) :: τ)) := (s2.fz1 a1 hd).perm List.perm_middle.symm
              obtain ⟨s4, l⟩ := SR.sls s3 a2 hx
              have s5 : SR g.κ io σ H1 δ3 ((some v, .val d) :: (slE vs xs ++ τ)) := s4.perm List.perm_middle
              have li : is.length = xs.length := stSs_len h5
              have sz : (v :: vs).length ≤ sizeLine := by
                rw [List.length_cons, l, ← li, lineEq]
                exact hl
              refine ⟨sz, fun q hq => ⟨q, v :: vs, rfl, .inl (.inl upd_same), by rw [List.length_cons, l, ← li], v, vs, rfl, d, δ3, δ4, slE vs xs ++ τ, s5.grow (fun b o e => by rw [upd_ne (ne_of_none e hq)]; exact e), h4, fun σ' H' s6 _ => ?_⟩⟩
              obtain ⟨s7, l7⟩ := s6.stores hp l h5
              exact ⟨l7.symm, h6 _ _ s7⟩
            · exact h1.elim
          · exact h1.elim
        · exact h1.elim
      · exact h1.elim
mutual
theorem sndS (gf : Gf g) (hk : kindFn m.sc = true) (hp : IoP io p) : ∀ (s : S) {st : Stmt} {X : Cx} {W : WX} (x : XOk g X m W) (po : PassesOwn (model X.prog X.w) X.A X.env X.xe) (hst : X.stack = X.env :: X.outer ∧ X.env.frame = some X.env.locals), mtS g.nm m s st = true → PS X st (tDS g.κ io W (evS g.T p n s))
  | .asg (.v i) e, st, X, W, x, po, hst, h => by
    simp only [mtS] at h
    split at h
    · rename_i y py e1 pos
      simp only [Bool.and_eq_true, decide_eq_true_eq] at h
      obtain ⟨⟨⟨h1, h2⟩, h3⟩, h4⟩ := h
      obtain ⟨q1, q2⟩ := x.fn _ h2
      have he := (sndE gf e x hp h3).pe
      split at h4
      · rename_i elt' gs scope lpos
        by_cases hsw : swB m.sc y py lpos scope = true
        · rw [hsw] at h4
          have hl := x.loc1 (by simpa using h4)
          cases e with
          | lc elt t k its c own =>
            simp only [mtE] at h3
            split at h3
            · rename_i elt2 tg iter ifs scope2 pos2 hq
              cases hq
              simp only [Bool.and_eq_true, List.all_eq_true] at h3
              obtain ⟨⟨⟨⟨⟨⟨⟨k1, k2⟩, k3⟩, k4⟩, k5⟩, k6⟩, k7⟩, k8⟩ := h3
              have eown : (ownN m own).map (·.2) = own := by
                unfold ownN
                rw [List.map_map]
                exact (List.map_congr_left fun a _ => rfl).trans (List.map_id own)
              have ok : BlkOk X.N X.env.scope scope (ownN m own) := by
                rw [x.N, x.sc]
                exact blkOk_by k1
              have hi := snd_iter x gf k4 k5 (sndEs gf its x hp k5) fun e e1 he he1 => by
                rw [he1, he] at k5
                simp only [mtEs, Bool.and_eq_true] at k5
                exact (sndE gf e x hp k5.1.2).pe
              have ht : ∀ i ∈ tvs t, i ∈ (ownN m own).map (·.2) := fun i hi => by
                rw [eown]
                have := k2 i hi
                simpa using this
              have := snd_setLc (T := g.T) (n := n) (elt' := elt') (tg := tg) (iter' := iter) (ifs := ifs) (own := ownN m own) (elt := elt) (c := c) (W := W) (py := py) (pos := lpos) (spos := pos) hp x.calm (by rw [x.N]; exact x.nd) (x.at h1) hl
                (by rw [swB_eq x.sc hk, hsw]) hi ok (fun s H C cl fp => sndT_ x.blk hp t k6)
                (fun s H C cl fp => by
                  split at k7
                  · cases c <;> first | (cases k7; done) | exact snd_no_if
                  · rename_i c'
                    simp only [Bool.and_eq_true, Bool.not_eq_true'] at k7
                    exact snd_one_if (isNop_ne k7.1.1) ((sndE gf c x.blk hp k7.2).pt k7.1.2)
                  · cases k7)
                (fun s H C cl fp => (sndE gf elt x.blk hp k8).pe) (noSet_folded k3) ht
              rw [eown] at this
              exact this
            · cases h3
          | nop =>
            refine PS.imp ps_never fun D σ H ⟨δ, τ, s, h⟩ => ?_
            simp only [evS, evE] at h
            exact h
          | _ => simp [mtE] at h3
        · have e0 : swB m.sc y py lpos scope = false := by simpa using hsw
          exact snd_asgv hp (by rw [x.N]; exact x.nd) (x.at h1) q1 q2 he (by rw [swB_eq x.sc hk, e0])
      · rename_i kx' vx' gs scope lpos
        by_cases hsw : swB m.sc y py lpos scope = true
        · rw [hsw] at h4
          have hl := x.loc1 (by simpa using h4)
          cases e with
          | dc t ke ve tg k its c own =>
            simp only [mtE] at h3
            split at h3
            · rename_i kx2 vx2 tg' iter ifs scope2 pos2 hq
              cases hq
              simp only [Bool.and_eq_true, List.all_eq_true] at h3
              obtain ⟨⟨⟨⟨⟨⟨⟨⟨k1, k2⟩, k3⟩, k4⟩, k5⟩, k6⟩, k7⟩, k8⟩, k9⟩ := h3
              have eown : (ownN m own).map (·.2) = own := by
                unfold ownN
                rw [List.map_map]
                exact (List.map_congr_left fun a _ => rfl).trans (List.map_id own)
              have ok : BlkOk X.N X.env.scope scope (ownN m own) := by
                rw [x.N, x.sc]
                exact blkOk_by k1
              have hi := snd_iter x gf k4 k5 (sndEs gf its x hp k5) fun e e1 he he1 => by
                rw [he1, he] at k5
                simp only [mtEs, Bool.and_eq_true] at k5
                exact (sndE gf e x hp k5.1.2).pe
              have ht : ∀ i ∈ tvs tg, i ∈ (ownN m own).map (·.2) := fun i hi => by
                rw [eown]
                have := k2 i hi
                simpa using this
              have := snd_setDc (T := g.T) (n := n) (t := t) (kx := kx') (vx := vx') (tg := tg') (iter' := iter) (ifs := ifs) (own := ownN m own) (ke := ke) (ve := ve) (c := c) (W := W) (py := py) (pos := lpos) (spos := pos) (x.kx gf) x.hu hp x.calm (by rw [x.N]; exact x.nd) (x.at h1) hl
                (by rw [swB_eqD x.sc hk, hsw]) hi ok (fun s H C cl fp => sndT_ x.blk hp tg k6)
                (fun s H C cl fp => by
                  split at k7
                  · cases c <;> first | (cases k7; done) | exact snd_no_if
                  · rename_i c'
                    simp only [Bool.and_eq_true, Bool.not_eq_true'] at k7
                    exact snd_one_if (isNop_ne k7.1.1) ((sndE gf c x.blk hp k7.2).pt k7.1.2)
                  · cases k7)
                (fun s H C cl fp => (sndE gf ke x.blk hp k8).pe) (fun s H C cl fp => (sndE gf ve x.blk hp k9).pe) (noSet_folded k3) ht
              rw [eown] at this
              exact this
            · cases h3
          | nop =>
            refine PS.imp ps_never fun D σ H ⟨δ, τ, s, h⟩ => ?_
            simp only [evS, evE] at h
            exact h
          | _ => simp [mtE] at h3
        · have e0 : swB m.sc y py lpos scope = false := by simpa using hsw
          exact snd_asgv hp (by rw [x.N]; exact x.nd) (x.at h1) q1 q2 he (by rw [swB_eqD x.sc hk, e0])
      · exact snd_asgv hp (by rw [x.N]; exact x.nd) (x.at h1) q1 q2 he (ncB_swaps h4)
    · cases h
  | .asg (.tup ts) e, st, X, W, x, po, hst, h => by
    simp only [mtS] at h
    split at h
    · rename_i es k tp e1 pos
      simp only [Bool.and_eq_true] at h
      obtain ⟨⟨h1, h2⟩, h3⟩ := h
      refine snd_asgt (sndE gf e x hp h2).pe (sndT_ x hp _ h1) sw_tup ?_ (by rfl)
      split at h3
      · exact swS_eq x.sc hk (of_decide_eq_true h3)
      · rename_i hnt
        refine ntB_sw ?_
        cases e1 <;> first | rfl | exact absurd rfl (hnt _ _ _)
    · cases h
  | .par is es, st, X, W, x, po, hst, h => by
    simp only [mtS] at h
    split at h
    · split at h
      · simp only [Bool.and_eq_true, decide_eq_true_eq, beq_iff_eq] at h
        obtain ⟨⟨⟨⟨⟨⟨⟨h1, h2⟩, h3⟩, h4⟩, h5⟩, h6⟩, h7⟩, h8⟩ := h
        match es, h7 with
        | [a, b], _ => exact snd_par2 hp x.calm (by rw [x.N]; exact x.nd) (x.at h1) (x.at h2) h3 (x.loc1 h4) (x.loc1 h5) (sndEs gf _ x hp h8) (swS_eq x.sc hk h6) sw_tup
      · cases h
    · split at h
      · simp only [Bool.and_eq_true, decide_eq_true_eq, beq_iff_eq] at h
        obtain ⟨⟨⟨⟨⟨⟨⟨⟨⟨⟨⟨h1, h2⟩, h3⟩, h4⟩, h5⟩, h6⟩, h7⟩, h8⟩, h9⟩, h10⟩, h11⟩, h12⟩ := h
        match es, h11 with
        | [a, b, c], _ => exact snd_par3 hp x.calm (by rw [x.N]; exact x.nd) (x.at h1) (x.at h2) (x.at h3) h4 h5 h6 (x.loc1 h7) (x.loc1 h8) (x.loc1 h9) (sndEs gf _ x hp h12) (swS_eq x.sc hk h10) sw_tup
      · cases h
    · cases h
  | .parT is es, st, X, W, x, po, hst, h => by
    simp only [mtS] at h
    split at h
    · simp only [Bool.and_eq_true, decide_eq_true_eq] at h
      obtain ⟨⟨h1, h2⟩, h3⟩ := h
      have ln := mtTs_len (env := X.env) h1
      rw [List.length_map] at ln
      exact snd_parT hp x.calm (pgs_nm x h1) (sndEs gf _ x hp h3) ln.1 ln.2 sw_tup (swS_eq x.sc hk h2) (by rfl)
    · cases h
  | .parU t is es, st, X, W, x, po, hst, h => by
    simp only [mtS] at h
    split at h
    · simp only [Bool.and_eq_true, decide_eq_true_eq] at h
      obtain ⟨⟨h1, h2⟩, h3⟩ := h
      have ln := mtTs_len (env := X.env) h1
      rw [List.length_cons, List.length_map] at ln
      simp only [mtTs, Bool.and_eq_true] at h1
      exact snd_parU hp x.calm (pgs_cons (sndT_ x hp t h1.1) (pgs_nm x h1.2) (by rw [mtT_ns h1.1]; rfl)) (sndEs gf _ x hp h3) ln.1 ln.2 sw_tup (swS_eq x.sc hk h2) (by rfl)
    · cases h
  | .aug i o e, st, X, W, x, po, hst, h => by
    simp only [mtS] at h
    split at h
    · simp only [Bool.and_eq_true, decide_eq_true_eq] at h
      obtain ⟨⟨⟨h1, h2⟩, h3⟩, h4⟩ := h
      obtain ⟨q1, q2⟩ := x.fn _ h2
      cases opB_eq h3
      exact snd_aug hp (by rw [x.N]; exact x.nd) (x.at h1) q1 q2 (sndE gf e x hp h4).pe
    · cases h
  | .app i e, st, X, W, x, po, hst, h => by
    simp only [mtS] at h
    split at h
    · simp only [Bool.and_eq_true, decide_eq_true_eq] at h
      obtain ⟨⟨⟨⟨⟨⟨h1, h2⟩, h3⟩, h4⟩, h5⟩, h6⟩, h7⟩ := h
      exact snd_app h1 (x.at h2) (x.vis h3) (nmB_of h4).1 (nmB_of h4).2 (sndE gf e x hp h7).pe (nsB_star h6) rfl (by rw [nsB_star h6]; rfl) h5 rfl
    · cases h
  | .ext i e, st, X, W, x, po, hst, h => by
    simp only [mtS] at h
    split at h
    · simp only [Bool.and_eq_true, decide_eq_true_eq] at h
      obtain ⟨⟨⟨⟨⟨⟨h1, h2⟩, h3⟩, h4⟩, h5⟩, h6⟩, h7⟩ := h
      exact snd_ext h1 (x.at h2) (x.vis h3) (nmB_of h4).1 (nmB_of h4).2 (sndE gf e x hp h7).pe (nsB_star h6) rfl (by rw [nsB_star h6]; rfl) h5 rfl
    · cases h
  | .set i k e, st, X, W, x, po, hst, h => by
    simp only [mtS] at h
    split at h
    · simp only [Bool.and_eq_true, decide_eq_true_eq] at h
      obtain ⟨⟨⟨⟨⟨h1, h2⟩, h3⟩, h4⟩, h5⟩, h6⟩ := h
      refine snd_set (x.kx gf) x.hu (x.at h1) (x.vis h2) (nmB_of h3).1 (nmB_of h3).2 (sndE gf e x hp h6).pe (sndE gf k x hp h5).pe (fun v => ?_) sw_sub swS_sub rfl
      rename_i y py k1 sp e1 pos
      cases k1 <;> first | rfl | skip
      rename_i lo hi stp q
      cases stp
      · cases h4
      · rfl
    · cases h
  | .fld i f e, st, X, W, x, po, hst, h => by
    simp only [mtS] at h
    split at h
    · simp only [Bool.and_eq_true, decide_eq_true_eq] at h
      obtain ⟨⟨⟨⟨⟨h1, h2⟩, h3⟩, h4⟩, h5⟩, h6⟩ := h
      subst h1
      exact snd_fld (x.at h3) (x.vis h4) (nmB_of h5).1 (nmB_of h5).2 (by rw [x.eK]; exact gf.cls) (by rw [x.eK]; exact gf.fld _ h2) (sndE gf e x hp h6).pe sw_att
    · cases h
  | .exp e, st, X, W, x, po, hst, h => by
    simp only [mtS] at h
    split at h
    · simp only [Bool.and_eq_true] at h
      exact snd_exp (sndE gf e x hp h.2).pe (ncB_swaps h.1)
    · cases h
  | .ife c a b, st, X, W, x, po, hst, h => by
    simp only [mtS] at h
    split at h
    · simp only [Bool.and_eq_true] at h
      obtain ⟨⟨⟨h1, h2⟩, h3⟩, h4⟩ := h
      exact snd_ife ((sndE gf c x hp h1).pt h2) (sndB gf hk hp a x po hst h3) (sndB gf hk hp b x po hst h4)
    · cases h
  | .for_ t k its b, st, X, W, x, po, hst, h => by
    simp only [mtS] at h
    split at h
    · simp only [Bool.and_eq_true] at h
      obtain ⟨⟨⟨⟨h1, h2⟩, h3⟩, h4⟩, h5⟩ := h
      have hi := snd_iter x gf h2 h3 (sndEs gf its x hp h3) fun e e1 he he1 => by
        rw [he1, he] at h3
        simp only [mtEs, Bool.and_eq_true] at h3
        exact (sndE gf e x hp h3.1.2).pe
      exact snd_for po x.calm hi (sndT_ x hp t h4) (sndB gf hk hp b x po hst h5) (noSet_folded h1)
    · cases h
  | .whl c b, st, X, W, x, po, hst, h => by
    simp only [mtS] at h
    split at h
    · simp only [Bool.and_eq_true] at h
      obtain ⟨⟨h1, h2⟩, h3⟩ := h
      exact snd_whl po ((sndE gf c x hp h1).pt h2) (sndB gf hk hp b x po hst h3)
    · cases h
  | .ret e, st, X, W, x, po, hst, h => by
    simp only [mtS] at h
    split at h
    · exact snd_ret (sndE gf e x hp h).pe
    · cases h
  | .rtn, st, X, W, x, po, hst, h => by
    simp only [mtS] at h
    split at h
    · exact snd_rtn
    · cases h
  | .brk, st, X, W, x, po, hst, h => by
    simp only [mtS] at h
    split at h
    · exact snd_brk
    · cases h
  | .cnt, st, X, W, x, po, hst, h => by
    simp only [mtS] at h
    split at h
    · exact snd_cnt
    · cases h
  | .pas, st, X, W, x, po, hst, h => by
    simp only [mtS] at h
    split at h
    · exact snd_pas
    · exact snd_doc
    · cases h
  | .rse c, st, X, W, x, po, hst, h => by
    simp only [mtS] at h
    split at h
    · simp only [Bool.and_eq_true, decide_eq_true_eq] at h
      obtain ⟨⟨⟨h1, h2⟩, h3⟩, h4⟩ := h
      exact snd_rse x.calm x.tk (by rw [x.eK, x.eM, ← h2]; exact gf.rse c h1) (x.glob h3) (nmB_of h4).1
    · cases h
  | .tya i j b, st, X, W, x, po, hst, h => by
    simp only [mtS] at h
    split at h
    · simp only [Bool.and_eq_true, decide_eq_true_eq] at h
      obtain ⟨⟨⟨⟨⟨⟨⟨⟨⟨⟨⟨h1, h2⟩, h3⟩, h4⟩, h5⟩, h6⟩, h7⟩, h8⟩, h9⟩, h10⟩, h11⟩, h12⟩ := h
      subst h3
      obtain ⟨q1, q2⟩ := x.fn _ h11
      obtain ⟨n1, n2⟩ := nmB_of h10
      refine snd_tya (k := 4) hp hst.1 hst.2 (by rw [x.N]; exact x.nd) (x.at h1) (x.loc1 h9) ⟨x.glob h7, (nmB_of h8).1, .inl (by rw [x.eM, ← h6]; exact gf.cln 4 h5)⟩ h4 (by rw [x.eK]; exact gf.exm)
        (fun W' pn xe tk po' => sndB gf hk hp b (W := W') (X := X.tr pn xe) ⟨x.eP, x.eW, x.eK, x.eM, x.eB, x.N, x.sc, x.nd, x.calm, x.gd, x.room, tk, x.fn, x.known, x.ini, x.ek⟩ po' hst h12) fun a pn => ?_
      have hv : ∀ pos : Pos, PE (X.suite a pn) (.Name _ pos) (tVar i) := fun pos => pe_var (X := X.suite a pn) (x.at h1) (.inl (x.loc1 h9)) n1 n2
      refine PSs.imp (pss_cons (ps_set (X := X.suite a pn) (by show X.N.Nodup; rw [x.N]; exact x.nd) (x.at h2) q1 (hv _) (ncB_swaps rfl) q2) pss_nil) fun D σ H hq => ?_
      obtain ⟨v, e, k⟩ := hq
      exact ⟨v, e, k⟩
    · cases h
  | .nev, st, X, W, x, po, hst, h => snd_nevS
theorem sndB (gf : Gf g) (hk : kindFn m.sc = true) (hp : IoP io p) : ∀ (b : List S) {sts : List Stmt} {X : Cx} {W : WX} (x : XOk g X m W) (po : PassesOwn (model X.prog X.w) X.A X.env X.xe) (hst : X.stack = X.env :: X.outer ∧ X.env.frame = some X.env.locals), mtB g.nm m b sts = true → PSs X sts (tDS g.κ io W (evB g.T p n b))
  | [], sts, X, W, x, po, hst, h => by
    simp only [mtB] at h
    split at h
    · exact snd_bnil
    · cases h
  | s :: r, sts, X, W, x, po, hst, h => by
    simp only [mtB] at h
    split at h
    · rw [Bool.and_eq_true] at h
      exact snd_bcons (sndS gf hk hp s x po hst h.1) (sndB gf hk hp r x po hst h.2)
    · cases h
end
end
end PyV
set_option Elab.async false
set_option linter.all false
set_option maxRecDepth 100000
set_option maxHeartbeats 4000000
namespace PyV
open PySem PySem.Spec PyProof.Rows L2

def defB (T : Tab) (nm : Nm) (f k : Nat) (df : Df) (ok : List Nat) (N ps : List Str) (st : Stmt) : Bool :=
  C8.scC N ps (defScope st) && kindFn (defScope st) && (ps.length == df.np) && (N.length == df.ns) && (match T.io f with
    | some j => if j = 1000 then decide (1 < df.np) else decide (j < df.np)
    | none => true) && decide (nm.lv f = k + 1) && mtB nm ⟨N, defScope st, defScope st, k, ok, T.ini⟩ df.body (defBody st)
theorem fg_D {g : Gc} (gf : Gf g) {st : Stmt} {f k : Nat} {df : Df} {ok : List Nat} {N ps : List Str} {x qual : Str} {fa : Addr} {fd : FuncData} (F : L2.Fun g.κ.K x qual st fa fd)
    (hB : defB g.T g.nm f k df ok N ps st = true) (hG : ∀ ds, g.T.G f ds ≠ .bad → ∃ n, runD g.T (g.T.io f) n df ds = g.T.G f ds) (hok : ∀ f, ok.contains f = true → Known g f)
    (hek : ∀ c f, g.T.eqf c = some f → c < g.κ.n → g.nm.lv f ≤ k) : Fg g.P g.w g.κ.K g.mg g.base (g.nm.lv f) fa fd ps (spD g.κ g.T f) := by
  obtain ⟨oc, od, kV, doc, pm, an, cdv, ct, osl, rfl, lk, hcd⟩ := F.ex
  unfold defB at hB
  simp only [Bool.and_eq_true, beq_iff_eq, decide_eq_true_eq] at hB
  obtain ⟨⟨⟨⟨⟨⟨h1, h2⟩, h3⟩, h4⟩, h5⟩, h6⟩, h7⟩ := hB
  have S := C8.fnScope_by h1
  rw [h6]
  refine fn_D lk hcd S h3 h4 (fun j hj => ?_) hG fun A outer s H E io n room gd hio => ?_
  · rcases hj with ⟨hj, h2⟩ | ⟨hj, h2⟩
    · rw [hj] at h5
      simp only [if_neg h2] at h5
      exact of_decide_eq_true h5
    · rw [hj] at h5
      simp only [if_true] at h5
      have := of_decide_eq_true h5
      omega
  · have hp : IoP io (g.T.io f) := hio
    refine sndB (m := ⟨N, defScope st, defScope st, k, ok, g.T.ini⟩) gf h2 hp df.body ⟨rfl, rfl, rfl, rfl, rfl, rfl, rfl, S.nd, rfl, gd, room, takes_of rfl rfl rfl rfl, fun y hy => ⟨?_, .inl rfl⟩, hok, rfl, hek⟩ (passes_of rfl) ⟨rfl, rfl⟩ h7
    have hy : locB (defScope st) y = true := hy
    unfold locB at hy
    show L2.Loc (defScope st) y
    split at hy
    · exact .inl (by assumption)
    · exact .inr (by assumption)
    · cases hy
theorem known_def {g : Gc} {f : Nat} {x : Str} {fa : Addr} {fd : FuncData} {ps : List Str} (F : Fg g.P g.w g.κ.K g.mg g.base (g.nm.lv f) fa fd ps (spD g.κ g.T f)) (b : Binds g.κ.K fd ps []) (hm : g.mg x = some (.ref fa)) (kp : PySem.W.keepIn g.κ.K (.ref fa) = true)
    (hx : g.nm.fn f = x) (hk : g.nm.kd f = 0) : Known g f :=
  ⟨fa, fd, ps, F, b, fun _ => ⟨by rw [hx]; exact hm, kp⟩, (fun z => by rw [hk] at z; cases z), (fun z => by rw [hk] at z; cases z), (fun z => by rw [hk] at z; cases z)⟩
def noEq (g : Gc) : Gc := { g with T := { g.T with eqf := fun _ => none } }
theorem Gf.noEq {g : Gc} (gf : Gf (noEq g)) (eq : ∀ c f, g.T.eqf c = some f → c < g.κ.n → EqKnown g f c) : Gf g := ⟨gf.bn, gf.cls, gf.fld, gf.gl, gf.isi, gf.cln, eq, gf.w, gf.rse, gf.exm⟩

theorem top_call {P : Program} {w : World} {κ : Kx} {mg mb : Str → Option Value} {k : Nat} {fa a : Addr} {fd : FuncData} {x : Str} {T : Tab} {f : Nat} {s₁ : Shared} {vs : List Value} {ns : List Int}
    (KX : κ.K.In s₁.heap) (hns : s₁.heap.Ns mainGlobals mg) (hb : s₁.heap.Ns builtinsNs mb) (hbb : ∀ x : Str, x ≠ "__name__" → mb x = bootBuiltins x) (hlim : s₁.heap.NoLimit) (hg : s₁.gens = #[])
    (ha : s₁.heap.get? a = some { cls := .type "list", data := .seq vs.toArray }) (hi : IntsAre vs ns) (hl : ns.length ≤ sizeLine) (hr : Room k callerA)
    (F : ∀ base : Heap, κ.K.In base → base.Ns mainGlobals mg → Fg P w κ.K mg base k fa fd [x] (spD κ T f)) (hbind : ∀ (s : Shared) (u : Value), BindsTo s fd ⟨[u], []⟩ [(x, u)])
    (hio : T.io f = none) (law : T.G f [.lst (ns.map .int)] = .ok (.bl true) false none) :
    codeAny (model P w) callerA (.call (.ref fa) ⟨[.ref a], []⟩) (fun r s' => r = .ok (.ret (.bool true)) ∧ OldK s₁.heap s'.heap ∧ s'.os = s₁.os ∧ AllBare s'.gens) s₁ := by
  have rv := vals_ints hi
  have lenV := hi.length
  have main : ∀ H : Hp, Only H → SqX κ.K H a (ns.map V.int) → HOk P w H s₁.heap → (∀ b, H b ≠ none → b = a) → (H a ≠ none → κ.K.lookup a = none) →
      codeAny (model P w) callerA (.call (.ref fa) ⟨[.ref a], []⟩) (fun r s' => r = .ok (.ret (.bool true)) ∧ OldK s₁.heap s'.heap ∧ s'.os = s₁.os ∧ AllBare s'.gens) s₁ := by
    intro H only script hok just notK
    have dictsFree : ∀ {b : Addr} {o : Obj} {es : Array DictEntry} {ep : Nat}, s₁.heap.get? b = some o → o.data = .dict es ep → H b = none := by
      intro b o es ep e d
      rcases hq : H b with _ | u
      · rfl
      · have e2 : b = a := just b (by rw [hq]; simp)
        subst e2
        rw [ha] at e
        cases e
        cases d
    have nsB : ∀ {b : Addr} {m : Str → Option Value}, s₁.heap.Ns b m → (hidT s₁.heap H).Ns b m := by
      intro b m ⟨o, es, ep, e, d, r⟩
      exact ⟨o, es, ep, hidT_get e (dictsFree e d), d, r⟩
    have kB : κ.K.In (hidT s₁.heap H) := by
      intro b o e
      refine hidT_get (KX b o e) ?_
      rcases hq : H b with _ | u
      · rfl
      · have e2 : b = a := just b (by rw [hq]; simp)
        subst e2
        rw [notK (by rw [hq]; simp)] at e
        cases e
    obtain ⟨mc, lim1, lim2⟩ := hlim
    have md : Mod κ.K mg (hidT s₁.heap H) := ⟨kB, nsB hns, ⟨mb, nsB hb, hbb⟩, ⟨mc, nsB lim1, lim2⟩⟩
    have e0 : Env0 P w κ.K mg (hidT s₁.heap H) callerA [] s₁ H := ⟨rfl, md, fun b o e => of_hidT e, Nat.le_of_eq (hidT_size _ _), trivial, (fun b z => nomatch z), hok, AllBare.of_eq hg⟩
    have rel : Rel κ H ([(some (V.ref a), Sl.val (.lst (ns.map .int)))] ++ []) := by
      refine ⟨H, fun _ _ e => e, fun e he => ?_, (by show ([] : List Addr).Nodup; exact List.nodup_nil)⟩
      have : e = (some (V.ref a), Sl.val (.lst (ns.map .int))) := by simpa using he
      subst this
      exact ⟨.ref a, rfl, .lst script (reps_ofI ns)⟩
    have sp : spD κ T f [.ref a] H (fun v _ => v = .bl true) fun _ _ _ => False := by
      refine ⟨[.lst (ns.map .int)], [], ?_, rfl, ?_⟩
      · rw [hio]
        exact rel
      · rw [law]
        refine ⟨by rw [hio]; rfl, fun v H' r => ?_⟩
        obtain ⟨f', rf⟩ := r
        obtain ⟨u, e, q⟩ := rf.at (ov := some v) (d := .bl true) (by simp [mkv, slotOf])
        cases e
        exact rep_bl q
    refine codeAny_mono ((F _ kB (nsB hns)).go callerA [] s₁ H ⟨[.ref a], []⟩ [.ref a] [.ref a] _ _ hr rfl e0 (hbind s₁ (.ref a)) (.cons rfl .nil) sp) fun r s' h => ?_
    rcases r with er | fl
    · obtain ⟨_, _, _, _, _, _, _, _, _, _, _, _, no⟩ := h
      exact no.elim
    · cases fl with
      | next => exact False.elim h
      | brk => exact False.elim h
      | cont => exact False.elim h
      | ret u =>
        obtain ⟨v, H', os, bare, un, hok', r', q⟩ := h
        have q' : v = .bl true := q
        subst q'
        cases r'
        refine ⟨rfl, OldK.of_keep fun b o e => ?_, os, bare⟩
        rcases hq : H b with _ | u
        · exact un.keep b o e hq (fun z => nomatch z) (fun z => nomatch z)
        · rcases only b with z | ⟨ob, xs, z⟩
          · rw [hq] at z
            cases z
          · obtain ⟨e1, _⟩ := hok b _ z
            obtain ⟨e2, _⟩ := hok' b _ (un.frzs b ob _ z)
            rw [e] at e1
            cases e1
            exact e2
  rcases hk : κ.K.lookup a with _ | o
  · refine main (fun b => if b = a then some (.frz { cls := .type "list", data := .seq vs.toArray } (.lst (ns.map V.int))) else none) (fun b => ?_) (.inl (.inr ⟨_, if_pos rfl⟩)) (fun b u z => ?_) (fun b z => ?_) fun _ => hk
    · by_cases hb : b = a
      · exact .inr ⟨_, _, if_pos hb⟩
      · exact .inl (if_neg hb)
    · by_cases hb : b = a
      · have z' := (if_pos hb).symm.trans z
        cases z'
        subst hb
        exact ⟨ha, by rw [List.length_map]; exact hl, vs, _, rv, ha⟩
      · have z' := (if_neg hb).symm.trans z
        cases z'
    · by_cases hb : b = a
      · exact hb
      · exact absurd (if_neg hb) z
  · have e := KX a o hk
    rw [ha] at e
    cases e
    exact main (fun _ => none) (fun _ => .inl rfl) (.inr ⟨vs.toArray, _, hk, by rw [List.size_toArray, lenV]; exact hl, by simpa using rv⟩) (fun b u z => nomatch z) (fun b z => absurd rfl z) fun z => absurd rfl z
end PyV
set_option Elab.async false
set_option linter.all false
set_option maxRecDepth 100000
set_option maxHeartbeats 2000000
namespace PyV
open PySem

@[simp] theorem ck_non (n : Nat) : ck n .non = true := by cases n <;> rfl
@[simp] theorem ck_bl (n : Nat) (b : Bool) : ck n (.bl b) = true := by cases n <;> rfl
@[simp] theorem ck_int (n : Nat) (b : Int) : ck n (.int b) = true := by cases n <;> rfl
@[simp] theorem ck_str (n : Nat) (b : List Nat) : ck n (.str b) = true := by cases n <;> rfl
@[simp] theorem ck_lst (n : Nat) (b : List D) : ck (n + 1) (.lst b) = b.all (ck n) := rfl
@[simp] theorem ck_tup (n : Nat) (b : List D) : ck (n + 1) (.tup b) = b.all (ck n) := rfl
@[simp] theorem ck_lst8 (b : List D) : ck 8 (.lst b) = b.all (ck 7) := rfl
@[simp] theorem ck_tup8 (b : List D) : ck 8 (.tup b) = b.all (ck 7) := rfl
@[simp] theorem ck_lst7 (b : List D) : ck 7 (.lst b) = b.all (ck 6) := rfl
@[simp] theorem ck_tup7 (b : List D) : ck 7 (.tup b) = b.all (ck 6) := rfl
@[simp] theorem ck_lst6 (b : List D) : ck 6 (.lst b) = b.all (ck 5) := rfl
@[simp] theorem ck_tup6 (b : List D) : ck 6 (.tup b) = b.all (ck 5) := rfl
@[simp] theorem ck_lst5 (b : List D) : ck 5 (.lst b) = b.all (ck 4) := rfl
@[simp] theorem ck_tup5 (b : List D) : ck 5 (.tup b) = b.all (ck 4) := rfl
@[simp] theorem ck_obj (n c : Nat) (ns : List Str) (vs : List D) : ck n (.obj c ns vs) = false := by cases n <;> rfl
def eqDs : List D → List D → Bool
  | [], [] => true
  | d :: ds, e :: es => eqD d e && eqDs ds es
  | _, _ => false
theorem pys_eqv : ∀ ds es : List D, PyData.eqvAll (D.pys ds) (D.pys es) = eqDs ds es
  | [], [] => rfl
  | [], _ :: _ => rfl
  | _ :: _, [] => rfl
  | d :: ds, e :: es => by
    show (PyData.eqv d.py e.py && PyData.eqvAll (D.pys ds) (D.pys es)) = _
    rw [pys_eqv ds es]
    rfl
@[simp] theorem eqD_int (i j : Int) : eqD (.int i) (.int j) = decide (i = j) := by
  show (i == j) = _
  by_cases h : i = j <;> simp [h]
@[simp] theorem eqD_bl (i j : Bool) : eqD (.bl i) (.bl j) = (i == j) := rfl
@[simp] theorem eqD_str (s t : List Nat) : eqD (.str s) (.str t) = decide (s = t) := by
  show ((⟨s.toArray⟩ : Str) == ⟨t.toArray⟩) = _
  by_cases h : s = t
  · subst h; simp
  · have : (⟨s.toArray⟩ : Str) ≠ ⟨t.toArray⟩ := fun z => h (by
      have := congrArg (fun x : Str => x.cps.toList) z
      simpa using this)
    simp [h, this]
@[simp] theorem eqD_lst (s t : List D) : eqD (.lst s) (.lst t) = eqDs s t := pys_eqv s t
@[simp] theorem eqD_tup (s t : List D) : eqD (.tup s) (.tup t) = eqDs s t := pys_eqv s t
@[simp] theorem eqD_non : eqD .non .non = true := rfl
@[simp] theorem eqD_non_int (i : Int) : eqD .non (.int i) = false := rfl
@[simp] theorem eqD_int_non (i : Int) : eqD (.int i) .non = false := rfl
@[simp] theorem eqD_str_int (s : List Nat) (i : Int) : eqD (.str s) (.int i) = false := rfl
@[simp] theorem eqD_int_str (s : List Nat) (i : Int) : eqD (.int i) (.str s) = false := rfl
@[simp] theorem eqDs_nil : eqDs [] [] = true := rfl
@[simp] theorem eqDs_cons (d e : D) (ds es : List D) : eqDs (d :: ds) (e :: es) = (eqD d e && eqDs ds es) := rfl
@[simp] theorem eqDs_nc (e : D) (es : List D) : eqDs [] (e :: es) = false := rfl
@[simp] theorem eqDs_cn (e : D) (es : List D) : eqDs (e :: es) [] = false := rfl
mutual
theorem eqD_self : ∀ {d : D} {n : Nat}, ck n d = true → eqD d d = true
  | .non, _, _ => rfl
  | .bl b, _, _ => by simp
  | .int i, _, _ => by simp
  | .str s, _, _ => by simp
  | .lst ds, 0, h => by simp [ck] at h
  | .tup ds, 0, h => by simp [ck] at h
  | .lst ds, n + 1, h => by
    rw [eqD_lst]
    exact eqDs_self (n := n) (by simpa using h)
  | .tup ds, n + 1, h => by
    rw [eqD_tup]
    exact eqDs_self (n := n) (by simpa using h)
  | .dct _ _ _, n, h => by cases n <;> simp [ck] at h
  | .gho _, n, h => by cases n <;> simp [ck] at h
  | .obj _ _ _, n, h => by simp at h
  | .exc _ _ _, n, h => by cases n <;> simp [ck] at h
theorem eqDs_self : ∀ {ds : List D} {n : Nat}, (∀ d ∈ ds, ck n d = true) → eqDs ds ds = true
  | [], _, _ => rfl
  | d :: ds, n, h => by
    rw [eqDs_cons, eqD_self (h d List.mem_cons_self), eqDs_self fun e he => h e (List.mem_cons_of_mem _ he)]
    rfl
end
@[simp] theorem flat_int (i : Int) : flat (.int i) = true := rfl
@[simp] theorem flat_str (i : List Nat) : flat (.str i) = true := rfl
@[simp] theorem flat_bl (i : Bool) : flat (.bl i) = true := rfl
@[simp] theorem flat_non : flat .non = true := rfl
@[simp] theorem inD_nil (d : D) : inD d [] = false := rfl
@[simp] theorem inD_cons (d e : D) (es : List D) : inD d (e :: es) = (eqD e d || inD d es) := rfl
@[simp] theorem mulOk_l {i j : Int} (h : i.natAbs < 2 ^ 64) : mulOk i j = true := by
  unfold mulOk smallI
  simp [h]
theorem mulOk_r {i j : Int} (h : j.natAbs < 2 ^ 64) : mulOk i j = true := by
  unfold mulOk smallI
  simp [h]
theorem log2_lt {n k : Nat} (h : n < 2 ^ k) (hk : 0 < k) : n.log2 < k := by
  by_cases hn : n = 0
  · subst hn; simpa using hk
  · exact (Nat.log2_lt hn).mpr h
theorem divOk_of {j : Int} (h : 0 < j) (k : Nat) (hj : j.natAbs < 2 ^ k) (hk : k ≤ 9000) : divOk j = true := by
  unfold divOk
  have h0 : 0 < k := by
    rcases Nat.eq_zero_or_pos k with z | z
    · subst z
      have : j.natAbs < 1 := by simpa using hj
      omega
    · exact z
  have := log2_lt hj h0
  simp [h]
  omega
theorem reps_eq {α : Type} (k : Nat) (a : α) : reps k [a] = List.replicate k a := by
  unfold reps
  induction k with
  | zero => rfl
  | succ k ih => rw [List.replicate_succ, List.flatten_cons, ih, List.replicate_succ]; rfl
@[simp] theorem reps_one (k : Nat) (a : Nat) : reps k [a] = List.replicate k a := reps_eq k a
theorem asgT_v (p : Option Nat) (i : Nat) (d : D) (s : Ss) : asgT p (.v i) d s = stS p i (.val d) s := rfl
theorem asgT_t (p : Option Nat) (ts : List T) (ds : List D) (s : Ss) : asgT p (.tup ts) (.tup ds) s = asgTs p ts ds s := rfl
theorem asgT_l (p : Option Nat) (ts : List T) (ds : List D) (s : Ss) : asgT p (.tup ts) (.lst ds) s = asgTs p ts ds s := rfl
theorem asgTs_n (p : Option Nat) (s : Ss) : asgTs p [] [] s = some s := rfl
theorem asgTs_c (p : Option Nat) (t : T) (ts : List T) (d : D) (ds : List D) (s : Ss) : asgTs p (t :: ts) (d :: ds) s = match asgT p t d s with
    | none => none
    | some s1 => asgTs p ts ds s1 := rfl
@[simp] theorem wipeS_n (s : Ss) : wipeS [] s = s := rfl
@[simp] theorem wipeS_c (v : Nat) (vs : List Nat) (s : Ss) : wipeS (v :: vs) s = (wipeS vs s).set v .emp := rfl
@[simp] theorem restS_n (s s' : Ss) : restS s [] s' = s' := rfl
@[simp] theorem restS_c (v : Nat) (vs : List Nat) (s s' : Ss) : restS s (v :: vs) s' = (restS s vs s').set v (sl? s v) := rfl
theorem forL_step {st : D → Ss → Option Ss} {body : Ss → R Fl} {d : D} {ds : List D} {s s1 s2 : Ss} (h1 : st d s = some s1) (h2 : body s1 = .ok .nx s2) : forL st body (d :: ds) s = forL st body ds s2 := by
  simp only [forL, h1, h2]
theorem forL_inv {st : D → Ss → Option Ss} {body : Ss → R Fl} (I : Nat → Ss → Prop) : ∀ {xs : List D} {k : Nat} {s : Ss}, I k s →
    (∀ j d s, xs[j]? = some d → I (k + j) s → ∃ s1 s2, st d s = some s1 ∧ body s1 = .ok .nx s2 ∧ I (k + j + 1) s2) → ∃ s', forL st body xs s = .ok .nx s' ∧ I (k + xs.length) s'
  | [], k, s, h0, _ => ⟨s, rfl, h0⟩
  | d :: ds, k, s, h0, step => by
    obtain ⟨s1, s2, h1, h2, h3⟩ := step 0 d s rfl h0
    obtain ⟨s', e, h⟩ := forL_inv I (xs := ds) (k := k + 1) (s := s2) h3 fun j d s hd hI => by
      have := step (j + 1) d s (by simpa using hd) (by rw [show k + (j + 1) = k + 1 + j by omega]; exact hI)
      rw [show k + (j + 1) = k + 1 + j by omega] at this
      exact this
    refine ⟨s', ?_, ?_⟩
    · rw [forL_step h1 h2]
      exact e
    · rw [List.length_cons, show k + (ds.length + 1) = k + 1 + ds.length by omega]
      exact h
theorem lcL_step {st : D → Ss → Option Ss} {cond : Ss → R Bool} {elt : Ss → R Rv} {wp : Ss → Ss} {d z : D} {ds acc : List D} {s s1 s2 s3 s4 : Ss} {r : Rv} (h1 : st d s = some s1) (h2 : cond s1 = .ok true s2) (h3 : elt s2 = .ok r s3) (h4 : fz s3 r = some (z, s4)) (h5 : acc.length < 16777216) :
    lcL st cond elt wp (d :: ds) acc s = lcL st cond elt wp ds (acc ++ [z]) (wp s4) := by
  simp only [lcL, h1, h2, h3, h4, lim, h5, if_true]
theorem lcL_skip {st : D → Ss → Option Ss} {cond : Ss → R Bool} {elt : Ss → R Rv} {wp : Ss → Ss} {d : D} {ds acc : List D} {s s1 s2 : Ss} (h1 : st d s = some s1) (h2 : cond s1 = .ok false s2) :
    lcL st cond elt wp (d :: ds) acc s = lcL st cond elt wp ds acc (wp s2) := by
  simp only [lcL, h1, h2]
end PyV
set_option Elab.async false
set_option linter.all false
set_option maxRecDepth 100000
set_option maxHeartbeats 2000000
namespace PyV
open PySem

@[simp] def Tab.w (T : Tab) (G : Nat → Fn) : Tab := { T with G := G }
def Lq {α : Type} (r r' : R α) : Prop := r = .bad ∨ r' = r
def Lf (r r' : FR) : Prop := r = .bad ∨ r' = r
theorem Lq.rf {α : Type} {r : R α} : Lq r r := .inr rfl
theorem Lq.bad {α : Type} {r : R α} : Lq .bad r := .inl (Eq.refl _)
theorem Lq.bind {α β : Type} {r r' : R α} {f f' : α → Ss → R β} (h : Lq r r') (hf : ∀ a s, Lq (f a s) (f' a s)) : Lq (r.bind f) (r'.bind f') := by
  rcases h with h | h
  · subst h; exact .inl rfl
  · subst h
    cases r' with
    | ok a s => exact hf a s
    | ex x s => exact .inr rfl
    | bad => exact .inl rfl
section
variable {T : Tab} {G G' : Nat → Fn} {p : Option Nat} {n n' : Nat}
def Gle (G G' : Nat → Fn) : Prop := ∀ f ds, Lf (G f ds) (G' f ds)
theorem lq_lend2 (hG : Gle G G') (f : Nat) (rs : List Rv) (s : Ss) : Lq (lend2 (T.w G) f rs s) (lend2 (T.w G') f rs s) := by
  unfold lend2
  simp only [Tab.w]
  split
  · rename_i i j rs
    split
    · exact .inl rfl
    · rename_i ds s1 h
      split
      · rename_i d e hd he
        by_cases c : i = j
        · rw [if_pos c]; exact .inl rfl
        · rw [if_neg c, if_neg c]
          rcases hG f (d :: e :: ds) with q | q
          · rw [q]; exact .inl rfl
          · rw [q]; exact .inr rfl
      · exact .inl rfl
  · exact .inl rfl
theorem lq_call (hG : Gle G G') (f : Nat) (rs : List Rv) (s : Ss) : Lq (callD (T.w G) f rs s) (callD (T.w G') f rs s) := by
  unfold callD
  by_cases two : T.io f = some 1000
  · rw [if_pos (show (T.w G).io f = some 1000 from two), if_pos (show (T.w G').io f = some 1000 from two)]
    exact lq_lend2 hG f rs s
  rw [if_neg (show ¬ (T.w G).io f = some 1000 from two), if_neg (show ¬ (T.w G').io f = some 1000 from two)]
  simp only [Tab.w]
  split
  · exact .inl rfl
  · rename_i ds s1 h
    split
    · rcases hG f ds with e | e
      · rw [e]; exact .inl rfl
      · rw [e]; exact .inr rfl
    · rename_i j hj
      unfold lendD
      simp only [Tab.w]
      generalize rs[j]? = q
      cases q with
      | none => exact .inl rfl
      | some r =>
        cases r with
        | val d => exact .inl rfl
        | own d =>
          simp only
          rcases hG f (ds.set j d) with e | e
          · rw [e]; exact .inl rfl
          · rw [e]; exact .inr rfl
        | ali i =>
          simp only
          generalize sl? s1 i = z
          cases z with
          | emp => exact .inl rfl
          | val d => exact .inl rfl
          | own d =>
            simp only
            rcases hG f (ds.set j d) with e | e
            · rw [e]; exact .inl rfl
            · rw [e]; exact .inr rfl
theorem lq_cbr (hG : Gle G G') (f : Nat) (rs : List Rv) (s : Ss) : Lq (cbrD (T.w G) f rs s) (cbrD (T.w G') f rs s) := by
  unfold cbrD
  simp only [Tab.w]
  split
  · exact .inl rfl
  · split
    · exact .inl rfl
    · rename_i ds h
      rcases hG f ds with e | e
      · rw [e]; exact .inl rfl
      · rw [e]; exact .inr rfl
theorem lq_new (hG : Gle G G') (c : Nat) (rs : List Rv) (s : Ss) : Lq (newD (T.w G) c rs s) (newD (T.w G') c rs s) := by
  unfold newD
  simp only [Tab.w]
  split
  · exact .inl rfl
  · rename_i ds s1 h
    rcases hG (T.ini c) (.obj c [] [] :: ds) with e | e
    · rw [e]; exact .inl rfl
    · rw [e]; exact .inr rfl
theorem lq_objQ (hG : Gle G G') (d e : D) : objQ (T.w G) d e = none ∨ objQ (T.w G') d e = objQ (T.w G) d e := by
  cases d <;> first | exact .inl rfl | skip
  cases e <;> first | exact .inl rfl | skip
  rename_i c ns vs c2 ms ws
  unfold objQ
  simp only [Tab.w]
  by_cases hc : c = c2
  · rw [if_pos hc, if_pos hc]
    cases T.eqf c with
    | none => exact .inl rfl
    | some f =>
      simp only
      rcases hG f [.obj c ns vs, .obj c2 ms ws] with e | e
      · rw [e]
        left
        cases T.io f <;> rfl
      · rw [e]; exact .inr rfl
  · rw [if_neg hc]; exact .inl rfl
theorem lq_eqO (hG : Gle G G') (o : Co) (x y : Rv) (s : Ss) : Lq (eqO (T.w G) o x y s) (eqO (T.w G') o x y s) := by
  cases o <;> first | exact .inl rfl | exact .inr rfl | skip
  unfold eqO
  simp only
  cases fz s x with
  | none => exact .inl rfl
  | some z =>
    obtain ⟨d, s1⟩ := z
    simp only
    cases fz s1 y with
    | none => exact .inl rfl
    | some z =>
      obtain ⟨e, s2⟩ := z
      simp only
      rcases lq_objQ (T := T) hG d e with h | h
      · rw [h]; exact .inl rfl
      · rw [h]; exact .inr rfl
theorem dc_eq {T : Tab} {p : Option Nat} {t : Bool} {ke ve c : E} {tg : PyV.T} {k : Ik} {its : List E} {own : List Nat} {s : Ss} : evE T p (.dc t ke ve tg k its c own) s = (evEs T p its s).bind fun rs s1 => match fzs s1 rs with
    | none => .bad
    | some (ds, s2) => match itemsD k ds with
      | none => .bad
      | some xs => if noOwn p own s2 = true then
          match dcL t (asgT p tg) (condD T p c) (evE T p ke) (evE T p ve) (wipeS own) xs [] [] (wipeS own s2) with
          | .ok (ks, vs) s3 => .ok (.own (.dct t ks vs)) (restS s2 own s3)
          | _ => .bad
        else .bad := by
  unfold evE
  cases c <;> rfl
theorem lq_dc {t : Bool} {st : D → Ss → Option Ss} {cond cond' : Ss → R Bool} {ke ke' ve ve' : Ss → R Rv} {wp : Ss → Ss} (hc : ∀ s, Lq (cond s) (cond' s)) (hk : ∀ s, Lq (ke s) (ke' s)) (hv : ∀ s, Lq (ve s) (ve' s)) : ∀ (xs ks vs : List D) (s : Ss),
    Lq (dcL t st cond ke ve wp xs ks vs s) (dcL t st cond' ke' ve' wp xs ks vs s)
  | [], ks, vs, s => .inr rfl
  | d :: ds, ks, vs, s => by
    unfold dcL
    cases st d s with
    | none => exact .inl rfl
    | some s1 =>
      simp only
      rcases hc s1 with e | e
      · rw [e]; exact .inl rfl
      · rw [e]
        cases cond s1 with
        | bad => exact .inl rfl
        | ex x s => exact .inl rfl
        | ok b s2 =>
          cases b with
          | false => exact lq_dc hc hk hv ds ks vs _
          | true =>
            simp only
            rcases hk s2 with e | e
            · rw [e]; exact .inl rfl
            · rw [e]
              cases ke s2 with
              | bad => exact .inl rfl
              | ex x s => exact .inl rfl
              | ok r s3 =>
                cases r with
                | own d => exact .inl rfl
                | ali i => exact .inl rfl
                | val k =>
                  simp only
                  rcases hv s3 with e | e
                  · rw [e]; exact .inl rfl
                  · rw [e]
                    cases ve s3 with
                    | bad => exact .inl rfl
                    | ex x s => exact .inl rfl
                    | ok r s4 =>
                      simp only
                      cases fz s4 r with
                      | none => exact .inl rfl
                      | some z =>
                        obtain ⟨z, s5⟩ := z
                        simp only
                        split
                        · exact lq_dc hc hk hv ds _ _ _
                        · exact .inl rfl
theorem lq_lc {st : D → Ss → Option Ss} {cond cond' : Ss → R Bool} {elt elt' : Ss → R Rv} {wp : Ss → Ss} (hc : ∀ s, Lq (cond s) (cond' s)) (he : ∀ s, Lq (elt s) (elt' s)) : ∀ (xs acc : List D) (s : Ss), Lq (lcL st cond elt wp xs acc s) (lcL st cond' elt' wp xs acc s)
  | [], acc, s => .inr rfl
  | d :: ds, acc, s => by
    unfold lcL
    cases st d s with
    | none => exact .inl rfl
    | some s1 =>
      simp only
      rcases hc s1 with h | h
      · rw [h]; exact .inl rfl
      · rw [h]
        cases cond s1 with
        | bad => exact .inl rfl
        | ex x s => exact .inl rfl
        | ok b s2 =>
          cases b with
          | false => exact lq_lc hc he ds acc (wp s2)
          | true =>
            simp only
            rcases he s2 with h | h
            · rw [h]; exact .inl rfl
            · rw [h]
              cases elt s2 with
              | bad => exact .inl rfl
              | ex x s => exact .inl rfl
              | ok r s3 =>
                simp only
                cases fz s3 r with
                | none => exact .inl rfl
                | some z =>
                  simp only
                  split
                  · exact lq_lc hc he ds _ _
                  · exact .inl rfl
theorem lq_for {st : D → Ss → Option Ss} {b b' : Ss → R Fl} (hb : ∀ s, Lq (b s) (b' s)) : ∀ (xs : List D) (s : Ss), Lq (forL st b xs s) (forL st b' xs s)
  | [], s => .inr rfl
  | d :: ds, s => by
    unfold forL
    cases st d s with
    | none => exact .inl rfl
    | some s1 =>
      simp only
      rcases hb s1 with h | h
      · rw [h]; exact .inl rfl
      · rw [h]
        cases b s1 with
        | bad => exact .inl rfl
        | ex x s => exact .inr rfl
        | ok fl s2 =>
          cases fl with
          | nx => exact lq_for hb ds s2
          | ct => exact lq_for hb ds s2
          | bk => exact .inr rfl
          | rt d fr => exact .inr rfl
theorem lq_whl {c c' : Ss → R Bool} {b b' : Ss → R Fl} (hc : ∀ s, Lq (c s) (c' s)) (hb : ∀ s, Lq (b s) (b' s)) : ∀ (n n' : Nat), n ≤ n' → ∀ s : Ss, Lq (whlN c b n s) (whlN c' b' n' s)
  | 0, _, _, s => .inl rfl
  | n + 1, 0, h, _ => absurd h (by omega)
  | n + 1, n' + 1, hn, s => by
    unfold whlN
    rcases hc s with h | h
    · rw [h]; exact .inl rfl
    · rw [h]
      cases c s with
      | bad => exact .inl rfl
      | ex x s => exact .inr rfl
      | ok k s1 =>
        cases k with
        | false => exact .inr rfl
        | true =>
          simp only
          rcases hb s1 with h | h
          · rw [h]; exact .inl rfl
          · rw [h]
            cases b s1 with
            | bad => exact .inl rfl
            | ex x s => exact .inr rfl
            | ok fl s2 =>
              cases fl with
              | nx => exact lq_whl hc hb n n' (by omega) s2
              | ct => exact lq_whl hc hb n n' (by omega) s2
              | bk => exact .inr rfl
              | rt d fr => exact .inr rfl
mutual
theorem lq_E (hG : Gle G G') : ∀ (e : E) (s : Ss), Lq (evE (T.w G) p e s) (evE (T.w G') p e s)
  | .var i, s => by simp only [evE]; exact .inr rfl
  | .non, s => by simp only [evE]; exact .inr rfl
  | .bl b, s => by simp only [evE]; exact .inr rfl
  | .int b, s => by simp only [evE]; exact .inr rfl
  | .str b, s => by simp only [evE]; exact .inr rfl
  | .glb b, s => by simp only [evE]; exact .inr rfl
  | .nop, s => by simp only [evE]; exact .inr rfl
  | .bin o a b, s => by
    simp only [evE]
    exact (lq_E hG a s).bind fun x s1 => (lq_E hG b s1).bind fun y s2 => .inr rfl
  | .neg a, s => by
    simp only [evE]
    exact (lq_E hG a s).bind fun x s1 => .inr rfl
  | .cmp o a b, s => by
    simp only [evE]
    refine (lq_E hG a s).bind fun x s1 => (lq_E hG b s1).bind fun y s2 => ?_
    split
    · split
      · exact .inr rfl
      · exact lq_eqO hG ..
    · exact .inl rfl
  | .att a f, s => by
    simp only [evE]
    exact (lq_E hG a s).bind fun x s1 => .inr rfl
  | .ch2 a o b q c, s => by
    simp only [evE]
    refine (lq_E hG a s).bind fun x s1 => (lq_E hG b s1).bind fun y s2 => ?_
    split
    · split
      · exact (lq_E hG c s2).bind fun z s3 => .inr rfl
      · exact .inr rfl
      · exact .inl rfl
    · exact .inl rfl
  | .ch3 a o b q c r d', s => by
    simp only [evE]
    refine (lq_E hG a s).bind fun x s1 => (lq_E hG b s1).bind fun y s2 => ?_
    split
    · split
      · refine (lq_E hG c s2).bind fun z s3 => ?_
        split
        · split
          · exact (lq_E hG d' s3).bind fun w s4 => .inr rfl
          · exact .inr rfl
          · exact .inl rfl
        · exact .inl rfl
      · exact .inr rfl
      · exact .inl rfl
    · exact .inl rfl
  | .ch4 a o b q c r d' t f', s => by
    simp only [evE]
    refine (lq_E hG a s).bind fun x s1 => (lq_E hG b s1).bind fun y s2 => ?_
    split
    · split
      · refine (lq_E hG c s2).bind fun z s3 => ?_
        split
        · split
          · refine (lq_E hG d' s3).bind fun w s4 => ?_
            split
            · split
              · exact (lq_E hG f' s4).bind fun u s5 => .inr rfl
              · exact .inr rfl
              · exact .inl rfl
            · exact .inl rfl
          · exact .inr rfl
          · exact .inl rfl
        · exact .inl rfl
      · exact .inr rfl
      · exact .inl rfl
    · exact .inl rfl
  | .isn a, s => by
    simp only [evE]
    exact (lq_E hG a s).bind fun x s1 => .inr rfl
  | .nsn a, s => by
    simp only [evE]
    exact (lq_E hG a s).bind fun x s1 => .inr rfl
  | .and a b, s => by
    simp only [evE]
    refine (lq_E hG a s).bind fun x s1 => ?_
    split
    · exact (lq_E hG b s1).bind fun y s2 => .inr rfl
    · exact .inr rfl
    · exact .inl rfl
  | .or a b, s => by
    simp only [evE]
    refine (lq_E hG a s).bind fun x s1 => ?_
    split
    · exact (lq_E hG b s1).bind fun y s2 => .inr rfl
    · exact .inr rfl
    · exact .inl rfl
  | .not a, s => by
    simp only [evE]
    exact (lq_E hG a s).bind fun x s1 => .inr rfl
  | .ite c a b, s => by
    simp only [evE]
    refine (lq_E hG c s).bind fun x s1 => ?_
    split
    · exact lq_E hG a s1
    · exact lq_E hG b s1
    · exact .inl rfl
  | .itt c a b, s => by
    simp only [evE]
    refine (lq_E hG c s).bind fun x s1 => ?_
    split
    · split
      · exact lq_E hG b s1
      · exact lq_E hG a s1
    · exact .inl rfl
  | .tup es, s => by
    simp only [evE]
    exact (lq_Es hG es s).bind fun x s1 => .inr rfl
  | .lst es, s => by
    simp only [evE]
    exact (lq_Es hG es s).bind fun x s1 => .inr rfl
  | .lstS k es, s => by
    simp only [evE]
    exact (lq_Xs hG k es s).bind fun x s1 => .inr rfl
  | .sub a b, s => by
    simp only [evE]
    exact (lq_E hG a s).bind fun x s1 => (lq_E hG b s1).bind fun y s2 => .inr rfl
  | .slc a lo hi, s => by
    have ia := lq_E hG a s
    have il := fun s => lq_E hG lo s
    have ih := fun s => lq_E hG hi s
    simp only [evE]
    refine ia.bind fun x s1 => ?_
    refine Lq.bind ?_ fun l s2 => Lq.bind ?_ fun h s3 => .inr rfl
    · split
      · exact .inr rfl
      · exact (il s1).bind fun y s2 => .inr rfl
    · split
      · exact .inr rfl
      · exact (ih s2).bind fun y s2 => .inr rfl
  | .rev a, s => by
    simp only [evE]
    exact (lq_E hG a s).bind fun x s1 => .inr rfl
  | .call f es, s => by
    simp only [evE]
    exact (lq_Es hG es s).bind fun x s1 => lq_call hG ..
  | .cbr f es, s => by
    simp only [evE]
    exact (lq_Es hG es s).bind fun x s1 => lq_cbr hG ..
  | .bi b es, s => by
    simp only [evE]
    exact (lq_Es hG es s).bind fun x s1 => .inr rfl
  | .mth m a es, s => by
    simp only [evE]
    refine (lq_E hG a s).bind fun x s1 => ?_
    split
    · exact (lq_Es hG es s1).bind fun x s1 => .inr rfl
    · exact .inl rfl
  | .bits a, s => by
    simp only [evE]
    exact (lq_E hG a s).bind fun x s1 => .inr rfl
  | .sst b a, s => by
    simp only [evE]
    exact (lq_E hG a s).bind fun x s1 => .inr rfl
  | .prp f a, s => by
    simp only [evE]
    refine (lq_E hG a s).bind fun x s1 => ?_
    split
    · show Lq (if T.mem f _ = true then _ else _) (if T.mem f _ = true then _ else _)
      split
      · rcases lq_call (T := T) hG f [x] s1 with h | h
        · rw [h]; exact .inl rfl
        · rw [h]; exact .inr rfl
      · exact .inl rfl
    · exact .inl rfl
  | .umt f a es, s => by
    simp only [evE]
    refine (lq_E hG a s).bind fun x s1 => ?_
    split
    · rename_i c ns vs _
      show Lq (if T.mem f c = true ∧ ns.contains (T.nm f) = false then _ else _) (if T.mem f c = true ∧ ns.contains (T.nm f) = false then _ else _)
      split
      · exact (lq_Es hG es s1).bind fun x s1 => lq_call hG ..
      · exact .inl rfl
    · exact .inl rfl
  | .new c es, s => by
    simp only [evE]
    exact (lq_Es hG es s).bind fun x s1 => lq_new hG ..
  | .isi a t, s => by
    simp only [evE]
    exact (lq_E hG a s).bind fun x s1 => .inr rfl
  | .dct t es, s => by
    simp only [evE]
    exact (lq_Es hG es s).bind fun x s1 => .inr rfl
  | .get2 a k x, s => by
    simp only [evE]
    refine (lq_E hG a s).bind fun r s1 => ?_
    split
    · exact (lq_E hG k s1).bind fun y s2 => (lq_E hG x s2).bind fun z s3 => .inr rfl
    · exact .inl rfl
  | .get1 a k, s => by
    simp only [evE]
    refine (lq_E hG a s).bind fun r s1 => ?_
    split
    · exact (lq_E hG k s1).bind fun y s2 => .inr rfl
    · exact .inl rfl
  | .emq a, s => by
    simp only [evE]
    exact (lq_E hG a s).bind fun x s1 => .inr rfl
  | .rpr a, s => by
    simp only [evE]
    exact (lq_E hG a s).bind fun x s1 => .inr rfl
  | .lrg a, s => by
    simp only [evE]
    exact (lq_E hG a s).bind fun x s1 => .inr rfl
  | .srt b a, s => by
    simp only [evE]
    exact (lq_E hG a s).bind fun x s1 => .inr rfl
  | .dc t ke ve tg k its c own, s => by
    have ic := fun s => lq_E hG c s
    have ik := fun s => lq_E hG ke s
    have iv := fun s => lq_E hG ve s
    have ii := lq_Es hG its s
    have hc : ∀ s, Lq (condD (T.w G) p c s) (condD (T.w G') p c s) := fun s => by
      unfold condD
      split
      · exact .inr rfl
      · exact (ic s).bind fun y s' => .inr rfl
    rw [dc_eq, dc_eq]
    refine ii.bind fun rs s1 => ?_
    split
    · exact .inl rfl
    · split
      · exact .inl rfl
      · split
        · rename_i xs _ hno
          rcases lq_dc (t := t) (st := asgT p tg) (wp := wipeS own) hc ik iv xs [] [] (wipeS own _) with h | h
          · rw [h]; exact .inl rfl
          · rw [h]; exact .inr rfl
        · exact .inl rfl
  | .lc elt t k its c own, s => by
    have ic := fun s => lq_E hG c s
    have ie := fun s => lq_E hG elt s
    have ii := lq_Es hG its s
    have hc : ∀ s, Lq (condD (T.w G) p c s) (condD (T.w G') p c s) := fun s => by
      unfold condD
      split
      · exact .inr rfl
      · exact (ic s).bind fun y s' => .inr rfl
    rw [lc_eq, lc_eq]
    refine ii.bind fun rs s1 => ?_
    split
    · exact .inl rfl
    · rename_i ds s2 _
      split
      · exact .inl rfl
      · rename_i xs _
        split
        · rcases lq_lc (st := asgT p t) (cond := condD (T.w G) p c) (cond' := condD (T.w G') p c) (elt := evE (T.w G) p elt) (elt' := evE (T.w G') p elt) (wp := wipeS own) hc ie xs [] (wipeS own s2) with h | h
          · rw [h]; exact .inl rfl
          · rw [h]; exact .inr rfl
        · exact .inl rfl
theorem lq_Es (hG : Gle G G') : ∀ (es : List E) (s : Ss), Lq (evEs (T.w G) p es s) (evEs (T.w G') p es s)
  | [], s => by simp only [evEs]; exact .inr rfl
  | e :: es, s => by
    simp only [evEs]
    exact (lq_E hG e s).bind fun x s1 => (lq_Es hG es s1).bind fun rs s2 => .inr rfl
theorem lq_Xs (hG : Gle G G') : ∀ (k : Nat) (es : List E) (s : Ss), Lq (evXs (T.w G) p k es s) (evXs (T.w G') p k es s)
  | k, [], s => by simp only [evXs]; exact .inr rfl
  | 0, e :: es, s => by
    simp only [evXs]
    exact (lq_E hG e s).bind fun x s1 => (lq_Xs hG 0 es s1).bind fun rs s2 => .inr rfl
  | k + 1, a :: es, s => by
    simp only [evXs]
    refine (lq_E hG a s).bind fun x s1 => ?_
    split
    · exact (lq_Xs hG k es s1).bind fun rs s2 => .inr rfl
    · exact .inl rfl
end
theorem lq_tst {r r' : R Rv} (h : Lq r r') : Lq (tstR r) (tstR r') := h.bind fun _ _ => .inr rfl
mutual
theorem lq_S (hG : Gle G G') (hn : n ≤ n') : ∀ (st : S) (s : Ss), Lq (evS (T.w G) p n st s) (evS (T.w G') p n' st s)
  | .asg (.v i) e, s => by
    simp only [evS]
    exact (lq_E hG e s).bind fun x s1 => .inr rfl
  | .asg (.tup ts) e, s => by
    simp only [evS]
    exact (lq_E hG e s).bind fun x s1 => .inr rfl
  | .par is es, s => by
    simp only [evS]
    exact (lq_Es hG es s).bind fun x s1 => .inr rfl
  | .parT is es, s => by
    simp only [evS]
    exact (lq_Es hG es s).bind fun x s1 => .inr rfl
  | .parU t is es, s => by
    simp only [evS]
    exact (lq_Es hG es s).bind fun x s1 => .inr rfl
  | .aug i o e, s => by
    simp only [evS]
    split
    · exact (lq_E hG e s).bind fun x s1 => .inr rfl
    · exact .inl rfl
  | .app i e, s => by
    simp only [evS]
    split
    · exact (lq_E hG e s).bind fun x s1 => .inr rfl
    · exact .inl rfl
  | .ext i e, s => by
    simp only [evS]
    split
    · exact (lq_E hG e s).bind fun x s1 => .inr rfl
    · exact .inl rfl
  | .set i k e, s => by
    simp only [evS]
    refine (lq_E hG e s).bind fun x s1 => ?_
    split
    · split
      · exact (lq_E hG k _).bind fun x s1 => .inr rfl
      · exact (lq_E hG k _).bind fun x s1 => .inr rfl
      · exact .inl rfl
    · exact .inl rfl
  | .fld i f e, s => by
    simp only [evS]
    exact (lq_E hG e s).bind fun x s1 => .inr rfl
  | .exp e, s => by
    simp only [evS]
    exact (lq_E hG e s).bind fun x s1 => .inr rfl
  | .ife c a b, s => by
    simp only [evS]
    refine (lq_tst (lq_E hG c s)).bind fun k s1 => ?_
    split
    · exact lq_B hG hn a s1
    · exact lq_B hG hn b s1
  | .for_ t k its b, s => by
    have ib := fun s => lq_B hG hn b s
    simp only [evS]
    refine (lq_Es hG its s).bind fun rs s1 => ?_
    split
    · exact .inl rfl
    · split
      · exact .inl rfl
      · exact lq_for ib _ _
  | .whl c b, s => by
    have ib := fun s => lq_B hG hn b s
    simp only [evS]
    exact lq_whl (fun s => lq_tst (lq_E hG c s)) ib n n' hn s
  | .ret e, s => by
    simp only [evS]
    exact (lq_E hG e s).bind fun x s1 => .inr rfl
  | .rtn, s => by simp only [evS]; exact .inr rfl
  | .brk, s => by simp only [evS]; exact .inr rfl
  | .cnt, s => by simp only [evS]; exact .inr rfl
  | .pas, s => by simp only [evS]; exact .inr rfl
  | .rse c, s => by simp only [evS]; exact .inr rfl
  | .tya i j b, s => by
    simp only [evS]
    rcases lq_B hG hn b s with h | h
    · rw [h]; exact .inl rfl
    · rw [h]
      exact .inr rfl
  | .nev, s => by simp only [evS]; exact .inr rfl
theorem lq_B (hG : Gle G G') (hn : n ≤ n') : ∀ (b : List S) (s : Ss), Lq (evB (T.w G) p n b s) (evB (T.w G') p n' b s)
  | [], s => by simp only [evB]; exact .inr rfl
  | st :: r, s => by
    simp only [evB]
    rcases lq_S hG hn st s with h | h
    · rw [h]; exact .inl rfl
    · rw [h]
      cases evS (T.w G) p n st s with
      | bad => exact .inl rfl
      | ex x s1 => exact .inr rfl
      | ok fl s1 =>
        cases fl with
        | nx => exact lq_B hG hn r s1
        | rt d fr => exact .inr rfl
        | bk => exact .inr rfl
        | ct => exact .inr rfl
end
theorem lf_run (hG : Gle G G') (hn : n ≤ n') (f : Df) (ds : List D) : Lf (runD (T.w G) p n f ds) (runD (T.w G') p n' f ds) := by
  unfold runD
  split
  · rcases lq_B (T := T) hG hn f.body (startP p ds ++ List.replicate (f.ns - f.np) .emp) with h | h
    · rw [h]; exact .inl rfl
    · rw [h]; exact .inr rfl
  · exact .inl rfl
end

inductive Ev (T : Tab) (bd : Nat → Df) (ex : Nat → Option Fn) : Nat → List D → FR → Prop
  | mk (G : Nat → Fn) (h : ∀ f ds, G f ds ≠ .bad → Ev T bd ex f ds (G f ds)) (f : Nat) (ds : List D) (n : Nat) (r : FR) (e : runD (T.w G) (T.io f) n (bd f) ds = r) (hr : r ≠ .bad) (hx : ex f = none) : Ev T bd ex f ds r
  | giv (f : Nat) (ds : List D) (F : Fn) (hx : ex f = some F) (hr : F ds ≠ .bad) : Ev T bd ex f ds (F ds)
theorem Ev.one {T : Tab} {bd : Nat → Df} {ex : Nat → Option Fn} {f : Nat} {ds : List D} {r : FR} (h : Ev T bd ex f ds r) : ∀ r', Ev T bd ex f ds r' → r' = r := by
  induction h with
  | giv f ds F hx hr =>
    intro r' h'
    cases h' with
    | mk G' h' _ _ n' _ e' hr' hx' => rw [hx] at hx'; cases hx'
    | giv _ _ F' hx' hr' => rw [hx] at hx'; cases hx'; rfl
  | mk G h f ds n r e hr hx ih =>
    intro r' h'
    cases h' with
    | giv _ _ F' hx' hr' => rw [hx] at hx'; cases hx'
    | mk G' h' _ _ n' _ e' hr' hx' =>
      classical
      let J : Nat → Fn := fun f ds => if G f ds ≠ .bad then G f ds else G' f ds
      have j1 : Gle G J := fun f ds => by
        by_cases z : G f ds = .bad
        · exact .inl z
        · exact .inr (if_pos z)
      have j2 : Gle G' J := fun f ds => by
        by_cases z : G' f ds = .bad
        · exact .inl z
        · right
          show (if G f ds ≠ .bad then G f ds else G' f ds) = _
          split
          · rename_i y
            exact (ih f ds y _ (h' f ds z)).symm
          · rfl
      have q1 := lf_run (T := T) (p := T.io f) (n := n) (n' := max n n') j1 (by omega) (bd f) ds
      have q2 := lf_run (T := T) (p := T.io f) (n := n') (n' := max n n') j2 (by omega) (bd f) ds
      rcases q1 with q1 | q1
      · exact absurd (e.symm.trans q1) hr
      · rcases q2 with q2 | q2
        · exact absurd (e'.symm.trans q2) hr'
        · rw [← e, ← e', ← q1, ← q2]
open Classical in
noncomputable def Gw (T : Tab) (bd : Nat → Df) (ex : Nat → Option Fn) : Nat → Fn := fun f ds => if h : ∃ r, Ev T bd ex f ds r then h.choose else .bad
section
variable {T : Tab} {bd : Nat → Df} {ex : Nat → Option Fn} {f : Nat} {ds : List D} {r : FR}
theorem Gw.ev (h : Gw T bd ex f ds ≠ .bad) : Ev T bd ex f ds (Gw T bd ex f ds) := by
  unfold Gw at h ⊢
  split
  · rename_i z
    exact z.choose_spec
  · rename_i z
    rw [dif_neg z] at h
    exact absurd rfl h
theorem Gw.of (h : Ev T bd ex f ds r) : Gw T bd ex f ds = r := by
  unfold Gw
  rw [dif_pos ⟨r, h⟩]
  exact h.one _ (Exists.choose_spec (⟨r, h⟩ : ∃ r, Ev T bd ex f ds r))
noncomputable def Tab.fix (T : Tab) (bd : Nat → Df) (ex : Nat → Option Fn) : Tab := T.w (Gw T bd ex)
theorem fix_run (hx : ex f = none) (n : Nat) (e : runD (T.fix bd ex) (T.io f) n (bd f) ds = r) (hr : r ≠ .bad) : (T.fix bd ex).G f ds = r :=
  Gw.of (.mk (Gw T bd ex) (fun _ _ h => Gw.ev h) f ds n r e hr hx)
theorem fix_giv {F : Fn} (hx : ex f = some F) (hr : F ds ≠ .bad) : (T.fix bd ex).G f ds = F ds := Gw.of (.giv f ds F hx hr)
theorem fix_known (hx : ex f = none) : ∀ ds, (T.fix bd ex).G f ds ≠ .bad → ∃ n, runD (T.fix bd ex) ((T.fix bd ex).io f) n (bd f) ds = (T.fix bd ex).G f ds := fun ds h => by
  have ev := Gw.ev (T := T) (bd := bd) (ex := ex) (f := f) (ds := ds) h
  have go : ∀ r, Ev T bd ex f ds r → ∃ n, runD (T.fix bd ex) (T.io f) n (bd f) ds = r := by
    intro r hv
    cases hv with
    | giv _ _ F' hx' hr' => rw [hx] at hx'; cases hx'
    | mk G hg _ _ n _ e hr hx' =>
      refine ⟨n, ?_⟩
      have j : Gle G (Gw T bd ex) := fun f ds => by
        by_cases z : G f ds = .bad
        · exact .inl z
        · exact .inr (Gw.of (hg f ds z))
      rcases lf_run (T := T) (p := T.io f) (n := n) (n' := n) j (Nat.le_refl _) (bd f) ds with q | q
      · exact absurd (e.symm.trans q) hr
      · exact q.trans e
  exact go _ ev
end
end PyV
set_option Elab.async false
set_option linter.all false
set_option maxRecDepth 100000
set_option maxHeartbeats 2000000
namespace PyV
open PySem

theorem list7 {α : Type} {a1 a2 a3 a4 a5 a6 a7 b1 b2 b3 b4 b5 b6 b7 : α} (h1 : a1 = b1) (h2 : a2 = b2) (h3 : a3 = b3) (h4 : a4 = b4) (h5 : a5 = b5) (h6 : a6 = b6) (h7 : a7 = b7) : [a1, a2, a3, a4, a5, a6, a7] = [b1, b2, b3, b4, b5, b6, b7] := by
  rw [h1, h2, h3, h4, h5, h6, h7]
theorem exm_mk {K : PySem.W.Frag} {v : Value} {C : Addr} (sb : PySem.W.subIn K (.ref C) (.type "BaseException") = some true) (hc : PySem.W.isClsIn K C = true) (ht : PySem.W.typeIn K (.ref C) = some (.type "type")) (s : PySem.W.subIn K v (.ref C) = some true) : PySem.W.exmOne K v (.ref C) = some true := by
  unfold PySem.W.exmOne
  have e1 : (PySem.W.subIn K (.ref C) (.type "BaseException") == some true) = true := by rw [sb]; rfl
  rw [if_pos e1]
  unfold PySem.W.kitCls
  have hc : (PySem.W.clsIn K C).isSome = true := hc
  simp only [hc, ht]
  exact s
theorem kit_ref2 {K : PySem.W.Frag} {C C' : Addr} {b : Bool} (hc : PySem.W.isClsIn K C' = true) (ht : PySem.W.typeIn K (.ref C') = some (.type "type")) (self : PySem.W.subIn K (.ref C') (.ref C') = some true) (s : PySem.W.subIn K (.ref C) (.ref C') = some b) : PySem.W.kitOne K (.ref C) (.ref C') = some b := by
  unfold PySem.W.kitOne
  by_cases e : C = C'
  · subst e
    rw [self] at s
    cases s
    simp
  · rw [if_neg (by simpa using e)]
    unfold PySem.W.kitCls
    have hc : (PySem.W.clsIn K C').isSome = true := hc
    simp only [hc, ht]
    exact s
theorem kit_self {K : PySem.W.Frag} {v : Value} (h : (v == v) = true := by first | rfl | simp) : PySem.W.kitOne K v v = some true := by
  unfold PySem.W.kitOne
  rw [if_pos h]
theorem kit_ty {K : PySem.W.Frag} {v : Value} {t : String} {b : Bool} (h : (v == Value.type t) = false) (hm : PySem.W.kitMeta t = true) (s : PySem.W.subIn K v (.type t) = some b) : PySem.W.kitOne K v (.type t) = some b := by
  unfold PySem.W.kitOne
  rw [h]
  simp only [Bool.false_eq_true, if_false]
  unfold PySem.W.kitCls
  simp only [hm, if_true]
  exact s
theorem kit_ref {K : PySem.W.Frag} {v : Value} {C : Addr} {b : Bool} (h : (v == Value.ref C) = false) (hc : PySem.W.isClsIn K C = true) (ht : PySem.W.typeIn K (.ref C) = some (.type "type")) (s : PySem.W.subIn K v (.ref C) = some b) : PySem.W.kitOne K v (.ref C) = some b := by
  unfold PySem.W.kitOne
  rw [h]
  simp only [Bool.false_eq_true, if_false]
  unfold PySem.W.kitCls
  have hc : (PySem.W.clsIn K C).isSome = true := hc
  have e : ((PySem.W.clsIn K C).isSome && PySem.W.typeIn K (.ref C) == some (.type "type")) = true := by
    rw [hc, ht]
    rfl
  simp only [e, if_true]
  exact s
theorem nok {f : Nat} (h : ([] : List Nat).contains f = true) : False := by simp at h
end PyV
set_option Elab.async false
set_option linter.all false
set_option maxRecDepth 100000
set_option maxHeartbeats 4000000
namespace PyV
open PySem
def ow : Str := Str.ofString "own_word"
@[reducible] def lay (w : List Nat) : D := .obj 0 [ow] [.str w]
def b_Layout___eq : Df := ⟨2, 2, [.ret (.and (.isi (.var 1) (.cls 0)) (.cmp .eq (.att (.var 0) (Str.ofString "own_word")) (.att (.var 1) (Str.ofString "own_word"))))]⟩
@[simp] def G_Layout___eq : Fn
  | [.obj 0 [f] [.str w], .obj 0 [g] [.str v]] => if f = ow ∧ g = ow then .ok (.bl (decide (w = v))) false none else .bad
  | _ => .bad
end PyV
set_option Elab.async false
set_option linter.all false
set_option maxRecDepth 100000
set_option maxHeartbeats 4000000
namespace PyV
open PySem
def b_is_int : Df := ⟨1, 1, [.ret (.and (.isi (.var 0) .tint) (.not (.isi (.var 0) .tbool)))]⟩
def b_is_whole : Df := ⟨3, 3, [.ret (.and (.call 1 [.var 0]) (.ch2 (.var 1) .le (.var 0) .le (.var 2)))]⟩
def c_is_box_1 : E := .call 1 [.var 7]
def b_is_box : Df := ⟨3, 8, [.ife (.or (.not (.isi (.var 0) .ttuple)) (.or (.cmp .ne (.bi .len [.var 0]) (.int 4)) (.not (.bi .all [.lc c_is_box_1 (.v 7) .plain [.var 0] .nop [7]])))) [.ret (.bl false)] [], .asg (.tup [.v 3, .v 4, .v 5, .v 6]) (.var 0), .ret (.and (.ch3 (.int 0) .le (.var 3) .le (.var 5) .lt (.bin .shl (.int 1) (.var 1))) (.ch3 (.int 0) .le (.var 4) .le (.var 6) .lt (.bin .shl (.int 1) (.var 2))))]⟩
def b_is_load_item : Df := ⟨3, 3, [.ife (.or (.not (.isi (.var 0) .ttuple)) (.cmp .ne (.bi .len [.var 0]) (.int 2))) [.ret (.bl false)] [], .ret (.and (.call 44 [.sub (.var 0) (.int 0), .var 1, .var 2]) (.call 2 [.sub (.var 0) (.int 1), .int 1, .glb 6]))]⟩
def b_InvalidLoad___init : Df := ⟨2, 2, [.fld 0 (Str.ofString "item") (.var 1)]⟩
def b_InvalidText___init : Df := ⟨2, 2, [.fld 0 (Str.ofString "part") (.var 1)]⟩
def b_require_bits : Df := ⟨2, 2, [.ife (.or (.not (.call 2 [.var 0, .int 0, .glb 2])) (.not (.call 2 [.var 1, .bi .int [.cmp .eq (.var 0) (.int 0)], .glb 2]))) [.rse 12] []]⟩
def l_require_load_2_1 : List S := [.ife (.not (.call 226 [.var 4, .var 0, .var 1])) [.nev] []]
def b_require_load_2 : Df := ⟨3, 5, [.ife (.or (.not (.isi (.var 2) .tlist)) (.not (.ch2 (.int 1) .le (.bi .len [.var 2]) .le (.glb 8)))) [.nev] [], .for_ (.tup [.v 3, .v 4]) .enm [.var 2] l_require_load_2_1]⟩
def c_numbers_text_1 : E := .bi .str [.var 1]
def b_numbers_text : Df := ⟨1, 2, [.ret (.mth .join (.str [32]) [.lc c_numbers_text_1 (.v 1) .plain [.var 0] .nop [1]])]⟩
def c_load_text_1 : E := .bin .add (.bin .add (.bi .str [.var 2]) (.str [58, 32])) (.call 329 [.var 1])
def b_load_text : Df := ⟨1, 3, [.ret (.mth .join (.str [59, 32]) [.lc c_load_text_1 (.tup [.v 1, .v 2]) .plain [.var 0] .nop [1, 2]])]⟩
def b_show_load : Df := ⟨3, 3, [.exp (.call 24 [.var 0, .var 1]), .exp (.call 328 [.var 0, .var 1, .var 2]), .ret (.call 330 [.var 2])]⟩
def c_whole_in_1 : E := .cmp .inn (.var 1) (.str [48, 49, 50, 51, 52, 53, 54, 55, 56, 57])
def b_whole_in : Df := ⟨1, 2, [.ife (.or (.cmp .eq (.var 0) (.str [])) (.or (.cmp .gt (.bi .len [.var 0]) (.glb 4)) (.not (.bi .all [.lc c_whole_in_1 (.v 1) .plain [.var 0] .nop [1]])))) [.ret .non] [], .ret (.ite (.and (.cmp .eq (.sub (.var 0) (.int 0)) (.str [48])) (.cmp .ne (.var 0) (.str [48]))) .non (.bi .int [.var 0]))]⟩
def c_item_in_1 : E := .call 332 [.var 6]
def b_item_in : Df := ⟨1, 7, [.asg (.tup [.v 1, .v 2, .v 3]) (.mth .partition (.var 0) [.str [58, 32]]), .par [4, 5] [.call 332 [.var 1], .lc c_item_in_1 (.v 6) .plain [.mth .split (.var 3) [.str [32]]] .nop [6]], .ife (.or (.cmp .eq (.var 2) (.str [])) (.or (.isn (.var 4)) (.cmp .inn .non (.var 5)))) [.ret .non] [], .ret (.tup [.bi .tuple [.var 5], .var 4])]⟩
def l_read_load_1 : List S := [.asg (.v 6) (.call 333 [.var 5]), .ife (.or (.isn (.var 6)) (.not (.call 226 [.var 6, .var 0, .var 1]))) [.nev] [], .app 3 (.var 6)]
def b_read_load : Df := ⟨3, 7, [.exp (.call 24 [.var 0, .var 1]), .ife (.not (.isi (.var 2) .tstr)) [.nev] [], .asg (.v 3) (.lst []), .for_ (.tup [.v 4, .v 5]) .enm [.mth .split (.var 2) [.str [59, 32]]] l_read_load_1, .ife (.cmp .gt (.bi .len [.var 3]) (.glb 9)) [.nev] [], .ret (.var 3)]⟩
def b_law_bag : Df := ⟨1, 1, [.ret (.lst [.bi .max [.int 0, .bin .sub (.var 0) (.bin .pow (.int 10) (.int 18))], .var 0, .int 0])]⟩
def b_law_pick : Df := ⟨2, 8, [.set 0 (.int 2) (.bin .add (.sub (.var 0) (.int 2)) (.int 1)), .ife (.cmp .gt (.sub (.var 0) (.int 0)) (.int 0)) [.asg (.v 5) (.bin .mod (.bi .int [.sub (.var 0) (.int 0)]) (.var 1)), .set 0 (.int 0) (.bin .fdiv (.bi .int [.sub (.var 0) (.int 0)]) (.var 1)), .ret (.var 5)] [], .par [6, 7] [.bi .int [.sub (.var 0) (.int 1)], .bi .int [.sub (.var 0) (.int 2)]], .asg (.v 2) (.bin .mod (.bi .int [.bin .add (.bin .add (.bin .mul (.bin .mod (.var 6) (.int 2147483629)) (.int 48271)) (.bin .mul (.var 7) (.int 69621))) (.int 12345)]) (.int 2147483647)), .asg (.v 3) (.bin .mod (.bi .int [.bin .add (.bin .mul (.var 2) (.var 2)) (.bin .mul (.var 7) (.int 40692))]) (.int 2147483587)), .asg (.v 4) (.bin .fdiv (.bi .int [.bin .add (.bin .mul (.var 2) (.int 2147483587)) (.var 3)]) (.int 32)), .ife (.cmp .gt (.var 1) (.bin .pow (.int 10) (.int 15))) [.asg (.v 4) (.bin .add (.bin .pow (.var 4) (.int 8)) (.var 3))] [], .ret (.bin .mod (.bi .int [.var 4]) (.var 1))]⟩
def b_law_box_3 : Df := ⟨3, 5, [.par [3, 4] [.call 133 [.var 0, .bin .shl (.int 1) (.var 1)], .call 133 [.var 0, .bin .shl (.int 1) (.var 2)]], .ret (.tup [.var 3, .var 4, .bin .add (.var 3) (.call 133 [.var 0, .bin .sub (.bin .shl (.int 1) (.var 1)) (.var 3)]), .bin .add (.var 4) (.call 133 [.var 0, .bin .sub (.bin .shl (.int 1) (.var 2)) (.var 4)])])]⟩
def c_law_text_1 : E := .bi .str [.var 3]
def c_law_text_2 : E := .bin .add (.bin .add (.bi .str [.var 2]) (.str [58, 32])) (.mth .join (.str [32]) [.lc c_law_text_1 (.v 3) .plain [.var 1] .nop [3]])
def b_law_text : Df := ⟨1, 4, [.ret (.mth .join (.str [59, 32]) [.lc c_law_text_2 (.tup [.v 1, .v 2]) .plain [.var 0] .nop [1, 2]])]⟩
def l_law_37_1 : List S := [.app 4 (.tup [.call 342 [.var 2, .var 7, .var 8], .bin .add (.int 1) (.call 133 [.var 2, .sub (.lst [.int 9, .bin .pow (.int 10) (.int 30)]) (.call 133 [.var 2, .int 2])])])]
def l_law_37_2 : List S := [.par [7, 8] [.call 133 [.var 2, .bin .add (.var 3) (.int 1)], .bin .add (.int 1) (.call 133 [.var 2, .var 3])], .asg (.v 4) (.lst []), .for_ (.v 5) .rng [.bin .add (.int 1) (.call 133 [.var 2, .sub (.lst [.int 3, .int 20]) (.call 133 [.var 2, .int 2])])] l_law_37_1, .par [9, 10] [.bi .list [.var 4], .call 343 [.var 4]], .ife (.or (.cmp .ne (.call 331 [.var 7, .var 8, .var 4]) (.var 10)) (.cmp .ne (.var 4) (.var 9))) [.ret (.bl false)] [], .asg (.v 6) (.call 334 [.var 7, .var 8, .var 10]), .ife (.or (.cmp .ne (.var 6) (.var 9)) (.cmp .ne (.cbr 331 [.var 7, .var 8, .var 6]) (.var 10))) [.ret (.bl false)] [], .app 6 .non, .ife (.cmp .ne (.call 334 [.var 7, .var 8, .var 10]) (.var 9)) [.ret (.bl false)] []]
def l_law_37_3 : List S := [.asg (.v 2) (.call 132 [.var 1]), .for_ (.v 3) .plain [.tup [.int 3, .int 100]] l_law_37_2]
def b_law_37 : Df := ⟨1, 11, [.for_ (.v 1) .plain [.bin .add (.slc (.var 0) .nop (.int 8)) (.lst [.int 0])] l_law_37_3, .ife (.cmp .ne (.call 331 [.int 1, .int 0, .lst [.tup [.tup [.int 0, .int 0, .int 1, .int 0], .bin .pow (.int 10) (.int 30)]]]) (.bin .add (.bi .str [.bin .pow (.int 10) (.int 30)]) (.str [58, 32, 48, 32, 48, 32, 49, 32, 48]))) [.ret (.bl false)] [], .ife (.cmp .ne (.call 334 [.int 1, .int 0, .bin .add (.bi .str [.bin .pow (.int 10) (.int 30)]) (.str [58, 32, 48, 32, 48, 32, 49, 32, 48])]) (.lst [.tup [.tup [.int 0, .int 0, .int 1, .int 0], .bin .pow (.int 10) (.int 30)]])) [.ret (.bl false)] [], .ret (.cmp .eq (.call 334 [.int 2, .int 2, .str [49, 58, 32, 48, 32, 48, 32, 50, 32, 50, 59, 32, 50, 58, 32, 49, 32, 48, 32, 50, 32, 51]]) (.lst [.tup [.tup [.int 0, .int 0, .int 2, .int 2], .int 1], .tup [.tup [.int 1, .int 0, .int 2, .int 3], .int 2]]))]⟩
def c_require_cell_1 : E := .call 1 [.var 3]
def b_require_cell : Df := ⟨3, 4, [.ife (.or (.not (.isi (.var 2) .ttuple)) (.or (.cmp .ne (.bi .len [.var 2]) (.int 2)) (.not (.bi .all [.lc c_require_cell_1 (.v 3) .plain [.var 2] .nop [3]])))) [.rse 13] [], .ife (.or (.not (.ch2 (.int 0) .le (.sub (.var 2) (.int 0)) .lt (.bin .shl (.int 1) (.var 0)))) (.not (.ch2 (.int 0) .le (.sub (.var 2) (.int 1)) .lt (.bin .shl (.int 1) (.var 1))))) [.rse 13] []]⟩
def b_require_key : Df := ⟨3, 3, [.ife (.not (.call 2 [.var 2, .int 0, .bin .sub (.bin .shl (.int 1) (.bin .add (.var 0) (.var 1))) (.int 1)])) [.rse 14] []]⟩
def l_feet_of_1 : List S := [.app 2 (.tup [.var 1, .var 3, .var 4]), .ife (.cmp .eq (.var 1) (.str [120])) [.aug 3 .add (.int 1)] [.aug 4 .add (.int 1)]]
def b_feet_of : Df := ⟨1, 5, [.par [2, 3, 4] [.lst [], .int 0, .int 0], .for_ (.v 1) .plain [.rev (.var 0)] l_feet_of_1, .ret (.var 2)]⟩
def l_key_of_1 : List S := [.asg (.v 5) (.ite (.cmp .eq (.var 6) (.str [120])) (.bin .band (.bin .shr (.var 1) (.var 7)) (.int 1)) (.bin .band (.bin .shr (.var 2) (.var 8)) (.int 1))), .aug 3 .bor (.bin .shl (.var 5) (.var 4))]
def b_key_of : Df := ⟨3, 9, [.asg (.v 3) (.int 0), .for_ (.tup [.v 4, .tup [.v 6, .v 7, .v 8]]) .enm [.call 5 [.var 0]] l_key_of_1, .ret (.var 3)]⟩
def l_cell_of_1 : List S := [.asg (.v 5) (.bin .band (.bin .shr (.var 1) (.var 4)) (.int 1)), .ife (.cmp .eq (.var 6) (.str [120])) [.aug 2 .bor (.bin .shl (.var 5) (.var 7))] [.aug 3 .bor (.bin .shl (.var 5) (.var 8))]]
def b_cell_of : Df := ⟨2, 9, [.asg (.tup [.v 2, .v 3]) (.tup [.int 0, .int 0]), .for_ (.tup [.v 4, .tup [.v 6, .v 7, .v 8]]) .enm [.call 5 [.var 0]] l_cell_of_1, .ret (.tup [.var 2, .var 3])]⟩
def c_Layout___init_1 : E := .cmp .inn (.var 2) (.tup [.str [120], .str [121]])
def b_Layout___init : Df := ⟨2, 3, [.ife (.or (.not (.isi (.var 1) .tstr)) (.or (.cmp .eq (.var 1) (.str [])) (.not (.bi .all [.lc c_Layout___init_1 (.v 2) .plain [.var 1] .nop [2]])))) [.rse 10] [], .ife (.or (.cmp .gt (.mth .count (.var 1) [.str [120]]) (.glb 2)) (.cmp .gt (.mth .count (.var 1) [.str [121]]) (.glb 2))) [.rse 10] [], .fld 0 (Str.ofString "own_word") (.var 1)]⟩
def b_Layout_word : Df := ⟨1, 1, [.ret (.att (.var 0) (Str.ofString "own_word"))]⟩
def b_Layout_x_bits : Df := ⟨1, 1, [.ret (.mth .count (.att (.var 0) (Str.ofString "own_word")) [.str [120]])]⟩
def b_Layout_y_bits : Df := ⟨1, 1, [.ret (.mth .count (.att (.var 0) (Str.ofString "own_word")) [.str [121]])]⟩
def b_Layout_key : Df := ⟨2, 2, [.exp (.call 3 [.prp 10 (.var 0), .prp 11 (.var 0), .var 1]), .ret (.call 6 [.att (.var 0) (Str.ofString "own_word"), .sub (.var 1) (.int 0), .sub (.var 1) (.int 1)])]⟩
def b_Layout_cell : Df := ⟨2, 2, [.exp (.call 4 [.prp 10 (.var 0), .prp 11 (.var 0), .var 1]), .ret (.call 7 [.att (.var 0) (Str.ofString "own_word"), .var 1])]⟩
def b_law_wound : Df := ⟨2, 3, [.asg (.v 2) (.int 0), .ife (.cmp .lt (.var 1) (.bi .len [.var 0])) [.asg (.v 2) (.sub (.var 0) (.var 1))] [], .ret (.lst [.bi .max [.int 0, .bin .sub (.var 2) (.bin .pow (.int 10) (.int 18))], .bin .add (.bin .add (.bin .mul (.bin .mod (.bi .int [.var 2]) (.bin .add (.bin .pow (.int 10) (.int 38)) (.int 133))) (.int 67)) (.bin .mul (.int 141650939) (.var 1))) (.int 23), .int 0])]⟩
def b_law_spin : Df := ⟨2, 4, [.ife (.cmp .gt (.sub (.var 0) (.int 0)) (.int 0)) [.asg (.v 3) (.bin .mod (.bi .int [.sub (.var 0) (.int 0)]) (.var 1)), .set 0 (.int 0) (.bin .fdiv (.sub (.var 0) (.int 0)) (.var 1)), .ret (.var 3)] [], .set 0 (.int 2) (.bin .add (.sub (.var 0) (.int 2)) (.int 1)), .asg (.v 2) (.bin .mod (.bi .int [.bin .pow (.bin .add (.sub (.var 0) (.int 1)) (.bin .mul (.int 86028121) (.sub (.var 0) (.int 2)))) (.int 3)]) (.bin .add (.bin .pow (.int 10) (.int 42)) (.int 63))), .asg (.v 2) (.bin .mod (.bi .int [.bin .pow (.bin .add (.var 2) (.bin .mul (.int 67867967) (.sub (.var 0) (.int 2)))) (.int 3)]) (.bin .add (.bin .pow (.int 10) (.int 44)) (.int 57))), .ret (.bin .mod (.bi .int [.bin .fdiv (.var 2) (.int 655331)]) (.var 1))]⟩
def c_law_drawn_word_1 : E := .cmp .ne (.var 4) (.lst [.int 0, .int 0])
def l_law_drawn_word_1 : List S := [.asg (.v 6) (.sub (.lst [.call 16 [.var 0, .int 2], .bin .mod (.bi .len [.var 5]) (.int 2), .call 16 [.var 0, .int 2]]) (.var 3)), .ife (.cmp .eq (.sub (.var 4) (.var 6)) (.int 0)) [.asg (.v 6) (.bin .sub (.int 1) (.var 6))] [], .asg (.v 7) (.sub (.lst [.int 1, .int 1, .bin .add (.int 1) (.call 16 [.var 0, .sub (.var 4) (.var 6)])]) (.var 3)), .asg (.v 5) (.bin .add (.var 5) (.bin .mul (.sub (.str [120, 121]) (.var 6)) (.var 7))), .set 4 (.var 6) (.bin .sub (.sub (.var 4) (.var 6)) (.var 7))]
def b_law_drawn_word : Df := ⟨3, 8, [.par [4, 5] [.lst [.call 16 [.var 0, .bin .add (.var 1) (.int 1)], .call 16 [.var 0, .bin .add (.var 2) (.int 1)]], .str []], .ife (.cmp .eq (.var 4) (.lst [.int 0, .int 0])) [.asg (.v 4) (.lst [.int 1, .int 0])] [], .asg (.v 3) (.call 16 [.var 0, .int 3]), .whl c_law_drawn_word_1 l_law_drawn_word_1, .ret (.var 5)]⟩
def l_law_power_1 : List S := [.asg (.v 1) (.bin .mul (.int 2) (.var 1))]
def b_law_power : Df := ⟨1, 3, [.asg (.v 1) (.int 1), .for_ (.v 2) .rng [.var 0] l_law_power_1, .ret (.var 1)]⟩
def l_law_key_of_1 : List S := [.ife (.cmp .eq (.var 3) (.str [120])) [.par [4, 1] [.bin .add (.var 4) (.bin .mul (.var 5) (.bin .mod (.bi .int [.var 1]) (.int 2))), .bin .fdiv (.var 1) (.int 2)]] [.par [4, 2] [.bin .add (.var 4) (.bin .mul (.var 5) (.bin .mod (.bi .int [.var 2]) (.int 2))), .bin .fdiv (.var 2) (.int 2)]], .asg (.v 5) (.bin .mul (.int 2) (.var 5))]
def b_law_key_of : Df := ⟨3, 6, [.asg (.tup [.v 4, .v 5]) (.tup [.int 0, .int 1]), .for_ (.v 3) .plain [.rev (.var 0)] l_law_key_of_1, .ret (.var 4)]⟩
def c_law_right_1 : E := .tup [.call 16 [.var 0, .var 9], .call 16 [.var 0, .var 10]]
def l_law_right_1 : List S := [.asg (.v 4) (.call 19 [.var 2, .var 11, .var 12]), .ife (.or (.cmp .ne (.bi .repr [.umt 13 (.var 6) [.tup [.var 11, .var 12]]]) (.bi .repr [.var 4])) (.cmp .ne (.bi .repr [.umt 14 (.var 6) [.var 4]]) (.bi .repr [.tup [.var 11, .var 12]]))) [.ret (.bl false)] []]
def l_law_right_2 : List S := [.asg (.v 15) (.bi .int [.cmp .eq (.var 14) (.str [121])]), .ife (.cmp .ne (.call 20 [.sub (.lst [.var 11, .var 12]) (.var 15), .sub (.var 5) (.var 15)]) (.call 20 [.var 4, .var 13])) [.ret (.bl false)] [], .set 5 (.var 15) (.bin .add (.sub (.var 5) (.var 15)) (.int 1))]
def c_law_right_2 : E := .var 17
def c_law_right_3 : E := .cmp .eq (.var 6) (.var 17)
def b_law_right : Df := ⟨2, 18, [.asg (.v 2) (.call 17 [.var 0, .var 1, .sub (.lst [.var 1, .int 2]) (.call 16 [.var 0, .int 2])]), .parT [6, 7, 8] [.new 0 [.var 2], .mth .count (.var 2) [.str [120]], .mth .count (.var 2) [.str [121]]], .ife (.cmp .ne (.bi .repr [.lst [.prp 9 (.var 6), .prp 10 (.var 6), .prp 11 (.var 6)]]) (.bi .repr [.lst [.var 2, .var 7, .var 8]])) [.ret (.bl false)] [], .parT [9, 10] [.call 18 [.var 7], .call 18 [.var 8]], .asg (.v 3) (.lst [.tup [.int 0, .int 0], .tup [.bin .sub (.var 9) (.int 1), .bin .sub (.var 10) (.int 1)], .tup [.bin .sub (.var 9) (.int 1), .int 0], .tup [.int 0, .bin .sub (.var 10) (.int 1)]]), .asg (.v 3) (.bin .add (.var 3) (.lc c_law_right_1 (.v 16) .rng [.int 4] .nop [16])), .for_ (.tup [.v 11, .v 12]) .plain [.var 3] l_law_right_1, .asg (.v 4) (.call 16 [.var 0, .bin .mul (.var 9) (.var 10)]), .asg (.tup [.v 11, .v 12]) (.umt 14 (.var 6) [.var 4]), .asg (.v 5) (.lst [.int 0, .int 0]), .for_ (.tup [.v 13, .v 14]) .enm [.rev (.var 2)] l_law_right_2, .ife (.or (.not (.ch2 (.int 0) .le (.var 11) .lt (.var 9))) (.or (.not (.ch2 (.int 0) .le (.var 12) .lt (.var 10))) (.cmp .ne (.umt 13 (.var 6) [.tup [.var 11, .var 12]]) (.var 4)))) [.ret (.bl false)] [], .ife (.or (.not (.cmp .eq (.var 6) (.new 0 [.var 2]))) (.or (.cmp .ne (.var 6) (.new 0 [.var 2])) (.cmp .ne (.cmp .eq (.var 6) (.new 0 [.rev (.var 2)])) (.cmp .eq (.var 2) (.rev (.var 2)))))) [.ret (.bl false)] [], .ife (.and (.cmp .lt (.mth .count (.var 2) [.str [120]]) (.int 100)) (.cmp .eq (.var 6) (.new 0 [.bin .add (.var 2) (.str [120])]))) [.ret (.bl false)] [], .ret (.cmp .eq (.lc c_law_right_2 (.v 17) .plain [.tup [.non, .var 2, .int 0, .lst [.var 6], .tup [.var 2]]] c_law_right_3 [17]) (.lst []))]⟩
def l_law_1 : List S := [.ife (.not (.call 21 [.var 3, .var 4])) [.ret (.bl false)] []]
def l_law_2 : List S := [.asg (.v 3) (.call 15 [.var 0, .var 1]), .for_ (.v 4) .plain [.lst [.int 3, .int 10, .sub (.lst [.int 20, .int 100]) (.bi .int [.cmp .eq (.var 1) (.int 0)])]] l_law_1, .ife (.not (.call 22 [.var 3])) [.ret (.bl false)] []]
def b_law : Df := ⟨1, 5, [.for_ (.v 1) .rng [.bi .max [.int 1, .bi .min [.int 6, .bi .len [.var 0]]]] l_law_2, .asg (.v 2) (.new 0 [.str [121, 120, 121, 120]]), .ret (.cmp .eq (.lst [.umt 13 (.var 2) [.tup [.int 2, .int 1]], .umt 14 (.var 2) [.int 9], .umt 13 (.new 0 [.str [120]]) [.tup [.int 1, .int 0]], .umt 14 (.new 0 [.str [121, 121, 121]]) [.int 5]]) (.lst [.int 6, .tup [.int 1, .int 2], .int 1, .tup [.int 0, .int 5]]))]⟩
def b_rows : Df := ⟨2, 2, [.exp (.call 24 [.var 0, .var 1]), .ret (.new 0 [.bin .add (.bin .mul (.str [121]) (.var 1)) (.bin .mul (.str [120]) (.var 0))])]⟩
def b_columns : Df := ⟨2, 2, [.exp (.call 24 [.var 0, .var 1]), .ret (.new 0 [.bin .add (.bin .mul (.str [120]) (.var 0)) (.bin .mul (.str [121]) (.var 1))])]⟩
def b_laced : Df := ⟨2, 3, [.exp (.call 24 [.var 0, .var 1]), .asg (.v 2) (.bi .min [.var 0, .var 1]), .ret (.new 0 [.bin .add (.bin .add (.bin .mul (.str [120]) (.bin .sub (.var 0) (.var 2))) (.bin .mul (.str [121]) (.bin .sub (.var 1) (.var 2)))) (.bin .mul (.str [121, 120]) (.var 2))])]⟩
def b_tiled : Df := ⟨4, 4, [.exp (.call 24 [.var 0, .var 1]), .ife (.or (.not (.call 2 [.var 2, .int 0, .var 0])) (.not (.call 2 [.var 3, .int 0, .var 1]))) [.rse 12] [], .ret (.new 0 [.bin .add (.bin .add (.bin .add (.bin .mul (.str [121]) (.bin .sub (.var 1) (.var 3))) (.bin .mul (.str [120]) (.bin .sub (.var 0) (.var 2)))) (.bin .mul (.str [121]) (.var 3))) (.bin .mul (.str [120]) (.var 2))])]⟩
def b_require_layout : Df := ⟨1, 1, [.ife (.not (.isi (.var 0) (.cls 0))) [.rse 11] []]⟩
def b_require_box : Df := ⟨3, 3, [.ife (.not (.call 44 [.var 2, .var 0, .var 1])) [.rse 15] []]⟩
def b_area_of : Df := ⟨1, 1, [.ret (.bin .mul (.bin .add (.bin .sub (.sub (.var 0) (.int 2)) (.sub (.var 0) (.int 0))) (.int 1)) (.bin .add (.bin .sub (.sub (.var 0) (.int 3)) (.sub (.var 0) (.int 1))) (.int 1)))]⟩
def b_multiples : Df := ⟨3, 3, [.ret (.bi .max [.int 0, .bin .sub (.bin .shr (.var 2) (.var 0)) (.bin .shr (.bin .sub (.var 1) (.int 1)) (.var 0))])]⟩
def b_odd_multiples : Df := ⟨3, 3, [.ret (.bin .sub (.call 48 [.var 0, .var 1, .var 2]) (.call 48 [.bin .add (.var 0) (.int 1), .var 1, .var 2]))]⟩
def b_aligned : Df := ⟨3, 3, [.ret (.call 48 [.var 0, .var 1, .bin .add (.bin .sub (.var 2) (.bin .shl (.int 1) (.var 0))) (.int 1)])]⟩
def b_inner_odd : Df := ⟨3, 3, [.ret (.call 49 [.var 0, .bin .add (.var 1) (.int 1), .var 2])]⟩
def b_box_saves : Df := ⟨4, 4, [.ife (.cmp .eq (.var 1) (.str [120])) [.ret (.bin .mul (.call 51 [.var 2, .sub (.var 0) (.int 0), .sub (.var 0) (.int 2)]) (.call 50 [.var 3, .sub (.var 0) (.int 1), .sub (.var 0) (.int 3)]))] [], .ret (.bin .mul (.call 51 [.var 3, .sub (.var 0) (.int 1), .sub (.var 0) (.int 3)]) (.call 50 [.var 2, .sub (.var 0) (.int 0), .sub (.var 0) (.int 2)]))]⟩
def c_runs_in_1 : E := .call 52 [.var 1, .var 2, .var 3, .var 4]
def b_runs_in : Df := ⟨2, 5, [.ret (.bin .sub (.call 47 [.var 1]) (.bi .sum [.lc c_runs_in_1 (.tup [.v 2, .v 3, .v 4]) .plain [.call 5 [.var 0]] .nop [2, 3, 4]]))]⟩
def b_count_runs : Df := ⟨2, 2, [.exp (.call 45 [.var 0]), .exp (.call 46 [.prp 10 (.var 0), .prp 11 (.var 0), .var 1]), .ret (.call 53 [.prp 9 (.var 0), .var 1])]⟩
def b_ends : Df := ⟨2, 2, [.exp (.call 45 [.var 0]), .exp (.call 46 [.prp 10 (.var 0), .prp 11 (.var 0), .var 1]), .ret (.tup [.call 6 [.prp 9 (.var 0), .sub (.var 1) (.int 0), .sub (.var 1) (.int 1)], .call 6 [.prp 9 (.var 0), .sub (.var 1) (.int 2), .sub (.var 1) (.int 3)]])]⟩
def l_law_drawn_box_1 : List S := [.asg (.v 4) (.call 18 [.mth .count (.var 1) [.var 3]]), .asg (.v 5) (.sub (.lst [.call 16 [.var 0, .var 4], .int 0]) (.bi .int [.cmp .eq (.call 16 [.var 0, .int 4]) (.int 0)])), .asg (.v 6) (.bi .min [.bin .sub (.var 4) (.int 1), .bin .add (.var 5) (.call 16 [.var 0, .int 4])]), .app 2 (.tup [.var 5, .sub (.lst [.bin .add (.var 5) (.call 16 [.var 0, .bin .sub (.var 4) (.var 5)]), .bin .sub (.var 4) (.int 1), .var 5, .var 6]) (.call 16 [.var 0, .int 4])])]
def b_law_drawn_box : Df := ⟨2, 7, [.asg (.v 2) (.lst []), .for_ (.v 3) .plain [.str [120, 121]] l_law_drawn_box_1, .ret (.tup [.sub (.sub (.var 2) (.int 0)) (.int 0), .sub (.sub (.var 2) (.int 1)) (.int 0), .sub (.sub (.var 2) (.int 0)) (.int 1), .sub (.sub (.var 2) (.int 1)) (.int 1)])]⟩
def c_law_listed_keys_1 : E := .call 19 [.var 0, .var 3, .var 4]
def l_law_listed_keys_1 : List S := [.asg (.v 2) (.bin .add (.var 2) (.lc c_law_listed_keys_1 (.v 4) .rng [.sub (.var 1) (.int 1), .bin .add (.sub (.var 1) (.int 3)) (.int 1)] .nop [4]))]
def b_law_listed_keys : Df := ⟨2, 5, [.asg (.v 2) (.lst []), .for_ (.v 3) .rng [.sub (.var 1) (.int 0), .bin .add (.sub (.var 1) (.int 2)) (.int 1)] l_law_listed_keys_1, .ret (.bi .sorted [.var 2])]⟩
def l_law_stretches_1 : List S := [.ife (.and (.cmp .ne (.var 1) (.lst [])) (.cmp .eq (.sub (.sub (.var 1) (.neg (.int 1))) (.int 1)) (.bin .sub (.var 2) (.int 1)))) [.set 1 (.neg (.int 1)) (.tup [.sub (.sub (.var 1) (.neg (.int 1))) (.int 0), .var 2])] [.app 1 (.tup [.var 2, .var 2])]]
def b_law_stretches : Df := ⟨1, 3, [.asg (.v 1) (.lst []), .for_ (.v 2) .plain [.var 0] l_law_stretches_1, .ret (.var 1)]⟩
def l_law_right_3_1 : List S := [.asg (.v 6) (.call 56 [.var 0, .var 2]), .asg (.v 7) (.call 57 [.var 2, .var 6]), .ife (.cmp .ne (.bi .repr [.call 54 [.var 3, .var 6]]) (.bi .repr [.bi .len [.call 58 [.var 7]]])) [.ret (.bl false)] [], .ife (.cmp .ne (.bi .repr [.call 55 [.var 3, .var 6]]) (.bi .repr [.tup [.sub (.var 7) (.int 0), .sub (.var 7) (.neg (.int 1))]])) [.ret (.bl false)] []]
def b_law_right_3 : Df := ⟨2, 8, [.asg (.v 2) (.call 17 [.var 0, .var 1, .sub (.lst [.var 1, .int 3]) (.call 16 [.var 0, .int 2])]), .asg (.v 3) (.new 0 [.var 2]), .for_ (.v 4) .rng [.int 4] l_law_right_3_1, .asg (.v 5) (.tup [.int 0, .int 0, .bin .sub (.call 18 [.mth .count (.var 2) [.str [120]]]) (.int 1), .bin .sub (.call 18 [.mth .count (.var 2) [.str [121]]]) (.int 1)]), .ret (.and (.cmp .eq (.call 54 [.var 3, .var 5]) (.int 1)) (.cmp .eq (.call 55 [.var 3, .var 5]) (.tup [.int 0, .bin .sub (.call 18 [.bi .len [.var 2]]) (.int 1)])))]⟩
def c_saved_1 : E := .call 52 [.var 1, .var 2, .var 3, .var 4]
def b_saved : Df := ⟨2, 5, [.exp (.call 45 [.var 0]), .exp (.call 46 [.prp 10 (.var 0), .prp 11 (.var 0), .var 1]), .ret (.lc c_saved_1 (.tup [.v 2, .v 3, .v 4]) .plain [.rev (.call 5 [.prp 9 (.var 0)])] .nop [2, 3, 4])]⟩
def c_law_rank_1 : E := .cmp .eq (.bin .mod (.bi .int [.var 0]) (.int 2)) (.int 0)
def l_law_rank_1 : List S := [.par [0, 1] [.bin .fdiv (.var 0) (.int 2), .bin .add (.var 1) (.int 1)]]
def b_law_rank : Df := ⟨1, 2, [.asg (.v 1) (.int 0), .whl c_law_rank_1 l_law_rank_1, .ret (.var 1)]⟩
def l_law_right_4_1 : List S := [.ife (.cmp .eq (.var 9) (.bin .sub (.var 10) (.int 1))) [.asg (.v 11) (.bin .sub (.bin .sub (.bi .len [.var 2]) (.int 1)) (.call 62 [.var 10])), .set 8 (.var 11) (.bin .add (.sub (.var 8) (.var 11)) (.int 1))] []]
def l_law_right_4_2 : List S := [.asg (.v 5) (.call 56 [.var 0, .var 2]), .par [7, 8] [.call 57 [.var 2, .var 5], .bin .mul (.lst [.int 0]) (.bi .len [.var 2])], .for_ (.tup [.v 9, .v 10]) .zip [.var 7, .slc (.var 7) (.int 1) .nop] l_law_right_4_1, .asg (.v 6) (.call 61 [.var 3, .var 5]), .ife (.or (.cmp .ne (.bi .repr [.var 6]) (.bi .repr [.var 8])) (.cmp .ne (.bin .sub (.bi .len [.var 7]) (.bi .sum [.var 6])) (.call 54 [.var 3, .var 5]))) [.ret (.bl false)] [], .app 6 (.int 1), .ife (.cmp .ne (.call 61 [.var 3, .var 5]) (.var 8)) [.ret (.bl false)] []]
def b_law_right_4 : Df := ⟨2, 12, [.asg (.v 2) (.call 17 [.var 0, .var 1, .sub (.lst [.var 1, .int 3]) (.call 16 [.var 0, .int 2])]), .asg (.v 3) (.new 0 [.var 2]), .for_ (.v 4) .rng [.int 3] l_law_right_4_2, .ret (.bl true)]⟩
def b_require_cell_of : Df := ⟨4, 4, [.exp (.call 3 [.var 0, .var 1, .var 3]), .ife (.or (.not (.ch2 (.sub (.var 2) (.int 0)) .le (.sub (.var 3) (.int 0)) .le (.sub (.var 2) (.int 2)))) (.not (.ch2 (.sub (.var 2) (.int 1)) .le (.sub (.var 3) (.int 1)) .le (.sub (.var 2) (.int 3))))) [.rse 13] []]⟩
def c_forms_of_1 : E := .tup [.var 2, .var 3]
def b_forms_of : Df := ⟨1, 4, [.ret (.lstS 1 [.lc c_forms_of_1 (.tup [.v 1, .v 2, .v 3]) .plain [.call 5 [.var 0]] .nop [1, 2, 3], .tup [.mth .count (.var 0) [.str [120]], .mth .count (.var 0) [.str [121]]]])]⟩
def c_blocks_within_1 : E := .bin .mul (.call 50 [.var 2, .sub (.var 1) (.int 0), .sub (.var 1) (.int 2)]) (.call 50 [.var 3, .sub (.var 1) (.int 1), .sub (.var 1) (.int 3)])
def b_blocks_within : Df := ⟨2, 4, [.ret (.lc c_blocks_within_1 (.tup [.v 2, .v 3]) .plain [.call 125 [.var 0]] .nop [2, 3])]⟩
def b_blocks_in : Df := ⟨2, 3, [.asg (.v 2) (.call 126 [.var 0, .var 1]), .ret (.bin .sub (.sub (.var 2) (.int 0)) (.bi .sum [.slc (.var 2) (.int 1) .nop]))]⟩
def b_require_layout_and_box : Df := ⟨2, 2, [.exp (.call 45 [.var 0]), .exp (.call 46 [.prp 10 (.var 0), .prp 11 (.var 0), .var 1])]⟩
def b_count_blocks : Df := ⟨2, 2, [.exp (.call 128 [.var 0, .var 1]), .ret (.call 127 [.prp 9 (.var 0), .var 1])]⟩
def b_is_within : Df := ⟨5, 7, [.par [5, 6] [.bin .shl (.bin .shr (.var 1) (.var 3)) (.var 3), .bin .shl (.bin .shr (.var 2) (.var 4)) (.var 4)], .ife (.or (.cmp .lt (.var 5) (.sub (.var 0) (.int 0))) (.cmp .lt (.var 6) (.sub (.var 0) (.int 1)))) [.ret (.bl false)] [], .ret (.and (.cmp .le (.bin .sub (.bin .add (.var 5) (.bin .shl (.int 1) (.var 3))) (.int 1)) (.sub (.var 0) (.int 2))) (.cmp .le (.bin .sub (.bin .add (.var 6) (.bin .shl (.int 1) (.var 4))) (.int 1)) (.sub (.var 0) (.int 3))))]⟩
def l_block_of_1 : List S := [.ife (.call 130 [.var 1, .sub (.var 2) (.int 0), .sub (.var 2) (.int 1), .var 6, .var 7]) [.asg (.v 3) (.var 5)] []]
def b_block_of : Df := ⟨3, 8, [.exp (.call 128 [.var 0, .var 1]), .exp (.call 93 [.prp 10 (.var 0), .prp 11 (.var 0), .var 1, .var 2]), .asg (.v 3) (.int 0), .for_ (.tup [.v 5, .tup [.v 6, .v 7]]) .enm [.call 125 [.prp 9 (.var 0)]] l_block_of_1, .asg (.v 4) (.bin .shl (.bin .shr (.call 6 [.prp 9 (.var 0), .sub (.var 2) (.int 0), .sub (.var 2) (.int 1)]) (.var 3)) (.var 3)), .ret (.tup [.var 4, .bin .sub (.bin .add (.var 4) (.bin .shl (.int 1) (.var 3))) (.int 1)])]⟩
def c_law_word_1 : E := .cmp .gt (.bi .sum [.var 4]) (.int 0)
def l_law_word_1 : List S := [.ife (.cmp .eq (.var 3) (.int 0)) [.asg (.v 7) (.bi .int [.cmp .ge (.call 133 [.var 0, .bi .sum [.var 4]]) (.sub (.var 4) (.int 0))])] [.ife (.cmp .eq (.var 3) (.int 1)) [.asg (.v 7) (.bi .int [.cmp .ge (.sub (.var 4) (.int 1)) (.sub (.var 4) (.int 0))])] [.asg (.v 7) (.call 133 [.var 0, .int 2])]], .asg (.v 6) (.bi .min [.sub (.var 4) (.var 7), .bin .add (.int 1) (.bin .mul (.call 133 [.var 0, .int 60]) (.bi .int [.cmp .eq (.var 3) (.int 2)]))]), .asg (.v 5) (.bin .add (.var 5) (.bin .mul (.sub (.str [120, 121]) (.var 7)) (.var 6))), .set 4 (.var 7) (.bin .sub (.sub (.var 4) (.var 7)) (.var 6))]
def b_law_word : Df := ⟨3, 8, [.par [3, 4, 5] [.call 133 [.var 0, .int 3], .lst [.var 1, .var 2], .str []], .whl c_law_word_1 l_law_word_1, .ret (.var 5)]⟩
def b_law_bits : Df := ⟨2, 4, [.par [2, 3] [.call 133 [.var 0, .bin .add (.var 1) (.int 1)], .call 133 [.var 0, .bin .add (.var 1) (.int 1)]], .ret (.ite (.cmp .gt (.bin .add (.var 2) (.var 3)) (.int 0)) (.tup [.var 2, .var 3]) (.tup [.int 1, .var 1]))]⟩
def l_law_key_1 : List S := [.ife (.cmp .eq (.var 3) (.str [120])) [.asg (.v 5) (.bin .sub (.var 5) (.int 1)), .asg (.v 4) (.bin .add (.bin .mul (.int 2) (.var 4)) (.bin .band (.bin .shr (.var 1) (.var 5)) (.int 1)))] [.asg (.v 6) (.bin .sub (.var 6) (.int 1)), .asg (.v 4) (.bin .add (.bin .mul (.int 2) (.var 4)) (.bin .band (.bin .shr (.var 2) (.var 6)) (.int 1)))]]
def b_law_key : Df := ⟨3, 7, [.par [4, 5, 6] [.int 0, .mth .count (.var 0) [.str [120]], .mth .count (.var 0) [.str [121]]], .for_ (.v 3) .plain [.var 0] l_law_key_1, .ret (.var 4)]⟩
def l_law_cell_1 : List S := [.ife (.cmp .eq (.var 7) (.str [120])) [.par [2, 4] [.bin .add (.var 2) (.bin .shl (.bin .band (.bin .shr (.var 1) (.var 6)) (.int 1)) (.var 4)), .bin .add (.var 4) (.int 1)]] [.par [3, 5] [.bin .add (.var 3) (.bin .shl (.bin .band (.bin .shr (.var 1) (.var 6)) (.int 1)) (.var 5)), .bin .add (.var 5) (.int 1)]]]
def b_law_cell : Df := ⟨2, 8, [.asg (.tup [.v 2, .v 3, .v 4, .v 5]) (.tup [.int 0, .int 0, .int 0, .int 0]), .for_ (.tup [.v 6, .v 7]) .enm [.rev (.var 0)] l_law_cell_1, .ret (.tup [.var 2, .var 3])]⟩
def b_law_side : Df := ⟨2, 8, [.asg (.v 2) (.bin .sub (.bin .shl (.int 1) (.var 1)) (.int 1)), .par [3, 4] [.call 133 [.var 0, .bin .add (.var 2) (.int 1)], .call 133 [.var 0, .bin .add (.var 2) (.int 1)]], .par [5, 6] [.call 133 [.var 0, .int 5], .bin .shl (.int 1) (.call 133 [.var 0, .bin .add (.var 1) (.int 1)])], .ife (.cmp .eq (.var 5) (.int 0)) [.ret (.tup [.int 0, .var 2])] [], .ife (.cmp .eq (.var 5) (.int 1)) [.ret (.tup [.var 3, .bi .min [.var 2, .bin .add (.var 3) (.call 133 [.var 0, .int 4])]])] [], .ife (.cmp .eq (.var 5) (.int 2)) [.asg (.v 7) (.bin .mul (.bin .fdiv (.var 3) (.var 6)) (.var 6)), .ret (.tup [.var 7, .bi .min [.var 2, .bin .sub (.bin .add (.var 7) (.bin .mul (.var 6) (.bin .add (.int 1) (.call 133 [.var 0, .int 4])))) (.int 1)]])] [], .ret (.tup [.bi .min [.var 3, .var 4], .bi .max [.var 3, .var 4]])]⟩
def b_law_box : Df := ⟨3, 5, [.par [3, 4] [.call 138 [.var 0, .var 1], .call 138 [.var 0, .var 2]], .ret (.tup [.sub (.var 3) (.int 0), .sub (.var 4) (.int 0), .sub (.var 3) (.int 1), .sub (.var 4) (.int 1)])]⟩
def c_law_keys_1 : E := .call 136 [.var 0, .var 4, .var 3]
def l_law_keys_1 : List S := [.ext 2 (.lc c_law_keys_1 (.v 4) .rng [.sub (.var 1) (.int 0), .bin .add (.sub (.var 1) (.int 2)) (.int 1)] .nop [4])]
def b_law_keys : Df := ⟨2, 5, [.asg (.v 2) (.lst []), .for_ (.v 3) .rng [.sub (.var 1) (.int 1), .bin .add (.sub (.var 1) (.int 3)) (.int 1)] l_law_keys_1, .ret (.bi .sorted [.var 2])]⟩
def b_pages_in : Df := ⟨2, 4, [.asg (.tup [.v 2, .v 3]) (.var 0), .ret (.bin .mul (.bin .add (.bin .sub (.bin .shr (.sub (.var 1) (.int 2)) (.var 2)) (.bin .shr (.sub (.var 1) (.int 0)) (.var 2))) (.int 1)) (.bin .add (.bin .sub (.bin .shr (.sub (.var 1) (.int 3)) (.var 3)) (.bin .shr (.sub (.var 1) (.int 1)) (.var 3))) (.int 1)))]⟩
def c_block_sizes_1 : E := .tup [.var 4, .bin .sub (.sub (.var 2) (.var 4)) (.bin .mul (.int 2) (.sub (.var 2) (.bin .add (.var 4) (.int 1))))]
def c_block_sizes_2 : E := .tup [.var 4, .var 5]
def c_block_sizes_3 : E := .cmp .gt (.var 5) (.int 0)
def b_block_sizes : Df := ⟨2, 6, [.exp (.call 128 [.var 0, .var 1]), .asg (.v 2) (.lstS 1 [.call 126 [.prp 9 (.var 0), .var 1], .int 0]), .asg (.v 3) (.lc c_block_sizes_1 (.v 4) .rng [.bin .sub (.bi .len [.var 2]) (.int 1)] .nop [4]), .ret (.lc c_block_sizes_2 (.tup [.v 4, .v 5]) .plain [.var 3] c_block_sizes_3 [4, 5])]⟩
def b_count_pages : Df := ⟨3, 3, [.exp (.call 128 [.var 0, .var 1]), .ife (.not (.call 2 [.var 2, .int 0, .bi .len [.prp 9 (.var 0)]])) [.rse 17] [], .ret (.call 144 [.sub (.call 125 [.prp 9 (.var 0)]) (.var 2), .var 1])]⟩
def b_law_within : Df := ⟨2, 2, [.ret (.and (.ch2 (.sub (.var 0) (.int 0)) .le (.sub (.var 1) (.int 0)) .le (.sub (.var 0) (.int 2))) (.ch2 (.sub (.var 0) (.int 1)) .le (.sub (.var 1) (.int 1)) .le (.sub (.var 0) (.int 3))))]⟩
def b_common : Df := ⟨4, 4, [.ret (.bi .max [.int 0, .bin .add (.bin .sub (.bi .min [.var 1, .var 3]) (.bi .max [.var 0, .var 2])) (.int 1)])]⟩
def b_cells_in : Df := ⟨5, 6, [.asg (.v 5) (.call 164 [.sub (.var 0) (.int 0), .sub (.var 0) (.int 2), .var 1, .bin .sub (.bin .add (.var 1) (.bin .shl (.int 1) (.var 3))) (.int 1)]), .ret (.bin .mul (.var 5) (.call 164 [.sub (.var 0) (.int 1), .sub (.var 0) (.int 3), .var 2, .bin .sub (.bin .add (.var 2) (.bin .shl (.int 1) (.var 4))) (.int 1)]))]⟩
def l_rank_in_1 : List S := [.asg (.tup [.v 8, .v 9, .v 10]) (.sub (.var 7) (.var 3)), .ife (.cmp .eq (.bin .band (.bin .shr (.var 2) (.var 3)) (.int 1)) (.int 1)) [.aug 4 .add (.call 165 [.var 1, .var 5, .var 6, .var 9, .var 10]), .ife (.cmp .eq (.var 8) (.str [120])) [.aug 5 .add (.bin .shl (.int 1) (.var 9))] [.aug 6 .add (.bin .shl (.int 1) (.var 10))]] []]
def b_rank_in : Df := ⟨3, 11, [.parT [4, 5, 6, 7] [.int 0, .int 0, .int 0, .call 5 [.var 0]], .for_ (.v 3) .rng [.bin .sub (.bi .len [.var 7]) (.int 1), .neg (.int 1), .neg (.int 1)] l_rank_in_1, .ret (.var 4)]⟩
def l_cell_in_1 : List S := [.asg (.tup [.v 9, .v 10, .v 11]) (.sub (.var 7) (.var 3)), .asg (.v 8) (.call 165 [.var 1, .var 5, .var 6, .var 10, .var 11]), .ife (.cmp .ge (.var 4) (.var 8)) [.aug 4 .sub (.var 8), .ife (.cmp .eq (.var 9) (.str [120])) [.aug 5 .add (.bin .shl (.int 1) (.var 10))] [.aug 6 .add (.bin .shl (.int 1) (.var 11))]] []]
def b_cell_in : Df := ⟨3, 12, [.parT [4, 5, 6, 7] [.var 2, .int 0, .int 0, .call 5 [.var 0]], .for_ (.v 3) .rng [.bin .sub (.bi .len [.var 7]) (.int 1), .neg (.int 1), .neg (.int 1)] l_cell_in_1, .ret (.tup [.var 5, .var 6])]⟩
def b_require_place_in : Df := ⟨3, 3, [.exp (.call 128 [.var 0, .var 1]), .exp (.call 4 [.prp 10 (.var 0), .prp 11 (.var 0), .var 2])]⟩
def b_rank : Df := ⟨3, 3, [.exp (.call 168 [.var 0, .var 1, .var 2]), .ret (.call 166 [.prp 9 (.var 0), .var 1, .var 2])]⟩
def b_cell_at : Df := ⟨3, 3, [.exp (.call 128 [.var 0, .var 1]), .ife (.not (.call 2 [.var 2, .int 0, .bin .sub (.call 47 [.var 1]) (.int 1)])) [.rse 16] [], .ret (.call 167 [.prp 9 (.var 0), .var 1, .var 2])]⟩
def l_law_right_18_1 : List S := [.app 9 (.var 10), .asg (.v 10) (.bin .add (.var 10) (.bi .int [.and (.cmp .lt (.var 10) (.bi .len [.var 7])) (.cmp .eq (.sub (.var 7) (.var 10)) (.var 1))]))]
def c_law_right_18_1 : E := .call 169 [.var 8, .var 6, .var 1]
def c_law_right_18_2 : E := .call 170 [.var 8, .var 6, .var 11]
def c_law_right_18_3 : E := .call 137 [.var 5, .var 1]
def b_law_right_18 : Df := ⟨1, 12, [.asg (.tup [.v 3, .v 4]) (.call 135 [.var 0, .int 4]), .parT [5, 6] [.call 134 [.var 0, .var 3, .var 4], .call 139 [.var 0, .var 3, .var 4]], .parT [7, 8, 9, 10] [.call 140 [.var 5, .var 6], .new 0 [.var 5], .lst [], .int 0], .for_ (.v 1) .rng [.bin .shl (.int 1) (.bin .add (.var 3) (.var 4))] l_law_right_18_1, .ife (.cmp .ne (.bi .repr [.lc c_law_right_18_1 (.v 1) .rng [.bin .shl (.int 1) (.bin .add (.var 3) (.var 4))] .nop [1]]) (.bi .repr [.var 9])) [.ret (.bl false)] [], .asg (.v 2) (.lc c_law_right_18_2 (.v 11) .rng [.bi .len [.var 7]] .nop [11]), .ret (.cmp .eq (.bi .repr [.var 2]) (.bi .repr [.lc c_law_right_18_3 (.v 1) .plain [.var 7] .nop [1]]))]⟩
def b_next_cell : Df := ⟨3, 4, [.exp (.call 168 [.var 0, .var 1, .var 2]), .asg (.v 3) (.call 166 [.prp 9 (.var 0), .var 1, .var 2]), .ret (.ite (.cmp .lt (.var 3) (.call 47 [.var 1])) (.call 167 [.prp 9 (.var 0), .var 1, .var 3]) .non)]⟩
def b_last_cell : Df := ⟨3, 6, [.exp (.call 168 [.var 0, .var 1, .var 2]), .asg (.tup [.v 4, .v 5]) (.call 7 [.prp 9 (.var 0), .var 2]), .asg (.v 3) (.bin .add (.bin .sub (.call 166 [.prp 9 (.var 0), .var 1, .var 2]) (.int 1)) (.call 165 [.var 1, .var 4, .var 5, .int 0, .int 0])), .ret (.ite (.cmp .ge (.var 3) (.int 0)) (.call 167 [.prp 9 (.var 0), .var 1, .var 3]) .non)]⟩
def c_law_small_right_1 : E := .var 11
def c_law_small_right_2 : E := .cmp .ge (.var 11) (.var 1)
def c_law_small_right_3 : E := .var 11
def c_law_small_right_4 : E := .cmp .le (.var 11) (.var 1)
def l_law_small_right_1 : List S := [.par [9, 10] [.lc c_law_small_right_1 (.v 11) .plain [.var 6] c_law_small_right_2 [11], .lc c_law_small_right_3 (.v 11) .plain [.var 6] c_law_small_right_4 [11]], .asg (.v 8) (.ite (.cmp .ne (.var 9) (.lst [])) (.call 137 [.var 4, .sub (.var 9) (.int 0)]) .non), .ife (.cmp .ne (.bi .repr [.call 173 [.var 7, .var 5, .var 1]]) (.bi .repr [.var 8])) [.ret (.bl false)] [], .asg (.v 8) (.ite (.cmp .ne (.var 10) (.lst [])) (.call 137 [.var 4, .sub (.var 10) (.neg (.int 1))]) .non), .ife (.cmp .ne (.bi .repr [.call 174 [.var 7, .var 5, .var 1]]) (.bi .repr [.var 8])) [.ret (.bl false)] []]
def b_law_small_right : Df := ⟨1, 12, [.asg (.tup [.v 2, .v 3]) (.call 135 [.var 0, .int 4]), .par [4, 5] [.call 134 [.var 0, .var 2, .var 3], .call 139 [.var 0, .var 2, .var 3]], .par [6, 7] [.call 140 [.var 4, .var 5], .new 0 [.var 4]], .for_ (.v 1) .rng [.bin .shl (.int 1) (.bin .add (.var 2) (.var 3))] l_law_small_right_1, .ret (.bl true)]⟩
def l_law_great_right_1 : List S := [.par [11, 12] [.call 169 [.var 8, .var 7, .var 3], .lst [.call 173 [.var 8, .var 7, .var 3], .call 174 [.var 8, .var 7, .var 3]]], .asg (.v 10) (.bi .int [.call 150 [.var 7, .call 137 [.var 6, .var 3]]]), .ife (.or (.cmp .ne (.isn (.sub (.var 12) (.int 0))) (.cmp .eq (.var 11) (.var 2))) (.cmp .ne (.isn (.sub (.var 12) (.int 1))) (.cmp .eq (.bin .add (.var 11) (.var 10)) (.int 0)))) [.ret (.bl false)] [], .ife (.nsn (.sub (.var 12) (.int 0))) [.asg (.v 13) (.call 136 [.var 6, .sub (.sub (.var 12) (.int 0)) (.int 0), .sub (.sub (.var 12) (.int 0)) (.int 1)]), .ife (.or (.not (.call 150 [.var 7, .sub (.var 12) (.int 0)])) (.or (.cmp .lt (.var 13) (.var 3)) (.cmp .ne (.call 169 [.var 8, .var 7, .var 13]) (.var 11)))) [.ret (.bl false)] []] [], .ife (.nsn (.sub (.var 12) (.int 1))) [.asg (.v 13) (.call 136 [.var 6, .sub (.sub (.var 12) (.int 1)) (.int 0), .sub (.sub (.var 12) (.int 1)) (.int 1)]), .ife (.or (.not (.call 150 [.var 7, .sub (.var 12) (.int 1)])) (.or (.cmp .gt (.var 13) (.var 3)) (.cmp .ne (.call 169 [.var 8, .var 7, .var 13]) (.bin .sub (.bin .add (.var 11) (.var 10)) (.int 1))))) [.ret (.bl false)] []] []]
def b_law_great_right : Df := ⟨1, 14, [.asg (.tup [.v 4, .v 5]) (.call 135 [.var 0, .int 100]), .par [6, 7] [.call 134 [.var 0, .var 4, .var 5], .call 139 [.var 0, .var 4, .var 5]], .par [8, 9] [.new 0 [.var 6], .bin .sub (.bin .shl (.int 1) (.bin .add (.var 4) (.var 5))) (.int 1)], .asg (.v 1) (.call 136 [.var 6, .bin .add (.sub (.var 7) (.int 0)) (.call 133 [.var 0, .bin .add (.bin .sub (.sub (.var 7) (.int 2)) (.sub (.var 7) (.int 0))) (.int 1)]), .sub (.var 7) (.int 3)]), .asg (.v 2) (.bin .mul (.bin .add (.bin .sub (.sub (.var 7) (.int 2)) (.sub (.var 7) (.int 0))) (.int 1)) (.bin .add (.bin .sub (.sub (.var 7) (.int 3)) (.sub (.var 7) (.int 1))) (.int 1))), .for_ (.v 3) .plain [.lst [.int 0, .var 9, .call 133 [.var 0, .bin .add (.var 9) (.int 1)], .var 1, .bi .min [.var 9, .bin .add (.var 1) (.int 1)], .bi .max [.int 0, .bin .sub (.var 1) (.int 1)]]] l_law_great_right_1, .ret (.bl true)]⟩
def b_InvalidBoxes___init : Df := ⟨2, 2, [.fld 0 (Str.ofString "item") (.var 1)]⟩
def l_require_boxes_1 : List S := [.ife (.not (.call 44 [.var 4, .var 0, .var 1])) [.nev] []]
def b_require_boxes : Df := ⟨3, 5, [.ife (.or (.not (.isi (.var 2) .tlist)) (.not (.ch2 (.int 1) .le (.bi .len [.var 2]) .le (.glb 3)))) [.nev] [], .for_ (.tup [.v 3, .v 4]) .enm [.var 2] l_require_boxes_1]⟩
def b_common_box : Df := ⟨2, 3, [.asg (.v 2) (.tup [.bi .max [.sub (.var 0) (.int 0), .sub (.var 1) (.int 0)], .bi .max [.sub (.var 0) (.int 1), .sub (.var 1) (.int 1)], .bi .min [.sub (.var 0) (.int 2), .sub (.var 1) (.int 2)], .bi .min [.sub (.var 0) (.int 3), .sub (.var 1) (.int 3)]]), .ret (.ite (.and (.cmp .le (.sub (.var 2) (.int 0)) (.sub (.var 2) (.int 2))) (.cmp .le (.sub (.var 2) (.int 1)) (.sub (.var 2) (.int 3)))) (.var 2) .non)]⟩
def b_pairs_of : Df := ⟨5, 9, [.ife (.cmp .eq (.var 2) (.str [120])) [.asg (.v 5) (.call 49 [.var 3, .bi .max [.sub (.var 0) (.int 0), .bin .add (.sub (.var 1) (.int 0)) (.int 1)], .bi .min [.sub (.var 0) (.int 2), .bin .add (.sub (.var 1) (.int 2)) (.int 1)]]), .par [6, 7, 8] [.bi .max [.sub (.var 0) (.int 1), .bin .add (.bin .sub (.sub (.var 1) (.int 1)) (.bin .shl (.int 1) (.var 4))) (.int 1)], .bi .min [.sub (.var 0) (.int 3), .bin .add (.bin .sub (.sub (.var 1) (.int 3)) (.bin .shl (.int 1) (.var 4))) (.int 1)], .var 4]] [.asg (.v 5) (.call 49 [.var 4, .bi .max [.sub (.var 0) (.int 1), .bin .add (.sub (.var 1) (.int 1)) (.int 1)], .bi .min [.sub (.var 0) (.int 3), .bin .add (.sub (.var 1) (.int 3)) (.int 1)]]), .par [6, 7, 8] [.bi .max [.sub (.var 0) (.int 0), .bin .add (.bin .sub (.sub (.var 1) (.int 0)) (.bin .shl (.int 1) (.var 3))) (.int 1)], .bi .min [.sub (.var 0) (.int 2), .bin .add (.bin .sub (.sub (.var 1) (.int 2)) (.bin .shl (.int 1) (.var 3))) (.int 1)], .var 3]], .ret (.bin .mul (.var 5) (.call 48 [.var 8, .var 6, .var 7]))]⟩
def l_parting_box_1 : List S := [.ife (.cmp .ne (.sub (.var 2) (.int 0)) (.sub (.var 3) (.int 0))) [.ret (.tup [.int 0, .int 0, .bin .sub (.bin .shl (.int 2) (.sub (.var 2) (.int 1))) (.int 1), .bin .sub (.bin .shl (.int 1) (.sub (.var 2) (.int 2))) (.int 1)])] []]
def b_parting_box : Df := ⟨2, 4, [.exp (.call 45 [.var 0]), .exp (.call 45 [.var 1]), .ife (.or (.cmp .ne (.prp 10 (.var 0)) (.prp 10 (.var 1))) (.cmp .ne (.prp 11 (.var 0)) (.prp 11 (.var 1)))) [.rse 20] [], .for_ (.tup [.v 2, .v 3]) .zip [.call 5 [.prp 9 (.var 0)], .call 5 [.prp 9 (.var 1)]] l_parting_box_1, .ret .non]⟩
def c_law_runs_1 : E := .var 3
def c_law_runs_2 : E := .cmp .ne (.sub (.var 2) (.var 3)) (.bin .add (.sub (.var 2) (.bin .sub (.var 3) (.int 1))) (.int 1))
def b_law_runs : Df := ⟨2, 4, [.asg (.v 2) (.call 140 [.var 0, .var 1]), .ret (.bin .add (.int 1) (.bi .len [.lc c_law_runs_1 (.v 3) .rng [.int 1, .bi .len [.var 2]] c_law_runs_2 [3]]))]⟩
def b_law_exchanged : Df := ⟨2, 3, [.asg (.v 2) (.call 133 [.var 0, .bi .max [.int 1, .bin .sub (.bi .len [.var 1]) (.int 1)]]), .ret (.bin .add (.bin .add (.slc (.var 1) .nop (.var 2)) (.rev (.slc (.var 1) (.var 2) (.bin .add (.var 2) (.int 2))))) (.slc (.var 1) (.bin .add (.var 2) (.int 2)) .nop))]⟩
def c_law_right_24_1 : E := .cmp .eq (.sub (.var 1) (.bin .sub (.bin .sub (.bi .len [.var 1]) (.int 1)) (.var 4))) (.sub (.var 2) (.bin .sub (.bin .sub (.bi .len [.var 1]) (.int 1)) (.var 4)))
def l_law_right_24_1 : List S := [.asg (.v 4) (.bin .add (.var 4) (.int 1))]
def c_law_right_24_2 : E := .bin .sub (.int 2) (.bi .int [.cmp .eq (.sub (.var 7) (.bin .sub (.bin .sub (.bi .len [.var 1]) (.int 1)) (.var 4))) (.str [120])])
def b_law_right_24 : Df := ⟨1, 12, [.asg (.tup [.v 8, .v 9]) (.call 135 [.var 0, .int 4]), .asg (.v 1) (.call 134 [.var 0, .var 8, .var 9]), .asg (.v 2) (.sub (.lst [.call 134 [.var 0, .var 8, .var 9], .call 206 [.var 0, .var 1], .var 1]) (.call 133 [.var 0, .int 3])), .par [10, 11] [.new 0 [.var 1], .new 0 [.var 2]], .asg (.v 3) (.call 204 [.var 10, .var 11]), .ife (.or (.cmp .ne (.bi .repr [.call 204 [.var 11, .var 10]]) (.bi .repr [.var 3])) (.nsn (.call 204 [.var 10, .var 10]))) [.ret (.bl false)] [], .ife (.cmp .eq (.var 1) (.var 2)) [.ret (.isn (.var 3))] [], .asg (.v 4) (.int 0), .whl c_law_right_24_1 l_law_right_24_1, .asg (.v 5) (.slc (.var 1) (.bin .sub (.bi .len [.var 1]) (.var 4)) .nop), .ife (.cmp .ne (.bi .repr [.var 3]) (.bi .repr [.tup [.int 0, .int 0, .bin .sub (.bin .shl (.int 2) (.mth .count (.var 5) [.str [120]])) (.int 1), .bin .sub (.bin .shl (.int 1) (.mth .count (.var 5) [.str [121]])) (.int 1)]])) [.ret (.bl false)] [], .asg (.v 6) (.lc c_law_right_24_2 (.v 7) .plain [.tup [.var 1, .var 2]] .nop [7]), .ife (.cmp .ne (.lst [.call 205 [.var 1, .var 3], .call 205 [.var 2, .var 3]]) (.var 6)) [.ret (.bl false)] [], .asg (.v 7) (.call 139 [.var 0, .mth .count (.var 5) [.str [120]], .mth .count (.var 5) [.str [121]]]), .ret (.cmp .eq (.call 205 [.var 1, .var 7]) (.call 205 [.var 2, .var 7]))]⟩
def l_choices_1 : List S := [.asg (.v 2) (.bin .fdiv (.bin .mul (.var 2) (.bin .sub (.var 0) (.var 3))) (.bin .add (.var 3) (.int 1)))]
def b_choices : Df := ⟨2, 4, [.asg (.v 2) (.int 1), .for_ (.v 3) .rng [.var 1] l_choices_1, .ret (.var 2)]⟩
def l_words_with_x_ahead_1 : List S := [.asg (.v 6) (.bin .sub (.bin .sub (.var 0) (.var 2)) (.int 1)), .aug 4 .add (.bin .mul (.call 209 [.bin .add (.var 2) (.var 5), .var 2]) (.call 209 [.bin .sub (.bin .add (.var 6) (.var 1)) (.var 5), .var 6]))]
def b_words_with_x_ahead : Df := ⟨4, 7, [.asg (.v 4) (.int 0), .for_ (.v 5) .rng [.bin .add (.var 3) (.int 1), .bin .add (.var 1) (.int 1)] l_words_with_x_ahead_1, .ret (.var 4)]⟩
def b_count_ahead : Df := ⟨4, 6, [.exp (.call 24 [.var 0, .var 1]), .exp (.call 3 [.var 0, .var 1, .var 2]), .exp (.call 3 [.var 0, .var 1, .var 3]), .asg (.v 4) (.call 209 [.bin .add (.var 0) (.var 1), .var 0]), .ife (.or (.cmp .eq (.var 2) (.var 3)) (.and (.cmp .le (.sub (.var 3) (.int 0)) (.sub (.var 2) (.int 0))) (.cmp .le (.sub (.var 3) (.int 1)) (.sub (.var 2) (.int 1))))) [.ret (.int 0)] [], .ife (.and (.cmp .le (.sub (.var 2) (.int 0)) (.sub (.var 3) (.int 0))) (.cmp .le (.sub (.var 2) (.int 1)) (.sub (.var 3) (.int 1)))) [.ret (.var 4)] [], .asg (.v 5) (.call 210 [.var 0, .var 1, .bin .sub (.bits (.bin .bxor (.sub (.var 2) (.int 0)) (.sub (.var 3) (.int 0)))) (.int 1), .bin .sub (.bits (.bin .bxor (.sub (.var 2) (.int 1)) (.sub (.var 3) (.int 1)))) (.int 1)]), .ret (.ite (.cmp .lt (.sub (.var 2) (.int 0)) (.sub (.var 3) (.int 0))) (.var 5) (.bin .sub (.var 4) (.var 5)))]⟩
def l_law_every_1 : List S := [.asg (.v 2) (.bin .fdiv (.bin .mul (.var 2) (.bin .add (.bin .add (.var 1) (.var 3)) (.int 1))) (.bin .add (.var 3) (.int 1)))]
def b_law_every : Df := ⟨2, 4, [.asg (.v 2) (.int 1), .for_ (.v 3) .rng [.var 0] l_law_every_1, .ret (.var 2)]⟩
def c_law_parted_right_1 : E := .cmp .eq (.sub (.var 3) (.bin .sub (.bin .sub (.bi .len [.var 3]) (.int 1)) (.var 8))) (.sub (.var 6) (.bin .sub (.bin .sub (.bi .len [.var 3]) (.int 1)) (.var 8)))
def l_law_parted_right_1 : List S := [.asg (.v 8) (.bin .add (.var 8) (.int 1))]
def c_law_parted_right_2 : E := .bin .sub (.int 2) (.bi .int [.cmp .eq (.sub (.var 11) (.bin .sub (.bin .sub (.bi .len [.var 3]) (.int 1)) (.var 8))) (.str [120])])
def b_law_parted_right : Df := ⟨3, 14, [.asg (.v 3) (.call 134 [.var 0, .var 1, .var 2]), .asg (.v 4) (.call 133 [.var 0, .bin .add (.bi .len [.var 3]) (.int 1)]), .asg (.v 5) (.slc (.var 3) .nop (.var 4)), .asg (.v 6) (.bin .add (.call 134 [.var 0, .mth .count (.var 5) [.str [120]], .mth .count (.var 5) [.str [121]]]) (.slc (.var 3) (.var 4) .nop)), .par [12, 13] [.new 0 [.var 3], .new 0 [.var 6]], .asg (.v 7) (.call 204 [.var 12, .var 13]), .ife (.or (.isn (.var 7)) (.cmp .eq (.var 3) (.var 6))) [.ret (.and (.isn (.var 7)) (.cmp .eq (.var 3) (.var 6)))] [], .asg (.v 8) (.int 0), .whl c_law_parted_right_1 l_law_parted_right_1, .asg (.v 9) (.slc (.var 3) (.bin .sub (.bi .len [.var 3]) (.var 8)) .nop), .ife (.cmp .ne (.var 7) (.tup [.int 0, .int 0, .bin .sub (.bin .shl (.int 2) (.mth .count (.var 9) [.str [120]])) (.int 1), .bin .sub (.bin .shl (.int 1) (.mth .count (.var 9) [.str [121]])) (.int 1)])) [.ret (.bl false)] [], .asg (.v 10) (.lc c_law_parted_right_2 (.v 11) .plain [.tup [.var 3, .var 6]] .nop [11]), .ife (.cmp .ne (.lst [.call 54 [.var 12, .var 7], .call 54 [.var 13, .var 7]]) (.var 10)) [.ret (.bl false)] [], .asg (.v 11) (.call 139 [.var 0, .mth .count (.var 9) [.str [120]], .mth .count (.var 9) [.str [121]]]), .ret (.and (.cmp .eq (.call 54 [.var 12, .var 11]) (.call 54 [.var 13, .var 11])) (.cmp .eq (.call 204 [.var 13, .var 12]) (.var 7)))]⟩
def c_law_ahead_1 : E := .bin .shr (.sub (.var 9) (.var 5)) (.bin .sub (.var 6) (.int 1))
def l_law_ahead_1 : List S := [.asg (.v 11) (.bi .list [.var 9]), .set 11 (.var 5) (.bin .sub (.sub (.var 11) (.var 5)) (.bin .shl (.sub (.var 8) (.int 0)) (.bin .sub (.var 6) (.int 1)))), .app 10 (.bi .tuple [.var 11])]
def l_law_ahead_2 : List S := [.ife (.cmp .gt (.var 6) (.int 0)) [.asg (.v 7) (.lst [.bin .sub (.var 0) (.bi .int [.cmp .eq (.var 5) (.int 0)]), .bin .sub (.var 1) (.bi .int [.cmp .eq (.var 5) (.int 1)])]), .asg (.v 8) (.lc c_law_ahead_1 (.v 9) .plain [.tup [.var 2, .var 3]] .nop [9]), .ife (.cmp .ne (.sub (.var 8) (.int 0)) (.sub (.var 8) (.int 1))) [.asg (.v 4) (.bin .add (.var 4) (.bin .mul (.call 216 [.sub (.var 7) (.int 0), .sub (.var 7) (.int 1)]) (.bi .int [.cmp .lt (.sub (.var 8) (.int 0)) (.sub (.var 8) (.int 1))])))] [.ife (.cmp .gt (.bi .sum [.var 7]) (.int 0)) [.asg (.v 10) (.lst []), .for_ (.v 9) .plain [.tup [.var 2, .var 3]] l_law_ahead_1, .asg (.v 4) (.bin .add (.var 4) (.call 211 [.sub (.var 7) (.int 0), .sub (.var 7) (.int 1), .sub (.var 10) (.int 0), .sub (.var 10) (.int 1)]))] []]] []]
def b_law_ahead : Df := ⟨4, 12, [.asg (.v 4) (.int 0), .for_ (.tup [.v 5, .v 6]) .enm [.tup [.var 0, .var 1]] l_law_ahead_2, .ret (.var 4)]⟩
def c_law_cells_right_1 : E := .bits (.bin .bxor (.sub (.var 10) (.var 11)) (.sub (.var 3) (.var 11)))
def c_law_cells_right_2 : E := .bi .max [.int 0, .bin .sub (.sub (.var 6) (.var 11)) (.int 1)]
def c_law_cells_right_3 : E := .bin .shl (.bin .shr (.sub (.var 12) (.var 11)) (.sub (.var 7) (.var 11))) (.sub (.var 7) (.var 11))
def c_law_cells_right_4 : E := .bi .tuple [.lc c_law_cells_right_3 (.v 11) .plain [.tup [.int 0, .int 1]] .nop [11]]
def b_law_cells_right : Df := ⟨3, 13, [.parT [9, 10] [.call 216 [.var 1, .var 2], .tup [.call 133 [.var 0, .bin .shl (.int 1) (.var 1)], .call 133 [.var 0, .bin .shl (.int 1) (.var 2)]]], .asg (.v 3) (.tup [.call 133 [.var 0, .bin .shl (.int 1) (.var 1)], .call 133 [.var 0, .bin .shl (.int 1) (.var 2)]]), .asg (.v 4) (.call 133 [.var 0, .int 4]), .ife (.cmp .lt (.var 4) (.int 2)) [.asg (.v 3) (.tup [.bin .bxor (.sub (.var 10) (.int 0)) (.call 133 [.var 0, .bi .min [.int 4, .bin .shl (.int 1) (.var 1)]]), .bin .bxor (.sub (.var 10) (.int 1)) (.call 133 [.var 0, .bi .min [.int 4, .bin .shl (.int 1) (.var 2)]])])] [], .ife (.cmp .eq (.var 4) (.int 2)) [.asg (.v 3) (.tup [.sub (.var 10) (.int 0), .sub (.var 3) (.int 1)])] [], .asg (.v 5) (.lst [.call 211 [.var 1, .var 2, .var 10, .var 3], .call 211 [.var 1, .var 2, .var 3, .var 10]]), .ife (.cmp .eq (.var 10) (.var 3)) [.ret (.cmp .eq (.var 5) (.lst [.int 0, .int 0]))] [], .ife (.or (.cmp .ne (.bi .sum [.var 5]) (.var 9)) (.or (.cmp .lt (.bi .min [.var 5]) (.int 0)) (.cmp .ne (.sub (.var 5) (.int 0)) (.call 218 [.var 1, .var 2, .var 10, .var 3])))) [.ret (.bl false)] [], .ife (.and (.cmp .le (.sub (.var 10) (.int 0)) (.sub (.var 3) (.int 0))) (.and (.cmp .le (.sub (.var 10) (.int 1)) (.sub (.var 3) (.int 1))) (.cmp .ne (.sub (.var 5) (.int 0)) (.var 9)))) [.ret (.bl false)] [], .ife (.cmp .ne (.call 211 [.var 2, .var 1, .rev (.var 10), .rev (.var 3)]) (.sub (.var 5) (.int 0))) [.ret (.bl false)] [], .ife (.cmp .ne (.call 211 [.var 2, .var 1, .rev (.var 3), .rev (.var 10)]) (.sub (.var 5) (.int 1))) [.ret (.bl false)] [], .asg (.v 6) (.lc c_law_cells_right_1 (.v 11) .plain [.tup [.int 0, .int 1]] .nop [11]), .asg (.v 7) (.lc c_law_cells_right_2 (.v 11) .plain [.tup [.int 0, .int 1]] .nop [11]), .asg (.v 8) (.lc c_law_cells_right_4 (.v 12) .plain [.tup [.var 10, .var 3]] .nop [12]), .ret (.cmp .eq (.call 211 [.var 1, .var 2, .sub (.var 8) (.int 0), .sub (.var 8) (.int 1)]) (.sub (.var 5) (.int 0)))]⟩
def l_require_load_1 : List S := [.ife (.not (.call 226 [.var 4, .var 0, .var 1])) [.nev] []]
def b_require_load : Df := ⟨3, 5, [.ife (.or (.not (.isi (.var 2) .tlist)) (.not (.ch2 (.int 1) .le (.bi .len [.var 2]) .le (.glb 5)))) [.nev] [], .for_ (.tup [.v 3, .v 4]) .enm [.var 2] l_require_load_1]⟩
def c_axis_counts_1 : E := .call 51 [.var 4, .var 1, .var 2]
def c_axis_counts_2 : E := .call 50 [.var 4, .var 1, .var 2]
def b_axis_counts : Df := ⟨3, 5, [.asg (.v 3) (.lc c_axis_counts_1 (.v 4) .rng [.bin .add (.var 0) (.int 1)] .nop [4]), .ret (.tup [.var 3, .lc c_axis_counts_2 (.v 4) .rng [.bin .add (.var 0) (.int 1)] .nop [4]])]⟩
def c_load_area_1 : E := .bin .mul (.var 2) (.call 47 [.var 1])
def b_load_area : Df := ⟨1, 3, [.ret (.bi .sum [.lc c_load_area_1 (.tup [.v 1, .v 2]) .plain [.var 0] .nop [1, 2]])]⟩
def c_load_counts_1 : E := .tup [.var 4, .call 228 [.var 0, .sub (.var 3) (.int 0), .sub (.var 3) (.int 2)], .call 228 [.var 1, .sub (.var 3) (.int 1), .sub (.var 3) (.int 3)]]
def b_load_counts : Df := ⟨3, 5, [.ret (.lc c_load_counts_1 (.tup [.v 3, .v 4]) .plain [.var 2] .nop [3, 4])]⟩
def c_saved_by_1 : E := .bin .mul (.bin .mul (.var 4) (.sub (.sub (.var 5) (.int 0)) (.var 2))) (.sub (.sub (.var 6) (.int 1)) (.var 3))
def c_saved_by_2 : E := .bin .mul (.bin .mul (.var 4) (.sub (.sub (.var 6) (.int 0)) (.var 3))) (.sub (.sub (.var 5) (.int 1)) (.var 2))
def b_saved_by : Df := ⟨4, 7, [.ife (.cmp .eq (.var 1) (.str [120])) [.ret (.bi .sum [.lc c_saved_by_1 (.tup [.v 4, .v 5, .v 6]) .plain [.var 0] .nop [4, 5, 6]])] [], .ret (.bi .sum [.lc c_saved_by_2 (.tup [.v 4, .v 5, .v 6]) .plain [.var 0] .nop [4, 5, 6]])]⟩
def l_run_gains_1 : List S := [.set 4 (.tup [.var 5, .var 6]) (.tup [.call 231 [.var 3, .str [120], .var 5, .var 6], .call 231 [.var 3, .str [121], .var 5, .var 6]])]
def l_run_gains_2 : List S := [.for_ (.v 6) .rng [.bin .add (.var 1) (.int 1)] l_run_gains_1]
def b_run_gains : Df := ⟨3, 7, [.asg (.v 3) (.call 230 [.var 0, .var 1, .var 2]), .asg (.v 4) (.dct true []), .for_ (.v 5) .rng [.bin .add (.var 0) (.int 1)] l_run_gains_2, .ret (.var 4)]⟩
def c_way_table_1 : E := .var 9
def c_way_table_2 : E := .var 10
def c_way_table_3 : E := .cmp .eq (.var 9) (.var 8)
def l_way_table_1 : List S := [.asg (.v 7) (.lst []), .ife (.cmp .gt (.var 5) (.int 0)) [.asg (.tup [.v 9, .v 10]) (.sub (.var 4) (.tup [.bin .sub (.var 5) (.int 1), .var 6])), .app 7 (.tup [.bin .add (.var 9) (.bin .mul (.var 3) (.sub (.sub (.var 2) (.tup [.bin .sub (.var 5) (.int 1), .var 6])) (.int 0))), .var 10])] [], .ife (.cmp .gt (.var 6) (.int 0)) [.asg (.tup [.v 9, .v 10]) (.sub (.var 4) (.tup [.var 5, .bin .sub (.var 6) (.int 1)])), .app 7 (.tup [.bin .add (.var 9) (.bin .mul (.var 3) (.sub (.sub (.var 2) (.tup [.var 5, .bin .sub (.var 6) (.int 1)])) (.int 1))), .var 10])] [], .ife (.cmp .ne (.var 7) (.lst [])) [.asg (.v 8) (.bi .max [.lc c_way_table_1 (.tup [.v 9, .v 10]) .plain [.var 7] .nop [9, 10]]), .set 4 (.tup [.var 5, .var 6]) (.tup [.var 8, .bi .sum [.lc c_way_table_2 (.tup [.v 9, .v 10]) .plain [.var 7] c_way_table_3 [9, 10]]])] []]
def l_way_table_2 : List S := [.for_ (.v 6) .rng [.bin .add (.var 1) (.int 1)] l_way_table_1]
def b_way_table : Df := ⟨4, 11, [.asg (.v 4) (.dct true [.tup [.int 0, .int 0], .tup [.int 0, .int 1]]), .for_ (.v 5) .rng [.bin .add (.var 0) (.int 1)] l_way_table_2, .ret (.var 4)]⟩
def c_word_of_1 : E := .cmp .gt (.bin .add (.var 8) (.var 9)) (.int 0)
def l_word_of_1 : List S := [.asg (.v 7) (.int 0), .ife (.and (.cmp .gt (.var 8) (.int 0)) (.cmp .eq (.bin .add (.sub (.sub (.var 0) (.tup [.bin .sub (.var 8) (.int 1), .var 9])) (.int 0)) (.bin .mul (.var 3) (.sub (.sub (.var 2) (.tup [.bin .sub (.var 8) (.int 1), .var 9])) (.int 0)))) (.sub (.sub (.var 0) (.tup [.var 8, .var 9])) (.int 0)))) [.asg (.v 7) (.sub (.sub (.var 0) (.tup [.bin .sub (.var 8) (.int 1), .var 9])) (.int 1))] [], .ife (.cmp .lt (.var 5) (.var 7)) [.app 6 (.str [120]), .aug 8 .sub (.int 1)] [.app 6 (.str [121]), .aug 5 .sub (.var 7), .aug 9 .sub (.int 1)]]
def b_word_of : Df := ⟨5, 10, [.parU (.tup [.v 8, .v 9]) [5, 6] [.var 1, .var 4, .lst []], .whl c_word_of_1 l_word_of_1, .ret (.mth .join (.str []) [.var 6])]⟩
def b_told_best : Df := ⟨5, 8, [.asg (.v 5) (.call 233 [.var 0, .var 1, .var 2, .var 3]), .asg (.tup [.v 6, .v 7]) (.sub (.var 5) (.tup [.var 0, .var 1])), .ret (.tup [.bin .sub (.var 4) (.bin .mul (.var 3) (.var 6)), .var 7, .call 234 [.var 5, .tup [.var 0, .var 1], .var 2, .var 3, .int 0]])]⟩
def b_require_question : Df := ⟨3, 3, [.exp (.call 24 [.var 0, .var 1]), .exp (.call 227 [.var 0, .var 1, .var 2])]⟩
def c_load_runs_1 : E := .call 231 [.var 2, .var 3, .var 4, .var 5]
def b_load_runs : Df := ⟨2, 6, [.exp (.call 45 [.var 0]), .exp (.call 227 [.prp 10 (.var 0), .prp 11 (.var 0), .var 1]), .asg (.v 2) (.call 230 [.prp 10 (.var 0), .prp 11 (.var 0), .var 1]), .ret (.bin .sub (.call 229 [.var 1]) (.bi .sum [.lc c_load_runs_1 (.tup [.v 3, .v 4, .v 5]) .plain [.call 5 [.prp 9 (.var 0)]] .nop [3, 4, 5]]))]⟩
def b_best_layout : Df := ⟨3, 3, [.exp (.call 236 [.var 0, .var 1, .var 2]), .ret (.call 235 [.var 0, .var 1, .call 232 [.var 0, .var 1, .var 2], .int 1, .call 229 [.var 2]])]⟩
def b_worst_layout : Df := ⟨3, 3, [.exp (.call 236 [.var 0, .var 1, .var 2]), .ret (.call 235 [.var 0, .var 1, .call 232 [.var 0, .var 1, .var 2], .neg (.int 1), .call 229 [.var 2]])]⟩
def l_law_key_2_1 : List S := [.ife (.cmp .eq (.var 3) (.str [120])) [.asg (.v 5) (.bin .sub (.var 5) (.int 1)), .asg (.v 4) (.bin .add (.bin .mul (.int 2) (.var 4)) (.bin .band (.bin .shr (.var 1) (.var 5)) (.int 1)))] [.asg (.v 6) (.bin .sub (.var 6) (.int 1)), .asg (.v 4) (.bin .add (.bin .mul (.int 2) (.var 4)) (.bin .band (.bin .shr (.var 2) (.var 6)) (.int 1)))]]
def b_law_key_2 : Df := ⟨3, 7, [.par [4, 5, 6] [.int 0, .mth .count (.var 0) [.str [120]], .mth .count (.var 0) [.str [121]]], .for_ (.v 3) .plain [.var 0] l_law_key_2_1, .ret (.var 4)]⟩
def c_law_keys_2_1 : E := .call 240 [.var 0, .var 3, .var 4]
def l_law_keys_2_1 : List S := [.ext 2 (.lc c_law_keys_2_1 (.v 4) .rng [.sub (.var 1) (.int 1), .bin .add (.sub (.var 1) (.int 3)) (.int 1)] .nop [4])]
def b_law_keys_2 : Df := ⟨2, 5, [.asg (.v 2) (.lst []), .for_ (.v 3) .rng [.sub (.var 1) (.int 0), .bin .add (.sub (.var 1) (.int 2)) (.int 1)] l_law_keys_2_1, .ret (.bi .sorted [.var 2])]⟩
def c_law_runs_2_1 : E := .int 1
def c_law_runs_2_2 : E := .cmp .gt (.var 4) (.bin .add (.var 3) (.int 1))
def b_law_runs_2 : Df := ⟨2, 5, [.asg (.v 2) (.call 241 [.var 0, .var 1]), .ret (.bin .add (.int 1) (.bi .len [.lc c_law_runs_2_1 (.tup [.v 3, .v 4]) .zip [.var 2, .slc (.var 2) (.int 1) .nop] c_law_runs_2_2 [3, 4]]))]⟩
def c_law_words_2_at1_1 : E := .bin .add (.str [120]) (.var 3)
def c_law_words_2_at1_2 : E := .bin .add (.str [121]) (.var 3)
def b_law_words_2_at1 : Df := ⟨2, 4, [.ife (.or (.cmp .eq (.var 0) (.int 0)) (.cmp .eq (.var 1) (.int 0))) [.ret (.lst [.bin .add (.bin .mul (.str [120]) (.var 0)) (.bin .mul (.str [121]) (.var 1))])] [], .asg (.v 2) (.lc c_law_words_2_at1_1 (.v 3) .plain [.call 24860 [.bin .sub (.var 0) (.int 1), .var 1]] .nop [3]), .ret (.bin .add (.var 2) (.lc c_law_words_2_at1_2 (.v 3) .plain [.call 24860 [.var 0, .bin .sub (.var 1) (.int 1)]] .nop [3]))]⟩
def c_law_words_2_at2_1 : E := .bin .add (.str [120]) (.var 3)
def c_law_words_2_at2_2 : E := .bin .add (.str [121]) (.var 3)
def b_law_words_2_at2 : Df := ⟨2, 4, [.ife (.or (.cmp .eq (.var 0) (.int 0)) (.cmp .eq (.var 1) (.int 0))) [.ret (.lst [.bin .add (.bin .mul (.str [120]) (.var 0)) (.bin .mul (.str [121]) (.var 1))])] [], .asg (.v 2) (.lc c_law_words_2_at2_1 (.v 3) .plain [.call 24861 [.bin .sub (.var 0) (.int 1), .var 1]] .nop [3]), .ret (.bin .add (.var 2) (.lc c_law_words_2_at2_2 (.v 3) .plain [.call 24861 [.var 0, .bin .sub (.var 1) (.int 1)]] .nop [3]))]⟩
def c_law_words_2_at3_1 : E := .bin .add (.str [120]) (.var 3)
def c_law_words_2_at3_2 : E := .bin .add (.str [121]) (.var 3)
def b_law_words_2_at3 : Df := ⟨2, 4, [.ife (.or (.cmp .eq (.var 0) (.int 0)) (.cmp .eq (.var 1) (.int 0))) [.ret (.lst [.bin .add (.bin .mul (.str [120]) (.var 0)) (.bin .mul (.str [121]) (.var 1))])] [], .asg (.v 2) (.lc c_law_words_2_at3_1 (.v 3) .plain [.call 24862 [.bin .sub (.var 0) (.int 1), .var 1]] .nop [3]), .ret (.bin .add (.var 2) (.lc c_law_words_2_at3_2 (.v 3) .plain [.call 24862 [.var 0, .bin .sub (.var 1) (.int 1)]] .nop [3]))]⟩
def c_law_words_2_at4_1 : E := .bin .add (.str [120]) (.var 3)
def c_law_words_2_at4_2 : E := .bin .add (.str [121]) (.var 3)
def b_law_words_2_at4 : Df := ⟨2, 4, [.ife (.or (.cmp .eq (.var 0) (.int 0)) (.cmp .eq (.var 1) (.int 0))) [.ret (.lst [.bin .add (.bin .mul (.str [120]) (.var 0)) (.bin .mul (.str [121]) (.var 1))])] [], .asg (.v 2) (.lc c_law_words_2_at4_1 (.v 3) .plain [.call 24863 [.bin .sub (.var 0) (.int 1), .var 1]] .nop [3]), .ret (.bin .add (.var 2) (.lc c_law_words_2_at4_2 (.v 3) .plain [.call 24863 [.var 0, .bin .sub (.var 1) (.int 1)]] .nop [3]))]⟩
def c_law_words_2_at5_1 : E := .bin .add (.str [120]) (.var 3)
def c_law_words_2_at5_2 : E := .bin .add (.str [121]) (.var 3)
def b_law_words_2_at5 : Df := ⟨2, 4, [.ife (.or (.cmp .eq (.var 0) (.int 0)) (.cmp .eq (.var 1) (.int 0))) [.ret (.lst [.bin .add (.bin .mul (.str [120]) (.var 0)) (.bin .mul (.str [121]) (.var 1))])] [], .asg (.v 2) (.lc c_law_words_2_at5_1 (.v 3) .plain [.call 24864 [.bin .sub (.var 0) (.int 1), .var 1]] .nop [3]), .ret (.bin .add (.var 2) (.lc c_law_words_2_at5_2 (.v 3) .plain [.call 24864 [.var 0, .bin .sub (.var 1) (.int 1)]] .nop [3]))]⟩
def c_law_words_2_at6_1 : E := .bin .add (.str [120]) (.var 3)
def c_law_words_2_at6_2 : E := .bin .add (.str [121]) (.var 3)
def b_law_words_2_at6 : Df := ⟨2, 4, [.ife (.or (.cmp .eq (.var 0) (.int 0)) (.cmp .eq (.var 1) (.int 0))) [.ret (.lst [.bin .add (.bin .mul (.str [120]) (.var 0)) (.bin .mul (.str [121]) (.var 1))])] [], .asg (.v 2) (.lc c_law_words_2_at6_1 (.v 3) .plain [.call 24865 [.bin .sub (.var 0) (.int 1), .var 1]] .nop [3]), .ret (.bin .add (.var 2) (.lc c_law_words_2_at6_2 (.v 3) .plain [.call 24865 [.var 0, .bin .sub (.var 1) (.int 1)]] .nop [3]))]⟩
def c_law_words_2_at7_1 : E := .bin .add (.str [120]) (.var 3)
def c_law_words_2_at7_2 : E := .bin .add (.str [121]) (.var 3)
def b_law_words_2_at7 : Df := ⟨2, 4, [.ife (.or (.cmp .eq (.var 0) (.int 0)) (.cmp .eq (.var 1) (.int 0))) [.ret (.lst [.bin .add (.bin .mul (.str [120]) (.var 0)) (.bin .mul (.str [121]) (.var 1))])] [], .asg (.v 2) (.lc c_law_words_2_at7_1 (.v 3) .plain [.call 24866 [.bin .sub (.var 0) (.int 1), .var 1]] .nop [3]), .ret (.bin .add (.var 2) (.lc c_law_words_2_at7_2 (.v 3) .plain [.call 24866 [.var 0, .bin .sub (.var 1) (.int 1)]] .nop [3]))]⟩
def c_law_words_2_at8_1 : E := .bin .add (.str [120]) (.var 3)
def c_law_words_2_at8_2 : E := .bin .add (.str [121]) (.var 3)
def b_law_words_2_at8 : Df := ⟨2, 4, [.ife (.or (.cmp .eq (.var 0) (.int 0)) (.cmp .eq (.var 1) (.int 0))) [.ret (.lst [.bin .add (.bin .mul (.str [120]) (.var 0)) (.bin .mul (.str [121]) (.var 1))])] [], .asg (.v 2) (.lc c_law_words_2_at8_1 (.v 3) .plain [.call 24867 [.bin .sub (.var 0) (.int 1), .var 1]] .nop [3]), .ret (.bin .add (.var 2) (.lc c_law_words_2_at8_2 (.v 3) .plain [.call 24867 [.var 0, .bin .sub (.var 1) (.int 1)]] .nop [3]))]⟩
def l_law_box_2_1 : List S := [.par [5, 6] [.call 133 [.var 0, .bin .shl (.int 1) (.var 4)], .call 133 [.var 0, .bin .shl (.int 1) (.var 4)]], .app 3 (.tup [.bi .min [.var 5, .var 6], .bi .max [.var 5, .var 6]])]
def b_law_box_2 : Df := ⟨3, 7, [.asg (.v 3) (.lst []), .for_ (.v 4) .plain [.tup [.var 1, .var 2]] l_law_box_2_1, .ret (.tup [.sub (.sub (.var 3) (.int 0)) (.int 0), .sub (.sub (.var 3) (.int 1)) (.int 0), .sub (.sub (.var 3) (.int 0)) (.int 1), .sub (.sub (.var 3) (.int 1)) (.int 1)])]⟩
def b_law_grid : Df := ⟨2, 4, [.par [2, 3] [.call 133 [.var 0, .bin .add (.var 1) (.int 1)], .call 133 [.var 0, .bin .add (.var 1) (.int 1)]], .ret (.ite (.cmp .gt (.bin .add (.var 2) (.var 3)) (.int 0)) (.tup [.var 2, .var 3]) (.tup [.int 1, .call 133 [.var 0, .int 2]]))]⟩
def l_law_load_1 : List S := [.app 4 (.tup [.call 244 [.var 0, .var 1, .var 2], .bin .add (.int 1) (.call 133 [.var 0, .sub (.lst [.int 3, .bin .pow (.int 10) (.int 30)]) (.call 133 [.var 0, .int 2])])])]
def b_law_load : Df := ⟨4, 6, [.asg (.v 4) (.lst []), .for_ (.v 5) .rng [.bin .add (.int 1) (.call 133 [.var 0, .var 3])] l_law_load_1, .ret (.var 4)]⟩
def c_law_told_right_1 : E := .var 5
def c_law_told_right_2 : E := .cmp .eq (.var 6) (.var 2)
def b_law_told_right : Df := ⟨4, 7, [.asg (.v 4) (.lc c_law_told_right_1 (.tup [.v 5, .v 6]) .zip [.var 1, .var 0] c_law_told_right_2 [5, 6]), .ret (.cmp .eq (.bi .repr [.var 3]) (.bi .repr [.tup [.var 2, .bi .len [.var 4], .sub (.var 4) (.int 0)]]))]⟩
def c_law_right_27_1 : E := .bin .mul (.var 9) (.call 242 [.var 7, .var 8])
def c_law_right_27_2 : E := .bi .sum [.lc c_law_right_27_1 (.tup [.v 8, .v 9]) .plain [.var 5] .nop [8, 9]]
def c_law_right_27_3 : E := .call 237 [.new 0 [.var 7], .var 5]
def b_law_right_27 : Df := ⟨1, 10, [.asg (.tup [.v 3, .v 4]) (.call 245 [.var 0, .int 3]), .parT [5, 6] [.call 246 [.var 0, .var 3, .var 4, .int 3], .call 24868 [.var 3, .var 4]], .asg (.v 1) (.bi .repr [.var 5]), .asg (.v 2) (.lc c_law_right_27_2 (.v 7) .plain [.var 6] .nop [7]), .ife (.cmp .ne (.bi .repr [.lc c_law_right_27_3 (.v 7) .plain [.var 6] .nop [7]]) (.bi .repr [.var 2])) [.ret (.bl false)] [], .ife (.not (.call 247 [.var 2, .var 6, .bi .min [.var 2], .call 238 [.var 3, .var 4, .var 5]])) [.ret (.bl false)] [], .ife (.not (.call 247 [.var 2, .var 6, .bi .max [.var 2], .call 239 [.var 3, .var 4, .var 5]])) [.ret (.bl false)] [], .ret (.cmp .eq (.bi .repr [.var 5]) (.var 1))]⟩
def c_law_small_right_2_1 : E := .bin .mul (.var 11) (.call 242 [.var 7, .var 10])
def c_law_small_right_2_2 : E := .bi .sum [.lc c_law_small_right_2_1 (.tup [.v 10, .v 11]) .plain [.var 5] .nop [10, 11]]
def c_law_small_right_2_3 : E := .var 7
def c_law_small_right_2_4 : E := .cmp .eq (.var 8) (.bi .min [.var 1])
def c_law_small_right_2_5 : E := .call 250 [.var 3, .var 4, .var 5, .var 9]
def b_law_small_right_2 : Df := ⟨1, 12, [.asg (.tup [.v 3, .v 4]) (.call 245 [.var 0, .int 3]), .parT [5, 6] [.call 246 [.var 0, .var 3, .var 4, .int 3], .call 24868 [.var 3, .var 4]], .asg (.v 1) (.lc c_law_small_right_2_2 (.v 7) .plain [.var 6] .nop [7]), .asg (.v 2) (.lc c_law_small_right_2_3 (.tup [.v 7, .v 8]) .zip [.var 6, .var 1] c_law_small_right_2_4 [7, 8]), .ret (.cmp .eq (.bi .repr [.lc c_law_small_right_2_5 (.v 9) .rng [.bi .len [.var 2]] .nop [9]]) (.bi .repr [.var 2]))]⟩
def c_law_small_right_3_1 : E := .call 319 [.var 8, .var 6, .var 7]
def c_law_small_right_3_2 : E := .var 8
def c_law_small_right_3_3 : E := .cmp .eq (.var 9) (.bi .min [.var 2])
def b_law_small_right_3 : Df := ⟨1, 10, [.asg (.tup [.v 4, .v 5]) (.call 245 [.var 0, .sub (.lst [.int 2, .int 3]) (.call 133 [.var 0, .int 2])]), .parT [6, 7] [.bin .add (.int 1) (.call 133 [.var 0, .bin .shl (.int 1) (.var 4)]), .bin .add (.int 1) (.call 133 [.var 0, .bin .shl (.int 1) (.var 5)])], .asg (.v 1) (.call 24868 [.var 4, .var 5]), .asg (.v 2) (.lc c_law_small_right_3_1 (.v 8) .plain [.var 1] .nop [8]), .asg (.v 3) (.lc c_law_small_right_3_2 (.tup [.v 8, .v 9]) .zip [.var 1, .var 2] c_law_small_right_3_3 [8, 9]), .ret (.cmp .eq (.bi .repr [.call 317 [.var 4, .var 5, .var 6, .var 7]]) (.bi .repr [.tup [.bi .min [.var 2], .bi .len [.var 3], .sub (.var 3) (.int 0)]]))]⟩
def b_TooMany___init : Df := ⟨2, 2, [.fld 0 (Str.ofString "limit") (.var 1)]⟩
def b_OverBudget___init : Df := ⟨2, 2, [.fld 0 (Str.ofString "total") (.var 1)]⟩
def c_law_small_right_4_1 : E := .call 507 [.var 0, .var 8, .var 9]
def c_law_small_right_4_2 : E := .call 509 [.var 8, .var 9, .var 18]
def b_law_small_right_4 : Df := ⟨3, 20, [.parT [8, 9] [.prp 10 (.var 1), .prp 11 (.var 1)], .par [10, 11] [.call 509 [.var 8, .var 9, .var 2], .bin .sub (.call 503 [.bin .add (.var 8) (.var 9)]) (.int 1)], .ife (.cmp .ne (.call 88 [.var 1, .var 10]) (.call 88 [.var 1, .var 2])) [.ret (.bl false)] [], .ife (.cmp .ne (.call 89 [.var 1, .var 10]) (.call 89 [.var 1, .var 2])) [.ret (.bl false)] [], .par [12, 13] [.call 54 [.var 1, .var 2], .bin .mul (.bin .add (.bin .sub (.sub (.var 2) (.int 2)) (.sub (.var 2) (.int 0))) (.int 1)) (.bin .add (.bin .sub (.sub (.var 2) (.int 3)) (.sub (.var 2) (.int 1))) (.int 1))], .asg (.v 3) (.call 502 [.var 0, .var 12]), .asg (.tup [.v 14, .v 15]) (.call 96 [.var 1, .var 2, .var 3]), .ife (.cmp .ne (.call 96 [.var 1, .var 10, .bin .sub (.bin .sub (.var 12) (.int 1)) (.var 3)]) (.tup [.bin .sub (.var 11) (.var 15), .bin .sub (.var 11) (.var 14)])) [.ret (.bl false)] [], .asg (.v 4) (.call 170 [.var 1, .var 2, .call 502 [.var 0, .var 13]]), .asg (.tup [.v 14, .v 15]) (.call 98 [.var 1, .var 2, .var 4]), .ife (.cmp .ne (.call 98 [.var 1, .var 10, .call 508 [.var 1, .var 4]]) (.tup [.bin .sub (.var 11) (.var 15), .bin .sub (.var 11) (.var 14)])) [.ret (.bl false)] [], .par [16, 17] [.bin .add (.int 1) (.call 502 [.var 0, .bin .add (.var 12) (.int 2)]), .bin .add (.var 13) (.call 502 [.var 0, .bin .add (.var 11) (.int 2)])], .ife (.cmp .ne (.call 112 [.var 1, .var 10, .var 16]) (.call 112 [.var 1, .var 2, .var 16])) [.ret (.bl false)] [], .ife (.cmp .ne (.call 113 [.var 1, .var 10, .var 17]) (.call 113 [.var 1, .var 2, .var 17])) [.ret (.bl false)] [], .asg (.v 5) (.tup [.call 502 [.var 0, .int 50], .call 502 [.var 0, .int 9]]), .ife (.cmp .ne (.call 114 [.var 1, .var 10, .sub (.var 5) (.int 0), .sub (.var 5) (.int 1)]) (.call 114 [.var 1, .var 2, .sub (.var 5) (.int 0), .sub (.var 5) (.int 1)])) [.ret (.bl false)] [], .asg (.v 6) (.bin .add (.lst [.var 2]) (.lc c_law_small_right_4_1 (.v 19) .rng [.call 502 [.var 0, .int 3]] .nop [19])), .asg (.v 7) (.lc c_law_small_right_4_2 (.v 18) .plain [.var 6] .nop [18]), .ret (.and (.cmp .eq (.call 189 [.var 1, .var 7]) (.call 189 [.var 1, .var 6])) (.cmp .eq (.call 190 [.var 1, .var 7]) (.call 190 [.var 1, .var 6])))]⟩
def nmF : Nat → Str
  | 1 => Str.ofString "is_int"
  | 2 => Str.ofString "is_whole"
  | 44 => Str.ofString "is_box"
  | 226 => Str.ofString "is_load_item"
  | 31 => Str.ofString "__init__"
  | 33 => Str.ofString "__init__"
  | 24 => Str.ofString "require_bits"
  | 328 => Str.ofString "require_load"
  | 329 => Str.ofString "numbers_text"
  | 330 => Str.ofString "load_text"
  | 331 => Str.ofString "show_load"
  | 332 => Str.ofString "whole_in"
  | 333 => Str.ofString "item_in"
  | 334 => Str.ofString "read_load"
  | 132 => Str.ofString "_law_bag"
  | 133 => Str.ofString "_law_pick"
  | 335 => Str.ofString "_law_word"
  | 336 => Str.ofString "_law_key"
  | 337 => Str.ofString "_law_keys"
  | 546 => Str.ofString "_law_runs"
  | 26760 => Str.ofString "_law_words"
  | 26761 => Str.ofString "_law_words"
  | 26762 => Str.ofString "_law_words"
  | 26763 => Str.ofString "_law_words"
  | 26764 => Str.ofString "_law_words"
  | 26765 => Str.ofString "_law_words"
  | 26766 => Str.ofString "_law_words"
  | 26767 => Str.ofString "_law_words"
  | 26768 => Str.ofString "_law_words"
  | 338 => Str.ofString "_law_words"
  | 339 => Str.ofString "_law_total"
  | 340 => Str.ofString "_law_best"
  | 341 => Str.ofString "_law_least"
  | 342 => Str.ofString "_law_box"
  | 343 => Str.ofString "_law_text"
  | 344 => Str.ofString "law"
  | 3 => Str.ofString "require_cell"
  | 4 => Str.ofString "require_key"
  | 5 => Str.ofString "feet_of"
  | 6 => Str.ofString "key_of"
  | 7 => Str.ofString "cell_of"
  | 8 => Str.ofString "__init__"
  | 9 => Str.ofString "word"
  | 10 => Str.ofString "x_bits"
  | 11 => Str.ofString "y_bits"
  | 12 => Str.ofString "__eq__"
  | 13 => Str.ofString "key"
  | 14 => Str.ofString "cell"
  | 15 => Str.ofString "_law_wound"
  | 16 => Str.ofString "_law_spin"
  | 17 => Str.ofString "_law_drawn_word"
  | 18 => Str.ofString "_law_power"
  | 19 => Str.ofString "_law_key_of"
  | 20 => Str.ofString "_law_digit"
  | 21 => Str.ofString "_law_right"
  | 22 => Str.ofString "_law_all_right"
  | 23 => Str.ofString "law"
  | 25 => Str.ofString "rows"
  | 26 => Str.ofString "columns"
  | 27 => Str.ofString "laced"
  | 28 => Str.ofString "tiled"
  | 29 => Str.ofString "_law_right"
  | 30 => Str.ofString "law"
  | 45 => Str.ofString "require_layout"
  | 46 => Str.ofString "require_box"
  | 47 => Str.ofString "area_of"
  | 48 => Str.ofString "multiples"
  | 49 => Str.ofString "odd_multiples"
  | 50 => Str.ofString "aligned"
  | 51 => Str.ofString "inner_odd"
  | 52 => Str.ofString "box_saves"
  | 53 => Str.ofString "runs_in"
  | 54 => Str.ofString "count_runs"
  | 55 => Str.ofString "ends"
  | 56 => Str.ofString "_law_drawn_box"
  | 57 => Str.ofString "_law_listed_keys"
  | 58 => Str.ofString "_law_stretches"
  | 59 => Str.ofString "_law_right"
  | 60 => Str.ofString "law"
  | 61 => Str.ofString "saved"
  | 62 => Str.ofString "_law_rank"
  | 63 => Str.ofString "_law_right"
  | 64 => Str.ofString "law"
  | 65 => Str.ofString "_law_multiples"
  | 66 => Str.ofString "_law_saved"
  | 67 => Str.ofString "_law_near_box"
  | 68 => Str.ofString "_law_cut_right"
  | 69 => Str.ofString "_law_right"
  | 70 => Str.ofString "law"
  | 93 => Str.ofString "require_cell_of"
  | 76 => Str.ofString "part_of"
  | 77 => Str.ofString "half_side"
  | 78 => Str.ofString "halves_of"
  | 79 => Str.ofString "is_full"
  | 80 => Str.ofString "kinds_of"
  | 81 => Str.ofString "is_joined"
  | 82 => Str.ofString "joined_summary"
  | 83 => Str.ofString "summaries_of"
  | 84 => Str.ofString "half_summaries"
  | 94 => Str.ofString "run_end"
  | 95 => Str.ofString "run_with"
  | 96 => Str.ofString "nth_run"
  | 97 => Str.ofString "run_index"
  | 98 => Str.ofString "run_of"
  | 99 => Str.ofString "_law_right"
  | 100 => Str.ofString "law"
  | 85 => Str.ofString "add_times"
  | 86 => Str.ofString "add_closed"
  | 87 => Str.ofString "count_lengths"
  | 110 => Str.ofString "require_number"
  | 111 => Str.ofString "gaps_of"
  | 112 => Str.ofString "fewest_read"
  | 113 => Str.ofString "fewest_scans"
  | 114 => Str.ofString "least_cost"
  | 115 => Str.ofString "_law_ways"
  | 116 => Str.ofString "_law_both"
  | 117 => Str.ofString "_law_right"
  | 118 => Str.ofString "law"
  | 125 => Str.ofString "forms_of"
  | 126 => Str.ofString "blocks_within"
  | 127 => Str.ofString "blocks_in"
  | 128 => Str.ofString "require_layout_and_box"
  | 129 => Str.ofString "count_blocks"
  | 130 => Str.ofString "is_within"
  | 131 => Str.ofString "block_of"
  | 134 => Str.ofString "_law_word"
  | 135 => Str.ofString "_law_bits"
  | 136 => Str.ofString "_law_key"
  | 137 => Str.ofString "_law_cell"
  | 138 => Str.ofString "_law_side"
  | 139 => Str.ofString "_law_box"
  | 140 => Str.ofString "_law_keys"
  | 22820 => Str.ofString "_law_stretches"
  | 22821 => Str.ofString "_law_stretches"
  | 22822 => Str.ofString "_law_stretches"
  | 22823 => Str.ofString "_law_stretches"
  | 22824 => Str.ofString "_law_stretches"
  | 22825 => Str.ofString "_law_stretches"
  | 22826 => Str.ofString "_law_stretches"
  | 22827 => Str.ofString "_law_stretches"
  | 22828 => Str.ofString "_law_stretches"
  | 141 => Str.ofString "_law_stretches"
  | 142 => Str.ofString "_law_right"
  | 143 => Str.ofString "law"
  | 144 => Str.ofString "pages_in"
  | 145 => Str.ofString "block_sizes"
  | 146 => Str.ofString "count_pages"
  | 147 => Str.ofString "_law_sizes"
  | 148 => Str.ofString "_law_right"
  | 149 => Str.ofString "law"
  | 150 => Str.ofString "_law_within"
  | 151 => Str.ofString "_law_block_right"
  | 152 => Str.ofString "_law_due"
  | 153 => Str.ofString "_law_pages_right"
  | 154 => Str.ofString "_law_right"
  | 155 => Str.ofString "law"
  | 164 => Str.ofString "common"
  | 165 => Str.ofString "cells_in"
  | 166 => Str.ofString "rank_in"
  | 167 => Str.ofString "cell_in"
  | 168 => Str.ofString "require_place_in"
  | 169 => Str.ofString "rank"
  | 170 => Str.ofString "cell_at"
  | 171 => Str.ofString "_law_right"
  | 172 => Str.ofString "law"
  | 173 => Str.ofString "next_cell"
  | 174 => Str.ofString "last_cell"
  | 175 => Str.ofString "_law_small_right"
  | 176 => Str.ofString "_law_great_right"
  | 177 => Str.ofString "law"
  | 178 => Str.ofString "_law_stretch"
  | 179 => Str.ofString "_law_rank"
  | 180 => Str.ofString "_law_right"
  | 181 => Str.ofString "law"
  | 32 => Str.ofString "__init__"
  | 185 => Str.ofString "require_boxes"
  | 186 => Str.ofString "common_box"
  | 187 => Str.ofString "signed_parts"
  | 188 => Str.ofString "pairs_of"
  | 189 => Str.ofString "cells_of"
  | 190 => Str.ofString "runs_of"
  | 191 => Str.ofString "_law_boxes"
  | 192 => Str.ofString "_law_right"
  | 193 => Str.ofString "law"
  | 194 => Str.ofString "_law_area"
  | 195 => Str.ofString "_law_same"
  | 196 => Str.ofString "_law_within"
  | 197 => Str.ofString "_law_parts_right"
  | 198 => Str.ofString "_law_grown_right"
  | 199 => Str.ofString "_law_right"
  | 200 => Str.ofString "law"
  | 204 => Str.ofString "parting_box"
  | 205 => Str.ofString "_law_runs"
  | 206 => Str.ofString "_law_exchanged"
  | 207 => Str.ofString "_law_right"
  | 208 => Str.ofString "law"
  | 209 => Str.ofString "choices"
  | 210 => Str.ofString "words_with_x_ahead"
  | 211 => Str.ofString "count_ahead"
  | 212 => Str.ofString "_law_words"
  | 213 => Str.ofString "_law_right"
  | 214 => Str.ofString "_law_some_cell"
  | 215 => Str.ofString "law"
  | 216 => Str.ofString "_law_every"
  | 217 => Str.ofString "_law_parted_right"
  | 218 => Str.ofString "_law_ahead"
  | 219 => Str.ofString "_law_cells_right"
  | 220 => Str.ofString "law"
  | 227 => Str.ofString "require_load"
  | 228 => Str.ofString "axis_counts"
  | 229 => Str.ofString "load_area"
  | 230 => Str.ofString "load_counts"
  | 231 => Str.ofString "saved_by"
  | 232 => Str.ofString "run_gains"
  | 233 => Str.ofString "way_table"
  | 234 => Str.ofString "word_of"
  | 235 => Str.ofString "told_best"
  | 236 => Str.ofString "require_question"
  | 237 => Str.ofString "load_runs"
  | 238 => Str.ofString "best_layout"
  | 239 => Str.ofString "worst_layout"
  | 240 => Str.ofString "_law_key"
  | 241 => Str.ofString "_law_keys"
  | 242 => Str.ofString "_law_runs"
  | 24860 => Str.ofString "_law_words"
  | 24861 => Str.ofString "_law_words"
  | 24862 => Str.ofString "_law_words"
  | 24863 => Str.ofString "_law_words"
  | 24864 => Str.ofString "_law_words"
  | 24865 => Str.ofString "_law_words"
  | 24866 => Str.ofString "_law_words"
  | 24867 => Str.ofString "_law_words"
  | 24868 => Str.ofString "_law_words"
  | 243 => Str.ofString "_law_words"
  | 244 => Str.ofString "_law_box"
  | 245 => Str.ofString "_law_grid"
  | 246 => Str.ofString "_law_load"
  | 247 => Str.ofString "_law_told_right"
  | 248 => Str.ofString "_law_right"
  | 249 => Str.ofString "law"
  | 250 => Str.ofString "nth_best"
  | 251 => Str.ofString "_law_choices"
  | 252 => Str.ofString "_law_small_right"
  | 253 => Str.ofString "_law_block_right"
  | 254 => Str.ofString "law"
  | 255 => Str.ofString "whole_blocks"
  | 256 => Str.ofString "block_gains"
  | 257 => Str.ofString "load_blocks"
  | 258 => Str.ofString "best_blocks"
  | 259 => Str.ofString "best_page"
  | 25200 => Str.ofString "_law_blocks"
  | 25201 => Str.ofString "_law_blocks"
  | 25202 => Str.ofString "_law_blocks"
  | 25203 => Str.ofString "_law_blocks"
  | 25204 => Str.ofString "_law_blocks"
  | 25205 => Str.ofString "_law_blocks"
  | 25206 => Str.ofString "_law_blocks"
  | 25207 => Str.ofString "_law_blocks"
  | 25208 => Str.ofString "_law_blocks"
  | 260 => Str.ofString "_law_blocks"
  | 261 => Str.ofString "_law_pages_right"
  | 262 => Str.ofString "_law_right"
  | 263 => Str.ofString "law"
  | 281 => Str.ofString "require_size"
  | 282 => Str.ofString "quotient_sum"
  | 283 => Str.ofString "odd_sum"
  | 284 => Str.ofString "whole_sum"
  | 285 => Str.ofString "place_gains"
  | 286 => Str.ofString "place_count"
  | 287 => Str.ofString "total_of"
  | 288 => Str.ofString "require_places"
  | 289 => Str.ofString "total_runs"
  | 290 => Str.ofString "greatest_divisor"
  | 291 => Str.ofString "mean_runs"
  | 264 => Str.ofString "_law_word"
  | 292 => Str.ofString "_law_divisor"
  | 293 => Str.ofString "_law_places"
  | 294 => Str.ofString "_law_right"
  | 295 => Str.ofString "law"
  | 317 => Str.ofString "best_anywhere"
  | 318 => Str.ofString "_law_size"
  | 319 => Str.ofString "_law_total"
  | 320 => Str.ofString "_law_small_right"
  | 310 => Str.ofString "_law_quotients"
  | 311 => Str.ofString "_law_odds"
  | 312 => Str.ofString "_law_stretches"
  | 313 => Str.ofString "_law_saves"
  | 321 => Str.ofString "_law_best"
  | 322 => Str.ofString "_law_great_right"
  | 323 => Str.ofString "law"
  | 447 => Str.ofString "_law_cut"
  | 448 => Str.ofString "_law_right"
  | 449 => Str.ofString "law"
  | 450 => Str.ofString "_law_far_right"
  | 451 => Str.ofString "_law_right"
  | 543 => Str.ofString "law"
  | 435 => Str.ofString "_law_run_right"
  | 436 => Str.ofString "_law_right"
  | 437 => Str.ofString "law"
  | 88 => Str.ofString "run_lengths"
  | 89 => Str.ofString "gap_lengths"
  | 442 => Str.ofString "_law_twice"
  | 443 => Str.ofString "_law_moved"
  | 444 => Str.ofString "_law_far_right"
  | 445 => Str.ofString "_law_right"
  | 446 => Str.ofString "law"
  | 452 => Str.ofString "_law_walk"
  | 453 => Str.ofString "_law_pages_right"
  | 454 => Str.ofString "_law_right"
  | 455 => Str.ofString "law"
  | 456 => Str.ofString "_law_common"
  | 457 => Str.ofString "_law_cells"
  | 458 => Str.ofString "_law_turned"
  | 459 => Str.ofString "_law_right"
  | 460 => Str.ofString "law"
  | 461 => Str.ofString "_law_same_right"
  | 462 => Str.ofString "_law_right"
  | 463 => Str.ofString "law"
  | 464 => Str.ofString "_law_words_right"
  | 465 => Str.ofString "_law_right"
  | 466 => Str.ofString "law"
  | 467 => Str.ofString "_law_whole_right"
  | 468 => Str.ofString "_law_block"
  | 469 => Str.ofString "_law_right"
  | 480 => Str.ofString "_law_mixed"
  | 481 => Str.ofString "_law_small_load"
  | 482 => Str.ofString "_law_told"
  | 483 => Str.ofString "_law_right"
  | 280 => Str.ofString "law"
  | 501 => Str.ofString "_law_vat"
  | 502 => Str.ofString "_law_dip"
  | 503 => Str.ofString "_law_power"
  | 504 => Str.ofString "_law_bits"
  | 505 => Str.ofString "_law_word"
  | 506 => Str.ofString "_law_spot"
  | 507 => Str.ofString "_law_box"
  | 525 => Str.ofString "_law_multiples"
  | 526 => Str.ofString "_law_odd"
  | 527 => Str.ofString "_law_sides"
  | 528 => Str.ofString "_law_gains"
  | 529 => Str.ofString "_law_ways"
  | 530 => Str.ofString "_law_told_word"
  | 531 => Str.ofString "_law_sum"
  | 532 => Str.ofString "_law_best_right"
  | 533 => Str.ofString "law"
  | 34 => Str.ofString "__init__"
  | 35 => Str.ofString "__init__"
  | 36 => Str.ofString "_law_told_kind"
  | 37 => Str.ofString "_law_kinds"
  | 38 => Str.ofString "_law_called"
  | 39 => Str.ofString "_law_told"
  | 40 => Str.ofString "_law_words_refused"
  | 41 => Str.ofString "_law_cells_refused"
  | 42 => Str.ofString "_law_bits_refused"
  | 43 => Str.ofString "law"
  | 156 => Str.ofString "_law_bad_integers"
  | 157 => Str.ofString "_law_bad_boxes"
  | 158 => Str.ofString "_law_bad_layouts"
  | 159 => Str.ofString "_law_bad_cells"
  | 160 => Str.ofString "_law_class"
  | 221 => Str.ofString "_law_told"
  | 222 => Str.ofString "_law_parted"
  | 223 => Str.ofString "_law_layouts_right"
  | 224 => Str.ofString "_law_right"
  | 225 => Str.ofString "law"
  | 71 => Str.ofString "_law_called"
  | 72 => Str.ofString "_law_told"
  | 73 => Str.ofString "_law_bad_boxes"
  | 74 => Str.ofString "_law_right"
  | 75 => Str.ofString "law"
  | 123 => Str.ofString "_law_called"
  | 107 => Str.ofString "_law_told"
  | 124 => Str.ofString "_law_right"
  | 109 => Str.ofString "law"
  | 106 => Str.ofString "_law_called"
  | 544 => Str.ofString "_law_told"
  | 108 => Str.ofString "_law_right"
  | 545 => Str.ofString "law"
  | 101 => Str.ofString "_law_is_in"
  | 102 => Str.ofString "_law_run_right"
  | 103 => Str.ofString "_law_right"
  | 104 => Str.ofString "_law_tiles_right"
  | 105 => Str.ofString "law"
  | 346 => Str.ofString "_law_class"
  | 353 => Str.ofString "_law_told"
  | 354 => Str.ofString "_law_read"
  | 355 => Str.ofString "_law_bad_items"
  | 356 => Str.ofString "law"
  | 345 => Str.ofString "read_load"
  | 347 => Str.ofString "_law_told"
  | 348 => Str.ofString "_law_number"
  | 349 => Str.ofString "_law_is_item"
  | 350 => Str.ofString "_law_due"
  | 351 => Str.ofString "_law_bent"
  | 352 => Str.ofString "law"
  | 515 => Str.ofString "_law_forms"
  | 516 => Str.ofString "_law_touched"
  | 517 => Str.ofString "_law_area"
  | 518 => Str.ofString "_law_within"
  | 519 => Str.ofString "_law_blocks_right"
  | 520 => Str.ofString "_law_cell_right"
  | 521 => Str.ofString "_law_pages_right"
  | 522 => Str.ofString "_law_lengths_right"
  | 523 => Str.ofString "_law_best_right"
  | 524 => Str.ofString "law"
  | 508 => Str.ofString "_law_turned"
  | 509 => Str.ofString "_law_round"
  | 510 => Str.ofString "_law_back"
  | 511 => Str.ofString "_law_great_right"
  | 512 => Str.ofString "_law_small_right"
  | 513 => Str.ofString "_law_load_right"
  | 514 => Str.ofString "law"
  | _ => Str.ofString ""
def tbI : Nat → Option Nat
  | 31 => some 0
  | 33 => some 0
  | 133 => some 0
  | 335 => some 0
  | 342 => some 0
  | 8 => some 0
  | 16 => some 0
  | 17 => some 0
  | 21 => some 0
  | 22 => some 0
  | 29 => some 0
  | 56 => some 0
  | 59 => some 0
  | 63 => some 0
  | 67 => some 0
  | 68 => some 0
  | 69 => some 0
  | 84 => some 1
  | 94 => some 1
  | 99 => some 0
  | 85 => some 0
  | 86 => some 1000
  | 117 => some 0
  | 134 => some 0
  | 135 => some 0
  | 138 => some 0
  | 139 => some 0
  | 142 => some 0
  | 148 => some 0
  | 153 => some 0
  | 154 => some 0
  | 171 => some 0
  | 175 => some 0
  | 176 => some 0
  | 180 => some 0
  | 32 => some 0
  | 191 => some 0
  | 192 => some 0
  | 196 => some 0
  | 197 => some 0
  | 198 => some 0
  | 199 => some 0
  | 206 => some 0
  | 207 => some 0
  | 214 => some 0
  | 217 => some 0
  | 219 => some 0
  | 244 => some 0
  | 245 => some 0
  | 246 => some 0
  | 248 => some 0
  | 252 => some 0
  | 253 => some 0
  | 262 => some 0
  | 264 => some 0
  | 294 => some 0
  | 318 => some 0
  | 320 => some 0
  | 322 => some 0
  | 447 => some 0
  | 448 => some 0
  | 450 => some 0
  | 451 => some 0
  | 436 => some 0
  | 444 => some 0
  | 445 => some 0
  | 453 => some 0
  | 454 => some 0
  | 459 => some 0
  | 461 => some 0
  | 462 => some 0
  | 464 => some 0
  | 465 => some 0
  | 467 => some 0
  | 469 => some 0
  | 480 => some 0
  | 481 => some 0
  | 483 => some 0
  | 502 => some 0
  | 504 => some 0
  | 505 => some 0
  | 506 => some 0
  | 507 => some 0
  | 532 => some 0
  | 34 => some 0
  | 35 => some 0
  | 42 => some 0
  | 223 => some 0
  | 224 => some 0
  | 74 => some 0
  | 124 => some 0
  | 108 => some 0
  | 102 => some 0
  | 103 => some 0
  | 104 => some 0
  | 351 => some 0
  | 522 => some 0
  | 523 => some 0
  | 511 => some 0
  | 512 => some 0
  | 513 => some 0
  | _ => none
def tbG : Nat → D
  | 2 => .int 100
  | 4 => .int 100
  | 6 => .int 1000000000000000000000000000000
  | 8 => .int 20
  | 9 => .int 20
  | 3 => .int 3
  | 5 => .int 20
  | _ => .non
def tbN : Nat → Nat
  | 0 => 8
  | _ => 0
def tbQ : Nat → Option Nat
  | 0 => some 12
  | _ => none
def tbM : Nat → Nat → Bool
  | 9, 0 => true
  | 10, 0 => true
  | 11, 0 => true
  | 12, 0 => true
  | 13, 0 => true
  | 14, 0 => true
  | _, _ => false
def tbB : Nat → Df
  | 1 => b_is_int
  | 2 => b_is_whole
  | 44 => b_is_box
  | 226 => b_is_load_item
  | 31 => b_InvalidLoad___init
  | 33 => b_InvalidText___init
  | 24 => b_require_bits
  | 328 => b_require_load_2
  | 329 => b_numbers_text
  | 330 => b_load_text
  | 331 => b_show_load
  | 332 => b_whole_in
  | 333 => b_item_in
  | 334 => b_read_load
  | 132 => b_law_bag
  | 133 => b_law_pick
  | 342 => b_law_box_3
  | 343 => b_law_text
  | 344 => b_law_37
  | 3 => b_require_cell
  | 4 => b_require_key
  | 5 => b_feet_of
  | 6 => b_key_of
  | 7 => b_cell_of
  | 8 => b_Layout___init
  | 9 => b_Layout_word
  | 10 => b_Layout_x_bits
  | 11 => b_Layout_y_bits
  | 12 => b_Layout___eq
  | 13 => b_Layout_key
  | 14 => b_Layout_cell
  | 15 => b_law_wound
  | 16 => b_law_spin
  | 17 => b_law_drawn_word
  | 18 => b_law_power
  | 19 => b_law_key_of
  | 21 => b_law_right
  | 23 => b_law
  | 25 => b_rows
  | 26 => b_columns
  | 27 => b_laced
  | 28 => b_tiled
  | 45 => b_require_layout
  | 46 => b_require_box
  | 47 => b_area_of
  | 48 => b_multiples
  | 49 => b_odd_multiples
  | 50 => b_aligned
  | 51 => b_inner_odd
  | 52 => b_box_saves
  | 53 => b_runs_in
  | 54 => b_count_runs
  | 55 => b_ends
  | 56 => b_law_drawn_box
  | 57 => b_law_listed_keys
  | 58 => b_law_stretches
  | 59 => b_law_right_3
  | 61 => b_saved
  | 62 => b_law_rank
  | 63 => b_law_right_4
  | 93 => b_require_cell_of
  | 125 => b_forms_of
  | 126 => b_blocks_within
  | 127 => b_blocks_in
  | 128 => b_require_layout_and_box
  | 129 => b_count_blocks
  | 130 => b_is_within
  | 131 => b_block_of
  | 134 => b_law_word
  | 135 => b_law_bits
  | 136 => b_law_key
  | 137 => b_law_cell
  | 138 => b_law_side
  | 139 => b_law_box
  | 140 => b_law_keys
  | 144 => b_pages_in
  | 145 => b_block_sizes
  | 146 => b_count_pages
  | 150 => b_law_within
  | 164 => b_common
  | 165 => b_cells_in
  | 166 => b_rank_in
  | 167 => b_cell_in
  | 168 => b_require_place_in
  | 169 => b_rank
  | 170 => b_cell_at
  | 171 => b_law_right_18
  | 173 => b_next_cell
  | 174 => b_last_cell
  | 175 => b_law_small_right
  | 176 => b_law_great_right
  | 32 => b_InvalidBoxes___init
  | 185 => b_require_boxes
  | 186 => b_common_box
  | 188 => b_pairs_of
  | 204 => b_parting_box
  | 205 => b_law_runs
  | 206 => b_law_exchanged
  | 207 => b_law_right_24
  | 209 => b_choices
  | 210 => b_words_with_x_ahead
  | 211 => b_count_ahead
  | 216 => b_law_every
  | 217 => b_law_parted_right
  | 218 => b_law_ahead
  | 219 => b_law_cells_right
  | 227 => b_require_load
  | 228 => b_axis_counts
  | 229 => b_load_area
  | 230 => b_load_counts
  | 231 => b_saved_by
  | 232 => b_run_gains
  | 233 => b_way_table
  | 234 => b_word_of
  | 235 => b_told_best
  | 236 => b_require_question
  | 237 => b_load_runs
  | 238 => b_best_layout
  | 239 => b_worst_layout
  | 240 => b_law_key_2
  | 241 => b_law_keys_2
  | 242 => b_law_runs_2
  | 24861 => b_law_words_2_at1
  | 24862 => b_law_words_2_at2
  | 24863 => b_law_words_2_at3
  | 24864 => b_law_words_2_at4
  | 24865 => b_law_words_2_at5
  | 24866 => b_law_words_2_at6
  | 24867 => b_law_words_2_at7
  | 24868 => b_law_words_2_at8
  | 244 => b_law_box_2
  | 245 => b_law_grid
  | 246 => b_law_load
  | 247 => b_law_told_right
  | 248 => b_law_right_27
  | 252 => b_law_small_right_2
  | 320 => b_law_small_right_3
  | 34 => b_TooMany___init
  | 35 => b_OverBudget___init
  | 512 => b_law_small_right_4
  | _ => ⟨0, 0, []⟩
def TT0 : Tab := ⟨fun _ _ => .bad, tbI, tbG, tbN, tbQ, tbM, nmF⟩
def tbX : Nat → Option Fn
  | 12 => some G_Layout___eq
  | _ => none
noncomputable def TT : Tab := Tab.fix TT0 tbB tbX
@[simp] theorem io_1 : TT.io 1 = none := rfl
@[simp] theorem io_2 : TT.io 2 = none := rfl
@[simp] theorem io_44 : TT.io 44 = none := rfl
@[simp] theorem io_226 : TT.io 226 = none := rfl
@[simp] theorem io_31 : TT.io 31 = some 0 := rfl
@[simp] theorem io_33 : TT.io 33 = some 0 := rfl
@[simp] theorem io_24 : TT.io 24 = none := rfl
@[simp] theorem io_328 : TT.io 328 = none := rfl
@[simp] theorem io_329 : TT.io 329 = none := rfl
@[simp] theorem io_330 : TT.io 330 = none := rfl
@[simp] theorem io_331 : TT.io 331 = none := rfl
@[simp] theorem io_332 : TT.io 332 = none := rfl
@[simp] theorem io_333 : TT.io 333 = none := rfl
@[simp] theorem io_334 : TT.io 334 = none := rfl
@[simp] theorem io_132 : TT.io 132 = none := rfl
@[simp] theorem io_133 : TT.io 133 = some 0 := rfl
@[simp] theorem io_335 : TT.io 335 = some 0 := rfl
@[simp] theorem io_336 : TT.io 336 = none := rfl
@[simp] theorem io_337 : TT.io 337 = none := rfl
@[simp] theorem io_546 : TT.io 546 = none := rfl
@[simp] theorem io_26760 : TT.io 26760 = none := rfl
@[simp] theorem io_26761 : TT.io 26761 = none := rfl
@[simp] theorem io_26762 : TT.io 26762 = none := rfl
@[simp] theorem io_26763 : TT.io 26763 = none := rfl
@[simp] theorem io_26764 : TT.io 26764 = none := rfl
@[simp] theorem io_26765 : TT.io 26765 = none := rfl
@[simp] theorem io_26766 : TT.io 26766 = none := rfl
@[simp] theorem io_26767 : TT.io 26767 = none := rfl
@[simp] theorem io_26768 : TT.io 26768 = none := rfl
@[simp] theorem io_338 : TT.io 338 = none := rfl
@[simp] theorem io_339 : TT.io 339 = none := rfl
@[simp] theorem io_340 : TT.io 340 = none := rfl
@[simp] theorem io_341 : TT.io 341 = none := rfl
@[simp] theorem io_342 : TT.io 342 = some 0 := rfl
@[simp] theorem io_343 : TT.io 343 = none := rfl
@[simp] theorem io_344 : TT.io 344 = none := rfl
@[simp] theorem io_3 : TT.io 3 = none := rfl
@[simp] theorem io_4 : TT.io 4 = none := rfl
@[simp] theorem io_5 : TT.io 5 = none := rfl
@[simp] theorem io_6 : TT.io 6 = none := rfl
@[simp] theorem io_7 : TT.io 7 = none := rfl
@[simp] theorem io_8 : TT.io 8 = some 0 := rfl
@[simp] theorem io_9 : TT.io 9 = none := rfl
@[simp] theorem io_10 : TT.io 10 = none := rfl
@[simp] theorem io_11 : TT.io 11 = none := rfl
@[simp] theorem io_12 : TT.io 12 = none := rfl
@[simp] theorem io_13 : TT.io 13 = none := rfl
@[simp] theorem io_14 : TT.io 14 = none := rfl
@[simp] theorem io_15 : TT.io 15 = none := rfl
@[simp] theorem io_16 : TT.io 16 = some 0 := rfl
@[simp] theorem io_17 : TT.io 17 = some 0 := rfl
@[simp] theorem io_18 : TT.io 18 = none := rfl
@[simp] theorem io_19 : TT.io 19 = none := rfl
@[simp] theorem io_20 : TT.io 20 = none := rfl
@[simp] theorem io_21 : TT.io 21 = some 0 := rfl
@[simp] theorem io_22 : TT.io 22 = some 0 := rfl
@[simp] theorem io_23 : TT.io 23 = none := rfl
@[simp] theorem io_25 : TT.io 25 = none := rfl
@[simp] theorem io_26 : TT.io 26 = none := rfl
@[simp] theorem io_27 : TT.io 27 = none := rfl
@[simp] theorem io_28 : TT.io 28 = none := rfl
@[simp] theorem io_29 : TT.io 29 = some 0 := rfl
@[simp] theorem io_30 : TT.io 30 = none := rfl
@[simp] theorem io_45 : TT.io 45 = none := rfl
@[simp] theorem io_46 : TT.io 46 = none := rfl
@[simp] theorem io_47 : TT.io 47 = none := rfl
@[simp] theorem io_48 : TT.io 48 = none := rfl
@[simp] theorem io_49 : TT.io 49 = none := rfl
@[simp] theorem io_50 : TT.io 50 = none := rfl
@[simp] theorem io_51 : TT.io 51 = none := rfl
@[simp] theorem io_52 : TT.io 52 = none := rfl
@[simp] theorem io_53 : TT.io 53 = none := rfl
@[simp] theorem io_54 : TT.io 54 = none := rfl
@[simp] theorem io_55 : TT.io 55 = none := rfl
@[simp] theorem io_56 : TT.io 56 = some 0 := rfl
@[simp] theorem io_57 : TT.io 57 = none := rfl
@[simp] theorem io_58 : TT.io 58 = none := rfl
@[simp] theorem io_59 : TT.io 59 = some 0 := rfl
@[simp] theorem io_60 : TT.io 60 = none := rfl
@[simp] theorem io_61 : TT.io 61 = none := rfl
@[simp] theorem io_62 : TT.io 62 = none := rfl
@[simp] theorem io_63 : TT.io 63 = some 0 := rfl
@[simp] theorem io_64 : TT.io 64 = none := rfl
@[simp] theorem io_65 : TT.io 65 = none := rfl
@[simp] theorem io_66 : TT.io 66 = none := rfl
@[simp] theorem io_67 : TT.io 67 = some 0 := rfl
@[simp] theorem io_68 : TT.io 68 = some 0 := rfl
@[simp] theorem io_69 : TT.io 69 = some 0 := rfl
@[simp] theorem io_70 : TT.io 70 = none := rfl
@[simp] theorem io_93 : TT.io 93 = none := rfl
@[simp] theorem io_76 : TT.io 76 = none := rfl
@[simp] theorem io_77 : TT.io 77 = none := rfl
@[simp] theorem io_78 : TT.io 78 = none := rfl
@[simp] theorem io_79 : TT.io 79 = none := rfl
@[simp] theorem io_80 : TT.io 80 = none := rfl
@[simp] theorem io_81 : TT.io 81 = none := rfl
@[simp] theorem io_82 : TT.io 82 = none := rfl
@[simp] theorem io_83 : TT.io 83 = none := rfl
@[simp] theorem io_84 : TT.io 84 = some 1 := rfl
@[simp] theorem io_94 : TT.io 94 = some 1 := rfl
@[simp] theorem io_95 : TT.io 95 = none := rfl
@[simp] theorem io_96 : TT.io 96 = none := rfl
@[simp] theorem io_97 : TT.io 97 = none := rfl
@[simp] theorem io_98 : TT.io 98 = none := rfl
@[simp] theorem io_99 : TT.io 99 = some 0 := rfl
@[simp] theorem io_100 : TT.io 100 = none := rfl
@[simp] theorem io_85 : TT.io 85 = some 0 := rfl
@[simp] theorem io_86 : TT.io 86 = some 1000 := rfl
@[simp] theorem io_87 : TT.io 87 = none := rfl
@[simp] theorem io_110 : TT.io 110 = none := rfl
@[simp] theorem io_111 : TT.io 111 = none := rfl
@[simp] theorem io_112 : TT.io 112 = none := rfl
@[simp] theorem io_113 : TT.io 113 = none := rfl
@[simp] theorem io_114 : TT.io 114 = none := rfl
@[simp] theorem io_115 : TT.io 115 = none := rfl
@[simp] theorem io_116 : TT.io 116 = none := rfl
@[simp] theorem io_117 : TT.io 117 = some 0 := rfl
@[simp] theorem io_118 : TT.io 118 = none := rfl
@[simp] theorem io_125 : TT.io 125 = none := rfl
@[simp] theorem io_126 : TT.io 126 = none := rfl
@[simp] theorem io_127 : TT.io 127 = none := rfl
@[simp] theorem io_128 : TT.io 128 = none := rfl
@[simp] theorem io_129 : TT.io 129 = none := rfl
@[simp] theorem io_130 : TT.io 130 = none := rfl
@[simp] theorem io_131 : TT.io 131 = none := rfl
@[simp] theorem io_134 : TT.io 134 = some 0 := rfl
@[simp] theorem io_135 : TT.io 135 = some 0 := rfl
@[simp] theorem io_136 : TT.io 136 = none := rfl
@[simp] theorem io_137 : TT.io 137 = none := rfl
@[simp] theorem io_138 : TT.io 138 = some 0 := rfl
@[simp] theorem io_139 : TT.io 139 = some 0 := rfl
@[simp] theorem io_140 : TT.io 140 = none := rfl
@[simp] theorem io_22820 : TT.io 22820 = none := rfl
@[simp] theorem io_22821 : TT.io 22821 = none := rfl
@[simp] theorem io_22822 : TT.io 22822 = none := rfl
@[simp] theorem io_22823 : TT.io 22823 = none := rfl
@[simp] theorem io_22824 : TT.io 22824 = none := rfl
@[simp] theorem io_22825 : TT.io 22825 = none := rfl
@[simp] theorem io_22826 : TT.io 22826 = none := rfl
@[simp] theorem io_22827 : TT.io 22827 = none := rfl
@[simp] theorem io_22828 : TT.io 22828 = none := rfl
@[simp] theorem io_141 : TT.io 141 = none := rfl
@[simp] theorem io_142 : TT.io 142 = some 0 := rfl
@[simp] theorem io_143 : TT.io 143 = none := rfl
@[simp] theorem io_144 : TT.io 144 = none := rfl
@[simp] theorem io_145 : TT.io 145 = none := rfl
@[simp] theorem io_146 : TT.io 146 = none := rfl
@[simp] theorem io_147 : TT.io 147 = none := rfl
@[simp] theorem io_148 : TT.io 148 = some 0 := rfl
@[simp] theorem io_149 : TT.io 149 = none := rfl
@[simp] theorem io_150 : TT.io 150 = none := rfl
@[simp] theorem io_151 : TT.io 151 = none := rfl
@[simp] theorem io_152 : TT.io 152 = none := rfl
@[simp] theorem io_153 : TT.io 153 = some 0 := rfl
@[simp] theorem io_154 : TT.io 154 = some 0 := rfl
@[simp] theorem io_155 : TT.io 155 = none := rfl
@[simp] theorem io_164 : TT.io 164 = none := rfl
@[simp] theorem io_165 : TT.io 165 = none := rfl
@[simp] theorem io_166 : TT.io 166 = none := rfl
@[simp] theorem io_167 : TT.io 167 = none := rfl
@[simp] theorem io_168 : TT.io 168 = none := rfl
@[simp] theorem io_169 : TT.io 169 = none := rfl
@[simp] theorem io_170 : TT.io 170 = none := rfl
@[simp] theorem io_171 : TT.io 171 = some 0 := rfl
@[simp] theorem io_172 : TT.io 172 = none := rfl
@[simp] theorem io_173 : TT.io 173 = none := rfl
@[simp] theorem io_174 : TT.io 174 = none := rfl
@[simp] theorem io_175 : TT.io 175 = some 0 := rfl
@[simp] theorem io_176 : TT.io 176 = some 0 := rfl
@[simp] theorem io_177 : TT.io 177 = none := rfl
@[simp] theorem io_178 : TT.io 178 = none := rfl
@[simp] theorem io_179 : TT.io 179 = none := rfl
@[simp] theorem io_180 : TT.io 180 = some 0 := rfl
@[simp] theorem io_181 : TT.io 181 = none := rfl
@[simp] theorem io_32 : TT.io 32 = some 0 := rfl
@[simp] theorem io_185 : TT.io 185 = none := rfl
@[simp] theorem io_186 : TT.io 186 = none := rfl
@[simp] theorem io_187 : TT.io 187 = none := rfl
@[simp] theorem io_188 : TT.io 188 = none := rfl
@[simp] theorem io_189 : TT.io 189 = none := rfl
@[simp] theorem io_190 : TT.io 190 = none := rfl
@[simp] theorem io_191 : TT.io 191 = some 0 := rfl
@[simp] theorem io_192 : TT.io 192 = some 0 := rfl
@[simp] theorem io_193 : TT.io 193 = none := rfl
@[simp] theorem io_194 : TT.io 194 = none := rfl
@[simp] theorem io_195 : TT.io 195 = none := rfl
@[simp] theorem io_196 : TT.io 196 = some 0 := rfl
@[simp] theorem io_197 : TT.io 197 = some 0 := rfl
@[simp] theorem io_198 : TT.io 198 = some 0 := rfl
@[simp] theorem io_199 : TT.io 199 = some 0 := rfl
@[simp] theorem io_200 : TT.io 200 = none := rfl
@[simp] theorem io_204 : TT.io 204 = none := rfl
@[simp] theorem io_205 : TT.io 205 = none := rfl
@[simp] theorem io_206 : TT.io 206 = some 0 := rfl
@[simp] theorem io_207 : TT.io 207 = some 0 := rfl
@[simp] theorem io_208 : TT.io 208 = none := rfl
@[simp] theorem io_209 : TT.io 209 = none := rfl
@[simp] theorem io_210 : TT.io 210 = none := rfl
@[simp] theorem io_211 : TT.io 211 = none := rfl
@[simp] theorem io_212 : TT.io 212 = none := rfl
@[simp] theorem io_213 : TT.io 213 = none := rfl
@[simp] theorem io_214 : TT.io 214 = some 0 := rfl
@[simp] theorem io_215 : TT.io 215 = none := rfl
@[simp] theorem io_216 : TT.io 216 = none := rfl
@[simp] theorem io_217 : TT.io 217 = some 0 := rfl
@[simp] theorem io_218 : TT.io 218 = none := rfl
@[simp] theorem io_219 : TT.io 219 = some 0 := rfl
@[simp] theorem io_220 : TT.io 220 = none := rfl
@[simp] theorem io_227 : TT.io 227 = none := rfl
@[simp] theorem io_228 : TT.io 228 = none := rfl
@[simp] theorem io_229 : TT.io 229 = none := rfl
@[simp] theorem io_230 : TT.io 230 = none := rfl
@[simp] theorem io_231 : TT.io 231 = none := rfl
@[simp] theorem io_232 : TT.io 232 = none := rfl
@[simp] theorem io_233 : TT.io 233 = none := rfl
@[simp] theorem io_234 : TT.io 234 = none := rfl
@[simp] theorem io_235 : TT.io 235 = none := rfl
@[simp] theorem io_236 : TT.io 236 = none := rfl
@[simp] theorem io_237 : TT.io 237 = none := rfl
@[simp] theorem io_238 : TT.io 238 = none := rfl
@[simp] theorem io_239 : TT.io 239 = none := rfl
@[simp] theorem io_240 : TT.io 240 = none := rfl
@[simp] theorem io_241 : TT.io 241 = none := rfl
@[simp] theorem io_242 : TT.io 242 = none := rfl
@[simp] theorem io_24860 : TT.io 24860 = none := rfl
@[simp] theorem io_24861 : TT.io 24861 = none := rfl
@[simp] theorem io_24862 : TT.io 24862 = none := rfl
@[simp] theorem io_24863 : TT.io 24863 = none := rfl
@[simp] theorem io_24864 : TT.io 24864 = none := rfl
@[simp] theorem io_24865 : TT.io 24865 = none := rfl
@[simp] theorem io_24866 : TT.io 24866 = none := rfl
@[simp] theorem io_24867 : TT.io 24867 = none := rfl
@[simp] theorem io_24868 : TT.io 24868 = none := rfl
@[simp] theorem io_243 : TT.io 243 = none := rfl
@[simp] theorem io_244 : TT.io 244 = some 0 := rfl
@[simp] theorem io_245 : TT.io 245 = some 0 := rfl
@[simp] theorem io_246 : TT.io 246 = some 0 := rfl
@[simp] theorem io_247 : TT.io 247 = none := rfl
@[simp] theorem io_248 : TT.io 248 = some 0 := rfl
@[simp] theorem io_249 : TT.io 249 = none := rfl
@[simp] theorem io_250 : TT.io 250 = none := rfl
@[simp] theorem io_251 : TT.io 251 = none := rfl
@[simp] theorem io_252 : TT.io 252 = some 0 := rfl
@[simp] theorem io_253 : TT.io 253 = some 0 := rfl
@[simp] theorem io_254 : TT.io 254 = none := rfl
@[simp] theorem io_255 : TT.io 255 = none := rfl
@[simp] theorem io_256 : TT.io 256 = none := rfl
@[simp] theorem io_257 : TT.io 257 = none := rfl
@[simp] theorem io_258 : TT.io 258 = none := rfl
@[simp] theorem io_259 : TT.io 259 = none := rfl
@[simp] theorem io_25200 : TT.io 25200 = none := rfl
@[simp] theorem io_25201 : TT.io 25201 = none := rfl
@[simp] theorem io_25202 : TT.io 25202 = none := rfl
@[simp] theorem io_25203 : TT.io 25203 = none := rfl
@[simp] theorem io_25204 : TT.io 25204 = none := rfl
@[simp] theorem io_25205 : TT.io 25205 = none := rfl
@[simp] theorem io_25206 : TT.io 25206 = none := rfl
@[simp] theorem io_25207 : TT.io 25207 = none := rfl
@[simp] theorem io_25208 : TT.io 25208 = none := rfl
@[simp] theorem io_260 : TT.io 260 = none := rfl
@[simp] theorem io_261 : TT.io 261 = none := rfl
@[simp] theorem io_262 : TT.io 262 = some 0 := rfl
@[simp] theorem io_263 : TT.io 263 = none := rfl
@[simp] theorem io_281 : TT.io 281 = none := rfl
@[simp] theorem io_282 : TT.io 282 = none := rfl
@[simp] theorem io_283 : TT.io 283 = none := rfl
@[simp] theorem io_284 : TT.io 284 = none := rfl
@[simp] theorem io_285 : TT.io 285 = none := rfl
@[simp] theorem io_286 : TT.io 286 = none := rfl
@[simp] theorem io_287 : TT.io 287 = none := rfl
@[simp] theorem io_288 : TT.io 288 = none := rfl
@[simp] theorem io_289 : TT.io 289 = none := rfl
@[simp] theorem io_290 : TT.io 290 = none := rfl
@[simp] theorem io_291 : TT.io 291 = none := rfl
@[simp] theorem io_264 : TT.io 264 = some 0 := rfl
@[simp] theorem io_292 : TT.io 292 = none := rfl
@[simp] theorem io_293 : TT.io 293 = none := rfl
@[simp] theorem io_294 : TT.io 294 = some 0 := rfl
@[simp] theorem io_295 : TT.io 295 = none := rfl
@[simp] theorem io_317 : TT.io 317 = none := rfl
@[simp] theorem io_318 : TT.io 318 = some 0 := rfl
@[simp] theorem io_319 : TT.io 319 = none := rfl
@[simp] theorem io_320 : TT.io 320 = some 0 := rfl
@[simp] theorem io_310 : TT.io 310 = none := rfl
@[simp] theorem io_311 : TT.io 311 = none := rfl
@[simp] theorem io_312 : TT.io 312 = none := rfl
@[simp] theorem io_313 : TT.io 313 = none := rfl
@[simp] theorem io_321 : TT.io 321 = none := rfl
@[simp] theorem io_322 : TT.io 322 = some 0 := rfl
@[simp] theorem io_323 : TT.io 323 = none := rfl
@[simp] theorem io_447 : TT.io 447 = some 0 := rfl
@[simp] theorem io_448 : TT.io 448 = some 0 := rfl
@[simp] theorem io_449 : TT.io 449 = none := rfl
@[simp] theorem io_450 : TT.io 450 = some 0 := rfl
@[simp] theorem io_451 : TT.io 451 = some 0 := rfl
@[simp] theorem io_543 : TT.io 543 = none := rfl
@[simp] theorem io_435 : TT.io 435 = none := rfl
@[simp] theorem io_436 : TT.io 436 = some 0 := rfl
@[simp] theorem io_437 : TT.io 437 = none := rfl
@[simp] theorem io_88 : TT.io 88 = none := rfl
@[simp] theorem io_89 : TT.io 89 = none := rfl
@[simp] theorem io_442 : TT.io 442 = none := rfl
@[simp] theorem io_443 : TT.io 443 = none := rfl
@[simp] theorem io_444 : TT.io 444 = some 0 := rfl
@[simp] theorem io_445 : TT.io 445 = some 0 := rfl
@[simp] theorem io_446 : TT.io 446 = none := rfl
@[simp] theorem io_452 : TT.io 452 = none := rfl
@[simp] theorem io_453 : TT.io 453 = some 0 := rfl
@[simp] theorem io_454 : TT.io 454 = some 0 := rfl
@[simp] theorem io_455 : TT.io 455 = none := rfl
@[simp] theorem io_456 : TT.io 456 = none := rfl
@[simp] theorem io_457 : TT.io 457 = none := rfl
@[simp] theorem io_458 : TT.io 458 = none := rfl
@[simp] theorem io_459 : TT.io 459 = some 0 := rfl
@[simp] theorem io_460 : TT.io 460 = none := rfl
@[simp] theorem io_461 : TT.io 461 = some 0 := rfl
@[simp] theorem io_462 : TT.io 462 = some 0 := rfl
@[simp] theorem io_463 : TT.io 463 = none := rfl
@[simp] theorem io_464 : TT.io 464 = some 0 := rfl
@[simp] theorem io_465 : TT.io 465 = some 0 := rfl
@[simp] theorem io_466 : TT.io 466 = none := rfl
@[simp] theorem io_467 : TT.io 467 = some 0 := rfl
@[simp] theorem io_468 : TT.io 468 = none := rfl
@[simp] theorem io_469 : TT.io 469 = some 0 := rfl
@[simp] theorem io_480 : TT.io 480 = some 0 := rfl
@[simp] theorem io_481 : TT.io 481 = some 0 := rfl
@[simp] theorem io_482 : TT.io 482 = none := rfl
@[simp] theorem io_483 : TT.io 483 = some 0 := rfl
@[simp] theorem io_280 : TT.io 280 = none := rfl
@[simp] theorem io_501 : TT.io 501 = none := rfl
@[simp] theorem io_502 : TT.io 502 = some 0 := rfl
@[simp] theorem io_503 : TT.io 503 = none := rfl
@[simp] theorem io_504 : TT.io 504 = some 0 := rfl
@[simp] theorem io_505 : TT.io 505 = some 0 := rfl
@[simp] theorem io_506 : TT.io 506 = some 0 := rfl
@[simp] theorem io_507 : TT.io 507 = some 0 := rfl
@[simp] theorem io_525 : TT.io 525 = none := rfl
@[simp] theorem io_526 : TT.io 526 = none := rfl
@[simp] theorem io_527 : TT.io 527 = none := rfl
@[simp] theorem io_528 : TT.io 528 = none := rfl
@[simp] theorem io_529 : TT.io 529 = none := rfl
@[simp] theorem io_530 : TT.io 530 = none := rfl
@[simp] theorem io_531 : TT.io 531 = none := rfl
@[simp] theorem io_532 : TT.io 532 = some 0 := rfl
@[simp] theorem io_533 : TT.io 533 = none := rfl
@[simp] theorem io_34 : TT.io 34 = some 0 := rfl
@[simp] theorem io_35 : TT.io 35 = some 0 := rfl
@[simp] theorem io_36 : TT.io 36 = none := rfl
@[simp] theorem io_37 : TT.io 37 = none := rfl
@[simp] theorem io_38 : TT.io 38 = none := rfl
@[simp] theorem io_39 : TT.io 39 = none := rfl
@[simp] theorem io_40 : TT.io 40 = none := rfl
@[simp] theorem io_41 : TT.io 41 = none := rfl
@[simp] theorem io_42 : TT.io 42 = some 0 := rfl
@[simp] theorem io_43 : TT.io 43 = none := rfl
@[simp] theorem io_156 : TT.io 156 = none := rfl
@[simp] theorem io_157 : TT.io 157 = none := rfl
@[simp] theorem io_158 : TT.io 158 = none := rfl
@[simp] theorem io_159 : TT.io 159 = none := rfl
@[simp] theorem io_160 : TT.io 160 = none := rfl
@[simp] theorem io_221 : TT.io 221 = none := rfl
@[simp] theorem io_222 : TT.io 222 = none := rfl
@[simp] theorem io_223 : TT.io 223 = some 0 := rfl
@[simp] theorem io_224 : TT.io 224 = some 0 := rfl
@[simp] theorem io_225 : TT.io 225 = none := rfl
@[simp] theorem io_71 : TT.io 71 = none := rfl
@[simp] theorem io_72 : TT.io 72 = none := rfl
@[simp] theorem io_73 : TT.io 73 = none := rfl
@[simp] theorem io_74 : TT.io 74 = some 0 := rfl
@[simp] theorem io_75 : TT.io 75 = none := rfl
@[simp] theorem io_123 : TT.io 123 = none := rfl
@[simp] theorem io_107 : TT.io 107 = none := rfl
@[simp] theorem io_124 : TT.io 124 = some 0 := rfl
@[simp] theorem io_109 : TT.io 109 = none := rfl
@[simp] theorem io_106 : TT.io 106 = none := rfl
@[simp] theorem io_544 : TT.io 544 = none := rfl
@[simp] theorem io_108 : TT.io 108 = some 0 := rfl
@[simp] theorem io_545 : TT.io 545 = none := rfl
@[simp] theorem io_101 : TT.io 101 = none := rfl
@[simp] theorem io_102 : TT.io 102 = some 0 := rfl
@[simp] theorem io_103 : TT.io 103 = some 0 := rfl
@[simp] theorem io_104 : TT.io 104 = some 0 := rfl
@[simp] theorem io_105 : TT.io 105 = none := rfl
@[simp] theorem io_346 : TT.io 346 = none := rfl
@[simp] theorem io_353 : TT.io 353 = none := rfl
@[simp] theorem io_354 : TT.io 354 = none := rfl
@[simp] theorem io_355 : TT.io 355 = none := rfl
@[simp] theorem io_356 : TT.io 356 = none := rfl
@[simp] theorem io_345 : TT.io 345 = none := rfl
@[simp] theorem io_347 : TT.io 347 = none := rfl
@[simp] theorem io_348 : TT.io 348 = none := rfl
@[simp] theorem io_349 : TT.io 349 = none := rfl
@[simp] theorem io_350 : TT.io 350 = none := rfl
@[simp] theorem io_351 : TT.io 351 = some 0 := rfl
@[simp] theorem io_352 : TT.io 352 = none := rfl
@[simp] theorem io_515 : TT.io 515 = none := rfl
@[simp] theorem io_516 : TT.io 516 = none := rfl
@[simp] theorem io_517 : TT.io 517 = none := rfl
@[simp] theorem io_518 : TT.io 518 = none := rfl
@[simp] theorem io_519 : TT.io 519 = none := rfl
@[simp] theorem io_520 : TT.io 520 = none := rfl
@[simp] theorem io_521 : TT.io 521 = none := rfl
@[simp] theorem io_522 : TT.io 522 = some 0 := rfl
@[simp] theorem io_523 : TT.io 523 = some 0 := rfl
@[simp] theorem io_524 : TT.io 524 = none := rfl
@[simp] theorem io_508 : TT.io 508 = none := rfl
@[simp] theorem io_509 : TT.io 509 = none := rfl
@[simp] theorem io_510 : TT.io 510 = none := rfl
@[simp] theorem io_511 : TT.io 511 = some 0 := rfl
@[simp] theorem io_512 : TT.io 512 = some 0 := rfl
@[simp] theorem io_513 : TT.io 513 = some 0 := rfl
@[simp] theorem io_514 : TT.io 514 = none := rfl
@[simp] theorem gl_2 : TT.gl 2 = .int 100 := rfl
@[simp] theorem gl_4 : TT.gl 4 = .int 100 := rfl
@[simp] theorem gl_6 : TT.gl 6 = .int 1000000000000000000000000000000 := rfl
@[simp] theorem gl_8 : TT.gl 8 = .int 20 := rfl
@[simp] theorem gl_9 : TT.gl 9 = .int 20 := rfl
@[simp] theorem gl_3 : TT.gl 3 = .int 3 := rfl
@[simp] theorem gl_5 : TT.gl 5 = .int 20 := rfl
@[simp] theorem ini_0 : TT.ini 0 = 8 := rfl
@[simp] theorem eqf_0 : TT.eqf 0 = some 12 := rfl
@[simp] theorem mem_9_0 : TT.mem 9 0 = true := rfl
@[simp] theorem mem_10_0 : TT.mem 10 0 = true := rfl
@[simp] theorem mem_11_0 : TT.mem 11 0 = true := rfl
@[simp] theorem mem_12_0 : TT.mem 12 0 = true := rfl
@[simp] theorem mem_13_0 : TT.mem 13 0 = true := rfl
@[simp] theorem mem_14_0 : TT.mem 14 0 = true := rfl
@[simp] theorem nm_12 : TT.nm 12 = Str.ofString "__eq__" := rfl
@[simp] theorem nm_13 : TT.nm 13 = Str.ofString "key" := rfl
@[simp] theorem nm_14 : TT.nm 14 = Str.ofString "cell" := rfl
theorem tt_run {f : Nat} {ds : List D} {r : FR} (n : Nat) (e : runD TT (tbI f) n (tbB f) ds = r) (hr : r ≠ .bad) (hx : tbX f = none := by rfl) : TT.G f ds = r := fix_run hx n e hr
end PyV
set_option Elab.async false
set_option linter.all false
set_option maxRecDepth 100000
set_option maxHeartbeats 4000000
namespace PyV
open PySem
@[simp] theorem s_Layout_eq (w v : List Nat) : TT.G 12 [.obj 0 [ow] [.str w], .obj 0 [ow] [.str v]] = .ok (.bl (decide (w = v))) false none := by
  have h := fix_giv (T := TT0) (bd := tbB) (ex := tbX) (f := 12) (ds := [.obj 0 [ow] [.str w], .obj 0 [ow] [.str v]]) (F := G_Layout___eq) rfl (by simp)
  exact h.trans (by simp)
end PyV
set_option Elab.async false
set_option linter.all false
set_option maxRecDepth 100000
set_option maxHeartbeats 4000000
namespace PyV
open PySem
@[simp] theorem s_is_int_int (v : Int) : TT.G 1 [.int v] = .ok (.bl true) false none := tt_run 0 (show runD TT none 0 b_is_int _ = _ by simp [runD, evB, evS, evE, evEs, evXs, asgT_v, asgT_t, asgT_l, asgTs_n, asgTs_c, atD, placeD, b_is_int]) (by simp)
@[simp] theorem s_is_int_bl (v : Bool) : TT.G 1 [.bl v] = .ok (.bl false) false none := tt_run 0 (show runD TT none 0 b_is_int _ = _ by simp [runD, evB, evS, evE, evEs, evXs, asgT_v, asgT_t, asgT_l, asgTs_n, asgTs_c, atD, placeD, b_is_int]) (by simp)
@[simp] theorem s_is_int_str (v : List Nat) : TT.G 1 [.str v] = .ok (.bl false) false none := tt_run 0 (show runD TT none 0 b_is_int _ = _ by simp [runD, evB, evS, evE, evEs, evXs, asgT_v, asgT_t, asgT_l, asgTs_n, asgTs_c, atD, placeD, b_is_int]) (by simp)
@[simp] theorem s_is_int_tup (v : List D) : TT.G 1 [.tup v] = .ok (.bl false) false none := tt_run 0 (show runD TT none 0 b_is_int _ = _ by simp [runD, evB, evS, evE, evEs, evXs, asgT_v, asgT_t, asgT_l, asgTs_n, asgTs_c, atD, placeD, b_is_int]) (by simp)
@[simp] theorem s_is_int_lst (v : List D) : TT.G 1 [.lst v] = .ok (.bl false) false none := tt_run 0 (show runD TT none 0 b_is_int _ = _ by simp [runD, evB, evS, evE, evEs, evXs, asgT_v, asgT_t, asgT_l, asgTs_n, asgTs_c, atD, placeD, b_is_int]) (by simp)
@[simp] theorem s_is_int_non : TT.G 1 [.non] = .ok (.bl false) false none := tt_run 0 (show runD TT none 0 b_is_int _ = _ by simp [runD, evB, evS, evE, evEs, evXs, asgT_v, asgT_t, asgT_l, asgTs_n, asgTs_c, atD, placeD, b_is_int]) (by simp)
@[simp] theorem s_is_whole (v lo hi : Int) : TT.G 2 [.int v, .int lo, .int hi] = .ok (.bl (decide (lo ≤ v) && decide (v ≤ hi))) false none := tt_run 0 (show runD TT none 0 b_is_whole _ = _ by
  simp [runD, evB, evS, evE, evEs, evXs, asgT_v, asgT_t, asgT_l, asgTs_n, asgTs_c, atD, placeD, b_is_whole]
  by_cases h1 : lo ≤ v <;> simp [h1]) (by simp)
def bitsOk (x y : Int) : Prop := 0 ≤ x ∧ x ≤ 100 ∧ 0 ≤ y ∧ y ≤ 100 ∧ ¬ (x = 0 ∧ y = 0)
instance (x y : Int) : Decidable (bitsOk x y) := by unfold bitsOk; exact inferInstance
theorem s_require_bits {x y : Int} (hp : bitsOk x y) : TT.G 24 [.int x, .int y] = .ok .non false none := tt_run 0 (show runD TT none 0 b_require_bits _ = _ by
  obtain ⟨h1, h2, h3, h4, h5⟩ := hp
  by_cases hx : x = 0
  · have hy : (1:Int) ≤ y := by omega
    simp [runD, evB, evS, evE, evEs, evXs, asgT_v, asgT_t, asgT_l, asgTs_n, asgTs_c, atD, placeD, b_require_bits, hx, h4, hy]
  · simp [runD, evB, evS, evE, evEs, evXs, asgT_v, asgT_t, asgT_l, asgTs_n, asgTs_c, atD, placeD, b_require_bits, hx, h1, h2, h3, h4]) (by simp)
theorem shlOk_one {a : Int} (h : 0 ≤ a) (h2 : a ≤ 100000) : shlOk 1 a = true := by
  unfold shlOk
  have : Builtin.Int.intBits 1 = 1 := by decide
  rw [this]
  simp
  omega
end PyV
set_option Elab.async false
set_option linter.all false
set_option maxRecDepth 100000
set_option maxHeartbeats 4000000
namespace PyV
open PySem
def wordB (w : List Nat) : Bool := !w.isEmpty && w.all (fun c => c == 120 || c == 121) && decide (w.count 120 ≤ 100) && decide (w.count 121 ≤ 100)
@[simp] theorem s_word (w : List Nat) : TT.G 9 [.obj 0 [ow] [.str w]] = .ok (.str w) false none := tt_run 0 (show runD TT none 0 b_Layout_word _ = _ by simp [runD, evB, evS, evE, evEs, evXs, asgT_v, asgT_t, asgT_l, asgTs_n, asgTs_c, atD, placeD, b_Layout_word, ow]) (by simp)
@[simp] theorem s_x_bits (w : List Nat) : TT.G 10 [.obj 0 [ow] [.str w]] = .ok (.int (w.count 120 : Nat)) false none := tt_run 0 (show runD TT none 0 b_Layout_x_bits _ = _ by simp [runD, evB, evS, evE, evEs, evXs, asgT_v, asgT_t, asgT_l, asgTs_n, asgTs_c, atD, placeD, b_Layout_x_bits, ow]) (by simp)
@[simp] theorem s_y_bits (w : List Nat) : TT.G 11 [.obj 0 [ow] [.str w]] = .ok (.int (w.count 121 : Nat)) false none := tt_run 0 (show runD TT none 0 b_Layout_y_bits _ = _ by simp [runD, evB, evS, evE, evEs, evXs, asgT_v, asgT_t, asgT_l, asgTs_n, asgTs_c, atD, placeD, b_Layout_y_bits, ow]) (by simp)
@[simp] theorem ow_eq : (ow = Str.ofString "own_word") = True := eq_true rfl
@[simp] theorem nk_key : ¬ (Str.ofString "key" = ow) := by decide +kernel
@[simp] theorem nk_key' : ¬ (ow = Str.ofString "key") := by decide +kernel
@[simp] theorem nk_cell : ¬ (Str.ofString "cell" = ow) := by decide +kernel
@[simp] theorem nk_cell' : ¬ (ow = Str.ofString "cell") := by decide +kernel
end PyV
set_option Elab.async false
set_option linter.all false
set_option maxRecDepth 100000
set_option maxHeartbeats 4000000
namespace PyV
open PySem
theorem evB_step {T : Tab} {p : Option Nat} {n : Nat} {st : S} {r : List S} {s s1 : Ss} (h : evS T p n st s = .ok .nx s1) : evB T p n (st :: r) s = evB T p n r s1 := by
  simp only [evB, h]
theorem evB_cons {T : Tab} {p : Option Nat} {n : Nat} {st : S} {r : List S} {s s1 : Ss} {x : R Fl} (h : evS T p n st s = .ok .nx s1) (k : evB T p n r s1 = x) : evB T p n (st :: r) s = x := (evB_step h).trans k
theorem run_rt {T : Tab} {p : Option Nat} {n : Nat} {f : Df} {args : List D} {d : D} {fr : Bool} {s : Ss} {o : Option D} (e : evB T p n f.body (startP p args ++ List.replicate (f.ns - f.np) .emp) = .ok (.rt d fr) s) (ho : lent p s = some o) (hl : args.length = f.np := by rfl) : runD T p n f args = .ok d fr o := by
  unfold runD
  rw [if_pos hl, e]
  simp only [ho]
theorem run_nx {T : Tab} {p : Option Nat} {n : Nat} {f : Df} {args : List D} {s : Ss} {o : Option D} (e : evB T p n f.body (startP p args ++ List.replicate (f.ns - f.np) .emp) = .ok .nx s) (ho : lent p s = some o) (hl : args.length = f.np := by rfl) : runD T p n f args = .ok .non false o := by
  unfold runD
  rw [if_pos hl, e]
  simp only [ho]
theorem powOk_of {v : Int} {e k : Nat} (h : v.natAbs < 2 ^ k) (hk : k * e ≤ 134217728) : powOk v (e : Int) = true := by
  unfold powOk
  have hb : Builtin.Int.intBits v ≤ k := by
    unfold Builtin.Int.intBits
    split
    · exact Nat.zero_le _
    · rename_i hv
      have hv' : v ≠ 0 := by simpa using hv
      have h0 : v.natAbs ≠ 0 := by omega
      have : v.natAbs.log2 < k := (Nat.log2_lt h0).mpr h
      omega
  have h2 : Builtin.Int.intBits v * e ≤ k * e := Nat.mul_le_mul_right e hb
  have h3 : ((Builtin.Int.intBits v : Nat) : Int) * (e : Int) ≤ 134217728 := by
    have : Builtin.Int.intBits v * e ≤ 134217728 := Nat.le_trans h2 hk
    have h4 : ((Builtin.Int.intBits v * e : Nat) : Int) ≤ 134217728 := by omega
    rw [Int.natCast_mul] at h4
    omega
  simp [h3]
def spA (a m : Int) : Int := if 0 < a then a / m else a
def spC (a c : Int) : Int := if 0 < a then c else c + 1
def ReelP (a b c : Int) : Prop := 0 ≤ a ∧ 0 ≤ b ∧ b < 2 ^ 200 ∧ 0 ≤ c ∧ c < 2 ^ 60
instance (a b c : Int) : Decidable (ReelP a b c) := by unfold ReelP; exact inferInstance
def manyOk (m : Int) : Prop := 0 < m ∧ m.natAbs.log2 < 9000
instance (m : Int) : Decidable (manyOk m) := by unfold manyOk; exact inferInstance
def ReelQ (k : Nat) (a b c : Int) : Prop := 0 ≤ a ∧ 0 ≤ b ∧ b < 2 ^ 200 ∧ 0 ≤ c ∧ c ≤ k
theorem ReelQ.p {k : Nat} {a b c : Int} (h : ReelQ k a b c) (hk : k ≤ 1000000) : ReelP a b c := by
  obtain ⟨h1, h2, h3, h4, h5⟩ := h
  exact ⟨h1, h2, h3, h4, by omega⟩
theorem ReelQ.sp {k : Nat} {a b c m : Int} (h : ReelQ k a b c) (hm : 0 < m) : ReelQ (k + 1) (spA a m) b (spC a c) := by
  obtain ⟨h1, h2, h3, h4, h5⟩ := h
  unfold spA spC
  refine ⟨?_, h2, h3, ?_, ?_⟩
  · split
    · exact Int.ediv_nonneg h1 (by omega)
    · exact h1
  · split <;> omega
  · split <;> omega
def Reel (k : Nat) (r : D) : Prop := ∃ a b c, r = .lst [.int a, .int b, .int c] ∧ ReelQ k a b c
theorem Reel.mono {k j : Nat} {r : D} (h : Reel k r) (hk : k ≤ j) : Reel j r := by
  obtain ⟨a, b, c, e, h1, h2, h3, h4, h5⟩ := h
  exact ⟨a, b, c, e, h1, h2, h3, h4, by omega⟩
end PyV
set_option Elab.async false
set_option linter.all false
set_option maxRecDepth 100000
set_option maxHeartbeats 4000000
namespace PyV
open PySem
theorem pow2_le {a b : Nat} (h : a ≤ b) : (2 : Int) ^ a ≤ 2 ^ b := by
  have := Nat.pow_le_pow_right (n := 2) (by decide) h
  exact_mod_cast this
end PyV
set_option Elab.async false
set_option linter.all false
set_option maxRecDepth 100000
set_option maxHeartbeats 4000000
namespace PyV
open PySem
structure Dw (K A B : Nat) (xm ym way : Int) (m : Nat) (s : Ss) : Prop where
  h : ∃ (r : D) (a b : Nat) (f : List Nat) (s6 s7 : Sl), s = [.own r, .val (.int xm), .val (.int ym), .val (.int way), .own (.lst [.int (a : Int), .int (b : Int)]), .val (.str f), s6, s7] ∧ m = a + b ∧ Reel (K + 3 * (A + B - m)) r ∧ f.count 120 + a = A ∧ f.count 121 + b = B ∧ (∀ c ∈ f, c = 120 ∨ c = 121) ∧ f.length = f.count 120 + f.count 121
end PyV
set_option Elab.async false
set_option linter.all false
set_option maxRecDepth 100000
set_option maxHeartbeats 4000000
namespace PyV
open PySem
def Sg {α : Type} (l : List α) (f : α → Int) : Int := (l.map f).sum
@[simp] theorem Sg_nil {α : Type} (f : α → Int) : Sg [] f = 0 := rfl
@[simp] theorem Sg_cons {α : Type} (a : α) (l : List α) (f : α → Int) : Sg (a :: l) f = f a + Sg l f := rfl
def b01 (b : Bool) : Int := if b = true then 1 else 0
@[simp] theorem b01_t : b01 true = 1 := rfl
@[simp] theorem b01_f : b01 false = 0 := rfl
def rng (lo : Int) (n : Nat) : List Int := (List.range n).map fun (k : Nat) => lo + (k : Int)
@[simp] theorem rng_zero (lo : Int) : rng lo 0 = [] := rfl
def mulsF (q lo hi : Int) : Int := if hi / q - (lo - 1) / q > 0 then hi / q - (lo - 1) / q else 0
end PyV
set_option Elab.async false
set_option linter.all false
set_option maxRecDepth 100000
set_option maxHeartbeats 4000000
namespace PyV
open PySem
def kF : List Nat → Int → Int → Int
  | [], _, _ => 0
  | c :: r, x, y => if c = 120 then x % 2 + 2 * kF r (x / 2) y else y % 2 + 2 * kF r x (y / 2)
def Wd (l : List Nat) : Prop := ∀ c ∈ l, c = 120 ∨ c = 121
def Gd (l : List Nat) (x y : Int) : Prop := 0 ≤ x ∧ x < 2 ^ l.count 120 ∧ 0 ≤ y ∧ y < 2 ^ l.count 121
theorem Wd.tl {c : Nat} {l : List Nat} (h : Wd (c :: l)) : Wd l := fun z hz => h z (List.mem_cons_of_mem _ hz)
theorem Gd.x {l : List Nat} {x y : Int} (h : Gd (120 :: l) x y) : Gd l (x / 2) y := by
  obtain ⟨h1, h2, h3, h4⟩ := h
  rw [List.count_cons_self, Int.pow_succ] at h2
  rw [List.count_cons_of_ne (by decide)] at h4
  exact ⟨by omega, by omega, h3, h4⟩
theorem Gd.y {l : List Nat} {x y : Int} (h : Gd (121 :: l) x y) : Gd l x (y / 2) := by
  obtain ⟨h1, h2, h3, h4⟩ := h
  rw [List.count_cons_of_ne (by decide)] at h2
  rw [List.count_cons_self, Int.pow_succ] at h4
  exact ⟨h1, h2, by omega, by omega⟩
def hit (f : Nat × Nat × Nat) (x y : Int) : Bool := decide (x % 2 ^ f.2.1 = 0) && decide (y % 2 ^ f.2.2 = 0) && (if f.1 = 120 then decide (x / 2 ^ f.2.1 % 2 = 1) else decide (y / 2 ^ f.2.2 % 2 = 1))
theorem p2 (a : Nat) : (0 : Int) < 2 ^ a := Int.pow_pos (by decide)
end PyV
set_option Elab.async false
set_option linter.all false
set_option maxRecDepth 100000
set_option maxHeartbeats 4000000
namespace PyV
open PySem
structure Bx where
  x1 : Int
  y1 : Int
  x2 : Int
  y2 : Int
def Bx.ok (b : Bx) (l : List Nat) : Prop := 0 ≤ b.x1 ∧ b.x1 ≤ b.x2 ∧ b.x2 < 2 ^ l.count 120 ∧ 0 ≤ b.y1 ∧ b.y1 ≤ b.y2 ∧ b.y2 < 2 ^ l.count 121
def Bx.has (b : Bx) (x y : Int) : Bool := decide (b.x1 ≤ x) && decide (x ≤ b.x2) && decide (b.y1 ≤ y) && decide (y ≤ b.y2)
def Bx.xs (b : Bx) : List Int := rng b.x1 (b.x2 - b.x1 + 1).toNat
def Bx.ys (b : Bx) : List Int := rng b.y1 (b.y2 - b.y1 + 1).toNat
theorem Bx.has_iff {b : Bx} {x y : Int} : b.has x y = true ↔ (b.x1 ≤ x ∧ x ≤ b.x2) ∧ b.y1 ≤ y ∧ y ≤ b.y2 := by
  unfold Bx.has
  simp only [Bool.and_eq_true, decide_eq_true_eq]
  omega
theorem Bx.gd {b : Bx} {l : List Nat} (h : b.ok l) {x y : Int} (t : b.has x y = true) : Gd l x y := by
  obtain ⟨h1, h2, h3, h4, h5, h6⟩ := h
  obtain ⟨⟨t1, t2⟩, t3, t4⟩ := Bx.has_iff.mp t
  exact ⟨by omega, by omega, by omega, by omega⟩
def oddsF (i : Nat) (lo hi : Int) : Int := mulsF (2 ^ i) (lo + 1) hi - mulsF (2 ^ (i + 1)) (lo + 1) hi
def brk : Int → List Int → Nat
  | _, [] => 0
  | p, k :: ks => (if p = k - 1 then 0 else 1) + brk k ks
end PyV
set_option Elab.async false
set_option linter.all false
set_option maxRecDepth 100000
set_option maxHeartbeats 4000000
namespace PyV
open PySem
section
variable {α : Type} {st : D → Ss → Option Ss} {cond : Ss → R Bool} {elt : Ss → R Rv} {wp : Ss → Ss} {s : Ss}
theorem lcL_mapA {g F : α → D} {P : α → Bool} : ∀ {xs : List α} {acc : List D}, acc.length + xs.length ≤ 16777216 →
    (∀ a ∈ xs, ∃ s1, st (g a) s = some s1 ∧ cond s1 = .ok (P a) s1 ∧ wp s1 = s ∧ (P a = true → ∃ r, elt s1 = .ok r s1 ∧ fz s1 r = some (F a, s1))) →
    lcL st cond elt wp (xs.map g) acc s = .ok (acc ++ (xs.filter P).map F) s
  | [], acc, _, _ => by simp [lcL]
  | d :: ds, acc, hl, h => by
    obtain ⟨s1, h1, h2, h3, h4⟩ := h d List.mem_cons_self
    have hl' : acc.length + (ds.length + 1) ≤ 16777216 := hl
    rw [List.map_cons]
    cases hp : P d with
    | true =>
      obtain ⟨r, h5, h6⟩ := h4 hp
      rw [hp] at h2
      rw [lcL_step h1 h2 h5 h6 (by omega), h3, lcL_mapA (by simp; omega) fun e he => h e (List.mem_cons_of_mem _ he)]
      simp [List.filter_cons, hp]
    | false =>
      rw [hp] at h2
      rw [lcL_skip h1 h2, h3, lcL_mapA (by omega) fun e he => h e (List.mem_cons_of_mem _ he)]
      simp [List.filter_cons, hp]
theorem filter_tt (l : List α) : l.filter (fun _ => true) = l := by induction l with | nil => rfl | cons a l ih => simp [ih]
theorem ev_lc {T : Tab} {p : Option Nat} {e : E} {t : PyV.T} {k : Ik} {its : List E} {own : List Nat} {s1 s2 : Ss} {rs : List Rv} {ds : List D} (xs : List α) (g F : α → D) (h1 : evEs T p its s = .ok rs s1) (h2 : fzs s1 rs = some (ds, s2)) (h3 : itemsD k ds = some (xs.map g)) (h4 : noOwn p own s2 = true) (hl : xs.length ≤ 16777216)
    (step : ∀ a ∈ xs, ∃ s', asgT p t (g a) (wipeS own s2) = some s' ∧ wipeS own s' = wipeS own s2 ∧ ∃ r, evE T p e s' = .ok r s' ∧ fz s' r = some (F a, s')) :
    evE T p (.lc e t k its .nop own) s = .ok (.own (.lst (xs.map F))) (restS s2 own (wipeS own s2)) := by
  have key := lcL_mapA (st := asgT p t) (cond := condD T p .nop) (elt := evE T p e) (wp := wipeS own) (s := wipeS own s2) (g := g) (F := F) (P := fun _ => true) (xs := xs) (acc := []) (by simpa using hl) fun a ha => by
    obtain ⟨s', q1, q2, q3⟩ := step a ha
    exact ⟨s', q1, rfl, q2, fun _ => q3⟩
  rw [lc_eq, h1]
  simp only [R.bind, h2, h3, h4, if_true, key, filter_tt, List.nil_append]
end
theorem evS_for {T : Tab} {p : Option Nat} {n : Nat} {t : PyV.T} {k : Ik} {its : List E} {b : List S} {s s1 s2 : Ss} {rs : List Rv} {ds xs : List D} (h1 : evEs T p its s = .ok rs s1) (h2 : fzs s1 rs = some (ds, s2)) (h3 : itemsD k ds = some xs) : evS T p n (.for_ t k its b) s = forL (asgT p t) (evB T p n b) xs s2 := by
  simp only [evS, h1, R.bind, h2, h3]
@[reducible] def boxD (b : Bx) : D := .tup [.int b.x1, .int b.y1, .int b.x2, .int b.y2]
@[simp] theorem s_multiples (p : Nat) (lo hi : Int) : TT.G 48 [.int (p : Int), .int lo, .int hi] = .ok (.int (mulsF (2 ^ p) lo hi)) false none := tt_run 0 (show runD TT none 0 b_multiples _ = _ by simp [runD, evB, evS, evE, evEs, evXs, asgT_v, asgT_t, asgT_l, asgTs_n, asgTs_c, atD, placeD, b_multiples, mulsF]) (by simp)
@[simp] theorem s_odd_multiples (p : Nat) (lo hi : Int) : TT.G 49 [.int (p : Int), .int lo, .int hi] = .ok (.int (mulsF (2 ^ p) lo hi - mulsF (2 ^ (p + 1)) lo hi)) false none := tt_run 0 (show runD TT none 0 b_odd_multiples _ = _ by
  have e := s_multiples (p + 1) lo hi
  rw [show ((p + 1 : Nat) : Int) = (p : Int) + 1 by omega] at e
  simp [runD, evB, evS, evE, evEs, evXs, asgT_v, asgT_t, asgT_l, asgTs_n, asgTs_c, atD, placeD, b_odd_multiples, e]) (by simp)
@[simp] theorem s_inner_odd (p : Nat) (lo hi : Int) : TT.G 51 [.int (p : Int), .int lo, .int hi] = .ok (.int (oddsF p lo hi)) false none := tt_run 0 (show runD TT none 0 b_inner_odd _ = _ by simp [runD, evB, evS, evE, evEs, evXs, asgT_v, asgT_t, asgT_l, asgTs_n, asgTs_c, atD, placeD, b_inner_odd, oddsF]) (by simp)
def Bx.sm (b : Bx) : Prop := 0 ≤ b.x1 ∧ b.x1 ≤ b.x2 ∧ b.x2 < 2 ^ 100 ∧ 0 ≤ b.y1 ∧ b.y1 ≤ b.y2 ∧ b.y2 < 2 ^ 100
theorem Bx.ok.sm {b : Bx} {l : List Nat} (h : b.ok l) (c1 : l.count 120 ≤ 100) (c2 : l.count 121 ≤ 100) : b.sm := by
  obtain ⟨h1, h2, h3, h4, h5, h6⟩ := h
  have e1 := pow2_le c1
  have e2 := pow2_le c2
  exact ⟨h1, h2, by omega, h4, h5, by omega⟩
@[simp] theorem s_require_layout (w : List Nat) : TT.G 45 [.obj 0 [ow] [.str w]] = .ok .non false none := tt_run 0 (show runD TT none 0 b_require_layout _ = _ by simp [runD, evB, evS, evE, evEs, evXs, asgT_v, asgT_t, asgT_l, asgTs_n, asgTs_c, atD, placeD, b_require_layout]) (by simp)
theorem s_is_box {b : Bx} {a c : Int} (h1 : 0 ≤ a) (h2 : a ≤ 1000) (h3 : 0 ≤ c) (h4 : c ≤ 1000) (g1 : 0 ≤ b.x1) (g2 : b.x1 ≤ b.x2) (g3 : b.x2 < 2 ^ a.toNat) (g4 : 0 ≤ b.y1) (g5 : b.y1 ≤ b.y2) (g6 : b.y2 < 2 ^ c.toNat) : TT.G 44 [boxD b, .int a, .int c] = .ok (.bl true) false none := tt_run 0 (show runD TT none 0 b_is_box _ = _ by
  have s1 := shlOk_one h1 (by omega)
  have s2 := shlOk_one h3 (by omega)
  simp [runD, evB, evS, evE, evEs, evXs, asgT_v, asgT_t, asgT_l, asgTs_n, asgTs_c, atD, placeD, b_is_box, c_is_box_1, lcL, noOwn, s1, s2, g1, g2, g3, g4, g5, g6]) (by simp)
end PyV
set_option Elab.async false
set_option linter.all false
set_option maxRecDepth 100000
set_option maxHeartbeats 4000000
namespace PyV
open PySem
theorem Wd.rev {l : List Nat} (h : Wd l) : Wd l.reverse := fun c hc => h c (List.mem_reverse.mp hc)
theorem Bx.ok.rev {b : Bx} {w : List Nat} (h : b.ok w) : b.ok w.reverse := by
  unfold Bx.ok at h ⊢
  rw [List.count_reverse, List.count_reverse]
  exact h
end PyV
set_option Elab.async false
set_option linter.all false
set_option maxRecDepth 100000
set_option maxHeartbeats 4000000
namespace PyV
open PySem
def whole (l : List Nat) : Bx := ⟨0, 0, 2 ^ l.count 120 - 1, 2 ^ l.count 121 - 1⟩
end PyV
set_option Elab.async false
set_option linter.all false
set_option maxRecDepth 100000
set_option maxHeartbeats 4000000
namespace PyV
open PySem
theorem big62_b {i : Int} (h : -(2 ^ 61) ≤ i) (h2 : i ≤ 2 ^ 61) : big62 i = true := by
  unfold big62
  simp
  omega
end PyV
set_option Elab.async false
set_option linter.all false
set_option maxRecDepth 100000
set_option maxHeartbeats 4000000
namespace PyV
open PySem
theorem showOk_b {i : Int} (h1 : -(2 ^ 400) < i) (h2 : i < 2 ^ 400) : i.natAbs.log2 < 1920 := by
  have := log2_lt (n := i.natAbs) (k := 400) (by omega) (by decide)
  omega
theorem for_keep {st : D → Ss → Option Ss} {body : Ss → R Fl} (I : Ss → Prop) : ∀ {xs : List D} {s : Ss}, I s → (∀ d ∈ xs, ∀ s, I s → ∃ s1 s2, st d s = some s1 ∧ body s1 = .ok .nx s2 ∧ I s2) → ∃ s', forL st body xs s = .ok .nx s' ∧ I s'
  | [], s, h, _ => ⟨s, rfl, h⟩
  | d :: ds, s, h, step => by
    obtain ⟨s1, s2, h1, h2, h3⟩ := step d List.mem_cons_self s h
    obtain ⟨s', e, q⟩ := for_keep I h3 fun x hx => step x (List.mem_cons_of_mem _ hx)
    exact ⟨s', by rw [forL_step h1 h2]; exact e, q⟩
end PyV
set_option Elab.async false
set_option linter.all false
set_option maxRecDepth 100000
set_option maxHeartbeats 4000000
namespace PyV
open PySem
end PyV
set_option Elab.async false
set_option linter.all false
set_option maxRecDepth 100000
set_option maxHeartbeats 4000000
namespace PyV
open PySem
end PyV
set_option Elab.async false
set_option linter.all false
set_option maxRecDepth 100000
set_option maxHeartbeats 4000000
namespace PyV
open PySem
theorem Wd.rv {l : List Nat} (h : Wd l) : Wd l.reverse := fun c hc => h c (List.mem_reverse.mp hc)
def comF (lo hi a z : Int) : Int := if (if z < hi then z else hi) - (if a > lo then a else lo) + 1 > 0 then (if z < hi then z else hi) - (if a > lo then a else lo) + 1 else 0
end PyV
set_option Elab.async false
set_option linter.all false
set_option maxRecDepth 100000
set_option maxHeartbeats 4000000
namespace PyV
open PySem
theorem Bx.ok.rv2 {b : Bx} {w : List Nat} (h : b.ok w) : b.ok w.reverse := by
  unfold Bx.ok at h ⊢
  rw [List.count_reverse, List.count_reverse]
  exact h
end PyV
set_option Elab.async false
set_option linter.all false
set_option maxRecDepth 100000
set_option maxHeartbeats 4000000
namespace PyV
open PySem
@[simp] theorem s_common (lo hi a z : Int) : TT.G 164 [.int lo, .int hi, .int a, .int z] = .ok (.int (comF lo hi a z)) false none := tt_run 0 (show runD TT none 0 b_common _ = _ by simp [runD, evB, evS, evE, evEs, evXs, asgT_v, asgT_t, asgT_l, asgTs_n, asgTs_c, atD, placeD, b_common, comF]) (by simp)
end PyV
set_option Elab.async false
set_option linter.all false
set_option maxRecDepth 100000
set_option maxHeartbeats 4000000
namespace PyV
open PySem
def Bag (d : D) : Prop := ∃ a b c : Int, d = .lst [.int a, .int b, .int c] ∧ 0 ≤ a ∧ 0 ≤ c
theorem s_bag (cell : Int) : ∃ d, TT.G 132 [.int cell] = .ok d true none ∧ Bag d := by
  have p1 : powOk 10 18 = true := powOk_of (v := 10) (e := 18) (k := 4) (by decide) (by decide)
  refine ⟨.lst [.int (if cell - 1000000000000000000 > 0 then cell - 1000000000000000000 else 0), .int cell, .int 0], tt_run 0 (show runD TT none 0 b_law_bag _ = _ by simp [runD, evB, evS, evE, evEs, evXs, asgT_v, asgT_t, asgT_l, asgTs_n, asgTs_c, atD, placeD, b_law_bag, p1]) (by simp), _, _, _, rfl, ?_, by decide⟩
  split <;> omega
def pkF (b c : Int) : Int := (b % 2147483629 * 48271 + c * 69621 + 12345) % 2147483647
def pkS (b c : Int) : Int := (pkF b c * pkF b c + c * 40692) % 2147483587
def pkD (b c : Int) : Int := (pkF b c * 2147483587 + pkS b c) / 32
def pkV (a b c m : Int) : Int := if 0 < a then a % m else (if 1000000000000000 < m then pkD b (c + 1) ^ 8 + pkS b (c + 1) else pkD b (c + 1)) % m
def pkA (a m : Int) : Int := if 0 < a then a / m else a
theorem pk_bd (b c : Int) : 0 ≤ pkF b c ∧ pkF b c < 2147483647 ∧ 0 ≤ pkS b c ∧ pkS b c < 2147483587 ∧ 0 ≤ pkD b c ∧ pkD b c < 2 ^ 62 := by
  have f1 : 0 ≤ pkF b c := Int.emod_nonneg _ (by decide)
  have f2 : pkF b c < 2147483647 := Int.emod_lt_of_pos _ (by decide)
  have s1 : 0 ≤ pkS b c := Int.emod_nonneg _ (by decide)
  have s2 : pkS b c < 2147483587 := Int.emod_lt_of_pos _ (by decide)
  unfold pkD
  omega
theorem div250 {m : Int} (hm : 0 < m) (hm2 : m ≤ 2 ^ 250) : divOk m = true := divOk_of hm 251 (by
  have : (2 : Int) ^ 250 < 2 ^ 251 := by decide
  omega) (by decide)
theorem abs62 {z : Int} (h : 0 ≤ z) (h2 : z < 2 ^ 62) : z.natAbs < 2 ^ 62 := by omega
theorem abs64 {z : Int} (h : 0 ≤ z) (h2 : z < 2147483647) : z.natAbs < 2 ^ 64 := by omega
theorem s_pick0 {a b c m : Int} (ha : 0 ≤ a) (hm : 0 < m) (hm2 : m ≤ 2 ^ 250) : TT.G 133 [.lst [.int a, .int b, .int c], .int m] = .ok (.int (pkV a b c m)) false (some (.lst [.int (pkA a m), .int b, .int (c + 1)])) := tt_run 0 (show runD TT (some 0) 0 b_law_pick _ = _ by
  have dm : divOk m = true := div250 hm hm2
  clear hm2
  by_cases h : 0 < a
  · simp [runD, evB, evS, evE, evEs, evXs, asgT_v, asgT_t, asgT_l, asgTs_n, asgTs_c, atD, placeD, b_law_pick, h, hm, dm, pkV, pkA]
  · have a0 : a = 0 := by omega
    have p1 : powOk 10 15 = true := powOk_of (v := 10) (e := 15) (k := 4) (by decide) (by decide)
    have m1 : ∀ z : Int, mulOk z 48271 = true := fun z => mulOk_r (by decide)
    have m2 : ∀ z : Int, mulOk z 69621 = true := fun z => mulOk_r (by decide)
    have m3 : ∀ z : Int, mulOk z 40692 = true := fun z => mulOk_r (by decide)
    have m4 : ∀ z : Int, mulOk z 2147483587 = true := fun z => mulOk_r (by decide)
    obtain ⟨b1, b2, b3, b4, b5, b6⟩ := pk_bd b (c + 1)
    have m5 : mulOk (pkF b (c + 1)) (pkF b (c + 1)) = true := mulOk_r (abs64 b1 b2)
    have q1 : powOk (pkD b (c + 1)) 8 = true := powOk_of (e := 8) (k := 62) (abs62 b5 b6) (by decide)
    have d1 : divOk 32 = true := by decide
    have eF : (b % 2147483629 * 48271 + (c + 1) * 69621 + 12345) % 2147483647 = pkF b (c + 1) := rfl
    have eS : (pkF b (c + 1) * pkF b (c + 1) + (c + 1) * 40692) % 2147483587 = pkS b (c + 1) := rfl
    have eD : (pkF b (c + 1) * 2147483587 + pkS b (c + 1)) / 32 = pkD b (c + 1) := rfl
    by_cases hb : 1000000000000000 < m
    · simp [runD, evB, evS, evE, evEs, evXs, asgT_v, asgT_t, asgT_l, asgTs_n, asgTs_c, atD, placeD, b_law_pick, a0, hm, dm, hb, p1, m1, m2, m3, m4, m5, q1, d1, eF, eS, eD, pkV, pkA]
    · simp [runD, evB, evS, evE, evEs, evXs, asgT_v, asgT_t, asgT_l, asgTs_n, asgTs_c, atD, placeD, b_law_pick, a0, hm, dm, hb, p1, m1, m2, m3, m4, m5, q1, d1, eF, eS, eD, pkV, pkA]) (by simp)
theorem s_pick {d : D} {m : Int} (h : Bag d) (hm : 0 < m) (hm2 : m ≤ 2 ^ 250) : ∃ v d', TT.G 133 [d, .int m] = .ok (.int v) false (some d') ∧ 0 ≤ v ∧ v < m ∧ Bag d' := by
  obtain ⟨a, b, c, rfl, h1, h2⟩ := h
  refine ⟨_, _, s_pick0 h1 hm hm2, ?_, ?_, _, _, _, rfl, ?_, by omega⟩
  · unfold pkV
    split
    · exact Int.emod_nonneg _ (by omega)
    · exact Int.emod_nonneg _ (by omega)
  · unfold pkV
    split
    · exact Int.emod_lt_of_pos _ hm
    · exact Int.emod_lt_of_pos _ hm
  · unfold pkA
    split
    · exact Int.ediv_nonneg h1 (by omega)
    · exact h1
end PyV
set_option Elab.async false
set_option linter.all false
set_option maxRecDepth 100000
set_option maxHeartbeats 4000000
namespace PyV
open PySem
def WT (cond : Ss → R Bool) (body : Nat → Ss → R Fl) (P : Ss → Prop) (s : Ss) : Prop := ∃ s', P s' ∧ ∃ N0, ∀ n0 N, N0 ≤ N → whlN cond (body n0) N s = .ok .nx s'
theorem WT.stop {cond : Ss → R Bool} {body : Nat → Ss → R Fl} {P : Ss → Prop} {s s1 : Ss} (h : cond s = .ok false s1) (p : P s1) : WT cond body P s := ⟨s1, p, 1, fun n0 N hN => by
  obtain ⟨M, rfl⟩ : ∃ M, N = M + 1 := ⟨N - 1, by omega⟩
  simp only [whlN, h]⟩
theorem WT.step {cond : Ss → R Bool} {body : Nat → Ss → R Fl} {P : Ss → Prop} {s s1 s2 : Ss} (h : cond s = .ok true s1) (hb : ∀ n0, body n0 s1 = .ok .nx s2) (w : WT cond body P s2) : WT cond body P s := by
  obtain ⟨s', p, N0, q⟩ := w
  refine ⟨s', p, N0 + 1, fun n0 N hN => ?_⟩
  obtain ⟨M, rfl⟩ : ∃ M, N = M + 1 := ⟨N - 1, by omega⟩
  simp only [whlN, h, hb]
  exact q n0 M (by omega)
section
variable {X Y way : Int}
end
end PyV
set_option Elab.async false
set_option linter.all false
set_option maxRecDepth 100000
set_option maxHeartbeats 4000000
namespace PyV
open PySem
section
variable {X Y way : Int}
structure Lw (X0 Y0 A B : Nat) (f : List Nat) : Prop where
  x : f.count 120 + A = X0
  y : f.count 121 + B = Y0
  w : Wd f
  l : f.length = f.count 120 + f.count 121
theorem Lw.x1 {X0 Y0 A B m : Nat} {f : List Nat} (h : Lw X0 Y0 A B f) (hm : m ≤ A) : Lw X0 Y0 (A - m) B (f ++ List.replicate m 120) := by
  obtain ⟨h1, h2, h3, h4⟩ := h
  refine ⟨?_, ?_, fun c hc => ?_, ?_⟩
  · simp [List.count_append, List.count_replicate]; omega
  · simp [List.count_append, List.count_replicate]; omega
  · rcases List.mem_append.mp hc with hc | hc
    · exact h3 c hc
    · exact .inl (List.eq_of_mem_replicate hc)
  · simp [List.count_append, List.count_replicate]; omega
theorem Lw.y1 {X0 Y0 A B m : Nat} {f : List Nat} (h : Lw X0 Y0 A B f) (hm : m ≤ B) : Lw X0 Y0 A (B - m) (f ++ List.replicate m 121) := by
  obtain ⟨h1, h2, h3, h4⟩ := h
  refine ⟨?_, ?_, fun c hc => ?_, ?_⟩
  · simp [List.count_append, List.count_replicate]; omega
  · simp [List.count_append, List.count_replicate]; omega
  · rcases List.mem_append.mp hc with hc | hc
    · exact h3 c hc
    · exact .inr (List.eq_of_mem_replicate hc)
  · simp [List.count_append, List.count_replicate]; omega
end
end PyV
set_option Elab.async false
set_option linter.all false
set_option maxRecDepth 100000
set_option maxHeartbeats 4000000
namespace PyV
open PySem
end PyV
set_option Elab.async false
set_option linter.all false
set_option maxRecDepth 100000
set_option maxHeartbeats 4000000
namespace PyV
open PySem
end PyV
set_option Elab.async false
set_option linter.all false
set_option maxRecDepth 100000
set_option maxHeartbeats 4000000
namespace PyV
open PySem
theorem Wd.wordB {w : List Nat} (wd : Wd w) (hx : w.count 120 ≤ 100) (hy : w.count 121 ≤ 100) (h : 0 < w.count 120 + w.count 121) : wordB w = true := by
  unfold PyV.wordB
  simp only [Bool.and_eq_true, decide_eq_true_eq, List.all_eq_true, Bool.or_eq_true, beq_iff_eq]
  refine ⟨⟨⟨?_, fun c hc => wd c hc⟩, hx⟩, hy⟩
  cases w with
  | nil => simp at h
  | cons a l => rfl
end PyV
set_option Elab.async false
set_option linter.all false
set_option maxRecDepth 100000
set_option maxHeartbeats 4000000
namespace PyV
open PySem
end PyV
set_option Elab.async false
set_option linter.all false
set_option maxRecDepth 100000
set_option maxHeartbeats 4000000
namespace PyV
open PySem
end PyV
set_option Elab.async false
set_option linter.all false
set_option maxRecDepth 100000
set_option maxHeartbeats 4000000
namespace PyV
open PySem
end PyV
set_option Elab.async false
set_option linter.all false
set_option maxRecDepth 100000
set_option maxHeartbeats 4000000
namespace PyV
open PySem
end PyV
set_option Elab.async false
set_option linter.all false
set_option maxRecDepth 100000
set_option maxHeartbeats 4000000
namespace PyV
open PySem
theorem cut_map {ns : List Int} {C : Nat} : cutD (ns.map D.int) none (some (C : Int)) = (ns.take C).map .int := by
  unfold cutD clipD
  have : ¬ (C : Int) < 0 := by omega
  simp only [this, if_false, Int.toNat_natCast, List.drop_zero, Nat.sub_zero, List.length_map]
  rw [List.map_take]
  by_cases h : C ≤ ns.length
  · rw [Nat.min_eq_left h]
  · rw [Nat.min_eq_right (by omega), List.take_of_length_le (by simp), List.take_of_length_le (by simp; omega)]
theorem script_cut {T : Tab} {p : Option Nat} {ns : List Int} {C : Nat} {Ci : Int} {r : Ss} (hns : ns.length ≤ 63) (hC : Ci = (C : Int)) : evEs T p [.bin .add (.slc (.var 0) .nop (.int Ci)) (.lst [.int 0])] (.val (.lst (ns.map .int)) :: r) = .ok [.own (.lst ((ns.take C ++ [0]).map .int))] (.val (.lst (ns.map .int)) :: r) := by
  subst hC
  have e := cut_map (ns := ns) (C := C)
  have h : ns.length + 1 ≤ 16777216 := by omega
  have h2 : (List.take C ns).length + 1 ≤ 16777216 := by rw [List.length_take]; omega
  have h3 : min C ns.length + 1 ≤ 16777216 := by omega
  simp [runD, evB, evS, evE, evEs, evXs, asgT_v, asgT_t, asgT_l, asgTs_n, asgTs_c, atD, placeD, e, h2, h3, -List.map_take]
theorem script_loop {T : Tab} {n : Nat} {ns : List Int} {C : Nat} {Ci : Int} {body : List S} (I : Ss → Prop) (r : Ss) (hns : ns.length ≤ 63) (hC : Ci = (C : Int)) (h0 : I (.val (.lst (ns.map .int)) :: r))
    (step : ∀ (z : Int) s, I s → ∃ s1 s2, asgT none (.v 1) (.int z) s = some s1 ∧ evB T none n body s1 = .ok .nx s2 ∧ I s2) :
    ∃ s', evS T none n (.for_ (.v 1) .plain [.bin .add (.slc (.var 0) .nop (.int Ci)) (.lst [.int 0])] body) (.val (.lst (ns.map .int)) :: r) = .ok .nx s' ∧ I s' := by
  rw [evS_for (script_cut hns hC) rfl rfl]
  exact for_keep I h0 fun d hd s hs => by
    obtain ⟨z, _, rfl⟩ := List.mem_map.mp hd
    exact step z s hs
end PyV
set_option Elab.async false
set_option linter.all false
set_option maxRecDepth 100000
set_option maxHeartbeats 4000000
namespace PyV
open PySem
end PyV
set_option Elab.async false
set_option linter.all false
set_option maxRecDepth 100000
set_option maxHeartbeats 4000000
namespace PyV
open PySem
end PyV
set_option Elab.async false
set_option linter.all false
set_option maxRecDepth 100000
set_option maxHeartbeats 4000000
namespace PyV
open PySem
end PyV
set_option Elab.async false
set_option linter.all false
set_option maxRecDepth 100000
set_option maxHeartbeats 4000000
namespace PyV
open PySem
@[reducible] def Bx.mv (b : Bx) (X Y : Int) : Bx := ⟨b.x1 + X, b.y1 + Y, b.x2 + X, b.y2 + Y⟩
end PyV
set_option Elab.async false
set_option linter.all false
set_option maxRecDepth 100000
set_option maxHeartbeats 4000000
namespace PyV
open PySem
end PyV
set_option Elab.async false
set_option linter.all false
set_option maxRecDepth 100000
set_option maxHeartbeats 4000000
namespace PyV
open PySem
end PyV
set_option Elab.async false
set_option linter.all false
set_option maxRecDepth 100000
set_option maxHeartbeats 4000000
namespace PyV
open PySem
end PyV
set_option Elab.async false
set_option linter.all false
set_option maxRecDepth 100000
set_option maxHeartbeats 4000000
namespace PyV
open PySem
def dif : Nat → Int → Int → Prop
  | 0, x, u => x ≠ u ∧ x / 2 = u / 2
  | i + 1, x, u => dif i (x / 2) (u / 2)
end PyV
set_option Elab.async false
set_option linter.all false
set_option maxRecDepth 100000
set_option maxHeartbeats 4000000
namespace PyV
open PySem
end PyV
set_option Elab.async false
set_option linter.all false
set_option maxRecDepth 100000
set_option maxHeartbeats 4000000
namespace PyV
open PySem
def bn : Nat → Nat → Int
  | _, 0 => 1
  | 0, _ + 1 => 0
  | n + 1, k + 1 => bn n k + bn n (k + 1)
def nS (i r b k : Nat) : Int := bn (i + k) i * bn (r + b - k) r
def nW (i r j : Nat) : Nat → Nat → Int
  | _, 0 => 0
  | b, n + 1 => nW i r j b n + (if j < n + 1 then nS i r b (n + 1) else 0)
def nN (a b i j : Nat) : Int := nW i (a - i - 1) j b b
end PyV
set_option Elab.async false
set_option linter.all false
set_option maxRecDepth 100000
set_option maxHeartbeats 4000000
namespace PyV
open PySem
inductive Cs (a b : Nat) (x y u v : Int) : Int → Prop
  | ge : u ≤ x → v ≤ y → Cs a b x y u v 0
  | le : x ≤ u → y ≤ v → ¬ (x = u ∧ y = v) → Cs a b x y u v (bn (a + b) a)
  | xa (i j : Nat) : x < u → v < y → dif i x u → dif j y v → i < a → j < b → Cs a b x y u v (nN a b i j)
  | ya (i j : Nat) : u < x → y < v → dif i x u → dif j y v → i < a → j < b → Cs a b x y u v (bn (a + b) a - nN a b i j)
structure Ce (a b : Nat) (x y : Int) : Prop where
  x0 : 0 ≤ x
  x1 : x < 2 ^ a
  y0 : 0 ≤ y
  y1 : y < 2 ^ b
theorem Ce.turn {a b : Nat} {x y : Int} (p : Ce a b x y) : Ce b a y x := ⟨p.y0, p.y1, p.x0, p.x1⟩
end PyV
set_option Elab.async false
set_option linter.all false
set_option maxRecDepth 100000
set_option maxHeartbeats 4000000
namespace PyV
open PySem
end PyV
set_option Elab.async false
set_option linter.all false
set_option maxRecDepth 100000
set_option maxHeartbeats 4000000
namespace PyV
open PySem
end PyV
set_option Elab.async false
set_option linter.all false
set_option maxRecDepth 100000
set_option maxHeartbeats 4000000
namespace PyV
open PySem
end PyV
set_option Elab.async false
set_option linter.all false
set_option maxRecDepth 100000
set_option maxHeartbeats 4000000
namespace PyV
open PySem
end PyV
set_option Elab.async false
set_option linter.all false
set_option maxRecDepth 100000
set_option maxHeartbeats 4000000
namespace PyV
open PySem
end PyV
set_option Elab.async false
set_option linter.all false
set_option maxRecDepth 100000
set_option maxHeartbeats 4000000
namespace PyV
open PySem
structure Two (u v : List Nat) : Prop where
  hu : wordB u = true
  hv : wordB v = true
  cx : u.count 120 = v.count 120
  cy : u.count 121 = v.count 121
  bx : u.count 120 ≤ 4
  ly : u.count 121 ≤ 4
  le : u.length = v.length
  sm : u.length ≤ 8
end PyV
set_option Elab.async false
set_option linter.all false
set_option maxRecDepth 100000
set_option maxHeartbeats 4000000
namespace PyV
open PySem
structure Tw (u v : List Nat) : Prop where
  hu : wordB u = true
  hv : wordB v = true
  cx : u.count 120 = v.count 120
  cy : u.count 121 = v.count 121
  le : u.length = v.length
structure Prt2 (u v r p q : List Nat) (c c' : Nat) : Prop where
  e1 : u.reverse = r ++ c :: p
  e2 : v.reverse = r ++ c' :: q
  e3 : c ≠ c'
  wu : Wd (r ++ c :: p)
  wv : Wd (r ++ c' :: q)
  pq : c = 120 ∧ c' = 121 ∧ 0 < q.count 120 ∨ c = 121 ∧ c' = 120 ∧ 0 < p.count 120
  ci : r.count 120 + 1 ≤ u.count 120
  cj : r.count 121 ≤ u.count 121
end PyV
set_option Elab.async false
set_option linter.all false
set_option maxRecDepth 100000
set_option maxHeartbeats 4000000
namespace PyV
open PySem
end PyV
set_option Elab.async false
set_option linter.all false
set_option maxRecDepth 100000
set_option maxHeartbeats 4000000
namespace PyV
open PySem
end PyV
set_option Elab.async false
set_option linter.all false
set_option maxRecDepth 100000
set_option maxHeartbeats 4000000
namespace PyV
open PySem
structure Bh (w r m : List Nat) : Prop where
  hw : wordB w = true
  e : w.reverse = r ++ m
theorem Bh.cx {w r m : List Nat} (h : Bh w r m) : w.count 120 = r.count 120 + m.count 120 := by rw [← List.count_reverse, h.e, List.count_append]
theorem Bh.cy {w r m : List Nat} (h : Bh w r m) : w.count 121 = r.count 121 + m.count 121 := by rw [← List.count_reverse, h.e, List.count_append]
theorem Bh.ln {w r m : List Nat} (h : Bh w r m) : w.length = r.length + m.length := by rw [← List.length_reverse, h.e, List.length_append]
structure Mv (w r m : List Nat) (b : Bx) (t s : Int) : Prop where
  hb : b.ok r
  t0 : 0 ≤ t
  t1 : t < 2 ^ m.count 120
  s0 : 0 ≤ s
  s1 : s < 2 ^ m.count 121
@[reducible] def mvB (r : List Nat) (b : Bx) (t s : Int) : Bx := b.mv (2 ^ r.count 120 * t) (2 ^ r.count 121 * s)
theorem mv_lt {x t : Int} {i k : Nat} (h1 : x < 2 ^ i) (t1 : t < 2 ^ k) : x + 2 ^ i * t < 2 ^ (i + k) := by
  have p := p2 i
  have h2 : 2 ^ i * (t + 1) ≤ 2 ^ i * 2 ^ k := Int.mul_le_mul_of_nonneg_left (by omega) (by omega)
  rw [Int.pow_add]
  rw [Int.mul_add, Int.mul_one] at h2
  omega
theorem Mv.cell {w r m : List Nat} {b : Bx} {t s x y : Int} (h : Mv w r m b t s) (k : Bh w r m) (g : Gd r x y) : 0 ≤ x + 2 ^ r.count 120 * t ∧ x + 2 ^ r.count 120 * t < 2 ^ w.count 120 ∧ 0 ≤ y + 2 ^ r.count 121 * s ∧ y + 2 ^ r.count 121 * s < 2 ^ w.count 121 := by
  obtain ⟨g1, g2, g3, g4⟩ := g
  have p := Int.mul_nonneg (Int.le_of_lt (p2 (r.count 120))) h.t0
  have q := Int.mul_nonneg (Int.le_of_lt (p2 (r.count 121))) h.s0
  have a := mv_lt g2 h.t1
  have b := mv_lt g4 h.s1
  rw [k.cx, k.cy]
  omega
theorem Mv.ok {w r m : List Nat} {b : Bx} {t s : Int} (h : Mv w r m b t s) (k : Bh w r m) : (mvB r b t s).ok w := by
  obtain ⟨a1, a2, a3, b1, b2, b3⟩ := h.hb
  have c1 := h.cell k (x := b.x1) (y := b.y1) ⟨a1, by omega, b1, by omega⟩
  have c2 := h.cell k (x := b.x2) (y := b.y2) ⟨by omega, a3, by omega, b3⟩
  exact ⟨c1.1, by simp only; omega, c2.2.1, c1.2.2.1, by simp only; omega, c2.2.2.2⟩
theorem Mv.zero {w r m : List Nat} {b : Bx} {t s : Int} (h : Mv w r m b t s) : Mv w r m b 0 0 := ⟨h.hb, Int.le_refl _, p2 _, Int.le_refl _, p2 _⟩
end PyV
set_option Elab.async false
set_option linter.all false
set_option maxRecDepth 100000
set_option maxHeartbeats 4000000
namespace PyV
open PySem
end PyV
set_option Elab.async false
set_option linter.all false
set_option maxRecDepth 100000
set_option maxHeartbeats 4000000
namespace PyV
open PySem
section
variable {FL : Nat → Int → Bool}
end
end PyV
set_option Elab.async false
set_option linter.all false
set_option maxRecDepth 100000
set_option maxHeartbeats 4000000
namespace PyV
open PySem
end PyV
set_option Elab.async false
set_option linter.all false
set_option maxRecDepth 100000
set_option maxHeartbeats 4000000
namespace PyV
open PySem
end PyV
set_option Elab.async false
set_option linter.all false
set_option maxRecDepth 100000
set_option maxHeartbeats 4000000
namespace PyV
open PySem
end PyV
set_option Elab.async false
set_option linter.all false
set_option maxRecDepth 100000
set_option maxHeartbeats 4000000
namespace PyV
open PySem
theorem enumD_mem {d : D} : ∀ {xs : List D} {k : Nat}, d ∈ enumD k xs → ∃ (j : Nat) (e : D), e ∈ xs ∧ d = .tup [.int (j : Int), e]
  | [], k, h => by simp [enumD] at h
  | x :: xs, k, h => by
    rw [enumD] at h
    rcases List.mem_cons.mp h with rfl | h
    · exact ⟨k, x, List.mem_cons_self, rfl⟩
    · obtain ⟨j, e, h1, h2⟩ := enumD_mem h
      exact ⟨j, e, List.mem_cons_of_mem _ h1, h2⟩
end PyV
set_option Elab.async false
set_option linter.all false
set_option maxRecDepth 100000
set_option maxHeartbeats 4000000
namespace PyV
open PySem
section
variable (gx gy : Nat → Nat → Int) (s : Int)
variable {gx gy s}
end
end PyV
set_option Elab.async false
set_option linter.all false
set_option maxRecDepth 100000
set_option maxHeartbeats 4000000
namespace PyV
open PySem
@[reducible] def itmD (p : Bx × Int) : D := .tup [boxD p.1, .int p.2]
def Bx.inG (b : Bx) (X Y : Nat) : Prop := 0 ≤ b.x1 ∧ b.x1 ≤ b.x2 ∧ b.x2 < 2 ^ X ∧ 0 ≤ b.y1 ∧ b.y1 ≤ b.y2 ∧ b.y2 < 2 ^ Y
theorem Bx.inG.sm {b : Bx} {X Y : Nat} (h : b.inG X Y) (hX : X ≤ 100) (hY : Y ≤ 100) : b.sm := by
  obtain ⟨h1, h2, h3, h4, h5, h6⟩ := h
  exact ⟨h1, h2, Int.lt_of_lt_of_le h3 (pow2_le hX), h4, h5, Int.lt_of_lt_of_le h6 (pow2_le hY)⟩
structure LdOk (X Y : Nat) (L : List (Bx × Int)) : Prop where
  hX : X ≤ 100
  hY : Y ≤ 100
  h1 : 1 ≤ L.length
  h20 : L.length ≤ 20
  bx : ∀ p ∈ L, p.1.inG X Y
  wt : ∀ p ∈ L, 1 ≤ p.2 ∧ p.2 ≤ 10 ^ 30
theorem s_is_load_item {p : Bx × Int} {X Y : Nat} (hX : X ≤ 100) (hY : Y ≤ 100) (hb : p.1.inG X Y) (h1 : 1 ≤ p.2) (h2 : p.2 ≤ 10 ^ 30) : TT.G 226 [itmD p, .int (X : Int), .int (Y : Int)] = .ok (.bl true) false none := tt_run 0 (show runD TT none 0 b_is_load_item _ = _ by
  obtain ⟨g1, g2, g3, g4, g5, g6⟩ := hb
  have e := s_is_box (b := p.1) (a := (X : Int)) (c := (Y : Int)) (by omega) (by omega) (by omega) (by omega) g1 g2 (by simpa using g3) g4 g5 (by simpa using g6)
  have h2' : p.2 ≤ 1000000000000000000000000000000 := by omega
  simp [runD, evB, evS, evE, evEs, evXs, asgT_v, asgT_t, asgT_l, asgTs_n, asgTs_c, atD, placeD, b_is_load_item, e, h1, h2']) (by simp)
theorem irange_nat (n : Nat) : irange 0 n 1 = (List.range n).map fun k => .int (k : Int) := by
  unfold irange
  refine List.map_congr_left fun k _ => ?_
  simp
end PyV
set_option Elab.async false
set_option linter.all false
set_option maxRecDepth 100000
set_option maxHeartbeats 4000000
namespace PyV
open PySem
theorem at0 {a : D} {l : List D} : atD (a :: l) 0 = some a := rfl
theorem at1 {a b : D} {l : List D} : atD (a :: b :: l) 1 = some b := rfl
end PyV
set_option Elab.async false
set_option linter.all false
set_option maxRecDepth 100000
set_option maxHeartbeats 4000000
namespace PyV
open PySem
def rowP (i m : Nat) : List (Nat × Nat) := (List.range m).map fun j => (i, j)
def grd (n y : Nat) : List (Nat × Nat) := (List.range n).flatMap fun i => rowP i (y + 1)
theorem range_at {n j : Nat} {d : D} (h : ((List.range n).map fun (k : Nat) => D.int (k : Int))[j]? = some d) : j < n ∧ d = .int (j : Int) := by
  rw [List.getElem?_map] at h
  obtain ⟨k, hk, rfl⟩ := Option.map_eq_some_iff.mp h
  obtain ⟨hl, e⟩ := List.getElem?_eq_some_iff.mp hk
  simp at hl e
  subst e
  exact ⟨hl, rfl⟩
theorem items_rng {n : Nat} (h : n ≤ 1000) : itemsD .rng [.int ((n : Int) + 1)] = some ((List.range (n + 1)).map fun (k : Nat) => D.int (k : Int)) := by
  have hb := big62_b (i := (n : Int) + 1) (by omega) (by omega)
  have ht : ((n : Int) + 1).toNat = n + 1 := by omega
  simp only [itemsD, hb, if_true, ht, irange_nat]
end PyV
set_option Elab.async false
set_option linter.all false
set_option maxRecDepth 100000
set_option maxHeartbeats 4000000
namespace PyV
open PySem
def kl (Y i j : Nat) : List (Nat × Nat) := if i = 0 then rowP 0 (max j 1) else grd i Y ++ rowP i j
end PyV
set_option Elab.async false
set_option linter.all false
set_option maxRecDepth 100000
set_option maxHeartbeats 4000000
namespace PyV
open PySem
end PyV
set_option Elab.async false
set_option linter.all false
set_option maxRecDepth 100000
set_option maxHeartbeats 4000000
namespace PyV
open PySem
section
variable {α : Type} {st : D → Ss → Option Ss} {elt : Ss → R Rv} {wp : Ss → Ss} {g F : α → D} {B : Ss}
end
end PyV
set_option Elab.async false
set_option linter.all false
set_option maxRecDepth 100000
set_option maxHeartbeats 4000000
namespace PyV
open PySem
end PyV
set_option Elab.async false
set_option linter.all false
set_option maxRecDepth 100000
set_option maxHeartbeats 4000000
namespace PyV
open PySem
end PyV
set_option Elab.async false
set_option linter.all false
set_option maxRecDepth 100000
set_option maxHeartbeats 4000000
namespace PyV
open PySem
def numZ (i : Int) : List Nat := TL.numL i.toNat
theorem strI_nat (n : Nat) : strI (n : Int) = TL.numL n := TL.tl_num n
theorem strI_pos {i : Int} (h : 0 ≤ i) : strI i = numZ i := by
  obtain ⟨n, rfl⟩ : ∃ n : Nat, i = n := ⟨i.toNat, by omega⟩
  exact strI_nat n
theorem numZ_len {i : Int} (h : 0 ≤ i) (h2 : i < 10 ^ 31) : (numZ i).length ≤ 31 := TL.numL_len (by decide) (by
  have e : ((10 ^ 31 : Nat) : Int) = 10 ^ 31 := by decide
  omega)
theorem numZ_int {i : Int} (h : 0 ≤ i) (h2 : i < 10 ^ 31) : intText? ⟨(numZ i).toArray⟩ = some i := by
  obtain ⟨n, rfl⟩ : ∃ n : Nat, i = n := ⟨i.toNat, by omega⟩
  have e := TL.int_num (n := n) (by have := numZ_len h h2; unfold numZ at this; simp at this; omega)
  have e2 : (⟨(numZ (n : Int)).toArray⟩ : Str) = Str.ofString (toString ((n : Nat) : Int)) := by
    rw [← strI_pos h]
    unfold strI
    simp
  rw [e2]
  exact e
theorem numZ_ne (i : Int) : numZ i ≠ [] := TL.numL_ne _
theorem numZ_dig (i : Int) : ∀ c ∈ numZ i, 48 ≤ c ∧ c ≤ 57 := fun c hc => by
  have := TL.numL_digits i.toNat c hc
  omega
theorem numZ_free {i : Int} {c : Nat} (h : c < 48 ∨ 57 < c) : c ∉ numZ i := TL.numL_free h
theorem numL_zero : ∀ (n : Nat) (t : List Nat), TL.numL n = 48 :: t → t = [] := by
  intro n
  induction n using Nat.strongRecOn with
  | _ n ih =>
    intro t e
    by_cases h : n < 10
    · rw [TL.numL_lt h] at e
      injection e with _ e
      exact e.symm
    · rw [TL.numL_step (by omega)] at e
      cases hq : TL.numL (n / 10) with
      | nil => exact absurd hq (TL.numL_ne _)
      | cons a r =>
        rw [hq] at e
        injection e with e1 e2
        subst e1
        have hr := ih (n / 10) (by omega) r hq
        subst hr
        have v := TL.numL_val (n / 10)
        rw [hq] at v
        have : n / 10 = 0 := by rw [← v]; rfl
        omega
theorem joinL_len {S : List Nat} {m : Nat} : ∀ {ps : List (List Nat)}, (∀ p ∈ ps, p.length ≤ m) → (TL.joinL S ps).length ≤ ps.length * (m + S.length)
  | [], _ => Nat.zero_le _
  | [p], h => by
    have := h p List.mem_cons_self
    simp only [TL.joinL, List.length_cons, List.length_nil]
    omega
  | p :: q :: r, h => by
    have h1 := h p List.mem_cons_self
    have h2 := joinL_len (S := S) (ps := q :: r) fun z hz => h z (List.mem_cons_of_mem _ hz)
    simp only [TL.joinL, List.length_append, List.length_cons] at h2 ⊢
    have : (r.length + 1 + 1) * (m + S.length) = (r.length + 1) * (m + S.length) + (m + S.length) := by rw [Nat.succ_mul]
    omega
theorem sum_len {m : Nat} : ∀ {ps : List (List Nat)}, (∀ p ∈ ps, p.length ≤ m) → (ps.map List.length).sum ≤ ps.length * m
  | [], _ => Nat.zero_le _
  | p :: r, h => by
    have h1 := h p List.mem_cons_self
    have h2 := sum_len (ps := r) fun z hz => h z (List.mem_cons_of_mem _ hz)
    simp only [List.map_cons, List.sum_cons, List.length_cons, Nat.succ_mul]
    omega
theorem join_mk (t : List Nat) (ps : List (List Nat)) : Txt.join ⟨t.toArray⟩ (ps.map fun s => (⟨s.toArray⟩ : Str)) = ⟨(TL.joinL t ps).toArray⟩ := by
  refine TL.ext_tl ?_
  rw [TL.join_eq, TL.tl_join]
  show TL.joinL t _ = TL.joinL t ps
  rw [List.map_map]
  congr 1
  exact (List.map_congr_left fun a _ => rfl).trans (List.map_id ps)
theorem splL_join {s : Nat} {S : List Nat} (hk : (⟨(s :: S).toArray⟩ : Str).cps.all (· < 256) = true) {ps : List (List Nat)} (hne : ps ≠ []) (hp : ∀ p ∈ ps, s ∉ p) : splL (TL.joinL (s :: S) ps) (s :: S) = ps := by
  unfold splL
  rw [← join_mk, TL.split_join (y := ⟨(s :: S).toArray⟩) (s := s) (S := S) rfl hk (fun e => hne (List.map_eq_nil_iff.mp e)) (fun p h => by
    obtain ⟨z, hz, rfl⟩ := List.mem_map.mp h
    exact hp z hz), List.map_map]
  exact (List.map_congr_left fun a _ => rfl).trans (List.map_id ps)
theorem parL_app {s : Nat} {S a b : List Nat} (h : s ∉ a) : parL (a ++ (s :: S) ++ b) (s :: S) = (a, s :: S, b) := by
  unfold parL
  have e : (⟨(a ++ (s :: S) ++ b).toArray⟩ : Str) = ⟨a.toArray⟩ ++ ⟨(s :: S).toArray⟩ ++ ⟨b.toArray⟩ := TL.ext_tl (by rw [TL.tl_append, TL.tl_append])
  rw [e, TL.partition_app (y := ⟨(s :: S).toArray⟩) (s := s) (S := S) rfl (a := ⟨a.toArray⟩) (b := ⟨b.toArray⟩) h]
def txN (ns : List Int) : List Nat := TL.joinL [32] (ns.map numZ)
def bxN (b : Bx) : List Int := [b.x1, b.y1, b.x2, b.y2]
def txI (p : Bx × Int) : List Nat := numZ p.2 ++ [58, 32] ++ txN (bxN p.1)
def txL (L : List (Bx × Int)) : List Nat := TL.joinL [59, 32] (L.map txI)
theorem txN_free {ns : List Int} {c : Nat} (h : c < 32 ∨ (32 < c ∧ c < 48) ∨ 57 < c) : c ∉ txN ns := by
  unfold txN
  induction ns with
  | nil => simp [TL.joinL]
  | cons a r ih =>
    cases r with
    | nil => simpa [TL.joinL] using numZ_free (i := a) (c := c) (by omega)
    | cons b r =>
      simp only [List.map_cons, TL.joinL, List.mem_append, List.mem_singleton] at ih ⊢
      rintro (h1 | h1 | h1)
      · exact numZ_free (by omega) h1
      · omega
      · exact ih h1
theorem txN_len {ns : List Int} (h : ∀ i ∈ ns, 0 ≤ i ∧ i < 10 ^ 31) : (txN ns).length ≤ ns.length * 32 := by
  have := joinL_len (S := [32]) (m := 31) (ps := ns.map numZ) fun p hp => by
    obtain ⟨i, hi, rfl⟩ := List.mem_map.mp hp
    exact numZ_len (h i hi).1 (h i hi).2
  rw [List.length_map] at this
  exact this
structure ItOk (p : Bx × Int) : Prop where
  b : ∀ i ∈ bxN p.1, 0 ≤ i ∧ i < 10 ^ 31
  w : 0 ≤ p.2 ∧ p.2 < 10 ^ 31
theorem txI_len {p : Bx × Int} (h : ItOk p) : (txI p).length ≤ 161 := by
  have h1 := numZ_len h.w.1 h.w.2
  have h2 := txN_len h.b
  have h3 : (bxN p.1).length = 4 := rfl
  rw [h3] at h2
  simp only [txI, List.length_append, List.length_cons, List.length_nil]
  omega
theorem txI_free (p : Bx × Int) : 59 ∉ txI p := by
  simp only [txI, List.mem_append]
  rintro ((h | h) | h)
  · exact numZ_free (by omega) h
  · simp at h
  · exact txN_free (by omega) h
theorem txL_split {L : List (Bx × Int)} (h : L ≠ []) : splL (txL L) [59, 32] = L.map txI := splL_join (by simp) (by simpa using h) fun p hp => by
  obtain ⟨i, _, rfl⟩ := List.mem_map.mp hp
  exact txI_free i
theorem txN_split {ns : List Int} (h : ns ≠ []) : splL (txN ns) [32] = ns.map numZ := splL_join (by simp) (by simpa using h) fun p hp => by
  obtain ⟨i, _, rfl⟩ := List.mem_map.mp hp
  exact numZ_free (by omega)
theorem txI_part (p : Bx × Int) : parL (txI p) [58, 32] = (numZ p.2, [58, 32], txN (bxN p.1)) := parL_app (numZ_free (by omega))
theorem ItOk.of {X Y : Nat} {L : List (Bx × Int)} (h : LdOk X Y L) : ∀ p ∈ L, ItOk p := fun p hp => by
  have hX := h.hX
  have hY := h.hY
  obtain ⟨g1, g2, g3, g4, g5, g6⟩ := h.bx p hp
  obtain ⟨w1, w2⟩ := h.wt p hp
  have x1 : (2 : Int) ^ X ≤ 2 ^ 100 := by
    have := Nat.pow_le_pow_right (n := 2) (by decide) hX
    exact_mod_cast this
  have y1 : (2 : Int) ^ Y ≤ 2 ^ 100 := by
    have := Nat.pow_le_pow_right (n := 2) (by decide) hY
    exact_mod_cast this
  have z : (2 : Int) ^ 100 < 10 ^ 31 := by decide
  have z2 : (10 : Int) ^ 30 < 10 ^ 31 := by decide
  refine ⟨fun i hi => ?_, by omega, by omega⟩
  simp only [bxN, List.mem_cons, List.not_mem_nil, or_false] at hi
  rcases hi with rfl | rfl | rfl | rfl <;> constructor <;> omega
end PyV
set_option Elab.async false
set_option linter.all false
set_option maxRecDepth 100000
set_option maxHeartbeats 4000000
namespace PyV
open PySem
theorem log_small {i : Int} (h : 0 ≤ i) (h2 : i < 10 ^ 31) : i.natAbs.log2 < 1920 := by
  by_cases h0 : i.natAbs = 0
  · rw [h0]; decide
  · rw [Nat.log2_lt h0]
    have z0 : (2 : Nat) ^ 128 ≤ 2 ^ 1920 := Nat.pow_le_pow_right (by decide) (by decide)
    have z : (10 : Nat) ^ 31 < 2 ^ 128 := by decide
    have z2 : ((10 ^ 31 : Nat) : Int) = 10 ^ 31 := by decide
    omega
theorem s_numbers_text {ns : List Int} (h : ∀ i ∈ ns, 0 ≤ i ∧ i < 10 ^ 31) (hl : ns.length ≤ 100) : TT.G 329 [.tup (ns.map .int)] = .ok (.str (txN ns)) false none := tt_run 0 (show runD TT none 0 b_numbers_text _ = _ from by
  have e : ∀ S : Ss, S = [.val (.tup (ns.map .int)), .emp] → evE TT none (.lc c_numbers_text_1 (.v 1) .plain [.var 0] .nop [1]) S = .ok (.own (.lst (ns.map fun i => .str (numZ i)))) S := by
    rintro S rfl
    refine (ev_lc (s1 := [.val (.tup (ns.map .int)), .emp]) (s2 := [.val (.tup (ns.map .int)), .emp]) (rs := [.val (.tup (ns.map .int))]) (ds := [.tup (ns.map .int)]) ns (fun i => .int i) (fun i => .str (numZ i)) (by simp [runD, evB, evS, evE, evEs, evXs, asgT_v, asgT_t, asgT_l, asgTs_n, asgTs_c, atD, placeD]) rfl rfl rfl (by omega) fun i hi => ?_).trans (by rfl)
    obtain ⟨h1, h2⟩ := h i hi
    refine ⟨[.val (.tup (ns.map .int)), .val (.int i)], by rfl, by rfl, .val (.str (numZ i)), ?_, by rfl⟩
    generalize ns.map (fun i => D.int i) = Z
    simp [runD, evB, evS, evE, evEs, evXs, asgT_v, asgT_t, asgT_l, asgTs_n, asgTs_c, atD, placeD, c_numbers_text_1, log_small h1 h2, strI_pos h1]
  have a1 : allS (ns.map fun i => D.str (numZ i)) = some (ns.map numZ) := by
    rw [← allS_map (ns.map numZ), List.map_map]
    rfl
  have b1 : ((ns.map numZ).map List.length).sum + (ns.map numZ).length * 1 ≤ 16777216 := by
    have := sum_len (m := 31) (ps := ns.map numZ) fun p hp => by
      obtain ⟨i, hi, rfl⟩ := List.mem_map.mp hp
      exact numZ_len (h i hi).1 (h i hi).2
    rw [List.length_map] at *
    omega
  have e1 := e _ rfl
  unfold txN
  generalize (ns.map fun i => D.str (numZ i)) = Y at *
  generalize ns.map D.int = Z at *
  generalize ns.map numZ = N at *
  rw [Nat.mul_one] at b1
  simp [runD, evB, evS, evE, evEs, evXs, asgT_v, asgT_t, asgT_l, asgTs_n, asgTs_c, atD, placeD, b_numbers_text, e1, a1, b1]) (by simp)
theorem bxN_D (b : Bx) : boxD b = .tup ((bxN b).map .int) := rfl
theorem s_load_text {L : List (Bx × Int)} (h : ∀ p ∈ L, ItOk p) (hl : L.length ≤ 1000) : TT.G 330 [.lst (L.map itmD)] = .ok (.str (txL L)) false none := tt_run 0 (show runD TT none 0 b_load_text _ = _ from by
  have e : ∀ S : Ss, S = [.val (.lst (L.map itmD)), .emp, .emp] → evE TT none (.lc c_load_text_1 (.tup [.v 1, .v 2]) .plain [.var 0] .nop [1, 2]) S = .ok (.own (.lst (L.map fun p => .str (txI p)))) S := by
    rintro S rfl
    refine (ev_lc (s1 := [.val (.lst (L.map itmD)), .emp, .emp]) (s2 := [.val (.lst (L.map itmD)), .emp, .emp]) (rs := [.val (.lst (L.map itmD))]) (ds := [.lst (L.map itmD)]) L itmD (fun p => .str (txI p)) (by simp [runD, evB, evS, evE, evEs, evXs, asgT_v, asgT_t, asgT_l, asgTs_n, asgTs_c, atD, placeD]) rfl rfl rfl (by omega) fun p hp => ?_).trans (by rfl)
    have hi := h p hp
    refine ⟨[.val (.lst (L.map itmD)), .val (boxD p.1), .val (.int p.2)], by rfl, by rfl, .val (.str (txI p)), ?_, by rfl⟩
    have e1 := s_numbers_text (ns := bxN p.1) hi.b (show 4 ≤ 100 by decide)
    rw [← bxN_D] at e1
    have b1 := txI_len hi
    simp only [txI, List.length_append, List.length_cons, List.length_nil] at b1
    unfold txI
    generalize boxD p.1 = B at *
    generalize L.map itmD = Z
    generalize hq : numZ p.2 = q at *
    have e2 := strI_pos hi.w.1
    rw [hq] at e2
    have b2 : q.length + 2 ≤ 16777216 := by omega
    have b3 : q.length + (txN (bxN p.1)).length + 2 ≤ 16777216 := by omega
    have b4 : q.length + 2 + (txN (bxN p.1)).length ≤ 16777216 := by omega
    have b5 : q.length + (2 + (txN (bxN p.1)).length) ≤ 16777216 := by omega
    simp [runD, evB, evS, evE, evEs, evXs, asgT_v, asgT_t, asgT_l, asgTs_n, asgTs_c, atD, placeD, c_load_text_1, log_small hi.w.1 hi.w.2, e2, e1, b2, b3, b4, b5]
  have a1 : allS (L.map fun p => D.str (txI p)) = some (L.map txI) := by
    rw [← allS_map (L.map txI), List.map_map]
    rfl
  have b1 : ((L.map txI).map List.length).sum + (L.map txI).length * 2 ≤ 16777216 := by
    have := sum_len (m := 161) (ps := L.map txI) fun p hp => by
      obtain ⟨i, hi, rfl⟩ := List.mem_map.mp hp
      exact txI_len (h i hi)
    rw [List.length_map] at *
    omega
  have e1 := e _ rfl
  unfold txL
  generalize (L.map fun p => D.str (txI p)) = Y at *
  generalize L.map itmD = Z at *
  generalize L.map txI = N at *
  simp [runD, evB, evS, evE, evEs, evXs, asgT_v, asgT_t, asgT_l, asgTs_n, asgTs_c, atD, placeD, b_load_text, e1, a1, b1]) (by simp)
theorem s_require_load2 {L : List (Bx × Int)} {X Y : Nat} (h : LdOk X Y L) : TT.G 328 [.int (X : Int), .int (Y : Int), .lst (L.map itmD)] = .ok .non false none := tt_run 0 (show runD TT none 0 b_require_load_2 _ = _ by
  obtain ⟨hX, hY, h1, h20, bx, wt⟩ := h
  have ln : (L.map itmD).length = L.length := List.length_map ..
  obtain ⟨s', ef, t3, t4, rfl⟩ := for_keep (st := asgT none (.tup [.v 3, .v 4])) (body := evB TT none 0 l_require_load_2_1) (fun s => ∃ t3 t4, s = [.val (.int (X : Int)), .val (.int (Y : Int)), .val (.lst (L.map itmD)), t3, t4]) (xs := enumD 0 (L.map itmD)) (s := [.val (.int (X : Int)), .val (.int (Y : Int)), .val (.lst (L.map itmD)), .emp, .emp]) ⟨_, _, rfl⟩ fun d hd s hs => by
    obtain ⟨t3, t4, rfl⟩ := hs
    obtain ⟨j, e, he, rfl⟩ := enumD_mem hd
    obtain ⟨b, hbm, rfl⟩ := List.mem_map.mp he
    have e := s_is_load_item hX hY (bx b hbm) (wt b hbm).1 (wt b hbm).2
    generalize L.map itmD = Z at *
    refine ⟨[.val (.int (X : Int)), .val (.int (Y : Int)), .val (.lst Z), .val (.int (j : Int)), .val (itmD b)], [.val (.int (X : Int)), .val (.int (Y : Int)), .val (.lst Z), .val (.int (j : Int)), .val (itmD b)], by simp [runD, evB, evS, evE, evEs, evXs, asgT_v, asgT_t, asgT_l, asgTs_n, asgTs_c, atD, placeD], by simp [runD, evB, evS, evE, evEs, evXs, asgT_v, asgT_t, asgT_l, asgTs_n, asgTs_c, atD, placeD, l_require_load_2_1, e], _, _, rfl⟩
  have hz1 : (1 : Int) ≤ (L.length : Int) := by omega
  have hz3 : (L.length : Int) ≤ 20 := by omega
  generalize L.map itmD = Z at *
  refine run_nx (s := [.val (.int (X : Int)), .val (.int (Y : Int)), .val (.lst Z), t3, t4]) ?_ rfl
  show evB TT none 0 b_require_load_2.body [.val (.int (X : Int)), .val (.int (Y : Int)), .val (.lst Z), .emp, .emp] = _
  unfold b_require_load_2
  simp only
  rw [evB_step (s1 := [.val (.int (X : Int)), .val (.int (Y : Int)), .val (.lst Z), .emp, .emp]) (by simp [runD, evB, evS, evE, evEs, evXs, asgT_v, asgT_t, asgT_l, asgTs_n, asgTs_c, atD, placeD, ln, hz1, hz3])]
  rw [evB_step (s1 := [.val (.int (X : Int)), .val (.int (Y : Int)), .val (.lst Z), t3, t4]) (by
    rw [evS_for (rs := [.val (.lst Z)]) (ds := [.lst Z]) (xs := enumD 0 Z) (s1 := [.val (.int (X : Int)), .val (.int (Y : Int)), .val (.lst Z), .emp, .emp]) (s2 := [.val (.int (X : Int)), .val (.int (Y : Int)), .val (.lst Z), .emp, .emp]) (by simp [runD, evB, evS, evE, evEs, evXs, asgT_v, asgT_t, asgT_l, asgTs_n, asgTs_c, atD, placeD]) rfl rfl]
    exact ef)]
  rfl) (by simp)
theorem s_show_load {L : List (Bx × Int)} {X Y : Nat} (h : LdOk X Y L) (h0 : 0 < X + Y) : TT.G 331 [.int (X : Int), .int (Y : Int), .lst (L.map itmD)] = .ok (.str (txL L)) false none := tt_run 0 (show runD TT none 0 b_show_load _ = _ by
  have e1 := s_require_bits (x := (X : Int)) (y := (Y : Int)) ⟨by omega, by have := h.hX; omega, by omega, by have := h.hY; omega, by omega⟩
  have e2 := s_require_load2 h
  have e3 := s_load_text (ItOk.of h) (by have := h.h20; omega)
  generalize L.map itmD = Z at *
  simp [runD, evB, evS, evE, evEs, evXs, asgT_v, asgT_t, asgT_l, asgTs_n, asgTs_c, atD, placeD, b_show_load, e1, e2, e3]) (by simp)
end PyV
set_option Elab.async false
set_option linter.all false
set_option maxRecDepth 100000
set_option maxHeartbeats 4000000
namespace PyV
open PySem
theorem s_whole_in {i : Int} (h : 0 ≤ i) (h2 : i < 10 ^ 31) : TT.G 332 [.str (numZ i)] = .ok (.int i) false none := tt_run 0 (show runD TT none 0 b_whole_in _ = _ from by
  have e : ∀ S : Ss, S = [.val (.str (numZ i)), .emp] → evE TT none (.lc c_whole_in_1 (.v 1) .plain [.var 0] .nop [1]) S = .ok (.own (.lst ((numZ i).map fun _ => .bl true))) S := by
    rintro S rfl
    refine (ev_lc (s1 := [.val (.str (numZ i)), .emp]) (s2 := [.val (.str (numZ i)), .emp]) (rs := [.val (.str (numZ i))]) (ds := [.str (numZ i)]) (numZ i) (fun c => .str [c]) (fun _ => .bl true) (by simp [runD, evB, evS, evE, evEs, evXs, asgT_v, asgT_t, asgT_l, asgTs_n, asgTs_c, atD, placeD]) rfl rfl rfl (by have := numZ_len h h2; omega) fun c hc => ?_).trans (by rfl)
    obtain ⟨c1, c2⟩ := numZ_dig i c hc
    refine ⟨[.val (.str (numZ i)), .val (.str [c])], by rfl, by rfl, .val (.bl true), ?_, by rfl⟩
    have m : c ∈ [48, 49, 50, 51, 52, 53, 54, 55, 56, 57] := by
      have : c = 48 ∨ c = 49 ∨ c = 50 ∨ c = 51 ∨ c = 52 ∨ c = 53 ∨ c = 54 ∨ c = 55 ∨ c = 56 ∨ c = 57 := by omega
      simpa using this
    generalize numZ i = Z
    have m2 : (c = 48 ∨ c = 49 ∨ c = 50 ∨ c = 51 ∨ c = 52 ∨ c = 53 ∨ c = 54 ∨ c = 55 ∨ c = 56 ∨ c = 57) := by simpa using m
    simp [runD, evB, evS, evE, evEs, evXs, asgT_v, asgT_t, asgT_l, asgTs_n, asgTs_c, atD, placeD, c_whole_in_1, m2]
  have e1 := e _ rfl
  have e3 := numZ_int h h2
  have l1 := numZ_len h h2
  have l2 := numZ_ne i
  have zz : ∀ t, numZ i = 48 :: t → t = [] := numL_zero _
  clear e
  have ⟨bs, ab, at'⟩ : ∃ bs, allB ((numZ i).map fun _ => D.bl true) = some bs ∧ bs.all id = true := ⟨(numZ i).map fun _ => true, by rw [← allB_map, List.map_map]; rfl, by simp⟩
  generalize ((numZ i).map fun _ => D.bl true) = Y at *
  generalize hq : numZ i = q at *
  cases q with
  | nil => exact absurd rfl l2
  | cons a t =>
    have b1 : ¬ (100 < (t.length : Int) + 1) := by simp only [List.length_cons] at l1; omega
    have b2 : t.length + 1 ≤ 640 := by simp only [List.length_cons] at l1; omega
    have b3 : t.length + 1 ≤ 16777216 := by omega
    by_cases ha : a = 48
    · subst ha
      have ht := zz t rfl
      subst ht
      simp [runD, evB, evS, evE, evEs, evXs, asgT_v, asgT_t, asgT_l, asgTs_n, asgTs_c, atD, placeD, b_whole_in, e1, e3, b1, ab, at']
    · simp [runD, evB, evS, evE, evEs, evXs, asgT_v, asgT_t, asgT_l, asgTs_n, asgTs_c, atD, placeD, b_whole_in, e1, e3, b1, b2, b3, ha, ab, at']) (by simp)
end PyV
set_option Elab.async false
set_option linter.all false
set_option maxRecDepth 100000
set_option maxHeartbeats 4000000
namespace PyV
open PySem
theorem inD_non : ∀ ns : List Int, inD .non (ns.map .int) = false
  | [] => rfl
  | n :: ns => by
    have := inD_non ns
    simp [inD, eqD] at this ⊢
    exact ⟨rfl, this⟩
theorem flat_ints (ns : List Int) : (ns.map D.int).all flat = true := by
  rw [List.all_eq_true]
  intro d hd
  obtain ⟨i, _, rfl⟩ := List.mem_map.mp hd
  rfl
theorem s_item_in {p : Bx × Int} (h : ItOk p) : TT.G 333 [.str (txI p)] = .ok (itmD p) false none := tt_run 0 (show runD TT none 0 b_item_in _ = _ from by
  have e : ∀ S s4 s5 : Sl, evE TT none (.lc c_item_in_1 (.v 6) .plain [.mth .split (.var 3) [.str [32]]] .nop [6]) [S, .val (.str (numZ p.2)), .val (.str [58, 32]), .val (.str (txN (bxN p.1))), s4, s5, .emp] = .ok (.own (.lst ((bxN p.1).map .int))) [S, .val (.str (numZ p.2)), .val (.str [58, 32]), .val (.str (txN (bxN p.1))), s4, s5, .emp] := fun S s4 s5 => by
    have hs := txN_split (ns := bxN p.1) (by simp [bxN])
    have hl := txN_len h.b
    have hl2 : (txN (bxN p.1)).length + 2 ≤ 16777216 := by
      have : (bxN p.1).length = 4 := rfl
      omega
    refine (ev_lc (s1 := [S, .val (.str (numZ p.2)), .val (.str [58, 32]), .val (.str (txN (bxN p.1))), s4, s5, .emp]) (s2 := [S, .val (.str (numZ p.2)), .val (.str [58, 32]), .val (.str (txN (bxN p.1))), s4, s5, .emp]) (rs := [.own (.lst ((splL (txN (bxN p.1)) [32]).map .str))]) (ds := [.lst ((splL (txN (bxN p.1)) [32]).map .str)]) (bxN p.1) (fun i => .str (numZ i)) (fun i => .int i) (by simp [runD, evB, evS, evE, evEs, evXs, asgT_v, asgT_t, asgT_l, asgTs_n, asgTs_c, atD, placeD, hl2]) rfl (by rw [hs, List.map_map]; rfl) rfl (show 4 ≤ 16777216 by decide) fun i hi => ?_).trans (by rfl)
    obtain ⟨i1, i2⟩ := h.b i hi
    refine ⟨[S, .val (.str (numZ p.2)), .val (.str [58, 32]), .val (.str (txN (bxN p.1))), s4, s5, .val (.str (numZ i))], by rfl, by rfl, .val (.int i), ?_, by rfl⟩
    have e1 := s_whole_in i1 i2
    generalize numZ i = Z at *
    simp [runD, evB, evS, evE, evEs, evXs, asgT_v, asgT_t, asgT_l, asgTs_n, asgTs_c, atD, placeD, c_item_in_1, e1]
  have hp := txI_part p
  have hl := txI_len h
  have hl2 : (txI p).length ≤ 16777216 := by omega
  have e1 := s_whole_in h.w.1 h.w.2
  have f1 := inD_non (bxN p.1)
  have f2 := flat_ints (bxN p.1)
  unfold itmD
  rw [bxN_D]
  generalize txN (bxN p.1) = B at *
  generalize txI p = A at *
  generalize numZ p.2 = Z at *
  generalize (bxN p.1).map D.int = Q at *
  refine run_rt (s := [.val (.str A), .val (.str Z), .val (.str [58, 32]), .val (.str B), .val (.int p.2), .own (.lst Q), .emp]) ?_ rfl
  show evB TT none 0 b_item_in.body [.val (.str A), .emp, .emp, .emp, .emp, .emp, .emp] = _
  unfold b_item_in
  simp only
  refine evB_cons (by simp [runD, evB, evS, evE, evEs, evXs, asgT_v, asgT_t, asgT_l, asgTs_n, asgTs_c, atD, placeD, hl2, hp]; rfl) ?_
  refine evB_cons (by simp [runD, evB, evS, evE, evEs, evXs, asgT_v, asgT_t, asgT_l, asgTs_n, asgTs_c, atD, placeD, e1, e]; rfl) ?_
  refine evB_cons (by simp [runD, evB, evS, evE, evEs, evXs, asgT_v, asgT_t, asgT_l, asgTs_n, asgTs_c, atD, placeD, f1, f2]; rfl) ?_
  simp [runD, evB, evS, evE, evEs, evXs, asgT_v, asgT_t, asgT_l, asgTs_n, asgTs_c, atD, placeD]) (by simp)
end PyV
set_option Elab.async false
set_option linter.all false
set_option maxRecDepth 100000
set_option maxHeartbeats 4000000
namespace PyV
open PySem
theorem rl_loop {L : List (Bx × Int)} {X Y : Nat} {A : D} (h : LdOk X Y L) : ∃ t4 t5 t6, forL (asgT none (.tup [.v 4, .v 5])) (evB TT none 0 l_read_load_1) (enumD 0 ((L.map txI).map .str)) [.val (.int (X : Int)), .val (.int (Y : Int)), .val A, .own (.lst []), .emp, .emp, .emp] =
    .ok .nx [.val (.int (X : Int)), .val (.int (Y : Int)), .val A, .own (.lst (L.map itmD)), t4, t5, t6] := by
  have hl := h.h20
  obtain ⟨s', e, q⟩ := forL_inv (st := asgT none (.tup [.v 4, .v 5])) (body := evB TT none 0 l_read_load_1) (fun k st => k ≤ L.length ∧ ∃ t4 t5 t6, st = [.val (.int (X : Int)), .val (.int (Y : Int)), .val A, .own (.lst ((L.take k).map itmD)), t4, t5, t6])
    (xs := enumD 0 ((L.map txI).map .str)) (k := 0) (s := [.val (.int (X : Int)), .val (.int (Y : Int)), .val A, .own (.lst []), .emp, .emp, .emp]) ⟨Nat.zero_le _, _, _, _, rfl⟩ fun j z st hz ⟨_, t4, t5, t6, hst⟩ => by
    obtain ⟨e0, he, rfl⟩ := enumD_get hz
    rw [Nat.zero_add] at *
    rw [List.map_map, List.getElem?_map] at he
    obtain ⟨p, hp, rfl⟩ := Option.map_eq_some_iff.mp he
    subst hst
    have hlt : j < L.length := by
      rcases Nat.lt_or_ge j L.length with q | q
      · exact q
      · rw [List.getElem?_eq_none q] at hp; cases hp
    have hm : p ∈ L := List.mem_of_getElem? hp
    have e1 := s_item_in (ItOk.of h p hm)
    have e2 := s_is_load_item h.hX h.hY (h.bx p hm) (h.wt p hm).1 (h.wt p hm).2
    have ht : (L.take (j + 1)).map itmD = (L.take j).map itmD ++ [itmD p] := by
      rw [List.take_add_one, hp, List.map_append]
      rfl
    have hal : ((L.take j).map itmD).length < 16777216 := by
      rw [List.length_map, List.length_take]
      omega
    rw [ht]
    refine ⟨[.val (.int (X : Int)), .val (.int (Y : Int)), .val A, .own (.lst ((L.take j).map itmD)), .val (.int (j : Int)), .val (.str (txI p)), t6], [.val (.int (X : Int)), .val (.int (Y : Int)), .val A, .own (.lst ((L.take j).map itmD ++ [itmD p])), .val (.int (j : Int)), .val (.str (txI p)), .val (itmD p)], by simp [asgT_v, asgT_t, asgTs_c, asgTs_n], ?_, by omega, _, _, _, rfl⟩
    generalize (L.take j).map itmD = Q at *
    simp [runD, evB, evS, evE, evEs, evXs, asgT_v, asgT_t, asgT_l, asgTs_n, asgTs_c, atD, placeD, l_read_load_1, e1, e2, hal]
  obtain ⟨_, t4, t5, t6, rfl⟩ := q
  refine ⟨t4, t5, t6, ?_⟩
  rw [e, enumD_len, List.length_map, List.length_map, Nat.zero_add, List.take_length]
theorem s_read_load {L : List (Bx × Int)} {X Y : Nat} (h : LdOk X Y L) (h0 : 0 < X + Y) : TT.G 334 [.int (X : Int), .int (Y : Int), .str (txL L)] = .ok (.lst (L.map itmD)) true none := tt_run 0 (show runD TT none 0 b_read_load _ = _ by
  have e1 := s_require_bits (x := (X : Int)) (y := (Y : Int)) ⟨by omega, by have := h.hX; omega, by omega, by have := h.hY; omega, by omega⟩
  obtain ⟨t4, t5, t6, ef⟩ := rl_loop (A := .str (txL L)) h
  have hs := txL_split (L := L) (by intro e; have := h.h1; rw [e] at this; simp at this)
  have hl : (txL L).length + 2 ≤ 16777216 := by
    have := joinL_len (S := [59, 32]) (m := 161) (ps := L.map txI) fun p hp => by
      obtain ⟨i, hi, rfl⟩ := List.mem_map.mp hp
      exact txI_len (ItOk.of h i hi)
    rw [List.length_map] at this
    have h2 := h.h20
    unfold txL
    simp only [List.length_cons, List.length_nil] at this
    omega
  have ln : ¬ (20 < ((L.map itmD).length : Int)) := by
    rw [List.length_map]
    have := h.h20
    omega
  have ln2 : ¬ (20 < (L.map itmD).length) := by omega
  rw [← hs] at ef
  generalize txL L = A at *
  generalize L.map itmD = Z at *
  refine run_rt (s := [.val (.int (X : Int)), .val (.int (Y : Int)), .val (.str A), .emp, t4, t5, t6]) ?_ rfl
  show evB TT none 0 b_read_load.body [.val (.int (X : Int)), .val (.int (Y : Int)), .val (.str A), .emp, .emp, .emp, .emp] = _
  unfold b_read_load
  simp only
  refine evB_cons (by simp [runD, evB, evS, evE, evEs, evXs, asgT_v, asgT_t, asgT_l, asgTs_n, asgTs_c, atD, placeD, e1]; rfl) ?_
  refine evB_cons (by simp [runD, evB, evS, evE, evEs, evXs, asgT_v, asgT_t, asgT_l, asgTs_n, asgTs_c, atD, placeD]; rfl) ?_
  refine evB_cons (by simp [runD, evB, evS, evE, evEs, evXs, asgT_v, asgT_t, asgT_l, asgTs_n, asgTs_c, atD, placeD]; rfl) ?_
  refine evB_cons (s1 := [.val (.int (X : Int)), .val (.int (Y : Int)), .val (.str A), .own (.lst Z), t4, t5, t6]) ?_ ?_
  · rw [evS_for (rs := [.own (.lst ((splL A [59, 32]).map .str))]) (ds := [.lst ((splL A [59, 32]).map .str)]) (xs := enumD 0 ((splL A [59, 32]).map .str)) (s1 := [.val (.int (X : Int)), .val (.int (Y : Int)), .val (.str A), .own (.lst []), .emp, .emp, .emp]) (s2 := [.val (.int (X : Int)), .val (.int (Y : Int)), .val (.str A), .own (.lst []), .emp, .emp, .emp]) (by simp [runD, evB, evS, evE, evEs, evXs, asgT_v, asgT_t, asgT_l, asgTs_n, asgTs_c, atD, placeD, hl]) rfl rfl]
    exact ef
  refine evB_cons (by simp [runD, evB, evS, evE, evEs, evXs, asgT_v, asgT_t, asgT_l, asgTs_n, asgTs_c, atD, placeD, ln]; rfl) ?_
  simp [runD, evB, evS, evE, evEs, evXs, asgT_v, asgT_t, asgT_l, asgTs_n, asgTs_c, atD, placeD]) (by simp)
theorem s_box3 {d : D} {x y : Nat} (hd : Bag d) (hx : x ≤ 100) (hy : y ≤ 100) : ∃ b d', TT.G 342 [d, .int (x : Int), .int (y : Int)] = .ok (boxD b) false (some d') ∧ b.inG x y ∧ Bag d' := by
  have hp := p2 x
  have hp2 : (2 : Int) ^ x ≤ 2 ^ 100 := pow2_le hx
  have gp := p2 y
  have gp2 : (2 : Int) ^ y ≤ 2 ^ 100 := pow2_le hy
  have big : (2 : Int) ^ 100 ≤ 2 ^ 250 := by decide
  have s1 := shlOk_one (a := (x : Int)) (by omega) (by omega)
  have s2 := shlOk_one (a := (y : Int)) (by omega) (by omega)
  obtain ⟨x1, d1, e1, a1, b1, q1⟩ := s_pick (m := 2 ^ x) hd hp (by omega)
  obtain ⟨y1, d2, e2, a2, b2, q2⟩ := s_pick (m := 2 ^ y) q1 gp (by omega)
  obtain ⟨x2, d3, e3, a3, b3, q3⟩ := s_pick (m := 2 ^ x - x1) q2 (by omega) (by omega)
  obtain ⟨y2, d4, e4, a4, b4, q4⟩ := s_pick (m := 2 ^ y - y1) q3 (by omega) (by omega)
  clear big
  refine ⟨⟨x1, y1, x1 + x2, y1 + y2⟩, d4, tt_run 0 (show runD TT (some 0) 0 b_law_box_3 _ = _ from ?_) (by simp), ⟨a1, by show x1 ≤ x1 + x2; omega, by show x1 + x2 < 2 ^ x; omega, a2, by show y1 ≤ y1 + y2; omega, by show y1 + y2 < 2 ^ y; omega⟩, q4⟩
  simp [runD, evB, evS, evE, evEs, evXs, asgT_v, asgT_t, asgT_l, asgTs_n, asgTs_c, atD, placeD, b_law_box_3, s1, s2, e1, e2, e3, e4]
theorem s_law_text {L : List (Bx × Int)} (h : ∀ p ∈ L, ItOk p) (hl : L.length ≤ 1000) : TT.G 343 [.lst (L.map itmD)] = .ok (.str (txL L)) false none := tt_run 0 (show runD TT none 0 b_law_text _ = _ from by
  have e : ∀ S : Ss, S = [.val (.lst (L.map itmD)), .emp, .emp, .emp] → evE TT none (.lc c_law_text_2 (.tup [.v 1, .v 2]) .plain [.var 0] .nop [1, 2]) S = .ok (.own (.lst (L.map fun p => .str (txI p)))) S := by
    rintro S rfl
    refine (ev_lc (s1 := [.val (.lst (L.map itmD)), .emp, .emp, .emp]) (s2 := [.val (.lst (L.map itmD)), .emp, .emp, .emp]) (rs := [.val (.lst (L.map itmD))]) (ds := [.lst (L.map itmD)]) L itmD (fun p => .str (txI p)) (by simp [runD, evB, evS, evE, evEs, evXs, asgT_v, asgT_t, asgT_l, asgTs_n, asgTs_c, atD, placeD]) rfl rfl rfl (by omega) fun p hp => ?_).trans (by rfl)
    have hi := h p hp
    refine ⟨[.val (.lst (L.map itmD)), .val (boxD p.1), .val (.int p.2), .emp], by rfl, by rfl, .val (.str (txI p)), ?_, by rfl⟩
    have e1 : ∀ S : Ss, S = [.val (.lst (L.map itmD)), .val (boxD p.1), .val (.int p.2), .emp] → evE TT none (.lc c_law_text_1 (.v 3) .plain [.var 1] .nop [3]) S = .ok (.own (.lst ((bxN p.1).map fun i => .str (numZ i)))) S := by
      rintro S rfl
      generalize L.map itmD = Z
      refine (ev_lc (s1 := [.val (.lst Z), .val (boxD p.1), .val (.int p.2), .emp]) (s2 := [.val (.lst Z), .val (boxD p.1), .val (.int p.2), .emp]) (rs := [.val (boxD p.1)]) (ds := [boxD p.1]) (bxN p.1) (fun i => .int i) (fun i => .str (numZ i)) (by simp [runD, evB, evS, evE, evEs, evXs, asgT_v, asgT_t, asgT_l, asgTs_n, asgTs_c, atD, placeD]) rfl rfl rfl (show 4 ≤ 16777216 by decide) fun i hm => ?_).trans (by rfl)
      obtain ⟨h1, h2⟩ := hi.b i hm
      refine ⟨[.val (.lst Z), .val (boxD p.1), .val (.int p.2), .val (.int i)], by rfl, by rfl, .val (.str (numZ i)), ?_, by rfl⟩
      simp [runD, evB, evS, evE, evEs, evXs, asgT_v, asgT_t, asgT_l, asgTs_n, asgTs_c, atD, placeD, c_law_text_1, log_small h1 h2, strI_pos h1]
    have a1 : allS ((bxN p.1).map fun i => D.str (numZ i)) = some ((bxN p.1).map numZ) := by
      rw [← allS_map ((bxN p.1).map numZ), List.map_map]
      rfl
    have b5 : (((bxN p.1).map numZ).map List.length).sum + ((bxN p.1).map numZ).length ≤ 16777216 := by
      have := sum_len (m := 31) (ps := (bxN p.1).map numZ) fun q hq => by
        obtain ⟨i, hm, rfl⟩ := List.mem_map.mp hq
        exact numZ_len (hi.b i hm).1 (hi.b i hm).2
      have l4 : ((bxN p.1).map numZ).length = 4 := rfl
      omega
    have e2 := strI_pos hi.w.1
    have b1 := txI_len hi
    simp only [txI, List.length_append, List.length_cons, List.length_nil] at b1
    unfold txI
    have e1 := e1 _ rfl
    unfold txN at b1 ⊢
    generalize ((bxN p.1).map fun i => D.str (numZ i)) = Q at *
    generalize (bxN p.1).map numZ = N at *
    generalize boxD p.1 = B at *
    generalize L.map itmD = Z at *
    generalize hq : numZ p.2 = q at *
    have b2 : q.length + 2 ≤ 16777216 := by omega
    have b3 : q.length + (TL.joinL [32] N).length + 2 ≤ 16777216 := by omega
    have b4 : q.length + 2 + (TL.joinL [32] N).length ≤ 16777216 := by omega
    have b6 : q.length + (2 + (TL.joinL [32] N).length) ≤ 16777216 := by omega
    simp [runD, evB, evS, evE, evEs, evXs, asgT_v, asgT_t, asgT_l, asgTs_n, asgTs_c, atD, placeD, c_law_text_2, log_small hi.w.1 hi.w.2, e2, e1, a1, b2, b3, b4, b5, b6]
  have a1 : allS (L.map fun p => D.str (txI p)) = some (L.map txI) := by
    rw [← allS_map (L.map txI), List.map_map]
    rfl
  have b1 : ((L.map txI).map List.length).sum + (L.map txI).length * 2 ≤ 16777216 := by
    have := sum_len (m := 161) (ps := L.map txI) fun p hp => by
      obtain ⟨i, hi, rfl⟩ := List.mem_map.mp hp
      exact txI_len (h i hi)
    rw [List.length_map] at *
    omega
  have e1 := e _ rfl
  unfold txL
  generalize (L.map fun p => D.str (txI p)) = Y at *
  generalize L.map itmD = Z at *
  generalize L.map txI = N at *
  simp [runD, evB, evS, evE, evEs, evXs, asgT_v, asgT_t, asgT_l, asgTs_n, asgTs_c, atD, placeD, b_law_text, e1, a1, b1]) (by simp)
end PyV
set_option Elab.async false
set_option linter.all false
set_option maxRecDepth 100000
set_option maxHeartbeats 4000000
namespace PyV
open PySem
end PyV
set_option Elab.async false
set_option linter.all false
set_option maxRecDepth 100000
set_option maxHeartbeats 4000000
namespace PyV
open PySem
theorem ld_show {X Y : Nat} {L : List (Bx × Int)} (h : LdOk X Y L) : showOk (.lst (L.map itmD)) = true ∧ szD (.lst (L.map itmD)) ≤ 16777216 ∧ ck 8 (.lst (L.map itmD)) = true := by
  have hl := h.h20
  have hb : ∀ p ∈ L, p.1.sm ∧ 1 ≤ p.2 ∧ p.2 ≤ 10 ^ 30 := fun p hp => ⟨(h.bx p hp).sm h.hX h.hY, h.wt p hp⟩
  have h1 : showOks (L.map itmD) = true ∧ szs (L.map itmD) = 9627 * L.length := by
    clear hl h
    induction L with
    | nil => exact ⟨rfl, rfl⟩
    | cons a l ih =>
      obtain ⟨i1, i2⟩ := ih fun b hb' => hb b (List.mem_cons_of_mem _ hb')
      obtain ⟨⟨g1, g2, g3, g4, g5, g6⟩, f1, f2⟩ := hb a List.mem_cons_self
      have q1 := showOk_b (i := a.1.x1) (by omega) (by omega)
      have q2 := showOk_b (i := a.1.y1) (by omega) (by omega)
      have q3 := showOk_b (i := a.1.x2) (by omega) (by omega)
      have q4 := showOk_b (i := a.1.y2) (by omega) (by omega)
      have q5 := showOk_b (i := a.2) (by omega) (by omega)
      simp only [List.map_cons, showOks, showOk, itmD, boxD, i1, q1, q2, q3, q4, q5, decide_true, Bool.and_self, szs, szD, i2, List.length_cons, true_and]
      omega
  refine ⟨?_, ?_, ?_⟩
  · simp only [showOk]; exact h1.1
  · simp only [szD, h1.2]; omega
  · simp only [ck]
    rw [List.all_eq_true]
    intro d hd
    obtain ⟨a, ha, rfl⟩ := List.mem_map.mp hd
    rfl
end PyV
set_option Elab.async false
set_option linter.all false
set_option maxRecDepth 100000
set_option maxHeartbeats 4000000
namespace PyV
open PySem
theorem k40_turn {n X Y : Nat} {d : D} {s0 s1 s3 s5 s6 s9 s10 : Sl} {acc : List D} (hd : Bag d) (hX : X ≤ 100) (hY : Y ≤ 100) (ha : acc.length < 100) :
    ∃ p d', evB TT none n l_law_37_1 [s0, s1, .own d, s3, .own (.lst acc), s5, s6, .val (.int (X : Int)), .val (.int (Y : Int)), s9, s10] = .ok .nx [s0, s1, .own d', s3, .own (.lst (acc ++ [itmD p])), s5, s6, .val (.int (X : Int)), .val (.int (Y : Int)), s9, s10] ∧ p.1.inG X Y ∧ 1 ≤ p.2 ∧ p.2 ≤ 10 ^ 30 ∧ Bag d' := by
  obtain ⟨b, d1, e1, hb, q1⟩ := s_box3 hd hX hY
  obtain ⟨z, d2, e2, a2, b2, q2⟩ := s_pick (m := 2) q1 (by decide) (by decide)
  have hal : acc.length < 16777216 := by omega
  have pw : powOk 10 30 = true := by decide
  have hz : z = 0 ∨ z = 1 := by omega
  rcases hz with rfl | rfl
  · obtain ⟨v, d3, e3, a3, b3, q3⟩ := s_pick (m := 9) q2 (by decide) (by decide)
    exact ⟨(b, 1 + v), d3, by simp [runD, evB, evS, evE, evEs, evXs, asgT_v, asgT_t, asgT_l, asgTs_n, asgTs_c, atD, placeD, l_law_37_1, e1, e2, e3, at0, at1, hal, pw], hb, by simp only; omega, by simp only; omega, q3⟩
  · obtain ⟨v, d3, e3, a3, b3, q3⟩ := s_pick (m := 1000000000000000000000000000000) q2 (by decide) (by decide)
    exact ⟨(b, 1 + v), d3, by simp [runD, evB, evS, evE, evEs, evXs, asgT_v, asgT_t, asgT_l, asgTs_n, asgTs_c, atD, placeD, l_law_37_1, e1, e2, e3, at0, at1, hal, pw], hb, by simp only; omega, by simp only; omega, q3⟩
theorem k40_loop {X Y N : Nat} {d : D} {s0 s1 s3 s5 s6 s9 s10 : Sl} (hd : Bag d) (hX : X ≤ 100) (hY : Y ≤ 100) (hN : N ≤ 20) :
    ∃ (L : List (Bx × Int)) (d' : D) (t5 : Sl), forL (asgT none (.v 5)) (evB TT none 0 l_law_37_1) ((List.range N).map fun (k : Nat) => D.int (k : Int)) [s0, s1, .own d, s3, .own (.lst []), s5, s6, .val (.int (X : Int)), .val (.int (Y : Int)), s9, s10] = .ok .nx [s0, s1, .own d', s3, .own (.lst (L.map itmD)), t5, s6, .val (.int (X : Int)), .val (.int (Y : Int)), s9, s10] ∧
      L.length = N ∧ (∀ p ∈ L, p.1.inG X Y ∧ 1 ≤ p.2 ∧ p.2 ≤ 10 ^ 30) ∧ Bag d' := by
  obtain ⟨s', e, q⟩ := forL_inv (st := asgT none (.v 5)) (body := evB TT none 0 l_law_37_1) (fun k st => k ≤ N ∧ ∃ (L : List (Bx × Int)) (d' : D) (t5 : Sl), L.length = k ∧ (∀ p ∈ L, p.1.inG X Y ∧ 1 ≤ p.2 ∧ p.2 ≤ 10 ^ 30) ∧ Bag d' ∧ st = [s0, s1, .own d', s3, .own (.lst (L.map itmD)), t5, s6, .val (.int (X : Int)), .val (.int (Y : Int)), s9, s10])
    (xs := (List.range N).map fun (k : Nat) => D.int (k : Int)) (k := 0) (s := [s0, s1, .own d, s3, .own (.lst []), s5, s6, .val (.int (X : Int)), .val (.int (Y : Int)), s9, s10]) ⟨by omega, [], d, _, rfl, by simp, hd, rfl⟩ fun j z st hz ⟨_, L, d', t5, hl, hp, qd, hst⟩ => by
    obtain ⟨hj, rfl⟩ := range_at hz
    rw [Nat.zero_add] at *
    subst hst
    obtain ⟨p, d2, e2, p1, p2, p3, q2⟩ := k40_turn (n := 0) (s0 := s0) (s1 := s1) (s3 := s3) (s5 := .val (.int (j : Int))) (s6 := s6) (s9 := s9) (s10 := s10) (acc := L.map itmD) qd hX hY (by rw [List.length_map]; omega)
    refine ⟨[s0, s1, .own d', s3, .own (.lst (L.map itmD)), .val (.int (j : Int)), s6, .val (.int (X : Int)), .val (.int (Y : Int)), s9, s10], _, by simp [asgT_v], e2, by omega, L ++ [p], d2, .val (.int (j : Int)), by simp [hl], fun r hr => ?_, q2, by rw [List.map_append]; rfl⟩
    rcases List.mem_append.mp hr with h | h
    · exact hp r h
    · rw [List.mem_singleton.mp h]
      exact ⟨p1, p2, p3⟩
  obtain ⟨_, L, d', t5, hl, hp, qd, rfl⟩ := q
  rw [List.length_map, List.length_range, Nat.zero_add] at hl
  exact ⟨L, d', t5, e, hl, hp, qd⟩
theorem k40_most {d : D} {N : D} {z m : Int} {t4 t5 t6 t7 t8 t9 t10 : Sl} (hd : Bag d) (hm : m = 3 ∨ m = 100) : ∃ d' u4 u5 u6 u7 u8 u9 u10, evB TT none 0 l_law_37_2 [.val N, .val (.int z), .own d, .val (.int m), t4, t5, t6, t7, t8, t9, t10] = .ok .nx [.val N, .val (.int z), .own d', .val (.int m), u4, u5, u6, u7, u8, u9, u10] ∧ Bag d' := by
  obtain ⟨v1, d1, e1, a1, b1, q1⟩ := s_pick (m := m + 1) hd (by omega) (by omega)
  obtain ⟨v2, d2, e2, a2, b2, q2⟩ := s_pick (m := m) q1 (by omega) (by omega)
  obtain ⟨X, rfl⟩ : ∃ X : Nat, v1 = X := ⟨v1.toNat, by omega⟩
  obtain ⟨Y, hY⟩ : ∃ Y : Nat, 1 + v2 = Y := ⟨(1 + v2).toNat, by omega⟩
  have hX : X ≤ 100 := by omega
  have hY1 : Y ≤ 100 := by omega
  have hY0 : 0 < X + Y := by omega
  obtain ⟨z1, d3, e3, a3, b3, q3⟩ := s_pick (m := 2) q2 (by decide) (by decide)
  obtain ⟨M, hM, hM1, hM2⟩ : ∃ M : Int, atD [D.int 3, D.int 20] z1 = some (.int M) ∧ 0 < M ∧ M ≤ 20 := by
    have : z1 = 0 ∨ z1 = 1 := by omega
    rcases this with rfl | rfl
    · exact ⟨3, rfl, by decide, by decide⟩
    · exact ⟨20, rfl, by decide, by decide⟩
  obtain ⟨v4, d4, e4, a4, b4, q4⟩ := s_pick (m := M) q3 hM1 (by omega)
  obtain ⟨K, hK⟩ : ∃ K : Nat, 1 + v4 = ((K + 1 : Nat) : Int) := ⟨v4.toNat, by omega⟩
  obtain ⟨L, d5, u5, ef, hl, hp, q5⟩ := k40_loop (s0 := .val N) (s1 := .val (.int z)) (s3 := .val (.int m)) (s5 := t5) (s6 := t6) (s9 := t9) (s10 := t10) (N := K + 1) q4 hX hY1 (by omega)
  have ok : LdOk X Y L := ⟨hX, hY1, by omega, by omega, fun p h => (hp p h).1, fun p h => (hp p h).2⟩
  have f1 := s_show_load ok hY0
  have f2 := s_read_load ok hY0
  have f3 := s_law_text (ItOk.of ok) (by omega)
  obtain ⟨_, _, ck⟩ := ld_show ok
  have hi := items_rng (n := K) (by omega)
  rw [show ((K : Nat) : Int) + 1 = 1 + v4 by omega] at hi
  have hal : (L.map itmD).length < 16777216 := by
    rw [List.length_map]
    omega
  have eqq : eqD (.lst (L.map itmD)) (.lst (L.map itmD)) = true := eqD_self ck
  generalize L.map itmD = Z at *
  refine ⟨d5, .val (.lst Z), u5, .own (.lst (Z ++ [.non])), .val (.int (X : Int)), .val (.int (Y : Int)), .own (.lst Z), .val (.str (txL L)), ?_, q5⟩
  unfold l_law_37_2
  refine evB_cons (s1 := [.val N, .val (.int z), .own d2, .val (.int m), t4, t5, t6, .val (.int (X : Int)), .val (.int (Y : Int)), t9, t10]) (by rw [← hY]; simp [runD, evB, evS, evE, evEs, evXs, asgT_v, asgT_t, asgT_l, asgTs_n, asgTs_c, atD, placeD, e1, e2]) ?_
  refine evB_cons (s1 := [.val N, .val (.int z), .own d2, .val (.int m), .own (.lst []), t5, t6, .val (.int (X : Int)), .val (.int (Y : Int)), t9, t10]) (by simp [runD, evB, evS, evE, evEs, evXs, asgT_v, asgT_t, asgT_l, asgTs_n, asgTs_c, atD, placeD]) ?_
  refine evB_cons ((evS_for (rs := [.val (.int (1 + v4))]) (ds := [.int (1 + v4)]) (s1 := [.val N, .val (.int z), .own d4, .val (.int m), .own (.lst []), t5, t6, .val (.int (X : Int)), .val (.int (Y : Int)), t9, t10]) (s2 := [.val N, .val (.int z), .own d4, .val (.int m), .own (.lst []), t5, t6, .val (.int (X : Int)), .val (.int (Y : Int)), t9, t10]) (by simp [runD, evB, evS, evE, evEs, evXs, asgT_v, asgT_t, asgT_l, asgTs_n, asgTs_c, e3, hM, e4]) rfl hi).trans ef) ?_
  refine evB_cons (by simp [runD, evB, evS, evE, evEs, evXs, asgT_v, asgT_t, asgT_l, asgTs_n, asgTs_c, atD, placeD, f3]; rfl) ?_
  refine evB_cons (by simp [runD, evB, evS, evE, evEs, evXs, asgT_v, asgT_t, asgT_l, asgTs_n, asgTs_c, atD, placeD, f1, ck, eqq]; rfl) ?_
  refine evB_cons (by simp [runD, evB, evS, evE, evEs, evXs, asgT_v, asgT_t, asgT_l, asgTs_n, asgTs_c, atD, placeD, f2]; rfl) ?_
  refine evB_cons (by simp [runD, evB, evS, evE, evEs, evXs, asgT_v, asgT_t, asgT_l, asgTs_n, asgTs_c, atD, placeD, f1, ck, eqq]; rfl) ?_
  refine evB_cons (by simp [runD, evB, evS, evE, evEs, evXs, asgT_v, asgT_t, asgT_l, asgTs_n, asgTs_c, atD, placeD, hal]; rfl) ?_
  refine evB_cons (by simp [runD, evB, evS, evE, evEs, evXs, asgT_v, asgT_t, asgT_l, asgTs_n, asgTs_c, atD, placeD, f2, ck, eqq]; rfl) ?_
  simp [runD, evB, evS, evE, evEs, evXs, asgT_v, asgT_t, asgT_l, asgTs_n, asgTs_c, atD, placeD]
def k40a : List (Bx × Int) := [(⟨0, 0, 1, 0⟩, 1000000000000000000000000000000)]
def k40b : List (Bx × Int) := [(⟨0, 0, 2, 2⟩, 1), (⟨1, 0, 2, 3⟩, 2)]
theorem k40a_ok : LdOk 1 0 k40a := ⟨by decide, by decide, by decide, by decide, by simp [k40a, Bx.inG], by simp [k40a]⟩
theorem k40b_ok : LdOk 2 2 k40b := ⟨by decide, by decide, by decide, by decide, by simp [k40b, Bx.inG], by simp [k40b]⟩
theorem law_true : ∀ ns : List Int, ns.length ≤ 63 → TT.G 344 [.lst (ns.map .int)] = .ok (.bl true) false none := fun ns hns => by
  obtain ⟨s', ef, t1, t2, t3, t4, t5, t6, t7, t8, t9, t10, rfl⟩ := script_loop (T := TT) (n := 0) (C := 8) (Ci := 8) (body := l_law_37_3) (fun s => ∃ t1 t2 t3 t4 t5 t6 t7 t8 t9 t10, s = [.val (.lst (ns.map .int)), t1, t2, t3, t4, t5, t6, t7, t8, t9, t10]) [.emp, .emp, .emp, .emp, .emp, .emp, .emp, .emp, .emp, .emp] hns rfl ⟨_, _, _, _, _, _, _, _, _, _, rfl⟩ fun z s ⟨t1, t2, t3, t4, t5, t6, t7, t8, t9, t10, hs⟩ => by
    subst hs
    obtain ⟨d, e1, q⟩ := s_bag z
    generalize D.lst (ns.map D.int) = N
    obtain ⟨d2, u4, u5, u6, u7, u8, u9, u10, e2, q2⟩ := k40_most (N := N) (z := z) (t4 := t4) (t5 := t5) (t6 := t6) (t7 := t7) (t8 := t8) (t9 := t9) (t10 := t10) q (.inl rfl)
    obtain ⟨d3, v4, v5, v6, v7, v8, v9, v10, e3, q3⟩ := k40_most (N := N) (z := z) (t4 := u4) (t5 := u5) (t6 := u6) (t7 := u7) (t8 := u8) (t9 := u9) (t10 := u10) q2 (.inr rfl)
    refine ⟨[.val N, .val (.int z), t2, t3, t4, t5, t6, t7, t8, t9, t10], [.val N, .val (.int z), .own d3, .val (.int 100), v4, v5, v6, v7, v8, v9, v10], by simp [asgT_v], ?_, _, _, _, _, _, _, _, _, _, _, rfl⟩
    unfold l_law_37_3
    refine evB_cons (s1 := [.val N, .val (.int z), .own d, t3, t4, t5, t6, t7, t8, t9, t10]) (by simp [runD, evB, evS, evE, evEs, evXs, asgT_v, asgT_t, asgT_l, asgTs_n, asgTs_c, atD, placeD, e1]) ?_
    simp [runD, evB, evS, evE, evEs, evXs, asgT_v, asgT_t, asgT_l, asgTs_n, asgTs_c, atD, placeD, forL, e2, e3]
  have f1 := s_show_load k40a_ok (by decide)
  have f2 := s_read_load k40a_ok (by decide)
  have f3 := s_read_load k40b_ok (by decide)
  have x1 : txL k40a = strI 1000000000000000000000000000000 ++ [58, 32, 48, 32, 48, 32, 49, 32, 48] := by
    rw [strI_pos (by decide)]
    show numZ 1000000000000000000000000000000 ++ [58, 32] ++ [48, 32, 48, 32, 49, 32, 48] = _
    rw [List.append_assoc]
    rfl
  have x2 : txL k40b = [49, 58, 32, 48, 32, 48, 32, 50, 32, 50, 59, 32, 50, 58, 32, 49, 32, 48, 32, 50, 32, 51] := by decide +kernel
  have l1 : (strI 1000000000000000000000000000000).length + 9 ≤ 16777216 := by
    rw [strI_pos (by decide)]
    have := numZ_len (i := 1000000000000000000000000000000) (by decide) (by decide)
    omega
  have l2 : Nat.log2 1000000000000000000000000000000 < 1920 := by decide +kernel
  have pw : powOk 10 30 = true := by decide
  rw [x1] at f1 f2
  rw [x2] at f3
  simp only [k40a, k40b, List.map_cons, List.map_nil, itmD, boxD, show ((2 : Nat) : Int) = 2 from rfl, show ((1 : Nat) : Int) = 1 from rfl, show ((0 : Nat) : Int) = 0 from rfl] at f1 f2 f3
  generalize hG : strI 1000000000000000000000000000000 = G at *
  generalize ns.map D.int = N at *
  refine tt_run 0 (show runD TT none 0 b_law_37 _ = _ from run_rt (s := [.val (.lst N), t1, t2, t3, t4, t5, t6, t7, t8, t9, t10]) ?_ rfl) (by simp)
  show evB TT none 0 b_law_37.body [.val (.lst N), .emp, .emp, .emp, .emp, .emp, .emp, .emp, .emp, .emp, .emp] = _
  unfold b_law_37
  simp only
  refine evB_cons ef ?_
  refine evB_cons (by simp [runD, evB, evS, evE, evEs, evXs, asgT_v, asgT_t, asgT_l, asgTs_n, asgTs_c, atD, placeD, f1, pw, l1, l2, hG]; rfl) ?_
  refine evB_cons (by simp [runD, evB, evS, evE, evEs, evXs, asgT_v, asgT_t, asgT_l, asgTs_n, asgTs_c, atD, placeD, f2, pw, l1, l2, hG]; rfl) ?_
  simp [runD, evB, evS, evE, evEs, evXs, asgT_v, asgT_t, asgT_l, asgTs_n, asgTs_c, atD, placeD, f3]
end PyV
set_option Elab.async false
set_option linter.all false
set_option maxRecDepth 100000
set_option maxHeartbeats 2000000
namespace PyV
open PySem PySem.Spec PyProof.Rows L2
theorem obX_ck {fn : List DX} {ck : PySem.W.Frag → Bool} {K : PySem.W.Frag} (e : obX fn ck K = vaX fn) : ck K = true := by
  have h := congrArg Prod.fst e
  exact (Bool.and_eq_true_iff.mp h).1
theorem obX_at {fn : List DX} {ck : PySem.W.Frag → Bool} {K : PySem.W.Frag} (e : obX fn ck K = vaX fn) (i : Nat) {d : DX} (hd : fn[i]? = some d) :
    ∃ oc od kV dc pm an cd ct sl, K.lookup (d.ad K) = some ⟨oc, od, .func (PySem.W.fnOf d.name d.qual d.params d.body d.scope .none kV dc pm an cd ct), sl⟩ ∧ PySem.W.codeIn K cd d.qual = true ∧ PySem.W.keepIn K (.ref (d.ad K)) = true := by
  have hm : d ∈ fn := List.mem_of_getElem? hd
  have h1 := (Bool.and_eq_true_iff.mp (congrArg Prod.fst e)).2
  have h2 := congrArg Prod.snd e
  have h3 : okX K (d.ad K) d.qual = true := List.all_eq_true.mp h1 d hm
  have h4 : fnX K (d.ad K) = d.val := by
    have h5 : (fn.map fun d => fnX K (d.ad K))[i]? = (fn.map DX.val)[i]? := by
      have : (fn.map fun d => fnX K (d.ad K)) = fn.map DX.val := h2
      rw [this]
    rw [List.getElem?_map, List.getElem?_map, hd] at h5
    exact Option.some.inj h5
  unfold okX at h3
  obtain ⟨kp, h3⟩ := Bool.and_eq_true_iff.mp h3
  unfold fnX DX.val at h4
  cases hl : K.lookup (d.ad K) with
  | none => rw [hl] at h3; cases h3
  | some o =>
    rw [hl] at h3 h4
    obtain ⟨oc, od, dt, sl⟩ := o
    cases dt with
    | func fd =>
      obtain ⟨hc, hn⟩ := Bool.and_eq_true_iff.mp h3
      obtain ⟨f1, f2, f3, f4, f5, f6, f7, f8, f9, f10, f11, f12, f13, f14, f15⟩ := fd
      simp only [Option.some.injEq, Prod.mk.injEq] at h4
      obtain ⟨rfl, rfl, rfl, rfl, rfl, rfl, rfl, rfl⟩ := h4
      have h8 : f8 = .none := by
        unfold noDf at hn
        split at hn
        · assumption
        · cases hn
      subst h8
      exact ⟨oc, od, f9, f10, f11, f12, f13, f14, sl, rfl, hc, kp⟩
    | _ => cases h3
theorem isIV_rel {i : Int} {u : Value} (h : isIV i u = true) : RelV (.int i) u := by
  unfold isIV at h
  split at h
  · rename_i j t
    have := of_decide_eq_true h
    subst this
    exact ⟨_, rfl⟩
  · cases h
theorem walk_lawE {l : PySem.W.OpenLaw} {n k : Nat} {q : Program} {loose : List Str} {XP : (Str → Option Value) → Heap → Prop} {YP : World → Heap → Prop} {d : DefRec} {x : Str} {T : Tab} {f : Nat}
    (hn : l.most = some n) (hn2 : n ≤ sizeLine) (hdf : d.params.defaults = []) (hr : Room k callerA)
    (F : ∀ (w : World) (mg : Str → Option Value) (fa : Addr) (h : Heap), YP w h → h.Ns mainGlobals mg → mg d.name = some (.ref fa) →
      ∃ (fd : FuncData) (κ : Kx), κ.K.In h ∧ (∀ (s : Shared) (u : Value), BindsTo s fd ⟨[u], []⟩ [(x, u)]) ∧
        ∀ base : Heap, κ.K.In base → base.Ns mainGlobals mg → Fg l.prog w κ.K mg base k fa fd [x] (spD κ T f))
    (hio : T.io f = none) (law : ∀ ns : List Int, ns.length ≤ n → T.G f [.lst (ns.map .int)] = .ok (.bl true) false none) :
    PySem.W.WalkO q loose XP YP l.row.toRowW d [] (fun f vs => PySem.call f vs) := by
  refine Att.attach_call hn hdf fun w s₀ s₁ mg mb fa o pm cd doc a vs ns G Y ho hd hcd hmg hobj hints hlen hg => ?_
  obtain ⟨fd, κ, eK, hb, hF⟩ := F w mg fa _ Y G.T.g hmg
  exact top_call (κ := κ) eK G.T.g G.T.b G.T.builtins G.T.nolimit hg hobj hints (Nat.le_trans hlen hn2) hr hF hb hio (law ns hlen)
end PyV
set_option Elab.async false
set_option linter.all false
set_option maxRecDepth 100000
set_option maxHeartbeats 4000000
namespace PyV
open PySem
def nmG : Nat → Str
  | 2 => Str.ofString "MOST_BITS"
  | 4 => Str.ofString "MOST_DIGITS"
  | 6 => Str.ofString "MOST_WEIGHT"
  | 8 => Str.ofString "MOST_ITEMS_boxes"
  | 9 => Str.ofString "MOST_ITEMS_texts"
  | _ => Str.ofString ""
def nmC : Nat → Str
  | 4 => Str.ofString "LaceError"
  | 12 => Str.ofString "InvalidBits"
  | _ => Str.ofString ""
def nmL : Nat → Nat
  | 1 => 1
  | 2 => 2
  | 44 => 2
  | 226 => 3
  | 31 => 1
  | 33 => 1
  | 24 => 3
  | 328 => 4
  | 329 => 1
  | 330 => 2
  | 331 => 5
  | 332 => 1
  | 333 => 2
  | 334 => 4
  | 132 => 1
  | 133 => 1
  | 335 => 2
  | 336 => 1
  | 337 => 2
  | 546 => 3
  | 26760 => 1
  | 26761 => 2
  | 26762 => 3
  | 26763 => 4
  | 26764 => 5
  | 26765 => 6
  | 26766 => 7
  | 26767 => 8
  | 26768 => 9
  | 338 => 10
  | 339 => 4
  | 340 => 10
  | 341 => 11
  | 342 => 2
  | 343 => 1
  | 344 => 6
  | _ => 1000
def nmK : Nat → Nat
  | 1 => 0
  | 2 => 0
  | 44 => 0
  | 226 => 0
  | 31 => 2
  | 33 => 2
  | 24 => 0
  | 328 => 0
  | 329 => 0
  | 330 => 0
  | 331 => 0
  | 332 => 0
  | 333 => 0
  | 334 => 0
  | 132 => 0
  | 133 => 0
  | 335 => 0
  | 336 => 0
  | 337 => 0
  | 546 => 0
  | 26760 => 0
  | 26761 => 0
  | 26762 => 0
  | 26763 => 0
  | 26764 => 0
  | 26765 => 0
  | 26766 => 0
  | 26767 => 0
  | 26768 => 0
  | 338 => 0
  | 339 => 0
  | 340 => 0
  | 341 => 0
  | 342 => 0
  | 343 => 0
  | 344 => 0
  | _ => 9
def nmFld (s : Str) : Bool := decide (s = Str.ofString "item") || decide (s = Str.ofString "part")
def nmGk (i : Nat) : Bool := (i == 2) || (i == 4) || (i == 6) || (i == 8) || (i == 9)
def nmT : Ty → Bool
  | .tint => true
  | .tbool => true
  | .tstr => true
  | .ttuple => true
  | .tlist => true
  | .cls c => (c == 4)
  | _ => false
def nmX (c : Nat) : Bool := (c == 12)
def nmA : Nm := ⟨nmF, nmG, nmC, nmL, nmK, nmFld, nmGk, nmT, nmX⟩
theorem look_is_int : defB TT nmA 1 0 b_is_int [] [Str.ofString "value"] [Str.ofString "value"] st_is_int = true := by decide +kernel
theorem look_is_whole : defB TT nmA 2 1 b_is_whole [1] [Str.ofString "value", Str.ofString "low", Str.ofString "high"] [Str.ofString "value", Str.ofString "low", Str.ofString "high"] st_is_whole = true := by decide +kernel
theorem look_is_box : defB TT nmA 44 1 b_is_box [1] [Str.ofString "value", Str.ofString "x_bits", Str.ofString "y_bits", Str.ofString "x1", Str.ofString "y1", Str.ofString "x2", Str.ofString "y2", Str.ofString "number"] [Str.ofString "value", Str.ofString "x_bits", Str.ofString "y_bits"] st_is_box = true := by decide +kernel
theorem look_is_load_item : defB TT nmA 226 2 b_is_load_item [2, 44] [Str.ofString "value", Str.ofString "x_bits", Str.ofString "y_bits"] [Str.ofString "value", Str.ofString "x_bits", Str.ofString "y_bits"] st_is_load_item = true := by decide +kernel
theorem look_require_bits : defB TT nmA 24 2 b_require_bits [2] [Str.ofString "x_bits", Str.ofString "y_bits"] [Str.ofString "x_bits", Str.ofString "y_bits"] st_require_bits = true := by decide +kernel
theorem look_require_load_2 : defB TT nmA 328 3 b_require_load_2 [226] [Str.ofString "x_bits", Str.ofString "y_bits", Str.ofString "value", Str.ofString "spot", Str.ofString "item"] [Str.ofString "x_bits", Str.ofString "y_bits", Str.ofString "value"] st_require_load_2 = true := by decide +kernel
theorem look_numbers_text : defB TT nmA 329 0 b_numbers_text [] [Str.ofString "numbers", Str.ofString "number"] [Str.ofString "numbers"] st_numbers_text = true := by decide +kernel
theorem look_load_text : defB TT nmA 330 1 b_load_text [329] [Str.ofString "load", Str.ofString "box", Str.ofString "weight"] [Str.ofString "load"] st_load_text = true := by decide +kernel
theorem look_show_load : defB TT nmA 331 4 b_show_load [24, 328, 330] [Str.ofString "x_bits", Str.ofString "y_bits", Str.ofString "load"] [Str.ofString "x_bits", Str.ofString "y_bits", Str.ofString "load"] st_show_load = true := by decide +kernel
theorem look_whole_in : defB TT nmA 332 0 b_whole_in [] [Str.ofString "word", Str.ofString "sign"] [Str.ofString "word"] st_whole_in = true := by decide +kernel
theorem look_item_in : defB TT nmA 333 1 b_item_in [332] [Str.ofString "part", Str.ofString "head", Str.ofString "colon", Str.ofString "rest", Str.ofString "weight", Str.ofString "numbers", Str.ofString "word"] [Str.ofString "part"] st_item_in = true := by decide +kernel
theorem look_read_load : defB TT nmA 334 3 b_read_load [24, 226, 333] [Str.ofString "x_bits", Str.ofString "y_bits", Str.ofString "text", Str.ofString "items", Str.ofString "index", Str.ofString "part", Str.ofString "item"] [Str.ofString "x_bits", Str.ofString "y_bits", Str.ofString "text"] st_read_load = true := by decide +kernel
theorem look_law_bag : defB TT nmA 132 0 b_law_bag [] [Str.ofString "cell"] [Str.ofString "cell"] st_law_bag = true := by decide +kernel
theorem look_law_pick : defB TT nmA 133 0 b_law_pick [] [Str.ofString "bag", Str.ofString "many", Str.ofString "first", Str.ofString "second", Str.ofString "drawn", Str.ofString "told", Str.ofString "seed", Str.ofString "turn"] [Str.ofString "bag", Str.ofString "many"] st_law_pick = true := by decide +kernel
theorem look_law_box_3 : defB TT nmA 342 1 b_law_box_3 [133] [Str.ofString "bag", Str.ofString "x_bits", Str.ofString "y_bits", Str.ofString "x1", Str.ofString "y1"] [Str.ofString "bag", Str.ofString "x_bits", Str.ofString "y_bits"] st_law_box_3 = true := by decide +kernel
theorem look_law_text : defB TT nmA 343 0 b_law_text [] [Str.ofString "load", Str.ofString "box", Str.ofString "weight", Str.ofString "number"] [Str.ofString "load"] st_law_text = true := by decide +kernel
theorem look_law_37 : defB TT nmA 344 5 b_law_37 [132, 133, 331, 334, 342, 343] [Str.ofString "script", Str.ofString "cell", Str.ofString "bag", Str.ofString "most", Str.ofString "load", Str.ofString "turn", Str.ofString "told", Str.ofString "x_bits", Str.ofString "y_bits", Str.ofString "kept", Str.ofString "text"] [Str.ofString "script"] st_law_37 = true := by decide +kernel
open PySem PySem.Spec PyProof.Rows L2 in
theorem all_mk {w : World} {K : PySem.W.Frag} {h : Heap} {mg : Str → Option Value} {fa : Addr} (X : K.In h) (G : h.Ns mainGlobals mg) (hfa : mg (Str.ofString "law") = some (.ref fa))
    {C_LaceError C_InvalidBits f_is_int f_is_whole f_is_box f_is_load_item f_require_bits f_require_load_2 f_numbers_text f_load_text f_show_load f_whole_in f_item_in f_read_load f_law_bag f_law_pick f_law_box_3 f_law_text f_law_37 : Addr} {od_is_int an_is_int od_is_whole an_is_whole od_is_box an_is_box od_is_load_item an_is_load_item od_require_bits an_require_bits od_require_load_2 an_require_load_2 od_numbers_text an_numbers_text od_load_text an_load_text od_show_load an_show_load od_whole_in an_whole_in od_item_in an_item_in od_read_load an_read_load od_law_bag an_law_bag od_law_pick an_law_pick od_law_box_3 an_law_box_3 od_law_text an_law_text od_law_37 an_law_37 : Option Addr} {oc_is_int kV_is_int dc_is_int pm_is_int cd_is_int ct_is_int oc_is_whole kV_is_whole dc_is_whole pm_is_whole cd_is_whole ct_is_whole oc_is_box kV_is_box dc_is_box pm_is_box cd_is_box ct_is_box oc_is_load_item kV_is_load_item dc_is_load_item pm_is_load_item cd_is_load_item ct_is_load_item oc_require_bits kV_require_bits dc_require_bits pm_require_bits cd_require_bits ct_require_bits oc_require_load_2 kV_require_load_2 dc_require_load_2 pm_require_load_2 cd_require_load_2 ct_require_load_2 oc_numbers_text kV_numbers_text dc_numbers_text pm_numbers_text cd_numbers_text ct_numbers_text oc_load_text kV_load_text dc_load_text pm_load_text cd_load_text ct_load_text oc_show_load kV_show_load dc_show_load pm_show_load cd_show_load ct_show_load oc_whole_in kV_whole_in dc_whole_in pm_whole_in cd_whole_in ct_whole_in oc_item_in kV_item_in dc_item_in pm_item_in cd_item_in ct_item_in oc_read_load kV_read_load dc_read_load pm_read_load cd_read_load ct_read_load oc_law_bag kV_law_bag dc_law_bag pm_law_bag cd_law_bag ct_law_bag oc_law_pick kV_law_pick dc_law_pick pm_law_pick cd_law_pick ct_law_pick oc_law_box_3 kV_law_box_3 dc_law_box_3 pm_law_box_3 cd_law_box_3 ct_law_box_3 oc_law_text kV_law_text dc_law_text pm_law_text cd_law_text ct_law_text oc_law_37 kV_law_37 dc_law_37 pm_law_37 cd_law_37 ct_law_37 u_2 u_4 u_6 u_8 u_9 : Value} {sl_is_int sl_is_whole sl_is_box sl_is_load_item sl_require_bits sl_require_load_2 sl_numbers_text sl_load_text sl_show_load sl_whole_in sl_item_in sl_read_load sl_law_bag sl_law_pick sl_law_box_3 sl_law_text sl_law_37 : Array (Option Value)}
    (a_LaceError : PySem.W.nsIn K mainGlobals (Str.ofString "LaceError") = some (some (.ref C_LaceError)))
    (a_InvalidBits : PySem.W.nsIn K mainGlobals (Str.ofString "InvalidBits") = some (some (.ref C_InvalidBits)))
    (a_is_int : PySem.W.nsIn K mainGlobals (Str.ofString "is_int") = some (some (.ref f_is_int)))
    (l_is_int : K.lookup f_is_int = some ⟨oc_is_int, od_is_int, .func (PySem.W.fnOf (Str.ofString "is_int") (Str.ofString "is_int") (defArgs st_is_int) (defBody st_is_int) (defScope st_is_int) .none kV_is_int dc_is_int pm_is_int an_is_int cd_is_int ct_is_int), sl_is_int⟩)
    (c_is_int : PySem.W.codeIn K cd_is_int (Str.ofString "is_int") = true)
    (k_is_int : PySem.W.keepIn K (.ref f_is_int) = true)
    (a_is_whole : PySem.W.nsIn K mainGlobals (Str.ofString "is_whole") = some (some (.ref f_is_whole)))
    (l_is_whole : K.lookup f_is_whole = some ⟨oc_is_whole, od_is_whole, .func (PySem.W.fnOf (Str.ofString "is_whole") (Str.ofString "is_whole") (defArgs st_is_whole) (defBody st_is_whole) (defScope st_is_whole) .none kV_is_whole dc_is_whole pm_is_whole an_is_whole cd_is_whole ct_is_whole), sl_is_whole⟩)
    (c_is_whole : PySem.W.codeIn K cd_is_whole (Str.ofString "is_whole") = true)
    (k_is_whole : PySem.W.keepIn K (.ref f_is_whole) = true)
    (a_is_box : PySem.W.nsIn K mainGlobals (Str.ofString "is_box") = some (some (.ref f_is_box)))
    (l_is_box : K.lookup f_is_box = some ⟨oc_is_box, od_is_box, .func (PySem.W.fnOf (Str.ofString "is_box") (Str.ofString "is_box") (defArgs st_is_box) (defBody st_is_box) (defScope st_is_box) .none kV_is_box dc_is_box pm_is_box an_is_box cd_is_box ct_is_box), sl_is_box⟩)
    (c_is_box : PySem.W.codeIn K cd_is_box (Str.ofString "is_box") = true)
    (k_is_box : PySem.W.keepIn K (.ref f_is_box) = true)
    (a_is_load_item : PySem.W.nsIn K mainGlobals (Str.ofString "is_load_item") = some (some (.ref f_is_load_item)))
    (l_is_load_item : K.lookup f_is_load_item = some ⟨oc_is_load_item, od_is_load_item, .func (PySem.W.fnOf (Str.ofString "is_load_item") (Str.ofString "is_load_item") (defArgs st_is_load_item) (defBody st_is_load_item) (defScope st_is_load_item) .none kV_is_load_item dc_is_load_item pm_is_load_item an_is_load_item cd_is_load_item ct_is_load_item), sl_is_load_item⟩)
    (c_is_load_item : PySem.W.codeIn K cd_is_load_item (Str.ofString "is_load_item") = true)
    (k_is_load_item : PySem.W.keepIn K (.ref f_is_load_item) = true)
    (a_require_bits : PySem.W.nsIn K mainGlobals (Str.ofString "require_bits") = some (some (.ref f_require_bits)))
    (l_require_bits : K.lookup f_require_bits = some ⟨oc_require_bits, od_require_bits, .func (PySem.W.fnOf (Str.ofString "require_bits") (Str.ofString "require_bits") (defArgs st_require_bits) (defBody st_require_bits) (defScope st_require_bits) .none kV_require_bits dc_require_bits pm_require_bits an_require_bits cd_require_bits ct_require_bits), sl_require_bits⟩)
    (c_require_bits : PySem.W.codeIn K cd_require_bits (Str.ofString "require_bits") = true)
    (k_require_bits : PySem.W.keepIn K (.ref f_require_bits) = true)
    (a_require_load_2 : PySem.W.nsIn K mainGlobals (Str.ofString "require_load") = some (some (.ref f_require_load_2)))
    (l_require_load_2 : K.lookup f_require_load_2 = some ⟨oc_require_load_2, od_require_load_2, .func (PySem.W.fnOf (Str.ofString "require_load") (Str.ofString "require_load") (defArgs st_require_load_2) (defBody st_require_load_2) (defScope st_require_load_2) .none kV_require_load_2 dc_require_load_2 pm_require_load_2 an_require_load_2 cd_require_load_2 ct_require_load_2), sl_require_load_2⟩)
    (c_require_load_2 : PySem.W.codeIn K cd_require_load_2 (Str.ofString "require_load") = true)
    (k_require_load_2 : PySem.W.keepIn K (.ref f_require_load_2) = true)
    (a_numbers_text : PySem.W.nsIn K mainGlobals (Str.ofString "numbers_text") = some (some (.ref f_numbers_text)))
    (l_numbers_text : K.lookup f_numbers_text = some ⟨oc_numbers_text, od_numbers_text, .func (PySem.W.fnOf (Str.ofString "numbers_text") (Str.ofString "numbers_text") (defArgs st_numbers_text) (defBody st_numbers_text) (defScope st_numbers_text) .none kV_numbers_text dc_numbers_text pm_numbers_text an_numbers_text cd_numbers_text ct_numbers_text), sl_numbers_text⟩)
    (c_numbers_text : PySem.W.codeIn K cd_numbers_text (Str.ofString "numbers_text") = true)
    (k_numbers_text : PySem.W.keepIn K (.ref f_numbers_text) = true)
    (a_load_text : PySem.W.nsIn K mainGlobals (Str.ofString "load_text") = some (some (.ref f_load_text)))
    (l_load_text : K.lookup f_load_text = some ⟨oc_load_text, od_load_text, .func (PySem.W.fnOf (Str.ofString "load_text") (Str.ofString "load_text") (defArgs st_load_text) (defBody st_load_text) (defScope st_load_text) .none kV_load_text dc_load_text pm_load_text an_load_text cd_load_text ct_load_text), sl_load_text⟩)
    (c_load_text : PySem.W.codeIn K cd_load_text (Str.ofString "load_text") = true)
    (k_load_text : PySem.W.keepIn K (.ref f_load_text) = true)
    (a_show_load : PySem.W.nsIn K mainGlobals (Str.ofString "show_load") = some (some (.ref f_show_load)))
    (l_show_load : K.lookup f_show_load = some ⟨oc_show_load, od_show_load, .func (PySem.W.fnOf (Str.ofString "show_load") (Str.ofString "show_load") (defArgs st_show_load) (defBody st_show_load) (defScope st_show_load) .none kV_show_load dc_show_load pm_show_load an_show_load cd_show_load ct_show_load), sl_show_load⟩)
    (c_show_load : PySem.W.codeIn K cd_show_load (Str.ofString "show_load") = true)
    (k_show_load : PySem.W.keepIn K (.ref f_show_load) = true)
    (a_whole_in : PySem.W.nsIn K mainGlobals (Str.ofString "whole_in") = some (some (.ref f_whole_in)))
    (l_whole_in : K.lookup f_whole_in = some ⟨oc_whole_in, od_whole_in, .func (PySem.W.fnOf (Str.ofString "whole_in") (Str.ofString "whole_in") (defArgs st_whole_in) (defBody st_whole_in) (defScope st_whole_in) .none kV_whole_in dc_whole_in pm_whole_in an_whole_in cd_whole_in ct_whole_in), sl_whole_in⟩)
    (c_whole_in : PySem.W.codeIn K cd_whole_in (Str.ofString "whole_in") = true)
    (k_whole_in : PySem.W.keepIn K (.ref f_whole_in) = true)
    (a_item_in : PySem.W.nsIn K mainGlobals (Str.ofString "item_in") = some (some (.ref f_item_in)))
    (l_item_in : K.lookup f_item_in = some ⟨oc_item_in, od_item_in, .func (PySem.W.fnOf (Str.ofString "item_in") (Str.ofString "item_in") (defArgs st_item_in) (defBody st_item_in) (defScope st_item_in) .none kV_item_in dc_item_in pm_item_in an_item_in cd_item_in ct_item_in), sl_item_in⟩)
    (c_item_in : PySem.W.codeIn K cd_item_in (Str.ofString "item_in") = true)
    (k_item_in : PySem.W.keepIn K (.ref f_item_in) = true)
    (a_read_load : PySem.W.nsIn K mainGlobals (Str.ofString "read_load") = some (some (.ref f_read_load)))
    (l_read_load : K.lookup f_read_load = some ⟨oc_read_load, od_read_load, .func (PySem.W.fnOf (Str.ofString "read_load") (Str.ofString "read_load") (defArgs st_read_load) (defBody st_read_load) (defScope st_read_load) .none kV_read_load dc_read_load pm_read_load an_read_load cd_read_load ct_read_load), sl_read_load⟩)
    (c_read_load : PySem.W.codeIn K cd_read_load (Str.ofString "read_load") = true)
    (k_read_load : PySem.W.keepIn K (.ref f_read_load) = true)
    (a_law_bag : PySem.W.nsIn K mainGlobals (Str.ofString "_law_bag") = some (some (.ref f_law_bag)))
    (l_law_bag : K.lookup f_law_bag = some ⟨oc_law_bag, od_law_bag, .func (PySem.W.fnOf (Str.ofString "_law_bag") (Str.ofString "_law_bag") (defArgs st_law_bag) (defBody st_law_bag) (defScope st_law_bag) .none kV_law_bag dc_law_bag pm_law_bag an_law_bag cd_law_bag ct_law_bag), sl_law_bag⟩)
    (c_law_bag : PySem.W.codeIn K cd_law_bag (Str.ofString "_law_bag") = true)
    (k_law_bag : PySem.W.keepIn K (.ref f_law_bag) = true)
    (a_law_pick : PySem.W.nsIn K mainGlobals (Str.ofString "_law_pick") = some (some (.ref f_law_pick)))
    (l_law_pick : K.lookup f_law_pick = some ⟨oc_law_pick, od_law_pick, .func (PySem.W.fnOf (Str.ofString "_law_pick") (Str.ofString "_law_pick") (defArgs st_law_pick) (defBody st_law_pick) (defScope st_law_pick) .none kV_law_pick dc_law_pick pm_law_pick an_law_pick cd_law_pick ct_law_pick), sl_law_pick⟩)
    (c_law_pick : PySem.W.codeIn K cd_law_pick (Str.ofString "_law_pick") = true)
    (k_law_pick : PySem.W.keepIn K (.ref f_law_pick) = true)
    (a_law_box_3 : PySem.W.nsIn K mainGlobals (Str.ofString "_law_box") = some (some (.ref f_law_box_3)))
    (l_law_box_3 : K.lookup f_law_box_3 = some ⟨oc_law_box_3, od_law_box_3, .func (PySem.W.fnOf (Str.ofString "_law_box") (Str.ofString "_law_box") (defArgs st_law_box_3) (defBody st_law_box_3) (defScope st_law_box_3) .none kV_law_box_3 dc_law_box_3 pm_law_box_3 an_law_box_3 cd_law_box_3 ct_law_box_3), sl_law_box_3⟩)
    (c_law_box_3 : PySem.W.codeIn K cd_law_box_3 (Str.ofString "_law_box") = true)
    (k_law_box_3 : PySem.W.keepIn K (.ref f_law_box_3) = true)
    (a_law_text : PySem.W.nsIn K mainGlobals (Str.ofString "_law_text") = some (some (.ref f_law_text)))
    (l_law_text : K.lookup f_law_text = some ⟨oc_law_text, od_law_text, .func (PySem.W.fnOf (Str.ofString "_law_text") (Str.ofString "_law_text") (defArgs st_law_text) (defBody st_law_text) (defScope st_law_text) .none kV_law_text dc_law_text pm_law_text an_law_text cd_law_text ct_law_text), sl_law_text⟩)
    (c_law_text : PySem.W.codeIn K cd_law_text (Str.ofString "_law_text") = true)
    (k_law_text : PySem.W.keepIn K (.ref f_law_text) = true)
    (a_law_37 : PySem.W.nsIn K mainGlobals (Str.ofString "law") = some (some (.ref f_law_37)))
    (l_law_37 : K.lookup f_law_37 = some ⟨oc_law_37, od_law_37, .func (PySem.W.fnOf (Str.ofString "law") (Str.ofString "law") (defArgs st_law_37) (defBody st_law_37) (defScope st_law_37) .none kV_law_37 dc_law_37 pm_law_37 an_law_37 cd_law_37 ct_law_37), sl_law_37⟩)
    (c_law_37 : PySem.W.codeIn K cd_law_37 (Str.ofString "law") = true)
    (k_law_37 : PySem.W.keepIn K (.ref f_law_37) = true)
    (ic_LaceError : PySem.W.isClsIn K C_LaceError = true)
    (tc_LaceError : PySem.W.typeIn K (.ref C_LaceError) = some (.type "type"))
    (sb_LaceError : PySem.W.subIn K (.ref C_LaceError) (.type "BaseException") = some true)
    (ic_InvalidBits : PySem.W.isClsIn K C_InvalidBits = true)
    (tc_InvalidBits : PySem.W.typeIn K (.ref C_InvalidBits) = some (.type "type"))
    (sb_InvalidBits : PySem.W.subIn K (.ref C_InvalidBits) (.type "BaseException") = some true)
    (xe_InvalidBits : PySem.W.excIn K C_InvalidBits [.type "ValueError", .type "Exception", .type "BaseException", .type "object"] "ValueError.__new__" = true)
    (kc_InvalidBits : PySem.W.keepIn K (.ref C_InvalidBits) = true)
    (ga_InvalidBits : PySem.W.findIn K (.ref C_InvalidBits) "__getattribute__" = some (some (.builtin "BaseException.__getattribute__")))
    (gt_InvalidBits : PySem.W.findIn K (.ref C_InvalidBits) "__getattr__" = some none)
    (ha_InvalidBits : PySem.W.findIn K (.ref C_InvalidBits) "__class__" = some (some (.builtin "object.__class__")))
    (hm_InvalidBits : PySem.W.mroIn K C_InvalidBits (.type "object") = some true)
    (sx_InvalidBits : PySem.W.subIn K (.ref C_InvalidBits) (.ref C_LaceError) = some true)
    (hn_ : PySem.W.specialIn K (.builtin "object.__class__") "__get__" = some (some (.builtin "getset_descriptor.__get__")))
    (ht_ : PySem.W.takesIn K (.builtin "object.__class__") = some true)
    (s_int_NoneType : PySem.W.subIn K (.type "NoneType") (.type "int") = some false)
    (s_int_bool : PySem.W.subIn K (.type "bool") (.type "int") = some true)
    (s_int_str : PySem.W.subIn K (.type "str") (.type "int") = some false)
    (s_int_tuple : PySem.W.subIn K (.type "tuple") (.type "int") = some false)
    (s_int_list : PySem.W.subIn K (.type "list") (.type "int") = some false)
    (s_int_dict : PySem.W.subIn K (.type "dict") (.type "int") = some false)
    (s_int_InvalidBits : PySem.W.subIn K (.ref C_InvalidBits) (.type "int") = some false)
    (s_bool_NoneType : PySem.W.subIn K (.type "NoneType") (.type "bool") = some false)
    (s_bool_int : PySem.W.subIn K (.type "int") (.type "bool") = some false)
    (s_bool_str : PySem.W.subIn K (.type "str") (.type "bool") = some false)
    (s_bool_tuple : PySem.W.subIn K (.type "tuple") (.type "bool") = some false)
    (s_bool_list : PySem.W.subIn K (.type "list") (.type "bool") = some false)
    (s_bool_dict : PySem.W.subIn K (.type "dict") (.type "bool") = some false)
    (s_bool_InvalidBits : PySem.W.subIn K (.ref C_InvalidBits) (.type "bool") = some false)
    (s_str_NoneType : PySem.W.subIn K (.type "NoneType") (.type "str") = some false)
    (s_str_bool : PySem.W.subIn K (.type "bool") (.type "str") = some false)
    (s_str_int : PySem.W.subIn K (.type "int") (.type "str") = some false)
    (s_str_tuple : PySem.W.subIn K (.type "tuple") (.type "str") = some false)
    (s_str_list : PySem.W.subIn K (.type "list") (.type "str") = some false)
    (s_str_dict : PySem.W.subIn K (.type "dict") (.type "str") = some false)
    (s_str_InvalidBits : PySem.W.subIn K (.ref C_InvalidBits) (.type "str") = some false)
    (s_tuple_NoneType : PySem.W.subIn K (.type "NoneType") (.type "tuple") = some false)
    (s_tuple_bool : PySem.W.subIn K (.type "bool") (.type "tuple") = some false)
    (s_tuple_int : PySem.W.subIn K (.type "int") (.type "tuple") = some false)
    (s_tuple_str : PySem.W.subIn K (.type "str") (.type "tuple") = some false)
    (s_tuple_list : PySem.W.subIn K (.type "list") (.type "tuple") = some false)
    (s_tuple_dict : PySem.W.subIn K (.type "dict") (.type "tuple") = some false)
    (s_tuple_InvalidBits : PySem.W.subIn K (.ref C_InvalidBits) (.type "tuple") = some false)
    (s_list_NoneType : PySem.W.subIn K (.type "NoneType") (.type "list") = some false)
    (s_list_bool : PySem.W.subIn K (.type "bool") (.type "list") = some false)
    (s_list_int : PySem.W.subIn K (.type "int") (.type "list") = some false)
    (s_list_str : PySem.W.subIn K (.type "str") (.type "list") = some false)
    (s_list_tuple : PySem.W.subIn K (.type "tuple") (.type "list") = some false)
    (s_list_dict : PySem.W.subIn K (.type "dict") (.type "list") = some false)
    (s_list_InvalidBits : PySem.W.subIn K (.ref C_InvalidBits) (.type "list") = some false)
    (ss_LaceError : PySem.W.subIn K (.ref C_LaceError) (.ref C_LaceError) = some true)
    (s_c4_NoneType : PySem.W.subIn K (.type "NoneType") (.ref C_LaceError) = some false)
    (s_c4_bool : PySem.W.subIn K (.type "bool") (.ref C_LaceError) = some false)
    (s_c4_int : PySem.W.subIn K (.type "int") (.ref C_LaceError) = some false)
    (s_c4_str : PySem.W.subIn K (.type "str") (.ref C_LaceError) = some false)
    (s_c4_tuple : PySem.W.subIn K (.type "tuple") (.ref C_LaceError) = some false)
    (s_c4_list : PySem.W.subIn K (.type "list") (.ref C_LaceError) = some false)
    (s_c4_dict : PySem.W.subIn K (.type "dict") (.ref C_LaceError) = some false)
    (b_len : PySem.W.nsIn K mainGlobals (Str.ofString "len") = some none)
    (b_abs : PySem.W.nsIn K mainGlobals (Str.ofString "abs") = some none)
    (b_int : PySem.W.nsIn K mainGlobals (Str.ofString "int") = some none)
    (b_str : PySem.W.nsIn K mainGlobals (Str.ofString "str") = some none)
    (b_repr : PySem.W.nsIn K mainGlobals (Str.ofString "repr") = some none)
    (b_list : PySem.W.nsIn K mainGlobals (Str.ofString "list") = some none)
    (b_tuple : PySem.W.nsIn K mainGlobals (Str.ofString "tuple") = some none)
    (b_max : PySem.W.nsIn K mainGlobals (Str.ofString "max") = some none)
    (b_min : PySem.W.nsIn K mainGlobals (Str.ofString "min") = some none)
    (b_sum : PySem.W.nsIn K mainGlobals (Str.ofString "sum") = some none)
    (b_all : PySem.W.nsIn K mainGlobals (Str.ofString "all") = some none)
    (b_any : PySem.W.nsIn K mainGlobals (Str.ofString "any") = some none)
    (b_sorted : PySem.W.nsIn K mainGlobals (Str.ofString "sorted") = some none)
    (b_isinstance : PySem.W.nsIn K mainGlobals (Str.ofString "isinstance") = some none)
    (b_range : PySem.W.nsIn K mainGlobals (Str.ofString "range") = some none)
    (b_enumerate : PySem.W.nsIn K mainGlobals (Str.ofString "enumerate") = some none)
    (b_zip : PySem.W.nsIn K mainGlobals (Str.ofString "zip") = some none)
    (b_bool : PySem.W.nsIn K mainGlobals (Str.ofString "bool") = some none)
    (b_set : PySem.W.nsIn K mainGlobals (Str.ofString "set") = some none)
    (b_divmod : PySem.W.nsIn K mainGlobals (Str.ofString "divmod") = some none)
    (b_ValueError : PySem.W.nsIn K mainGlobals (Str.ofString "ValueError") = some none)
    (v_2 : PySem.W.nsIn K mainGlobals (Str.ofString "MOST_BITS") = some (some u_2))
    (v_4 : PySem.W.nsIn K mainGlobals (Str.ofString "MOST_DIGITS") = some (some u_4))
    (v_6 : PySem.W.nsIn K mainGlobals (Str.ofString "MOST_WEIGHT") = some (some u_6))
    (v_8 : PySem.W.nsIn K mainGlobals (Str.ofString "MOST_ITEMS_boxes") = some (some u_8))
    (v_9 : PySem.W.nsIn K mainGlobals (Str.ofString "MOST_ITEMS_texts") = some (some u_9))
    (w_2 : RelV (.int 100) u_2)
    (w_4 : RelV (.int 100) u_4)
    (w_6 : RelV (.int 1000000000000000000000000000000) u_6)
    (w_8 : RelV (.int 20) u_8)
    (w_9 : RelV (.int 20) u_9)
    : ∃ (fd : FuncData) (κ : Kx), κ.K = K ∧ (∀ (s : Shared) (u : Value), BindsTo s fd ⟨[u], []⟩ [(Str.ofString "script", u)]) ∧ ∀ base : Heap, K.In base → base.Ns mainGlobals mg → Fg PySem.Challenge.rw_lacekeys_k40_texts_shown_and_read.prog w κ.K mg base 6 fa fd [Str.ofString "script"] (spD κ TT 344) := by
  have e := hfa.symm.trans (PySem.W.mg_of X G a_law_37)
  cases e
  refine ⟨PySem.W.fnOf (Str.ofString "law") (Str.ofString "law") (defArgs st_law_37) (defBody st_law_37) (defScope st_law_37) .none kV_law_37 dc_law_37 pm_law_37 an_law_37 cd_law_37 ct_law_37, ⟨K, fun c => match c with
    | 4 => C_LaceError
    | 12 => C_InvalidBits
    | _ => 0, 0, w, fun c => (c == 12)⟩, rfl, fun s u => .of_eq rfl, fun base kb nb => ?_⟩
  generalize hκ : (⟨K, fun c => match c with
    | 4 => C_LaceError
    | 12 => C_InvalidBits
    | _ => 0, 0, w, fun c => (c == 12)⟩ : Kx) = κ
  have eK : κ.K = K := by subst hκ; rfl
  have eC_LaceError : κ.cls 4 = C_LaceError := by subst hκ; rfl
  have eC_InvalidBits : κ.cls 12 = C_InvalidBits := by subst hκ; rfl
  have en : κ.n = 0 := by subst hκ; rfl
  have hkw : κ.w = w := by subst hκ; rfl
  have hkx : ∀ c, κ.x c = nmX c := by subst hκ; exact fun c => rfl
  clear hκ
  subst eK
  let g : Gc := ⟨PySem.Challenge.rw_lacekeys_k40_texts_shown_and_read.prog, w, mg, base, κ, TT, nmA⟩
  have lt : ∀ c, c < κ.n → False := fun c hc => by omega
  have hcls : ClsOk κ κ.K := fun c hc => by
    exact (lt c hc).elim
  have hins : ∀ c, c < κ.n → InsOk κ κ.K c := fun c hc => by
    exact (lt c hc).elim
  have ltx : ∀ c, κ.x c = true → c = 12 := fun c hc => by
    rw [hkx] at hc; unfold nmX at hc
    simpa only [Bool.or_eq_true, beq_iff_eq, or_assoc] using hc
  have xc_InvalidBits : XcOk κ κ.K 12 := ⟨by rw [eC_InvalidBits]; exact ic_InvalidBits, by rw [eC_InvalidBits]; exact ga_InvalidBits, by rw [eC_InvalidBits]; exact gt_InvalidBits, by rw [eC_InvalidBits]; exact sb_InvalidBits, by rw [eC_InvalidBits]; exact ha_InvalidBits, hn_, ht_, by rw [eC_InvalidBits]; exact hm_InvalidBits⟩
  have hrse : ∀ c, nmA.xc c = true → RseOk κ κ.K mg c (nmA.cl c) := fun c hc => by
    have hc : κ.x c = true := (hkx c).trans hc
    rcases ltx c hc with rfl
    · exact ⟨hc, by rw [eC_InvalidBits]; exact xe_InvalidBits, by rw [eC_InvalidBits]; exact PySem.W.mg_of X G a_InvalidBits, by rw [eC_InvalidBits]; exact kc_InvalidBits, by rw [eC_InvalidBits]; exact sb_InvalidBits, by rw [eC_InvalidBits]; exact tc_InvalidBits⟩
  have hexm : ∀ c, κ.x c = true → PySem.W.exmOne κ.K (.ref (κ.cls c)) (.ref (κ.cls 4)) = some true := fun c hc => by
    rcases ltx c hc with rfl
    · rw [eC_InvalidBits, eC_LaceError]; exact exm_mk sb_LaceError ic_LaceError tc_LaceError sx_InvalidBits
  have hfld : ∀ s, nmA.fld s = true → FldOk κ κ.K s := fun s hs c hc => by
    have hs : nmFld s = true := hs
    unfold nmFld at hs
    simp only [Bool.or_eq_true, decide_eq_true_eq] at hs
    exact (lt c hc).elim
  have hgl : ∀ i, nmA.gk i = true → ∃ v u, mg (nmA.gl i) = some u ∧ RelV v u ∧ ∀ f, Rep κ f v (TT.gl i) := fun i hi => by
    have hi : nmGk i = true := hi
    unfold nmGk at hi
    simp only [Bool.or_eq_true, beq_iff_eq] at hi
    rcases hi with (((rfl | rfl) | rfl) | rfl) | rfl
    · exact ⟨_, _, PySem.W.mg_of X G v_2, w_2, fun f => .int _⟩
    · exact ⟨_, _, PySem.W.mg_of X G v_4, w_4, fun f => .int _⟩
    · exact ⟨_, _, PySem.W.mg_of X G v_6, w_6, fun f => .int _⟩
    · exact ⟨_, _, PySem.W.mg_of X G v_8, w_8, fun f => .int _⟩
    · exact ⟨_, _, PySem.W.mg_of X G v_9, w_9, fun f => .int _⟩
  have isi_int : IsiOk κ κ.K (.tint) := by
    refine ⟨hins, ?_, fun c hc => ?_, fun c hc => ?_⟩
    · show ([_, _, _, _, _, _, _] : List (Option Bool)) = [_, _, _, _, _, _, _]
      exact list7 (kit_ty rfl rfl s_int_NoneType) (kit_ty rfl rfl s_int_bool) (kit_self) (kit_ty rfl rfl s_int_str) (kit_ty rfl rfl s_int_tuple) (kit_ty rfl rfl s_int_list) (kit_ty rfl rfl s_int_dict)
    · exact (lt c hc).elim
    · rcases ltx c hc with rfl
      · refine ⟨xc_InvalidBits, ?_⟩; show PySem.W.kitOne κ.K (.ref (κ.cls 12)) (.type "int") = some false; rw [eC_InvalidBits]; exact kit_ty rfl rfl s_int_InvalidBits
  have isi_bool : IsiOk κ κ.K (.tbool) := by
    refine ⟨hins, ?_, fun c hc => ?_, fun c hc => ?_⟩
    · show ([_, _, _, _, _, _, _] : List (Option Bool)) = [_, _, _, _, _, _, _]
      exact list7 (kit_ty rfl rfl s_bool_NoneType) (kit_self) (kit_ty rfl rfl s_bool_int) (kit_ty rfl rfl s_bool_str) (kit_ty rfl rfl s_bool_tuple) (kit_ty rfl rfl s_bool_list) (kit_ty rfl rfl s_bool_dict)
    · exact (lt c hc).elim
    · rcases ltx c hc with rfl
      · refine ⟨xc_InvalidBits, ?_⟩; show PySem.W.kitOne κ.K (.ref (κ.cls 12)) (.type "bool") = some false; rw [eC_InvalidBits]; exact kit_ty rfl rfl s_bool_InvalidBits
  have isi_str : IsiOk κ κ.K (.tstr) := by
    refine ⟨hins, ?_, fun c hc => ?_, fun c hc => ?_⟩
    · show ([_, _, _, _, _, _, _] : List (Option Bool)) = [_, _, _, _, _, _, _]
      exact list7 (kit_ty rfl rfl s_str_NoneType) (kit_ty rfl rfl s_str_bool) (kit_ty rfl rfl s_str_int) (kit_self) (kit_ty rfl rfl s_str_tuple) (kit_ty rfl rfl s_str_list) (kit_ty rfl rfl s_str_dict)
    · exact (lt c hc).elim
    · rcases ltx c hc with rfl
      · refine ⟨xc_InvalidBits, ?_⟩; show PySem.W.kitOne κ.K (.ref (κ.cls 12)) (.type "str") = some false; rw [eC_InvalidBits]; exact kit_ty rfl rfl s_str_InvalidBits
  have isi_tuple : IsiOk κ κ.K (.ttuple) := by
    refine ⟨hins, ?_, fun c hc => ?_, fun c hc => ?_⟩
    · show ([_, _, _, _, _, _, _] : List (Option Bool)) = [_, _, _, _, _, _, _]
      exact list7 (kit_ty rfl rfl s_tuple_NoneType) (kit_ty rfl rfl s_tuple_bool) (kit_ty rfl rfl s_tuple_int) (kit_ty rfl rfl s_tuple_str) (kit_self) (kit_ty rfl rfl s_tuple_list) (kit_ty rfl rfl s_tuple_dict)
    · exact (lt c hc).elim
    · rcases ltx c hc with rfl
      · refine ⟨xc_InvalidBits, ?_⟩; show PySem.W.kitOne κ.K (.ref (κ.cls 12)) (.type "tuple") = some false; rw [eC_InvalidBits]; exact kit_ty rfl rfl s_tuple_InvalidBits
  have isi_list : IsiOk κ κ.K (.tlist) := by
    refine ⟨hins, ?_, fun c hc => ?_, fun c hc => ?_⟩
    · show ([_, _, _, _, _, _, _] : List (Option Bool)) = [_, _, _, _, _, _, _]
      exact list7 (kit_ty rfl rfl s_list_NoneType) (kit_ty rfl rfl s_list_bool) (kit_ty rfl rfl s_list_int) (kit_ty rfl rfl s_list_str) (kit_ty rfl rfl s_list_tuple) (kit_self) (kit_ty rfl rfl s_list_dict)
    · exact (lt c hc).elim
    · rcases ltx c hc with rfl
      · refine ⟨xc_InvalidBits, ?_⟩; show PySem.W.kitOne κ.K (.ref (κ.cls 12)) (.type "list") = some false; rw [eC_InvalidBits]; exact kit_ty rfl rfl s_list_InvalidBits
  have isi_c4 : IsiOk κ κ.K (.cls 4) := by
    refine ⟨hins, ?_, fun c hc => ?_, fun c hc => ?_⟩
    · show ([_, _, _, _, _, _, _] : List (Option Bool)) = [_, _, _, _, _, _, _]
      show [PySem.W.kitOne κ.K (.type "NoneType") (.ref (κ.cls 4)), PySem.W.kitOne κ.K (.type "bool") (.ref (κ.cls 4)), PySem.W.kitOne κ.K (.type "int") (.ref (κ.cls 4)), PySem.W.kitOne κ.K (.type "str") (.ref (κ.cls 4)), PySem.W.kitOne κ.K (.type "tuple") (.ref (κ.cls 4)), PySem.W.kitOne κ.K (.type "list") (.ref (κ.cls 4)), PySem.W.kitOne κ.K (.type "dict") (.ref (κ.cls 4))] = _
      rw [eC_LaceError]
      exact list7 (kit_ref rfl ic_LaceError tc_LaceError s_c4_NoneType) (kit_ref rfl ic_LaceError tc_LaceError s_c4_bool) (kit_ref rfl ic_LaceError tc_LaceError s_c4_int) (kit_ref rfl ic_LaceError tc_LaceError s_c4_str) (kit_ref rfl ic_LaceError tc_LaceError s_c4_tuple) (kit_ref rfl ic_LaceError tc_LaceError s_c4_list) (kit_ref rfl ic_LaceError tc_LaceError s_c4_dict)
    · exact (lt c hc).elim
    · rcases ltx c hc with rfl
      · refine ⟨xc_InvalidBits, ?_⟩; show PySem.W.kitOne κ.K (.ref (κ.cls 12)) (.ref (κ.cls 4)) = some true; rw [eC_InvalidBits, eC_LaceError]; exact kit_ref2 ic_LaceError tc_LaceError ss_LaceError sx_InvalidBits
  have hisi : ∀ t, nmA.ty t = true → IsiOk κ κ.K t := fun t ht => by
    have ht : nmT t = true := ht
    cases t with
    | tint => exact isi_int
    | tbool => exact isi_bool
    | tstr => exact isi_str
    | ttuple => exact isi_tuple
    | tlist => exact isi_list
    | tval => exact absurd ht (by decide)
    | cls c =>
      simp only [nmT, Bool.or_eq_true, beq_iff_eq] at ht
      subst ht
      exact isi_c4
  have hcln : ∀ c, nmA.ty (.cls c) = true → mg (nmA.cl c) = some (.ref (κ.cls c)) := fun c ht => by
    have ht : nmT (.cls c) = true := ht
    simp only [nmT, Bool.or_eq_true, beq_iff_eq] at ht
    subst ht
    rw [eC_LaceError]; exact PySem.W.mg_of X G a_LaceError
  have hbn : ∀ x ∈ bNames, mg x = none := by
    intro x hx
    simp only [bNames, List.mem_cons, List.not_mem_nil, or_false] at hx
    rcases hx with rfl | rfl | rfl | rfl | rfl | rfl | rfl | rfl | rfl | rfl | rfl | rfl | rfl | rfl | rfl | rfl | rfl | rfl | rfl | rfl | rfl
    · exact PySem.W.mg_none_of X G b_len
    · exact PySem.W.mg_none_of X G b_abs
    · exact PySem.W.mg_none_of X G b_int
    · exact PySem.W.mg_none_of X G b_str
    · exact PySem.W.mg_none_of X G b_repr
    · exact PySem.W.mg_none_of X G b_list
    · exact PySem.W.mg_none_of X G b_tuple
    · exact PySem.W.mg_none_of X G b_max
    · exact PySem.W.mg_none_of X G b_min
    · exact PySem.W.mg_none_of X G b_sum
    · exact PySem.W.mg_none_of X G b_all
    · exact PySem.W.mg_none_of X G b_any
    · exact PySem.W.mg_none_of X G b_sorted
    · exact PySem.W.mg_none_of X G b_isinstance
    · exact PySem.W.mg_none_of X G b_range
    · exact PySem.W.mg_none_of X G b_enumerate
    · exact PySem.W.mg_none_of X G b_zip
    · exact PySem.W.mg_none_of X G b_bool
    · exact PySem.W.mg_none_of X G b_set
    · exact PySem.W.mg_none_of X G b_divmod
    · exact PySem.W.mg_none_of X G b_ValueError
  have gf0 : Gf (noEq g) := ⟨hbn, hcls, hfld, hgl, hisi, hcln, (fun c f h => nomatch h), hkw, hrse, hexm⟩
  have F_is_int := fun_mk (st := st_is_int) l_is_int c_is_int k_is_int
  have bi_is_int := F_is_int.binds (ps := [Str.ofString "value"]) fun _ _ _ _ _ _ us hl => match us, hl with | [_], _ => rfl
  have F_is_whole := fun_mk (st := st_is_whole) l_is_whole c_is_whole k_is_whole
  have bi_is_whole := F_is_whole.binds (ps := [Str.ofString "value", Str.ofString "low", Str.ofString "high"]) fun _ _ _ _ _ _ us hl => match us, hl with | [_, _, _], _ => rfl
  have F_is_box := fun_mk (st := st_is_box) l_is_box c_is_box k_is_box
  have bi_is_box := F_is_box.binds (ps := [Str.ofString "value", Str.ofString "x_bits", Str.ofString "y_bits"]) fun _ _ _ _ _ _ us hl => match us, hl with | [_, _, _], _ => rfl
  have F_is_load_item := fun_mk (st := st_is_load_item) l_is_load_item c_is_load_item k_is_load_item
  have bi_is_load_item := F_is_load_item.binds (ps := [Str.ofString "value", Str.ofString "x_bits", Str.ofString "y_bits"]) fun _ _ _ _ _ _ us hl => match us, hl with | [_, _, _], _ => rfl
  have F_require_bits := fun_mk (st := st_require_bits) l_require_bits c_require_bits k_require_bits
  have bi_require_bits := F_require_bits.binds (ps := [Str.ofString "x_bits", Str.ofString "y_bits"]) fun _ _ _ _ _ _ us hl => match us, hl with | [_, _], _ => rfl
  have F_require_load_2 := fun_mk (st := st_require_load_2) l_require_load_2 c_require_load_2 k_require_load_2
  have bi_require_load_2 := F_require_load_2.binds (ps := [Str.ofString "x_bits", Str.ofString "y_bits", Str.ofString "value"]) fun _ _ _ _ _ _ us hl => match us, hl with | [_, _, _], _ => rfl
  have F_numbers_text := fun_mk (st := st_numbers_text) l_numbers_text c_numbers_text k_numbers_text
  have bi_numbers_text := F_numbers_text.binds (ps := [Str.ofString "numbers"]) fun _ _ _ _ _ _ us hl => match us, hl with | [_], _ => rfl
  have F_load_text := fun_mk (st := st_load_text) l_load_text c_load_text k_load_text
  have bi_load_text := F_load_text.binds (ps := [Str.ofString "load"]) fun _ _ _ _ _ _ us hl => match us, hl with | [_], _ => rfl
  have F_show_load := fun_mk (st := st_show_load) l_show_load c_show_load k_show_load
  have bi_show_load := F_show_load.binds (ps := [Str.ofString "x_bits", Str.ofString "y_bits", Str.ofString "load"]) fun _ _ _ _ _ _ us hl => match us, hl with | [_, _, _], _ => rfl
  have F_whole_in := fun_mk (st := st_whole_in) l_whole_in c_whole_in k_whole_in
  have bi_whole_in := F_whole_in.binds (ps := [Str.ofString "word"]) fun _ _ _ _ _ _ us hl => match us, hl with | [_], _ => rfl
  have F_item_in := fun_mk (st := st_item_in) l_item_in c_item_in k_item_in
  have bi_item_in := F_item_in.binds (ps := [Str.ofString "part"]) fun _ _ _ _ _ _ us hl => match us, hl with | [_], _ => rfl
  have F_read_load := fun_mk (st := st_read_load) l_read_load c_read_load k_read_load
  have bi_read_load := F_read_load.binds (ps := [Str.ofString "x_bits", Str.ofString "y_bits", Str.ofString "text"]) fun _ _ _ _ _ _ us hl => match us, hl with | [_, _, _], _ => rfl
  have F_law_bag := fun_mk (st := st_law_bag) l_law_bag c_law_bag k_law_bag
  have bi_law_bag := F_law_bag.binds (ps := [Str.ofString "cell"]) fun _ _ _ _ _ _ us hl => match us, hl with | [_], _ => rfl
  have F_law_pick := fun_mk (st := st_law_pick) l_law_pick c_law_pick k_law_pick
  have bi_law_pick := F_law_pick.binds (ps := [Str.ofString "bag", Str.ofString "many"]) fun _ _ _ _ _ _ us hl => match us, hl with | [_, _], _ => rfl
  have F_law_box_3 := fun_mk (st := st_law_box_3) l_law_box_3 c_law_box_3 k_law_box_3
  have bi_law_box_3 := F_law_box_3.binds (ps := [Str.ofString "bag", Str.ofString "x_bits", Str.ofString "y_bits"]) fun _ _ _ _ _ _ us hl => match us, hl with | [_, _, _], _ => rfl
  have F_law_text := fun_mk (st := st_law_text) l_law_text c_law_text k_law_text
  have bi_law_text := F_law_text.binds (ps := [Str.ofString "load"]) fun _ _ _ _ _ _ us hl => match us, hl with | [_], _ => rfl
  have F_law_37 := fun_mk (st := st_law_37) l_law_37 c_law_37 k_law_37
  have bi_law_37 := F_law_37.binds (ps := [Str.ofString "script"]) fun _ _ _ _ _ _ us hl => match us, hl with | [_], _ => rfl
  have gf : Gf g := Gf.noEq gf0 fun c f h hc => (lt c hc).elim
  have fg_is_int := fg_D (g := g) gf F_is_int look_is_int (fix_known (by rfl)) (fun f hf => (nok hf).elim) (fun c f h hc => (lt c hc).elim)
  have kn_is_int : Known g 1 := known_def fg_is_int bi_is_int (PySem.W.mg_of X G a_is_int) k_is_int rfl rfl
  have fg_numbers_text := fg_D (g := g) gf F_numbers_text look_numbers_text (fix_known (by rfl)) (fun f hf => (nok hf).elim) (fun c f h hc => (lt c hc).elim)
  have kn_numbers_text : Known g 329 := known_def fg_numbers_text bi_numbers_text (PySem.W.mg_of X G a_numbers_text) k_numbers_text rfl rfl
  have fg_whole_in := fg_D (g := g) gf F_whole_in look_whole_in (fix_known (by rfl)) (fun f hf => (nok hf).elim) (fun c f h hc => (lt c hc).elim)
  have kn_whole_in : Known g 332 := known_def fg_whole_in bi_whole_in (PySem.W.mg_of X G a_whole_in) k_whole_in rfl rfl
  have fg_law_bag := fg_D (g := g) gf F_law_bag look_law_bag (fix_known (by rfl)) (fun f hf => (nok hf).elim) (fun c f h hc => (lt c hc).elim)
  have kn_law_bag : Known g 132 := known_def fg_law_bag bi_law_bag (PySem.W.mg_of X G a_law_bag) k_law_bag rfl rfl
  have fg_law_pick := fg_D (g := g) gf F_law_pick look_law_pick (fix_known (by rfl)) (fun f hf => (nok hf).elim) (fun c f h hc => (lt c hc).elim)
  have kn_law_pick : Known g 133 := known_def fg_law_pick bi_law_pick (PySem.W.mg_of X G a_law_pick) k_law_pick rfl rfl
  have fg_law_text := fg_D (g := g) gf F_law_text look_law_text (fix_known (by rfl)) (fun f hf => (nok hf).elim) (fun c f h hc => (lt c hc).elim)
  have kn_law_text : Known g 343 := known_def fg_law_text bi_law_text (PySem.W.mg_of X G a_law_text) k_law_text rfl rfl
  have fg_is_whole := fg_D (g := g) gf F_is_whole look_is_whole (fix_known (by rfl)) (fun f hf => by
    simp only [List.contains_cons, List.contains_nil, Bool.or_false, Bool.or_eq_true, beq_iff_eq] at hf
    subst hf
    exact kn_is_int) (fun c f h hc => (lt c hc).elim)
  have kn_is_whole : Known g 2 := known_def fg_is_whole bi_is_whole (PySem.W.mg_of X G a_is_whole) k_is_whole rfl rfl
  have fg_is_box := fg_D (g := g) gf F_is_box look_is_box (fix_known (by rfl)) (fun f hf => by
    simp only [List.contains_cons, List.contains_nil, Bool.or_false, Bool.or_eq_true, beq_iff_eq] at hf
    subst hf
    exact kn_is_int) (fun c f h hc => (lt c hc).elim)
  have kn_is_box : Known g 44 := known_def fg_is_box bi_is_box (PySem.W.mg_of X G a_is_box) k_is_box rfl rfl
  have fg_load_text := fg_D (g := g) gf F_load_text look_load_text (fix_known (by rfl)) (fun f hf => by
    simp only [List.contains_cons, List.contains_nil, Bool.or_false, Bool.or_eq_true, beq_iff_eq] at hf
    subst hf
    exact kn_numbers_text) (fun c f h hc => (lt c hc).elim)
  have kn_load_text : Known g 330 := known_def fg_load_text bi_load_text (PySem.W.mg_of X G a_load_text) k_load_text rfl rfl
  have fg_item_in := fg_D (g := g) gf F_item_in look_item_in (fix_known (by rfl)) (fun f hf => by
    simp only [List.contains_cons, List.contains_nil, Bool.or_false, Bool.or_eq_true, beq_iff_eq] at hf
    subst hf
    exact kn_whole_in) (fun c f h hc => (lt c hc).elim)
  have kn_item_in : Known g 333 := known_def fg_item_in bi_item_in (PySem.W.mg_of X G a_item_in) k_item_in rfl rfl
  have fg_law_box_3 := fg_D (g := g) gf F_law_box_3 look_law_box_3 (fix_known (by rfl)) (fun f hf => by
    simp only [List.contains_cons, List.contains_nil, Bool.or_false, Bool.or_eq_true, beq_iff_eq] at hf
    subst hf
    exact kn_law_pick) (fun c f h hc => (lt c hc).elim)
  have kn_law_box_3 : Known g 342 := known_def fg_law_box_3 bi_law_box_3 (PySem.W.mg_of X G a_law_box_3) k_law_box_3 rfl rfl
  have fg_is_load_item := fg_D (g := g) gf F_is_load_item look_is_load_item (fix_known (by rfl)) (fun f hf => by
    simp only [List.contains_cons, List.contains_nil, Bool.or_false, Bool.or_eq_true, beq_iff_eq] at hf
    rcases hf with rfl | rfl
    · exact kn_is_whole
    · exact kn_is_box) (fun c f h hc => (lt c hc).elim)
  have kn_is_load_item : Known g 226 := known_def fg_is_load_item bi_is_load_item (PySem.W.mg_of X G a_is_load_item) k_is_load_item rfl rfl
  have fg_require_bits := fg_D (g := g) gf F_require_bits look_require_bits (fix_known (by rfl)) (fun f hf => by
    simp only [List.contains_cons, List.contains_nil, Bool.or_false, Bool.or_eq_true, beq_iff_eq] at hf
    subst hf
    exact kn_is_whole) (fun c f h hc => (lt c hc).elim)
  have kn_require_bits : Known g 24 := known_def fg_require_bits bi_require_bits (PySem.W.mg_of X G a_require_bits) k_require_bits rfl rfl
  have fg_require_load_2 := fg_D (g := g) gf F_require_load_2 look_require_load_2 (fix_known (by rfl)) (fun f hf => by
    simp only [List.contains_cons, List.contains_nil, Bool.or_false, Bool.or_eq_true, beq_iff_eq] at hf
    subst hf
    exact kn_is_load_item) (fun c f h hc => (lt c hc).elim)
  have kn_require_load_2 : Known g 328 := known_def fg_require_load_2 bi_require_load_2 (PySem.W.mg_of X G a_require_load_2) k_require_load_2 rfl rfl
  have fg_read_load := fg_D (g := g) gf F_read_load look_read_load (fix_known (by rfl)) (fun f hf => by
    simp only [List.contains_cons, List.contains_nil, Bool.or_false, Bool.or_eq_true, beq_iff_eq] at hf
    rcases hf with rfl | rfl | rfl
    · exact kn_require_bits
    · exact kn_is_load_item
    · exact kn_item_in) (fun c f h hc => (lt c hc).elim)
  have kn_read_load : Known g 334 := known_def fg_read_load bi_read_load (PySem.W.mg_of X G a_read_load) k_read_load rfl rfl
  have fg_show_load := fg_D (g := g) gf F_show_load look_show_load (fix_known (by rfl)) (fun f hf => by
    simp only [List.contains_cons, List.contains_nil, Bool.or_false, Bool.or_eq_true, beq_iff_eq] at hf
    rcases hf with rfl | rfl | rfl
    · exact kn_require_bits
    · exact kn_require_load_2
    · exact kn_load_text) (fun c f h hc => (lt c hc).elim)
  have kn_show_load : Known g 331 := known_def fg_show_load bi_show_load (PySem.W.mg_of X G a_show_load) k_show_load rfl rfl
  have fg_law_37 := fg_D (g := g) gf F_law_37 look_law_37 (fix_known (by rfl)) (fun f hf => by
    simp only [List.contains_cons, List.contains_nil, Bool.or_false, Bool.or_eq_true, beq_iff_eq] at hf
    rcases hf with rfl | rfl | rfl | rfl | rfl | rfl
    · exact kn_law_bag
    · exact kn_law_pick
    · exact kn_show_load
    · exact kn_read_load
    · exact kn_law_box_3
    · exact kn_law_text) (fun c f h hc => (lt c hc).elim)
  exact fg_law_37
open PySem PySem.Spec PyProof.Rows L2 in
theorem facts_mk {w : World} {K : PySem.W.Frag} {h : Heap} {mg : Str → Option Value} {fa : Addr} (X : K.In h) (G : h.Ns mainGlobals mg) (hfa : mg (Str.ofString "law") = some (.ref fa)) (e : obX fnL ckL K = vaX fnL)
    : ∃ (fd : FuncData) (κ : Kx), κ.K = K ∧ (∀ (s : Shared) (u : Value), BindsTo s fd ⟨[u], []⟩ [(Str.ofString "script", u)]) ∧ ∀ base : Heap, K.In base → base.Ns mainGlobals mg → Fg PySem.Challenge.rw_lacekeys_k40_texts_shown_and_read.prog w κ.K mg base 6 fa fd [Str.ofString "script"] (spD κ TT 344) := by
  have e0 : (decide (hg0 K) && (decide (hg1 K) && (decide (hg2 K) && (decide (hg3 K) && (decide (hg4 K)))))) = true := obX_ck e
  obtain ⟨d0, e1⟩ := Bool.and_eq_true_iff.mp e0
  have h0 : hg0 K := of_decide_eq_true d0
  obtain ⟨d1, e2⟩ := Bool.and_eq_true_iff.mp e1
  have h1 : hg1 K := of_decide_eq_true d1
  obtain ⟨d2, e3⟩ := Bool.and_eq_true_iff.mp e2
  have h2 : hg2 K := of_decide_eq_true d2
  obtain ⟨d3, e4⟩ := Bool.and_eq_true_iff.mp e3
  have h3 : hg3 K := of_decide_eq_true d3
  have h4 : hg4 K := of_decide_eq_true e4
  obtain ⟨_, _, _, _, _, _, _, _, _, l_is_int, c_is_int, k_is_int⟩ := obX_at e 0 (d := dX_is_int) rfl
  obtain ⟨_, _, _, _, _, _, _, _, _, l_is_whole, c_is_whole, k_is_whole⟩ := obX_at e 1 (d := dX_is_whole) rfl
  obtain ⟨_, _, _, _, _, _, _, _, _, l_is_box, c_is_box, k_is_box⟩ := obX_at e 2 (d := dX_is_box) rfl
  obtain ⟨_, _, _, _, _, _, _, _, _, l_is_load_item, c_is_load_item, k_is_load_item⟩ := obX_at e 3 (d := dX_is_load_item) rfl
  obtain ⟨_, _, _, _, _, _, _, _, _, l_require_bits, c_require_bits, k_require_bits⟩ := obX_at e 4 (d := dX_require_bits) rfl
  obtain ⟨_, _, _, _, _, _, _, _, _, l_require_load_2, c_require_load_2, k_require_load_2⟩ := obX_at e 5 (d := dX_require_load_2) rfl
  obtain ⟨_, _, _, _, _, _, _, _, _, l_numbers_text, c_numbers_text, k_numbers_text⟩ := obX_at e 6 (d := dX_numbers_text) rfl
  obtain ⟨_, _, _, _, _, _, _, _, _, l_load_text, c_load_text, k_load_text⟩ := obX_at e 7 (d := dX_load_text) rfl
  obtain ⟨_, _, _, _, _, _, _, _, _, l_show_load, c_show_load, k_show_load⟩ := obX_at e 8 (d := dX_show_load) rfl
  obtain ⟨_, _, _, _, _, _, _, _, _, l_whole_in, c_whole_in, k_whole_in⟩ := obX_at e 9 (d := dX_whole_in) rfl
  obtain ⟨_, _, _, _, _, _, _, _, _, l_item_in, c_item_in, k_item_in⟩ := obX_at e 10 (d := dX_item_in) rfl
  obtain ⟨_, _, _, _, _, _, _, _, _, l_read_load, c_read_load, k_read_load⟩ := obX_at e 11 (d := dX_read_load) rfl
  obtain ⟨_, _, _, _, _, _, _, _, _, l_law_bag, c_law_bag, k_law_bag⟩ := obX_at e 12 (d := dX_law_bag) rfl
  obtain ⟨_, _, _, _, _, _, _, _, _, l_law_pick, c_law_pick, k_law_pick⟩ := obX_at e 13 (d := dX_law_pick) rfl
  obtain ⟨_, _, _, _, _, _, _, _, _, l_law_box_3, c_law_box_3, k_law_box_3⟩ := obX_at e 14 (d := dX_law_box_3) rfl
  obtain ⟨_, _, _, _, _, _, _, _, _, l_law_text, c_law_text, k_law_text⟩ := obX_at e 15 (d := dX_law_text) rfl
  obtain ⟨_, _, _, _, _, _, _, _, _, l_law_37, c_law_37, k_law_37⟩ := obX_at e 16 (d := dX_law_37) rfl
  exact all_mk X G hfa h0.1 h0.2.1 h0.2.2.1 l_is_int c_is_int k_is_int h0.2.2.2.1 l_is_whole c_is_whole k_is_whole h0.2.2.2.2.1 l_is_box c_is_box k_is_box h0.2.2.2.2.2.1 l_is_load_item c_is_load_item k_is_load_item h0.2.2.2.2.2.2.1 l_require_bits c_require_bits k_require_bits h0.2.2.2.2.2.2.2.1 l_require_load_2 c_require_load_2 k_require_load_2 h0.2.2.2.2.2.2.2.2.1 l_numbers_text c_numbers_text k_numbers_text h0.2.2.2.2.2.2.2.2.2.1 l_load_text c_load_text k_load_text h0.2.2.2.2.2.2.2.2.2.2.1 l_show_load c_show_load k_show_load h0.2.2.2.2.2.2.2.2.2.2.2.1 l_whole_in c_whole_in k_whole_in h0.2.2.2.2.2.2.2.2.2.2.2.2.1 l_item_in c_item_in k_item_in h0.2.2.2.2.2.2.2.2.2.2.2.2.2.1 l_read_load c_read_load k_read_load h0.2.2.2.2.2.2.2.2.2.2.2.2.2.2.1 l_law_bag c_law_bag k_law_bag h0.2.2.2.2.2.2.2.2.2.2.2.2.2.2.2.1 l_law_pick c_law_pick k_law_pick h0.2.2.2.2.2.2.2.2.2.2.2.2.2.2.2.2.1 l_law_box_3 c_law_box_3 k_law_box_3 h0.2.2.2.2.2.2.2.2.2.2.2.2.2.2.2.2.2.1 l_law_text c_law_text k_law_text h0.2.2.2.2.2.2.2.2.2.2.2.2.2.2.2.2.2.2.1 l_law_37 c_law_37 k_law_37 h0.2.2.2.2.2.2.2.2.2.2.2.2.2.2.2.2.2.2.2.1 h0.2.2.2.2.2.2.2.2.2.2.2.2.2.2.2.2.2.2.2.2.1 h0.2.2.2.2.2.2.2.2.2.2.2.2.2.2.2.2.2.2.2.2.2.1 h0.2.2.2.2.2.2.2.2.2.2.2.2.2.2.2.2.2.2.2.2.2.2.1 h0.2.2.2.2.2.2.2.2.2.2.2.2.2.2.2.2.2.2.2.2.2.2.2 h1.1 h1.2.1 h1.2.2.1 h1.2.2.2.1 h1.2.2.2.2.1 h1.2.2.2.2.2.1 h1.2.2.2.2.2.2.1 h1.2.2.2.2.2.2.2.1 h1.2.2.2.2.2.2.2.2.1 h1.2.2.2.2.2.2.2.2.2.1 h1.2.2.2.2.2.2.2.2.2.2.1 h1.2.2.2.2.2.2.2.2.2.2.2.1 h1.2.2.2.2.2.2.2.2.2.2.2.2.1 h1.2.2.2.2.2.2.2.2.2.2.2.2.2.1 h1.2.2.2.2.2.2.2.2.2.2.2.2.2.2.1 h1.2.2.2.2.2.2.2.2.2.2.2.2.2.2.2.1 h1.2.2.2.2.2.2.2.2.2.2.2.2.2.2.2.2.1 h1.2.2.2.2.2.2.2.2.2.2.2.2.2.2.2.2.2.1 h1.2.2.2.2.2.2.2.2.2.2.2.2.2.2.2.2.2.2.1 h1.2.2.2.2.2.2.2.2.2.2.2.2.2.2.2.2.2.2.2.1 h1.2.2.2.2.2.2.2.2.2.2.2.2.2.2.2.2.2.2.2.2.1 h1.2.2.2.2.2.2.2.2.2.2.2.2.2.2.2.2.2.2.2.2.2.1 h1.2.2.2.2.2.2.2.2.2.2.2.2.2.2.2.2.2.2.2.2.2.2.1 h1.2.2.2.2.2.2.2.2.2.2.2.2.2.2.2.2.2.2.2.2.2.2.2 h2.1 h2.2.1 h2.2.2.1 h2.2.2.2.1 h2.2.2.2.2.1 h2.2.2.2.2.2.1 h2.2.2.2.2.2.2.1 h2.2.2.2.2.2.2.2.1 h2.2.2.2.2.2.2.2.2.1 h2.2.2.2.2.2.2.2.2.2.1 h2.2.2.2.2.2.2.2.2.2.2.1 h2.2.2.2.2.2.2.2.2.2.2.2.1 h2.2.2.2.2.2.2.2.2.2.2.2.2.1 h2.2.2.2.2.2.2.2.2.2.2.2.2.2.1 h2.2.2.2.2.2.2.2.2.2.2.2.2.2.2.1 h2.2.2.2.2.2.2.2.2.2.2.2.2.2.2.2.1 h2.2.2.2.2.2.2.2.2.2.2.2.2.2.2.2.2.1 h2.2.2.2.2.2.2.2.2.2.2.2.2.2.2.2.2.2.1 h2.2.2.2.2.2.2.2.2.2.2.2.2.2.2.2.2.2.2.1 h2.2.2.2.2.2.2.2.2.2.2.2.2.2.2.2.2.2.2.2.1 h2.2.2.2.2.2.2.2.2.2.2.2.2.2.2.2.2.2.2.2.2.1 h2.2.2.2.2.2.2.2.2.2.2.2.2.2.2.2.2.2.2.2.2.2.1 h2.2.2.2.2.2.2.2.2.2.2.2.2.2.2.2.2.2.2.2.2.2.2.1 h2.2.2.2.2.2.2.2.2.2.2.2.2.2.2.2.2.2.2.2.2.2.2.2 h3.1 h3.2.1 h3.2.2.1 h3.2.2.2.1 h3.2.2.2.2.1 h3.2.2.2.2.2.1 h3.2.2.2.2.2.2.1 h3.2.2.2.2.2.2.2.1 h3.2.2.2.2.2.2.2.2.1 h3.2.2.2.2.2.2.2.2.2.1 h3.2.2.2.2.2.2.2.2.2.2.1 h3.2.2.2.2.2.2.2.2.2.2.2.1 h3.2.2.2.2.2.2.2.2.2.2.2.2.1 h3.2.2.2.2.2.2.2.2.2.2.2.2.2.1 h3.2.2.2.2.2.2.2.2.2.2.2.2.2.2.1 h3.2.2.2.2.2.2.2.2.2.2.2.2.2.2.2.1 h3.2.2.2.2.2.2.2.2.2.2.2.2.2.2.2.2.1 h3.2.2.2.2.2.2.2.2.2.2.2.2.2.2.2.2.2.1 h3.2.2.2.2.2.2.2.2.2.2.2.2.2.2.2.2.2.2.1 h3.2.2.2.2.2.2.2.2.2.2.2.2.2.2.2.2.2.2.2.1 h3.2.2.2.2.2.2.2.2.2.2.2.2.2.2.2.2.2.2.2.2.1 h3.2.2.2.2.2.2.2.2.2.2.2.2.2.2.2.2.2.2.2.2.2.1 h3.2.2.2.2.2.2.2.2.2.2.2.2.2.2.2.2.2.2.2.2.2.2.1 h3.2.2.2.2.2.2.2.2.2.2.2.2.2.2.2.2.2.2.2.2.2.2.2 h4.1 h4.2.1 h4.2.2.1 h4.2.2.2.1 h4.2.2.2.2.1 h4.2.2.2.2.2.1 h4.2.2.2.2.2.2.1 (isIV_rel h4.2.2.2.2.2.2.2.1) (isIV_rel h4.2.2.2.2.2.2.2.2.1) (isIV_rel h4.2.2.2.2.2.2.2.2.2.1) (isIV_rel h4.2.2.2.2.2.2.2.2.2.2.1) (isIV_rel h4.2.2.2.2.2.2.2.2.2.2.2)
end PyV
set_option maxRecDepth 100000 in
set_option maxHeartbeats 0 in
open PySem PySem.W PySem.Calls PyProof.Rows PyV in
theorem PySem.Challenge.cw_lacekeys_k40_texts_shown_and_read_holds : PySem.Challenge.rw_lacekeys_k40_texts_shown_and_read.Holds := by
  w_on; o_law
  refine HandSHeadRun.head_any (r := OpenLaw.row PySem.Challenge.rw_lacekeys_k40_texts_shown_and_read) (q := view (OpenLaw.row PySem.Challenge.rw_lacekeys_k40_texts_shown_and_read).prog [39]) (H := hookX 6 fnL ckL) (ob := obT 6 fnL ckL) (M := 20000) (loose := topN) (d := HandSHeadRun.topDef (OpenLaw.row PySem.Challenge.rw_lacekeys_k40_texts_shown_and_read).prog 39) (kwd := []) (obT_eq 6 fnL ckL)
    (by kernel_rfl) (fun s => by kernel_rfl) run_top (by kernel_rfl) (by kernel_rfl) (by kernel_rfl) (by rfl) (by first | assumption | decide +kernel) (by decide +kernel) ⟨rfl, rfl, rfl, rfl, rfl, by decide +kernel⟩ ?hw ?hc
  case hw => w_witness2
  case hc =>
    refine walk_lawE (l := PySem.Challenge.rw_lacekeys_k40_texts_shown_and_read) (k := 6) (x := Str.ofString "script") (T := TT) (f := 344) rfl (by decide) (by kernel_rfl) ⟨rfl, by decide, by decide⟩ ?F rfl law_true
    intro w mg fa h Y G hmg0
    obtain ⟨K, KX, c⟩ := Y
    have hmg : mg (Str.ofString "law") = some (.ref fa) := by
      have en : (HandSHeadRun.topDef (OpenLaw.row PySem.Challenge.rw_lacekeys_k40_texts_shown_and_read).prog 39).name = Str.ofString "law" := by kernel_rfl
      rw [← en]
      exact hmg0
    obtain ⟨fd, κ, eK, hb, hF⟩ := facts_mk (w := w) KX G hmg c
    exact ⟨fd, κ, by rw [eK]; exact KX, hb, fun base kb nb => hF base (by rw [← eK]; exact kb) nb⟩
