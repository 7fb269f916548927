import PyProof.Rows.All
import Wide.All
import OpenK.AllK
import Wide.FinOn
import KE.KStateDown
import HandS.Words
import HandS.WordsExc
import HandS.Head0
import HandS.Head1
import HandS.Head2
import HandS.HeadHook1
import HandS.HeadHook2
import HandS.HeadHook3
import HandS.HeadHook4
import HandS.ExcField
import HandS.Base
import HandS.Call
import HandS.List
import HandS.Comp
import HandS.Text
import HandS.Exc
import HandS.ExcOwn
import HandS.IsInst
import HandS.Style
import HandS.More
import HandS.Lambda
import HandS.Defaults
import HandS.TryMany
import HandS.ExcIs
import HandS.ExcInit
import HandS.Walk
import HandS.Iter
import PyProof.ExcBaseAll.ValueError
import HandS.Dict
import HandS.Ends
import HandS.HeadEnd
import HandS.EndTab
import HandS.Conv
import KE.IntTextLaws
import PyProof.Rows.StrDigitsNeg
import PyProof.StrLawsRepr
import PySem.Challenge.RW_wholeways_k65_whole_expressions_as_texts
set_option Elab.async false
set_option linter.all false
set_option maxRecDepth 100000
/-! the head ahead of all else: o_head drops what is assumed, so the walk is handed to it inside the Hook -/
namespace Hd
open PySem PySem.W PySem.Calls PyProof.Rows
/-- the walk, whatever the view of the top is -/
def Ws (r : OpenRow) (H : Hook) : Prop := ∀ (q : Program) (loose : List PySem.Str) (XP : (PySem.Str → Option Value) → Heap → Prop) (d : DefRec), d.params.defaults = [] → d.name = "law" → WalkO q loose XP H.says r.toRowW d [] (fun f vs => PySem.call f vs)
def hkP (r : OpenRow) (H : Hook) (_ : Ws r H) : Hook := H
theorem PySem.W.holds_open {r : OpenRow} {H : Hook} {given : Ws r H} {q : Program} {loose : List PySem.Str} {Xt : Shared → Bool} {XP : (PySem.Str → Option Value) → Heap → Prop} {α : Type} {Yf : Shared → α} {Ya : World → α} {YP : World → Heap → Prop} {d : DefRec} {kwd : List (PySem.Str × PySem.Expr)} {N : Nat}
    (run : LeftO r.prog q loose Xt H.obs H.val N) (h1 : ∀ w s, (hkP r H given).obs s = (hkP r H given).val w → (hkP r H given).says w s.heap)
    (h2 : ∀ w h h', (hkP r H given).says w h → (∀ b o, h.get? b = some o → h'.get? b = some o) → (hkP r H given).says w h')
    (h3 : ∀ s, Xt s = true → XP (s.heap.nsMap mainGlobals) s.heap) (h4 : ∀ mg h h', XP mg h → (∀ b o, h.get? b = some o → h'.get? b = some o) → XP mg h')
    (h5 : defOf q r.name = some (d, kwd)) (h6 : r.prog.theDef r.name = some (d.params, d.body, d.scope)) (h7 : kwWritten? d.params.kwonlyargs d.params.kw_defaults = some kwd) (h8 : ∀ s, Xt s = true → RecFacts r.records s.heap) (h9 : (!r.writes || r.records.isEmpty) = true)
    (g1 : r.wellSaid = true) (g2 : (chainsOk q && opensWell r.prog && (frees r.toRowW && r.within.isEmpty)) = true) (g3 : r.prog.bare) (g4 : r.toRowW.promised)
    (g5 : kwd = [] ∧ d.params.defaults = [] ∧ d.name = "law") : r.Holds := by
  obtain ⟨rfl, e1, e2⟩ := g5
  exact _root_.PySem.W.holds_open run H.of H.keeps h3 h4 h5 h6 h7 h8 h9 g1 g2 g3 g4 (given q loose XP d e1 e2)
end Hd
set_option maxHeartbeats 4000000
/-! what a head tells: facts that the library's list lacks, as Bools -/
namespace Y
open PySem PySem.Spec PyProof.Rows L2
def clsVE (K : PySem.W.Frag) (C : Addr) : Bool := match K.lookup C with
  | some ⟨.type t, _, .cls cd, sl⟩ => decide (t = "type") && (match cd.mro, sl.toList with
    | .ref C' :: bm, [_, _, _, _, some (.builtin n), _] => decide (C' = C) && (decide (n = "ValueError.__new__") && (cd.hasDict && (!cd.hasDel && PySem.HandSPX.refsVE bm)))
    | _, _ => false)
  | _ => false
def oexB (K : PySem.W.Frag) (C : Addr) : Bool := clsVE K C && (decide (PySem.W.findIn K (.ref C) "__setattr__" = some (some (.builtin "object.__setattr__"))) && (decide (PySem.W.subIn K (.ref C) (.type "BaseException") = some true) &&
  (decide (PySem.W.typeIn K (.ref C) = some (.type "type")) && PySem.W.keepIn K (.ref C))))
def excB (K : PySem.W.Frag) (D : Addr) : Bool := decide (PySem.W.findIn K (.ref D) "__getattribute__" = some (some (.builtin "BaseException.__getattribute__"))) && (decide (PySem.W.findIn K (.ref D) "__getattr__" = some none) && (decide (PySem.W.subIn K (.ref D) (.type "BaseException") = some true) &&
  (PySem.W.hasDictIn K D && (decide (PySem.W.findIn K (.ref D) "__class__" = some (some (.builtin "object.__class__"))) && (decide (PySem.W.specialIn K (.builtin "object.__class__") "__get__" = some (some (.builtin "getset_descriptor.__get__"))) &&
  (decide (PySem.W.takesIn K (.builtin "object.__class__") = some true) && decide (PySem.W.mroIn K D (.type "object") = some true)))))))
def kitB2 (K : PySem.W.Frag) (C D : Addr) (b : Bool) : Bool := decide (PySem.W.kitOne K (.ref C) (.ref D) = some b)
def kitB3 (K : PySem.W.Frag) (C D1 D2 : Addr) (b : Bool) : Bool := decide (PySem.W.kitAny K (.ref C) [.ref D1, .ref D2] = some b)
def fnB (K : PySem.W.Frag) (a : Addr) : Bool := decide (PySem.W.typeIn K (.ref a) = some (.type "function"))
def allEx (l : List (PySem.W.Frag → Bool)) : PySem.W.Frag → Bool := fun K => l.all fun f => f K
end Y
set_option maxHeartbeats 4000000
namespace Y
open PySem PySem.Spec PyProof.Rows L2
def top (i : Nat) : Stmt := PySem.Challenge.pw_wholeways_k65_whole_expressions_as_texts.main.body.getD i (.Pass ⟨0, 0, 0, 0⟩)
abbrev s_is_integer : Stmt := top 3
abbrev s_is_within : Stmt := top 4
abbrev s_is_worth : Stmt := top 5
abbrev s_TooMany_init : Stmt := inClass (top 8) 0
abbrev s_BadSigns_init : Stmt := inClass (top 9) 0
abbrev s_are_letters : Stmt := top 14
abbrev s_is_word : Stmt := top 15
abbrev s_is_atom : Stmt := top 25
abbrev s_parts_of : Stmt := top 26
abbrev s_is_kind : Stmt := top 27
abbrev s_is_sign : Stmt := top 28
abbrev s_size_within : Stmt := top 29
abbrev s_size_of : Stmt := top 30
abbrev s_is_expression : Stmt := top 31
abbrev s_check_expression : Stmt := top 32
abbrev s_in_parentheses : Stmt := top 40
abbrev s_atom_text : Stmt := top 41
abbrev s_part_text : Stmt := top 42
abbrev s_text_of : Stmt := top 43
abbrev s_expression_text : Stmt := top 44
abbrev s_Frame_init : Stmt := inClass (top 45) 0
abbrev s_Frame_add : Stmt := inClass (top 45) 1
abbrev s_Frame_join : Stmt := inClass (top 45) 2
abbrev s_Frame_part : Stmt := inClass (top 45) 3
abbrev s_Frame_whole : Stmt := inClass (top 45) 4
abbrev s_Text_init : Stmt := inClass (top 46) 0
abbrev s_Text_sign : Stmt := inClass (top 46) 1
abbrev s_Text_fail : Stmt := inClass (top 46) 2
abbrev s_Text_take : Stmt := inClass (top 46) 3
abbrev s_Text_word : Stmt := inClass (top 46) 4
abbrev s_Text_worth : Stmt := inClass (top 46) 5
abbrev s_Text_atom : Stmt := inClass (top 46) 6
abbrev s_Text_begin : Stmt := inClass (top 46) 7
abbrev s_Text_times : Stmt := inClass (top 46) 8
abbrev s_Text_go_on : Stmt := inClass (top 46) 9
abbrev s_Text_read : Stmt := inClass (top 46) 10
abbrev s_read_expression : Stmt := top 47
abbrev s_L_mixed : Stmt := top 49
abbrev s_L_hand : Stmt := top 50
abbrev s_L_draw : Stmt := top 51
abbrev s_L_letters : Stmt := top 52
abbrev s_L_words : Stmt := top 53
abbrev s_L_worths : Stmt := top 54
abbrev s_L_atom : Stmt := top 55
abbrev s_L_expression : Stmt := top 56
abbrev s_L_is_letter : Stmt := top 57
abbrev s_L_lone_text : Stmt := top 58
abbrev s_L_sign_text : Stmt := top 59
abbrev s_L_blanks : Stmt := top 60
abbrev s_L_loose : Stmt := top 61
abbrev s_L_row : Stmt := top 62
abbrev s_L_refusal : Stmt := top 63
abbrev s_L_no_expression : Stmt := top 64
abbrev s_L_written : Stmt := top 65
abbrev s_L_is_read : Stmt := top 66
abbrev s_L_is_right : Stmt := top 67
abbrev s_L_great : Stmt := top 68
abbrev s_L_tower : Stmt := top 69
abbrev s_law : Stmt := top 70
end Y
set_option maxHeartbeats 0
namespace Y
open PySem PySem.Spec PyProof.Rows L2
def d_is_integer : He.DefD := ⟨("is_integer", none), "is_integer", "is_integer", defArgs s_is_integer, defBody s_is_integer, defScope s_is_integer, [], []⟩
def d_is_within : He.DefD := ⟨("is_within", none), "is_within", "is_within", defArgs s_is_within, defBody s_is_within, defScope s_is_within, [], []⟩
def d_is_worth : He.DefD := ⟨("is_worth", none), "is_worth", "is_worth", defArgs s_is_worth, defBody s_is_worth, defScope s_is_worth, [], []⟩
def d_TooMany_init : He.DefD := ⟨("TooMany", some "__init__"), "__init__", "TooMany.__init__", defArgs s_TooMany_init, defBody s_TooMany_init, defScope s_TooMany_init, [], []⟩
def d_BadSigns_init : He.DefD := ⟨("BadSigns", some "__init__"), "__init__", "BadSigns.__init__", defArgs s_BadSigns_init, defBody s_BadSigns_init, defScope s_BadSigns_init, [], []⟩
def d_are_letters : He.DefD := ⟨("are_letters", none), "are_letters", "are_letters", defArgs s_are_letters, defBody s_are_letters, defScope s_are_letters, [], []⟩
def d_is_word : He.DefD := ⟨("is_word", none), "is_word", "is_word", defArgs s_is_word, defBody s_is_word, defScope s_is_word, [], []⟩
def d_is_atom : He.DefD := ⟨("is_atom", none), "is_atom", "is_atom", defArgs s_is_atom, defBody s_is_atom, defScope s_is_atom, [], []⟩
def d_parts_of : He.DefD := ⟨("parts_of", none), "parts_of", "parts_of", defArgs s_parts_of, defBody s_parts_of, defScope s_parts_of, [], []⟩
def d_is_kind : He.DefD := ⟨("is_kind", none), "is_kind", "is_kind", defArgs s_is_kind, defBody s_is_kind, defScope s_is_kind, [], []⟩
def d_is_sign : He.DefD := ⟨("is_sign", none), "is_sign", "is_sign", defArgs s_is_sign, defBody s_is_sign, defScope s_is_sign, [], []⟩
def d_size_within : He.DefD := ⟨("size_within", none), "size_within", "size_within", defArgs s_size_within, defBody s_size_within, defScope s_size_within, [], []⟩
def d_size_of : He.DefD := ⟨("size_of", none), "size_of", "size_of", defArgs s_size_of, defBody s_size_of, defScope s_size_of, [], []⟩
def d_is_expression : He.DefD := ⟨("is_expression", none), "is_expression", "is_expression", defArgs s_is_expression, defBody s_is_expression, defScope s_is_expression, [], []⟩
def d_check_expression : He.DefD := ⟨("check_expression", none), "check_expression", "check_expression", defArgs s_check_expression, defBody s_check_expression, defScope s_check_expression, [], []⟩
def d_in_parentheses : He.DefD := ⟨("in_parentheses", none), "in_parentheses", "in_parentheses", defArgs s_in_parentheses, defBody s_in_parentheses, defScope s_in_parentheses, [], []⟩
def d_atom_text : He.DefD := ⟨("atom_text", none), "atom_text", "atom_text", defArgs s_atom_text, defBody s_atom_text, defScope s_atom_text, [], []⟩
def d_part_text : He.DefD := ⟨("part_text", none), "part_text", "part_text", defArgs s_part_text, defBody s_part_text, defScope s_part_text, [], []⟩
def d_text_of : He.DefD := ⟨("text_of", none), "text_of", "text_of", defArgs s_text_of, defBody s_text_of, defScope s_text_of, [], []⟩
def d_expression_text : He.DefD := ⟨("expression_text", none), "expression_text", "expression_text", defArgs s_expression_text, defBody s_expression_text, defScope s_expression_text, [], []⟩
def d_Frame_init : He.DefD := ⟨("Frame", some "__init__"), "__init__", "Frame.__init__", defArgs s_Frame_init, defBody s_Frame_init, defScope s_Frame_init, [], []⟩
def d_Frame_add : He.DefD := ⟨("Frame", some "add"), "add", "Frame.add", defArgs s_Frame_add, defBody s_Frame_add, defScope s_Frame_add, [], []⟩
def d_Frame_join : He.DefD := ⟨("Frame", some "join"), "join", "Frame.join", defArgs s_Frame_join, defBody s_Frame_join, defScope s_Frame_join, [], []⟩
def d_Frame_part : He.DefD := ⟨("Frame", some "part"), "part", "Frame.part", defArgs s_Frame_part, defBody s_Frame_part, defScope s_Frame_part, [], []⟩
def d_Frame_whole : He.DefD := ⟨("Frame", some "whole"), "whole", "Frame.whole", defArgs s_Frame_whole, defBody s_Frame_whole, defScope s_Frame_whole, [], []⟩
def d_Text_init : He.DefD := ⟨("Text", some "__init__"), "__init__", "Text.__init__", defArgs s_Text_init, defBody s_Text_init, defScope s_Text_init, [], []⟩
def d_Text_sign : He.DefD := ⟨("Text", some "sign"), "sign", "Text.sign", defArgs s_Text_sign, defBody s_Text_sign, defScope s_Text_sign, [], []⟩
def d_Text_fail : He.DefD := ⟨("Text", some "fail"), "fail", "Text.fail", defArgs s_Text_fail, defBody s_Text_fail, defScope s_Text_fail, [], []⟩
def d_Text_take : He.DefD := ⟨("Text", some "take"), "take", "Text.take", defArgs s_Text_take, defBody s_Text_take, defScope s_Text_take, [], []⟩
def d_Text_word : He.DefD := ⟨("Text", some "word"), "word", "Text.word", defArgs s_Text_word, defBody s_Text_word, defScope s_Text_word, [], []⟩
def d_Text_worth : He.DefD := ⟨("Text", some "worth"), "worth", "Text.worth", defArgs s_Text_worth, defBody s_Text_worth, defScope s_Text_worth, [], []⟩
def d_Text_atom : He.DefD := ⟨("Text", some "atom"), "atom", "Text.atom", defArgs s_Text_atom, defBody s_Text_atom, defScope s_Text_atom, [], []⟩
def d_Text_begin : He.DefD := ⟨("Text", some "begin"), "begin", "Text.begin", defArgs s_Text_begin, defBody s_Text_begin, defScope s_Text_begin, [], []⟩
def d_Text_times : He.DefD := ⟨("Text", some "times"), "times", "Text.times", defArgs s_Text_times, defBody s_Text_times, defScope s_Text_times, [], []⟩
def d_Text_go_on : He.DefD := ⟨("Text", some "go_on"), "go_on", "Text.go_on", defArgs s_Text_go_on, defBody s_Text_go_on, defScope s_Text_go_on, [], []⟩
def d_Text_read : He.DefD := ⟨("Text", some "read"), "read", "Text.read", defArgs s_Text_read, defBody s_Text_read, defScope s_Text_read, [], []⟩
def d_read_expression : He.DefD := ⟨("read_expression", none), "read_expression", "read_expression", defArgs s_read_expression, defBody s_read_expression, defScope s_read_expression, [], []⟩
def d_L_mixed : He.DefD := ⟨("_law_mixed", none), "_law_mixed", "_law_mixed", defArgs s_L_mixed, defBody s_L_mixed, defScope s_L_mixed, [], []⟩
def d_L_hand : He.DefD := ⟨("_law_hand", none), "_law_hand", "_law_hand", defArgs s_L_hand, defBody s_L_hand, defScope s_L_hand, [], []⟩
def d_L_draw : He.DefD := ⟨("_law_draw", none), "_law_draw", "_law_draw", defArgs s_L_draw, defBody s_L_draw, defScope s_L_draw, [], []⟩
def d_L_letters : He.DefD := ⟨("_law_letters", none), "_law_letters", "_law_letters", defArgs s_L_letters, defBody s_L_letters, defScope s_L_letters, [], []⟩
def d_L_words : He.DefD := ⟨("_law_words", none), "_law_words", "_law_words", defArgs s_L_words, defBody s_L_words, defScope s_L_words, [], []⟩
def d_L_worths : He.DefD := ⟨("_law_worths", none), "_law_worths", "_law_worths", defArgs s_L_worths, defBody s_L_worths, defScope s_L_worths, [], []⟩
def d_L_atom : He.DefD := ⟨("_law_atom", none), "_law_atom", "_law_atom", defArgs s_L_atom, defBody s_L_atom, defScope s_L_atom, [], []⟩
def d_L_expression : He.DefD := ⟨("_law_expression", none), "_law_expression", "_law_expression", defArgs s_L_expression, defBody s_L_expression, defScope s_L_expression, [], []⟩
def d_L_is_letter : He.DefD := ⟨("_law_is_letter", none), "_law_is_letter", "_law_is_letter", defArgs s_L_is_letter, defBody s_L_is_letter, defScope s_L_is_letter, [], []⟩
def d_L_lone_text : He.DefD := ⟨("_law_lone_text", none), "_law_lone_text", "_law_lone_text", defArgs s_L_lone_text, defBody s_L_lone_text, defScope s_L_lone_text, [], []⟩
def d_L_sign_text : He.DefD := ⟨("_law_sign_text", none), "_law_sign_text", "_law_sign_text", defArgs s_L_sign_text, defBody s_L_sign_text, defScope s_L_sign_text, [], []⟩
def d_L_blanks : He.DefD := ⟨("_law_blanks", none), "_law_blanks", "_law_blanks", defArgs s_L_blanks, defBody s_L_blanks, defScope s_L_blanks, [], []⟩
def d_L_loose : He.DefD := ⟨("_law_loose", none), "_law_loose", "_law_loose", defArgs s_L_loose, defBody s_L_loose, defScope s_L_loose, [], []⟩
def d_L_row : He.DefD := ⟨("_law_row", none), "_law_row", "_law_row", defArgs s_L_row, defBody s_L_row, defScope s_L_row, [], []⟩
def d_L_refusal : He.DefD := ⟨("_law_refusal", none), "_law_refusal", "_law_refusal", defArgs s_L_refusal, defBody s_L_refusal, defScope s_L_refusal, [], []⟩
def d_L_no_expression : He.DefD := ⟨("_law_no_expression", none), "_law_no_expression", "_law_no_expression", defArgs s_L_no_expression, defBody s_L_no_expression, defScope s_L_no_expression, [], []⟩
def d_L_written : He.DefD := ⟨("_law_written", none), "_law_written", "_law_written", defArgs s_L_written, defBody s_L_written, defScope s_L_written, [], []⟩
def d_L_is_read : He.DefD := ⟨("_law_is_read", none), "_law_is_read", "_law_is_read", defArgs s_L_is_read, defBody s_L_is_read, defScope s_L_is_read, [], []⟩
def d_L_is_right : He.DefD := ⟨("_law_is_right", none), "_law_is_right", "_law_is_right", defArgs s_L_is_right, defBody s_L_is_right, defScope s_L_is_right, [], []⟩
def d_L_great : He.DefD := ⟨("_law_great", none), "_law_great", "_law_great", defArgs s_L_great, defBody s_L_great, defScope s_L_great, [], []⟩
def d_L_tower : He.DefD := ⟨("_law_tower", none), "_law_tower", "_law_tower", defArgs s_L_tower, defBody s_L_tower, defScope s_L_tower, [], []⟩
def d_law : He.DefD := ⟨("law", none), "law", "law", defArgs s_law, defBody s_law, defScope s_law, [], []⟩
def fnL : List He.DefD := [d_is_integer, d_is_within, d_is_worth, d_TooMany_init, d_BadSigns_init, d_are_letters, d_is_word, d_is_atom, d_parts_of, d_is_kind, d_is_sign, d_size_within, d_size_of, d_is_expression, d_check_expression, d_in_parentheses, d_atom_text, d_part_text, d_text_of, d_expression_text, d_Frame_init, d_Frame_add, d_Frame_join, d_Frame_part, d_Frame_whole, d_Text_init, d_Text_sign, d_Text_fail, d_Text_take, d_Text_word, d_Text_worth, d_Text_atom, d_Text_begin, d_Text_times, d_Text_go_on, d_Text_read, d_read_expression, d_L_mixed, d_L_hand, d_L_draw, d_L_letters, d_L_words, d_L_worths, d_L_atom, d_L_expression, d_L_is_letter, d_L_lone_text, d_L_sign_text, d_L_blanks, d_L_loose, d_L_row, d_L_refusal, d_L_no_expression, d_L_written, d_L_is_read, d_L_is_right, d_L_great, d_L_tower, d_law]
def tfL : List He.Defn := [("law", none)]
def faL : List He.Fa := [.glo "is_integer", .glo "is_within", .glo "is_worth", .glo "are_letters", .glo "is_word", .glo "is_atom", .glo "parts_of", .glo "is_kind", .glo "is_sign", .glo "size_within", .glo "size_of", .glo "is_expression", .glo "check_expression", .glo "in_parentheses", .glo "atom_text", .glo "part_text", .glo "text_of", .glo "expression_text", .meth "Frame" "add", .meth "Frame" "join", .meth "Frame" "part", .meth "Frame" "whole", .meth "Text" "sign", .meth "Text" "fail", .meth "Text" "take", .meth "Text" "word", .meth "Text" "worth", .meth "Text" "atom", .meth "Text" "begin", .meth "Text" "times", .meth "Text" "go_on", .meth "Text" "read", .glo "read_expression", .glo "_law_mixed", .glo "_law_hand", .glo "_law_draw", .glo "_law_letters", .glo "_law_words", .glo "_law_worths", .glo "_law_atom", .glo "_law_expression", .glo "_law_is_letter", .glo "_law_lone_text", .glo "_law_sign_text", .glo "_law_blanks", .glo "_law_loose", .glo "_law_row", .glo "_law_refusal", .glo "_law_no_expression", .glo "_law_written", .glo "_law_is_read", .glo "_law_is_right", .glo "_law_great", .glo "_law_tower", .glo "law", .glo "StoreError", .glo "TooMany", .glo "BadSigns", .glo "NoPath", .glo "NoExpression", .glo "Frame", .noat "Frame" "kept_last", .noat "Frame" "kept_then", .noat "Frame" "kept_or", .cls "Frame", .mkr "Frame", .glo "Text", .noat "Text" "kept_wanted", .noat "Text" "kept_frames", .noat "Text" "kept_at", .noat "Text" "kept_text", .cls "Text", .mkr "Text", .str "LETTERS" "abcdefghijklmnopqrstuvwxyz", .int "MOST_WORTH" (1000000000000000000), .int "WORD_LETTERS" (2), .int "MOST_DEEP" (30), .int "MOST_SIZE" (300), .int "MOST_TIMES" (9), .glo "SIGNS", .glo "ALONE", .glo "NAMED", .glo "PAIRED", .glo "LONE", .int "MOST_SIGNS" (100000), .str "FIGURES" "0123456789", .int "MOST_FIGURES" (20), .str "TESTS" "<=>", .glo "SIGN_OF", .glo "KIND_OF", .free "abs", .free "all", .free "bool", .free "int", .free "isinstance", .free "len", .free "list", .free "max", .free "min", .free "range", .free "repr", .free "str", .free "sum", .free "tuple", .exc "NoExpression", .meth "BadSigns" "__init__", .noat "BadSigns" "at", .exm "NoExpression" "NoExpression" true]
def tab_SIGN_OF : He.Tab := (fun K => He.ga K "SIGN_OF", ["star", "plus", "maybe"])
def tab_KIND_OF : He.Tab := (fun K => He.ga K "KIND_OF", ["*", "+", "?"])
def tsL : List He.Tab := [tab_SIGN_OF, tab_KIND_OF]
def exL : List (PySem.W.Frag → Bool) := [fun K => He.tupB K "SIGNS" [.str "<", .str "=", .str ">"], fun K => He.tupB K "ALONE" [.str "any", .str "here"], fun K => He.tupB K "NAMED" [.str "word", .str "back"], fun K => He.tupB K "PAIRED" [.str "then", .str "or"], fun K => He.tupB K "LONE" [.str "star", .str "plus", .str "maybe"], fun K => He.valsB K (He.ga K "SIGN_OF") [("star", .str "*"), ("plus", .str "+"), ("maybe", .str "?")], fun K => He.valsB K (He.ga K "KIND_OF") [("*", .str "star"), ("+", .str "plus"), ("?", .str "maybe")], fun K => oexB K (He.ga K "BadSigns"), fun K => fnB K (He.ma K (He.ga K "BadSigns") "__init__"), fun K => xfB K (He.ga K "BadSigns"), fun K => excB K (He.ga K "NoExpression"), fun K => kitB2 K (He.ga K "NoExpression") (He.ga K "StoreError") true, fun K => kitB3 K (He.ga K "NoExpression") (He.ga K "NoPath") (He.ga K "TooMany") false]
abbrev rowR : PySem.W.OpenRow := PySem.W.OpenLaw.row PySem.Challenge.rw_wholeways_k65_whole_expressions_as_texts
abbrev hkH : PySem.W.Hook := He.hookX 5 faL fnL tsL tfL (allEx exL)
end Y
namespace Hd
open PySem PySem.W PySem.Calls PyProof.Rows
set_option maxRecDepth 100000 in
set_option maxHeartbeats 0 in
/-- the top's run, in the library's pieces -/
theorem headT (h : Ws Y.rowR Y.hkH) : PySem.Challenge.rw_wholeways_k65_whole_expressions_as_texts.Holds := by
  w_on; o_law
  o_head (hkP Y.rowR Y.hkH h)
  case hw => w_witness2
  case hc => exact ⟨rfl, rfl, rfl⟩
end Hd
set_option maxHeartbeats 4000000
/-! A layer of my own over HandS: what a program does with DATA (PyData) and with a few objects that change (MH).
Everything tracked that is not in MH stays for ever, so data never needs an address. -/
namespace Y
open PySem PySem.Spec PyProof.Rows L2

/-- a value: data, or the bare value (an address of an object that changes, a class) -/
inductive Xb where
  | d (d : PyData)
  | r (v : V)
/-- .. or a lambda just made: its code object's address, the names it was made among -/
inductive Xv where
  | d (d : PyData)
  | r (v : V)
  | clo (f c : Addr) (q : Str) (σ : List (Option V)) (b : List (Option Xb))
/-- an object that changes -/
inductive MO where
  | lst (xs : List Xv)
  | ins (C : Addr) (fs : List (Str × Xv))
  | dic
  /-- the dict of an exception -/
  | exd (fs : List (Str × Xv))
  /-- a table of code objects of that name -/
  | tbl (q : Str)
abbrev MH := Addr → Option MO
def mset (M : MH) (a : Addr) (o : MO) : MH := fun b => if b = a then some o else M b
theorem mset_same {M : MH} {a : Addr} {o : MO} : mset M a o a = some o := by unfold mset; rw [if_pos rfl]
theorem mset_ne {M : MH} {a b : Addr} {o : MO} (h : b ≠ a) : mset M a o b = M b := by unfold mset; rw [if_neg h]
theorem mset_mset {M : MH} {a : Addr} {o u : MO} : mset (mset M a o) a u = mset M a u := by
  funext b; unfold mset; split <;> rfl
theorem mset_id {M : MH} {a : Addr} {o : MO} (h : M a = some o) : mset M a o = M := by
  funext b; unfold mset; split
  · rename_i e; rw [e, h]
  · rfl

/-! ### data in the heap -/
def LqL (K : PySem.W.Frag) (H : Hp) (M : MH) (a : Addr) (xs : List V) : Prop := (M a = none ∧ Rd H a (.lst xs)) ∨ SqL K (fun _ => none) a xs
def LqT (K : PySem.W.Frag) (H : Hp) (M : MH) (a : Addr) (xs : List V) : Prop := (M a = none ∧ Rd H a (.tup xs)) ∨ SqT K (fun _ => none) a xs
theorem LqL.sq {K : PySem.W.Frag} {H : Hp} {M : MH} {a : Addr} {xs : List V} (h : LqL K H M a xs) : SqL K H a xs := by
  rcases h with ⟨_, h⟩ | h
  · exact Or.inl h
  · rcases h with h | h
    · rcases h with h | ⟨o, h⟩ <;> cases h
    · exact Or.inr h
theorem LqT.sq {K : PySem.W.Frag} {H : Hp} {M : MH} {a : Addr} {xs : List V} (h : LqT K H M a xs) : SqT K H a xs := by
  rcases h with ⟨_, h⟩ | h
  · exact Or.inl h
  · rcases h with h | h
    · rcases h with h | ⟨o, h⟩ <;> cases h
    · exact Or.inr h
mutual
inductive Dq (K : PySem.W.Frag) (H : Hp) (M : MH) : V → PyData → Prop
  | non : Dq K H M .non .none
  | bl (b : Bool) : Dq K H M (.bl b) (.bool b)
  | int (i : Int) : Dq K H M (.int i) (.int i)
  | str (x : Str) : Dq K H M (.str x) (.str x)
  | lst {a : Addr} {xs : List V} {ds : List PyData} : LqL K H M a xs → DqAll K H M xs ds → Dq K H M (.ref a) (.list ds)
  | tup {a : Addr} {xs : List V} {ds : List PyData} : LqT K H M a xs → DqAll K H M xs ds → Dq K H M (.ref a) (.tuple ds)
inductive DqAll (K : PySem.W.Frag) (H : Hp) (M : MH) : List V → List PyData → Prop
  | nil : DqAll K H M [] []
  | cons {v : V} {vs : List V} {d : PyData} {ds : List PyData} : Dq K H M v d → DqAll K H M vs ds → DqAll K H M (v :: vs) (d :: ds)
end
section
variable {K : PySem.W.Frag} {H H' H1 H2 : Hp} {M M' M1 M2 : MH}
mutual
theorem Dq.dp : ∀ {v : V} {d : PyData}, Dq K H M v d → Dp K H v d
  | _, _, .non => .non
  | _, _, .bl b => .bl b
  | _, _, .int i => .int i
  | _, _, .str x => .str x
  | _, _, .lst h ha => .lst h.sq (DqAll.dp ha)
  | _, _, .tup h ha => .tup h.sq (DqAll.dp ha)
theorem DqAll.dp : ∀ {vs : List V} {ds : List PyData}, DqAll K H M vs ds → DpAll K H vs ds
  | _, _, .nil => .nil
  | _, _, .cons h t => .cons (Dq.dp h) (DqAll.dp t)
end

/-- what is not in MH stays -/
structure Stp (H : Hp) (M : MH) (H' : Hp) (M' : MH) : Prop where
  keep : ∀ a o, M a = none → H a = some o → H' a = some o ∧ M' a = none
  there : ∀ a, M a ≠ none → H' a ≠ none
theorem Stp.trans (s : Stp H M H1 M1) (t : Stp H1 M1 H2 M2) : Stp H M H2 M2 where
  keep := fun a o hm h => by
    obtain ⟨h1, m1⟩ := s.keep a o hm h
    exact t.keep a o m1 h1
  there := fun a hm => by
    have h1 := s.there a hm
    cases e : M1 a with
    | some o => exact t.there a (by rw [e]; simp)
    | none =>
      cases e1 : H1 a with
      | none => exact absurd e1 h1
      | some o =>
        have h2 := (t.keep a o e e1).1
        rw [h2]; simp
theorem Rd.step {a : Addr} {u : HO} (s : Stp H M H' M') (hm : M a = none) (h : Rd H a u) : Rd H' a u ∧ M' a = none := by
  rcases h with h | ⟨o, h⟩
  · obtain ⟨e, m⟩ := s.keep _ _ hm h
    exact ⟨Or.inl e, m⟩
  · obtain ⟨e, m⟩ := s.keep _ _ hm h
    exact ⟨Or.inr ⟨o, e⟩, m⟩
theorem LqL.mono {a : Addr} {xs : List V} (s : Stp H M H' M') (h : LqL K H M a xs) : LqL K H' M' a xs := by
  rcases h with ⟨hm, h⟩ | h
  · obtain ⟨e, m⟩ := Rd.step s hm h
    exact Or.inl ⟨m, e⟩
  · exact Or.inr h
theorem LqT.mono {a : Addr} {xs : List V} (s : Stp H M H' M') (h : LqT K H M a xs) : LqT K H' M' a xs := by
  rcases h with ⟨hm, h⟩ | h
  · obtain ⟨e, m⟩ := Rd.step s hm h
    exact Or.inl ⟨m, e⟩
  · exact Or.inr h
mutual
theorem Dq.mono (s : Stp H M H' M') : ∀ {v : V} {d : PyData}, Dq K H M v d → Dq K H' M' v d
  | _, _, .non => .non
  | _, _, .bl b => .bl b
  | _, _, .int i => .int i
  | _, _, .str x => .str x
  | _, _, .lst h ha => .lst (h.mono s) (DqAll.mono s ha)
  | _, _, .tup h ha => .tup (h.mono s) (DqAll.mono s ha)
theorem DqAll.mono (s : Stp H M H' M') : ∀ {vs : List V} {ds : List PyData}, DqAll K H M vs ds → DqAll K H' M' vs ds
  | _, _, .nil => .nil
  | _, _, .cons h t => .cons (Dq.mono s h) (DqAll.mono s t)
end
theorem DqAll.length : ∀ {vs : List V} {ds : List PyData}, DqAll K H M vs ds → vs.length = ds.length
  | _, _, .nil => rfl
  | _, _, .cons _ t => by rw [List.length_cons, List.length_cons, DqAll.length t]
theorem DqAll.get : ∀ {vs : List V} {ds : List PyData} {i : Nat} {d : PyData}, DqAll K H M vs ds → ds[i]? = some d → ∃ v, vs[i]? = some v ∧ Dq K H M v d
  | _, _, _, _, .nil, e => by simp at e
  | _, _, 0, _, .cons h _, e => by simp at e; subst e; exact ⟨_, rfl, h⟩
  | _, _, i + 1, d, .cons _ t, e => by
    obtain ⟨v, h1, h2⟩ := DqAll.get (i := i) (d := d) t (by simpa using e)
    exact ⟨v, by simpa using h1, h2⟩
theorem DqAll.take : ∀ {vs : List V} {ds : List PyData} (n : Nat), DqAll K H M vs ds → DqAll K H M (vs.take n) (ds.take n)
  | _, _, 0, _ => .nil
  | _, _, _ + 1, .nil => .nil
  | _, _, n + 1, .cons h t => .cons h (DqAll.take n t)
theorem DqAll.drop : ∀ {vs : List V} {ds : List PyData} (n : Nat), DqAll K H M vs ds → DqAll K H M (vs.drop n) (ds.drop n)
  | _, _, 0, h => h
  | _, _, _ + 1, .nil => .nil
  | _, _, n + 1, .cons _ t => DqAll.drop n t
theorem DqAll.append : ∀ {vs ws : List V} {ds es : List PyData}, DqAll K H M vs ds → DqAll K H M ws es → DqAll K H M (vs ++ ws) (ds ++ es)
  | _, _, _, _, .nil, s => s
  | _, _, _, _, .cons h t, s => .cons h (DqAll.append t s)

/-! ### values -/
def BOk (K : PySem.W.Frag) (H : Hp) (M : MH) (v : V) : Xb → Prop
  | .d d => Dq K H M v d
  | .r w => v = w
inductive EnvB (K : PySem.W.Frag) (H : Hp) (M : MH) : List (Option V) → List (Option Xb) → Prop
  | nil : EnvB K H M [] []
  | non {o : Option V} {s : List (Option V)} {r : List (Option Xb)} : EnvB K H M s r → EnvB K H M (o :: s) (none :: r)
  | som {v : V} {x : Xb} {s : List (Option V)} {r : List (Option Xb)} : BOk K H M v x → EnvB K H M s r → EnvB K H M (some v :: s) (some x :: r)
theorem EnvB.mono (s : Stp H M H' M') : ∀ {g : List (Option V)} {r : List (Option Xb)}, EnvB K H M g r → EnvB K H' M' g r
  | _, _, .nil => .nil
  | _, _, .non t => .non (EnvB.mono s t)
  | _, _, .som (x := x) h t => .som (match x, h with
    | .d _, h => Dq.mono s h
    | .r _, h => h) (EnvB.mono s t)
def XOk (K : PySem.W.Frag) (H : Hp) (M : MH) (v : V) : Xv → Prop
  | .d d => Dq K H M v d
  | .r w => v = w
  | .clo f c q σ b => v = .ref f ∧ (H c = some (LamX.CodeO c q) ∧ M c = none) ∧ EnvB K H M σ b
theorem XOk.mono {v : V} {x : Xv} (s : Stp H M H' M') (h : XOk K H M v x) : XOk K H' M' v x := by
  cases x with
  | d d => exact Dq.mono s h
  | r w => exact h
  | clo f c q σ b => exact ⟨h.1, s.keep c _ h.2.1.2 h.2.1.1, h.2.2.mono s⟩
inductive XsOk (K : PySem.W.Frag) (H : Hp) (M : MH) : List V → List Xv → Prop
  | nil : XsOk K H M [] []
  | cons {v : V} {x : Xv} {vs : List V} {xs : List Xv} : XOk K H M v x → XsOk K H M vs xs → XsOk K H M (v :: vs) (x :: xs)
theorem XsOk.mono (s : Stp H M H' M') : ∀ {vs : List V} {xs : List Xv}, XsOk K H M vs xs → XsOk K H' M' vs xs
  | _, _, .nil => .nil
  | _, _, .cons h t => .cons (h.mono s) (XsOk.mono s t)
theorem XsOk.length : ∀ {vs : List V} {xs : List Xv}, XsOk K H M vs xs → vs.length = xs.length
  | _, _, .nil => rfl
  | _, _, .cons _ t => by rw [List.length_cons, List.length_cons, XsOk.length t]
theorem XsOk.get : ∀ {vs : List V} {xs : List Xv} {i : Nat} {x : Xv}, XsOk K H M vs xs → xs[i]? = some x → ∃ v, vs[i]? = some v ∧ XOk K H M v x
  | _, _, _, _, .nil, e => by simp at e
  | _, _, 0, _, .cons h _, e => by simp at e; subst e; exact ⟨_, rfl, h⟩
  | _, _, i + 1, x, .cons _ t, e => by
    obtain ⟨v, h1, h2⟩ := XsOk.get (i := i) (x := x) t (by simpa using e)
    exact ⟨v, by simpa using h1, h2⟩
theorem XsOk.set {v : V} {x : Xv} (h : XOk K H M v x) : ∀ {vs : List V} {xs : List Xv} (i : Nat), XsOk K H M vs xs → XsOk K H M (vs.set i v) (xs.set i x)
  | _, _, _, .nil => .nil
  | _, _, 0, .cons _ t => .cons h t
  | _, _, i + 1, .cons q t => .cons q (XsOk.set h i t)
theorem XsOk.append : ∀ {vs ws : List V} {xs ys : List Xv}, XsOk K H M vs xs → XsOk K H M ws ys → XsOk K H M (vs ++ ws) (xs ++ ys)
  | _, _, _, _, .nil, s => s
  | _, _, _, _, .cons h t, s => .cons h (XsOk.append t s)
theorem XsOk.take : ∀ {vs : List V} {xs : List Xv} (n : Nat), XsOk K H M vs xs → XsOk K H M (vs.take n) (xs.take n)
  | _, _, 0, _ => .nil
  | _, _, _ + 1, .nil => .nil
  | _, _, n + 1, .cons h t => .cons h (XsOk.take n t)
theorem XsOk.drop : ∀ {vs : List V} {xs : List Xv} (n : Nat), XsOk K H M vs xs → XsOk K H M (vs.drop n) (xs.drop n)
  | _, _, 0, h => h
  | _, _, _ + 1, .nil => .nil
  | _, _, n + 1, .cons _ t => XsOk.drop n t
theorem XsOk.dropLast : ∀ {vs : List V} {xs : List Xv}, XsOk K H M vs xs → XsOk K H M vs.dropLast xs.dropLast := fun {vs xs} h => by
  rw [List.dropLast_eq_take, List.dropLast_eq_take, h.length]
  exact h.take _
/-- values that are all data -/
theorem XsOk.data : ∀ {vs : List V} {ds : List PyData}, XsOk K H M vs (ds.map .d) → DqAll K H M vs ds
  | _, [], h => by cases h; exact .nil
  | _, d :: ds, h => by
    cases h with
    | cons h t => exact .cons h (XsOk.data t)
theorem XsOk.ofData : ∀ {vs : List V} {ds : List PyData}, DqAll K H M vs ds → XsOk K H M vs (ds.map .d)
  | _, _, .nil => .nil
  | _, _, .cons h t => .cons h (XsOk.ofData t)

/-! ### the frame's names -/
abbrev DEnv := List (Option Xv)
inductive EnvOk (K : PySem.W.Frag) (H : Hp) (M : MH) : List (Option V) → DEnv → Prop
  | nil : EnvOk K H M [] []
  | non {o : Option V} {s : List (Option V)} {r : DEnv} : EnvOk K H M s r → EnvOk K H M (o :: s) (none :: r)
  | som {v : V} {x : Xv} {s : List (Option V)} {r : DEnv} : XOk K H M v x → EnvOk K H M s r → EnvOk K H M (some v :: s) (some x :: r)
theorem EnvOk.mono (s : Stp H M H' M') : ∀ {g : List (Option V)} {r : DEnv}, EnvOk K H M g r → EnvOk K H' M' g r
  | _, _, .nil => .nil
  | _, _, .non t => .non (EnvOk.mono s t)
  | _, _, .som h t => .som (h.mono s) (EnvOk.mono s t)
theorem EnvOk.get : ∀ {g : List (Option V)} {r : DEnv} {i : Nat} {x : Xv}, EnvOk K H M g r → r[i]? = some (some x) → ∃ v, g[i]? = some (some v) ∧ XOk K H M v x
  | _, _, _, _, .nil, e => by simp at e
  | _, _, 0, _, .non _, e => by simp at e
  | _, _, 0, _, .som h _, e => by simp at e; subst e; exact ⟨_, rfl, h⟩
  | _, _, i + 1, x, .non t, e => by
    obtain ⟨v, h1, h2⟩ := EnvOk.get (i := i) (x := x) t (by simpa using e)
    exact ⟨v, by simpa using h1, h2⟩
  | _, _, i + 1, x, .som _ t, e => by
    obtain ⟨v, h1, h2⟩ := EnvOk.get (i := i) (x := x) t (by simpa using e)
    exact ⟨v, by simpa using h1, h2⟩
theorem EnvOk.set {v : V} {x : Xv} (h : XOk K H M v x) : ∀ {g : List (Option V)} {r : DEnv} (i : Nat), EnvOk K H M g r → EnvOk K H M (g.set i (some v)) (r.set i (some x))
  | _, _, _, .nil => .nil
  | _, _, 0, .non t => .som h t
  | _, _, 0, .som _ t => .som h t
  | _, _, i + 1, .non t => .non (EnvOk.set h i t)
  | _, _, i + 1, .som q t => .som q (EnvOk.set h i t)
theorem EnvOk.unset : ∀ {g : List (Option V)} {r : DEnv} (i : Nat) (o : Option V), EnvOk K H M g r → EnvOk K H M (g.set i o) (r.set i none)
  | _, _, _, _, .nil => .nil
  | _, _, 0, _, .non t => .non t
  | _, _, 0, _, .som _ t => .non t
  | _, _, i + 1, o, .non t => .non (EnvOk.unset i o t)
  | _, _, i + 1, o, .som q t => .som q (EnvOk.unset i o t)
theorem EnvOk.forget : ∀ {g : List (Option V)} {r : DEnv} (i : Nat), EnvOk K H M g r → EnvOk K H M g (r.set i none)
  | _, _, _, .nil => .nil
  | _, _, 0, .non t => .non t
  | _, _, 0, .som _ t => .non t
  | _, _, i + 1, .non t => .non (EnvOk.forget i t)
  | _, _, i + 1, .som q t => .som q (EnvOk.forget i t)
def wipeX (r : DEnv) : List Nat → DEnv
  | [] => r
  | v :: vs => (wipeX r vs).set v none
theorem EnvOk.wipe {g : List (Option V)} {r : DEnv} (h : EnvOk K H M g r) : ∀ vs : List Nat, EnvOk K H M (L2.wipe g vs) (wipeX r vs)
  | [] => h
  | v :: vs => EnvOk.unset v none (EnvOk.wipe h vs)
def startX (N : List Str) (xs : List Xv) : DEnv := xs.map some ++ List.replicate (N.length - xs.length) none
theorem EnvOk.nones (n : Nat) : EnvOk K H M (List.replicate n none) (List.replicate n none) := by
  induction n with
  | zero => exact .nil
  | succ n ih => exact .non ih
theorem EnvOk.front : ∀ {vs : List V} {xs : List Xv} {g : List (Option V)} {r : DEnv}, XsOk K H M vs xs → EnvOk K H M g r → EnvOk K H M (vs.map some ++ g) (xs.map some ++ r)
  | _, _, _, _, .nil, s => s
  | _, _, _, _, .cons h t, s => .som h (EnvOk.front t s)
theorem EnvOk.start {N : List Str} {vs : List V} {xs : List Xv} (h : XsOk K H M vs xs) : EnvOk K H M (L2.start N vs) (startX N xs) := by
  unfold L2.start startX
  rw [h.length]
  exact EnvOk.front h (EnvOk.nones _)

/-! ### the objects that change -/
inductive FsOk (K : PySem.W.Frag) (H : Hp) (M : MH) : List (Str × V) → List (Str × Xv) → Prop
  | nil : FsOk K H M [] []
  | cons {n : Str} {v : V} {x : Xv} {vs : List (Str × V)} {xs : List (Str × Xv)} : XOk K H M v x → FsOk K H M vs xs → FsOk K H M ((n, v) :: vs) ((n, x) :: xs)
theorem FsOk.mono (s : Stp H M H' M') : ∀ {vs : List (Str × V)} {xs : List (Str × Xv)}, FsOk K H M vs xs → FsOk K H' M' vs xs
  | _, _, .nil => .nil
  | _, _, .cons h t => .cons (h.mono s) (FsOk.mono s t)
theorem FsOk.length : ∀ {vs : List (Str × V)} {xs : List (Str × Xv)}, FsOk K H M vs xs → vs.length = xs.length
  | _, _, .nil => rfl
  | _, _, .cons _ t => by rw [List.length_cons, List.length_cons, FsOk.length t]
theorem FsOk.look : ∀ {vs : List (Str × V)} {xs : List (Str × Xv)} {f : Str} {x : Xv}, FsOk K H M vs xs → xs.lookup f = some x → ∃ v, vs.lookup f = some v ∧ XOk K H M v x
  | _, _, _, _, .nil, e => by cases e
  | (n, v) :: vs, (_, y) :: xs, f, x, .cons h t, e => by
    have e1 : (match f == n with | true => some y | false => xs.lookup f) = some x := e
    show ∃ w, (match f == n with | true => some v | false => vs.lookup f) = some w ∧ XOk K H M w x
    cases q : f == n with
    | true =>
      rw [q] at e1
      cases e1
      exact ⟨v, rfl, h⟩
    | false =>
      rw [q] at e1
      exact FsOk.look t e1
theorem FsOk.lookN : ∀ {vs : List (Str × V)} {xs : List (Str × Xv)} {f : Str}, FsOk K H M vs xs → xs.lookup f = none → vs.lookup f = none
  | _, _, _, .nil, _ => rfl
  | (n, v) :: vs, (_, y) :: xs, f, .cons h t, e => by
    have e1 : (match f == n with | true => some y | false => xs.lookup f) = none := e
    show (match f == n with | true => some v | false => vs.lookup f) = none
    cases q : f == n with
    | true => rw [q] at e1; cases e1
    | false =>
      rw [q] at e1
      exact FsOk.lookN t e1
def putX (f : Str) (v : Xv) : List (Str × Xv) → List (Str × Xv)
  | [] => [(f, v)]
  | (g, w) :: r => if g = f then (g, v) :: r else (g, w) :: putX f v r
end
end Y
set_option maxHeartbeats 4000000
namespace Y
open PySem PySem.Spec PyProof.Rows L2
section
variable {K : PySem.W.Frag} {H H' H1 H2 : Hp} {M M' M1 M2 : MH}
theorem FsOk.put {f : Str} {v : V} {x : Xv} (h : XOk K H M v x) : ∀ {vs : List (Str × V)} {xs : List (Str × Xv)}, FsOk K H M vs xs → FsOk K H M (putF f v vs) (putX f x xs)
  | _, _, .nil => .cons h .nil
  | (n, w) :: vs, (_, y) :: xs, .cons q t => by
    show FsOk K H M (if n = f then (n, v) :: vs else (n, w) :: putF f v vs) (if n = f then (n, x) :: xs else (n, y) :: putX f x xs)
    by_cases e : n = f
    · rw [if_pos e, if_pos e]; exact .cons h t
    · rw [if_neg e, if_neg e]; exact .cons q (FsOk.put h t)
def MO1 (K : PySem.W.Frag) (H : Hp) (M : MH) (a : Addr) : MO → Prop
  | .lst xs => ∃ vs, H a = some (.lst vs) ∧ XsOk K H M vs xs
  | .ins C fs => ∃ dx vfs, H a = some (.ins C dx vfs) ∧ FsOk K H M vfs fs
  | .dic => H a = some (.dK [])
  | .exd fs => ∃ vfs, H a = some (.xd vfs) ∧ FsOk K H M vfs fs
  | .tbl q => ∃ ps : Array Value, H a = some (.tbl ps) ∧ TriplesOk ps.toList ∧ ∀ (pos : Pos) (cv : Value), codeAmong pos ps.toList = some cv → ∃ c, cv = .ref c ∧ H c = some (LamX.CodeO c q) ∧ M c = none
def MOk (K : PySem.W.Frag) (H : Hp) (M : MH) : Prop := ∀ a o, M a = some o → MO1 K H M a o
theorem MO1.some {a : Addr} {o : MO} (h : MO1 K H M a o) : H a ≠ none := by
  cases o with
  | lst xs => obtain ⟨vs, e, _⟩ := h; rw [e]; simp
  | ins C fs => obtain ⟨dx, vfs, e, _⟩ := h; rw [e]; simp
  | dic => have e : H a = Option.some (.dK []) := h; rw [e]; simp
  | exd fs => obtain ⟨vfs, e, _⟩ := h; rw [e]; simp
  | tbl q => obtain ⟨ps, e, _⟩ := h; rw [e]; simp
theorem MOk.there (h : MOk K H M) {a : Addr} (e : M a ≠ none) : H a ≠ none := by
  cases q : M a with
  | none => exact absurd q e
  | some o => exact (h a o q).some
theorem MOk.gone (h : MOk K H M) {p : Addr} (e : H p = none) : M p = none := by
  cases q : M p with
  | none => rfl
  | some o => exact absurd e ((h p o q).some)
theorem Stp.refl (h : MOk K H M) : Stp H M H M := ⟨fun a o hm e => ⟨e, hm⟩, fun a e => h.there e⟩
theorem Stp.fresh (s : Stp H M H' M') {p : Addr} (h : H' p = none) : H p = none := by
  cases q : M p with
  | some o => exact absurd h (s.there p (by rw [q]; simp))
  | none =>
    cases e : H p with
    | none => rfl
    | some o => rw [(s.keep p o q e).1] at h; cases h
/-- the same object, a step further -/
theorem MO1.mono {a : Addr} {o : MO} (s : Stp H M H' M') (e : H' a = H a) (h : MO1 K H M a o) : MO1 K H' M' a o := by
  cases o with
  | lst xs => obtain ⟨vs, q, r⟩ := h; exact ⟨vs, e.trans q, r.mono s⟩
  | ins C fs => obtain ⟨dx, vfs, q, r⟩ := h; exact ⟨dx, vfs, e.trans q, r.mono s⟩
  | dic => exact e.trans h
  | exd fs => obtain ⟨vfs, q, r⟩ := h; exact ⟨vfs, e.trans q, r.mono s⟩
  | tbl q =>
    obtain ⟨ps, h1, h2, h3⟩ := h
    exact ⟨ps, e.trans h1, h2, fun pos cv hc => let ⟨c, c1, c2, c3⟩ := h3 pos cv hc; ⟨c, c1, s.keep c _ c3 c2⟩⟩
/-- a new object that does not change -/
theorem Stp.new {p : Addr} {o : HO} (h : MOk K H M) (hp : H p = none) : Stp H M (upd H p o) M where
  keep := fun a u hm e => ⟨by rw [upd_ne (ne_of_none e hp)]; exact e, hm⟩
  there := fun a e => by
    by_cases q : a = p
    · rw [q, upd_same]; simp
    · rw [upd_ne q]; exact h.there e
theorem MOk.new {p : Addr} {o : HO} (h : MOk K H M) (hp : H p = none) : MOk K (upd H p o) M := fun a u e =>
  (h a u e).mono (Stp.new h hp) (upd_ne (fun q => by rw [q] at e; rw [h.gone hp] at e; cases e))
/-- an object that changes: new, or changed -/
theorem Stp.put {p : Addr} {o : HO} {u : MO} (h : MOk K H M) (hp : H p = none ∨ M p ≠ none) : Stp H M (upd H p o) (mset M p u) where
  keep := fun a w hm e => by
    have q : a ≠ p := fun z => by
      subst z
      rcases hp with hp | hp
      · rw [hp] at e; cases e
      · exact hp hm
    exact ⟨by rw [upd_ne q]; exact e, by rw [mset_ne q]; exact hm⟩
  there := fun a e => by
    by_cases q : a = p
    · rw [q, upd_same]; simp
    · rw [upd_ne q]; exact h.there e
theorem MOk.put {p : Addr} {o : HO} {u : MO} (h : MOk K H M) (hp : H p = none ∨ M p ≠ none) (new : MO1 K (upd H p o) (mset M p u) p u) : MOk K (upd H p o) (mset M p u) := fun a w e => by
  by_cases q : a = p
  · subst q
    rw [mset_same] at e
    cases e
    exact new
  · rw [mset_ne q] at e
    exact (h a w e).mono (Stp.put h hp) (upd_ne q)
/-- some of the objects are let go: they are data from now on, or nothing at all -/
def Less (M M' : MH) : Prop := ∀ a, M' a = M a ∨ M' a = none
theorem Less.refl : Less M M := fun _ => Or.inl rfl
theorem Stp.less (h : MOk K H M) (l : Less M M') : Stp H M H M' where
  keep := fun a o hm e => ⟨e, by rcases l a with q | q <;> rw [q]; exact hm⟩
  there := fun a e => h.there e
theorem MOk.less (h : MOk K H M) (l : Less M M') : MOk K H M' := fun a o e => by
  rcases l a with q | q
  · exact (h a o (q ▸ e)).mono (Stp.less h l) rfl
  · rw [q] at e; cases e
/-- a list that changed becomes data -/
theorem XOk.frz {p : Addr} {ds : List PyData} (h : MOk K H M) (l : Less M M') (e : M p = some (.lst (ds.map .d))) (e' : M' p = none) : XOk K H M' (.ref p) (.d (.list ds)) := by
  obtain ⟨vs, q, r⟩ := h p _ e
  exact Dq.lst (Or.inl ⟨e', Or.inl q⟩) (DqAll.mono (Stp.less h l) r.data)

/-! ### what an expression, a test, arguments come to -/
/-- the class of an exception, its dict, the objects -/
abbrev PX := Value → Option Addr → MH → Prop
abbrev DR := Xv → MH → Prop
abbrev DX := DEnv → MH → DR → PX → Prop
abbrev DT := DEnv → MH → (Bool → MH → Prop) → PX → Prop
abbrev DA := DEnv → MH → (List Xv → MH → Prop) → PX → Prop
/-- what the frame hands on of an exception -/
def EHyp (K : PySem.W.Frag) (E : XK) (H : Hp) (M : MH) (P : PX) : Prop := ∀ cls d H' M', Stp H M H' M' → MOk K H' M' → P cls d M' → E cls d H'
theorem EHyp.mono {E : XK} {P : PX} (s : Stp H M H' M') (h : EHyp K E H M P) : EHyp K E H' M' P := fun cls d H2 M2 t => h cls d H2 M2 (s.trans t)
theorem EHyp.no {E : XK} : EHyp K E H M (fun _ _ _ => False) := fun _ _ _ _ _ _ z => z.elim
def SimX (K : PySem.W.Frag) (E : XK) (te : TE) (t : DX) : Prop := ∀ (g : L2.St) (H : Hp) (r : DEnv) (M : MH) (R : DR) (P : PX) (Q : VK), EnvOk K H M g r → MOk K H M → t r M R P →
  (∀ v x H' M', Stp H M H' M' → MOk K H' M' → XOk K H' M' v x → R x M' → Q v H') → EHyp K E H M P → te g H Q
def SimT (K : PySem.W.Frag) (E : XK) (te : TT) (t : DT) : Prop := ∀ (g : L2.St) (H : Hp) (r : DEnv) (M : MH) (R : Bool → MH → Prop) (P : PX) (Q : Bool → Hp → Prop), EnvOk K H M g r → MOk K H M → t r M R P →
  (∀ b H' M', Stp H M H' M' → MOk K H' M' → R b M' → Q b H') → EHyp K E H M P → te g H Q
def SimA (K : PySem.W.Frag) (E : XK) (te : TA) (t : DA) : Prop := ∀ (g : L2.St) (H : Hp) (r : DEnv) (M : MH) (R : List Xv → MH → Prop) (P : PX) (Q : List V → Hp → Prop), EnvOk K H M g r → MOk K H M → t r M R P →
  (∀ vs xs H' M', Stp H M H' M' → MOk K H' M' → XsOk K H' M' vs xs → R xs M' → Q vs H') → EHyp K E H M P → te g H Q
structure QE (X : Cx) (E : XK) (e : Expr) (t : DX) : Prop where
  ex : ∃ te, PE X e te ∧ SimX X.K E te t
structure QT (X : Cx) (E : XK) (e : Expr) (t : DT) : Prop where
  ex : ∃ te, PT X e te ∧ SimT X.K E te t
structure QW (X : Cx) (E : XK) (e : Expr) (t : DT) : Prop where
  ex : ∃ te, PW X e te ∧ SimT X.K E te t
structure QA (X : Cx) (E : XK) (es : List Expr) (t : DA) : Prop where
  ex : ∃ ta, PA X es ta ∧ SimA X.K E ta t
theorem QW.qt {X : Cx} {E : XK} {e : Expr} {t : DT} (h : QW X E e t) : QT X E e t := by
  obtain ⟨te, h1, h2⟩ := h.ex
  exact ⟨te, h1.pt, h2⟩

/-! ### operations on values -/
abbrev D2 := Xv → Xv → MH → DR → PX → Prop
def SimO (K : PySem.W.Frag) (E : XK) (r : R2) (t : D2) : Prop := ∀ (H : Hp) (M : MH) (v u : V) (x y : Xv) (R : DR) (P : PX) (Q : VK), MOk K H M → XOk K H M v x → XOk K H M u y → t x y M R P →
  (∀ w z H' M', Stp H M H' M' → MOk K H' M' → XOk K H' M' w z → R z M' → Q w H') → EHyp K E H M P → r v u H Q
/-- an operation by values: f is binaryOp op, compareOp op, .. -/
structure QO (X : Cx) (E : XK) (f : Value → Value → Sem Value) (t : D2) : Prop where
  ex : ∃ r, OpR X f r ∧ SimO X.K E r t
structure QI (X : Cx) (E : XK) (t : D2) : Prop where
  ex : ∃ r, IxR X r ∧ SimO X.K E r t
/-- two rules for one operation -/
theorem QO.or {X : Cx} {E : XK} {f : Value → Value → Sem Value} {t u : D2} (h : QO X E f t) (h' : QO X E f u) : QO X E f (fun x y M R P => t x y M R P ∨ u x y M R P) := by
  obtain ⟨r1, o1, s1⟩ := h.ex
  obtain ⟨r2, o2, s2⟩ := h'.ex
  refine ⟨_, o1.or o2, fun H M v u x y R P Q hm hx hy ht k e => ?_⟩
  rcases ht with ht | ht
  · exact Or.inl (s1 H M v u x y R P Q hm hx hy ht k e)
  · exact Or.inr (s2 H M v u x y R P Q hm hx hy ht k e)
theorem QI.or {X : Cx} {E : XK} {t u : D2} (h : QI X E t) (h' : QI X E u) : QI X E (fun x y M R P => t x y M R P ∨ u x y M R P) := by
  obtain ⟨r1, o1, s1⟩ := h.ex
  obtain ⟨r2, o2, s2⟩ := h'.ex
  refine ⟨_, o1.or o2, fun H M v u x y R P Q hm hx hy ht k e => ?_⟩
  rcases ht with ht | ht
  · exact Or.inl (s1 H M v u x y R P Q hm hx hy ht k e)
  · exact Or.inr (s2 H M v u x y R P Q hm hx hy ht k e)
/-- a stronger reading -/
theorem QO.imp {X : Cx} {E : XK} {f : Value → Value → Sem Value} {t u : D2} (h : QO X E f t) (q : ∀ x y M R P, u x y M R P → t x y M R P) : QO X E f u := by
  obtain ⟨r1, o1, s1⟩ := h.ex
  exact ⟨r1, o1, fun H M v u x y R P Q hm hx hy ht k e => s1 H M v u x y R P Q hm hx hy (q _ _ _ _ _ ht) k e⟩
theorem QI.imp {X : Cx} {E : XK} {t u : D2} (h : QI X E t) (q : ∀ x y M R P, u x y M R P → t x y M R P) : QI X E u := by
  obtain ⟨r1, o1, s1⟩ := h.ex
  exact ⟨r1, o1, fun H M v u x y R P Q hm hx hy ht k e => s1 H M v u x y R P Q hm hx hy (q _ _ _ _ _ ht) k e⟩
end
section
variable {X : Cx} {E : XK} {a b c e : Expr} {es : List Expr} {da db dc dd : DX} {tA tB : DT} {pos : Pos}

/-! ### names, constants -/
def dVar (i : Nat) : DX := fun r M R _ => match r[i]? with
  | some (some x) => R x M
  | _ => False
def dC (x : Xv) : DX := fun _ M R _ => R x M
theorem q_v (i : Nat) {x : Str} (h : PE X (.Name x pos) (tVar i)) : QE X E (.Name x pos) (dVar i) := by
  refine ⟨_, h, fun g H r M R P Q he hm ht k _ => ?_⟩
  unfold dVar at ht
  split at ht
  · rename_i y q
    obtain ⟨v, h1, h2⟩ := he.get q
    exact ⟨v, h1, k v y H M (.refl hm) hm h2 ht⟩
  · exact ht.elim
/-- a name that is no local one of the frame: its value is known -/
theorem q_c {v : V} {x : Xv} (h : PE X e (tC v)) (hx : ∀ H M, XOk X.K H M v x) : QE X E e (dC x) :=
  ⟨_, h, fun g H r M R P Q he hm ht k _ => k v x H M (.refl hm) hm (hx H M) ht⟩
theorem q_int {i : Int} {j} : QE X E (.Constant (.int i) j pos) (dC (.d (.int i))) := q_c pe_int fun _ _ => .int i
theorem q_bl {i : Bool} {j} : QE X E (.Constant (.bool i) j pos) (dC (.d (.bool i))) := q_c pe_bl fun _ _ => .bl i
theorem q_non {j} : QE X E (.Constant .none j pos) (dC (.d .none)) := q_c pe_non fun _ _ => .non
theorem q_str {x : Str} {j} : QE X E (.Constant (.str x) j pos) (dC (.d (.str x))) := q_c pe_str fun _ _ => .str x

/-! ### operators -/
def dOp (t : D2) (da db : DX) : DX := fun r M R P => da r M (fun x M1 => db r M1 (fun y M2 => t x y M2 R P) P) P
theorem simOp {K : PySem.W.Frag} {ta tb : TE} {o : R2} {t : D2} (ha : SimX K E ta da) (hb : SimX K E tb db) (ho : SimO K E o t) : SimX K E (tOp o ta tb) (dOp t da db) := by
  intro g H r M R P Q he hm ht k ex
  refine ha g H r M _ P _ he hm ht (fun v x H1 M1 s1 m1 x1 q1 => ?_) ex
  refine hb g H1 r M1 _ P _ (he.mono s1) m1 q1 (fun u y H2 M2 s2 m2 x2 q2 => ?_) (ex.mono s1)
  exact ho H2 M2 v u x y R P Q m2 (x1.mono s2) x2 q2 (fun w z H3 M3 s3 m3 x3 q3 => k w z H3 M3 ((s1.trans s2).trans s3) m3 x3 q3) (ex.mono (s1.trans s2))
theorem q_op {op : Operator} {t : D2} (ho : QO X E (binaryOp op) t) (ha : QE X E a da) (hb : QE X E b db) : QE X E (.BinOp a op b pos) (dOp t da db) := by
  obtain ⟨o, o1, o2⟩ := ho.ex
  obtain ⟨ta, a1, a2⟩ := ha.ex
  obtain ⟨tb, b1, b2⟩ := hb.ex
  exact ⟨_, pe_op o1 a1 b1, simOp a2 b2 o2⟩
theorem q_cmp {op : CmpOp} {t : D2} (ho : QO X E (compareOp op) t) (ha : QE X E a da) (hb : QE X E b db) (hm : behindInMarks op b = false) : QE X E (.Compare a [op] [b] pos) (dOp t da db) := by
  obtain ⟨o, o1, o2⟩ := ho.ex
  obtain ⟨ta, a1, a2⟩ := ha.ex
  obtain ⟨tb, b1, b2⟩ := hb.ex
  exact ⟨_, pe_cmpR o1 a1 b1 hm, simOp a2 b2 o2⟩
theorem q_ix {t : D2} (ho : QI X E t) (ha : QE X E a da) (hb : QE X E b db) (hs : PlainIx b) : QE X E (.Subscript a b pos) (dOp t da db) := by
  obtain ⟨o, o1, o2⟩ := ho.ex
  obtain ⟨ta, a1, a2⟩ := ha.ex
  obtain ⟨tb, b1, b2⟩ := hb.ex
  exact ⟨_, pe_ix o1 a1 b1 hs, simOp a2 b2 o2⟩
/-- a value that is a bool, as a test -/
def dB (da : DX) : DT := fun r M R P => da r M (fun x M1 => match x with
  | .d (.bool k) => R k M1
  | _ => False) P
theorem simB {K : PySem.W.Frag} {ta : TE} (ha : SimX K E ta da) : SimT K E (tTest ta) (dB da) := by
  intro g H r M R P Q he hm ht k ex
  refine ha g H r M _ P _ he hm ht (fun v x H1 M1 s1 m1 x1 q1 => ?_) ex
  split at q1
  · cases x1
    exact ⟨_, rfl, k _ H1 M1 s1 m1 q1⟩
  · exact q1.elim
theorem qt_cmp {op : CmpOp} {t : D2} (ho : QO X E (compareOp op) t) (ha : QE X E a da) (hb : QE X E b db) (hm : behindInMarks op b = false) : QT X E (.Compare a [op] [b] pos) (dB (dOp t da db)) := by
  obtain ⟨o, o1, o2⟩ := ho.ex
  obtain ⟨ta, a1, a2⟩ := ha.ex
  obtain ⟨tb, b1, b2⟩ := hb.ex
  exact ⟨_, pt_cmpR o1 a1 b1 hm, simB (simOp a2 b2 o2)⟩
theorem qt_val (ha : QE X E e da) (he : ∀ whole, isTrue e X.env whole = (do let v ← whole; standAt e.pos; holding [v] (truthy v)) := by intro _; rfl) : QT X E e (dB da) := by
  obtain ⟨ta, a1, a2⟩ := ha.ex
  exact ⟨_, pt_val a1 he, simB a2⟩
/-- a op1 b op2 c -/
def dChain (t u : D2) (da db dc : DX) : DX := fun r M R P => da r M (fun x M1 => db r M1 (fun y M2 => t x y M2 (fun z M3 => match z with
  | .d (.bool k) => if k = true then dc r M3 (fun w M4 => u y w M4 R P) P else R (.d (.bool false)) M3
  | _ => False) P) P) P
theorem simChain {K : PySem.W.Frag} {ta tb tc : TE} {o o' : R2} {t u : D2} (ha : SimX K E ta da) (hb : SimX K E tb db) (hc : SimX K E tc dc) (ho : SimO K E o t) (ho' : SimO K E o' u) : SimX K E (tChain o o' ta tb tc) (dChain t u da db dc) := by
  intro g H r M R P Q he hm ht k ex
  refine ha g H r M _ P _ he hm ht (fun v x H1 M1 s1 m1 x1 q1 => ?_) ex
  refine hb g H1 r M1 _ P _ (he.mono s1) m1 q1 (fun u y H2 M2 s2 m2 x2 q2 => ?_) (ex.mono s1)
  have s12 := s1.trans s2
  refine ho H2 M2 v u x y _ P _ m2 (x1.mono s2) x2 q2 (fun w z H3 M3 s3 m3 x3 q3 => ?_) (ex.mono s12)
  have s13 := s12.trans s3
  split at q3
  · rename_i k'
    cases x3
    refine ⟨k', rfl, ?_⟩
    cases k' with
    | true =>
      rw [if_pos rfl] at q3 ⊢
      refine hc g H3 r M3 _ P _ (he.mono s13) m3 q3 (fun w' z' H4 M4 s4 m4 x4 q4 => ?_) (ex.mono s13)
      exact ho' H4 M4 u w' y z' R P Q m4 ((x2.mono s3).mono s4) x4 q4 (fun w2 z2 H5 M5 s5 m5 x5 q5 => k w2 z2 H5 M5 ((s13.trans s4).trans s5) m5 x5 q5) (ex.mono (s13.trans s4))
    | false =>
      rw [if_neg Bool.false_ne_true] at q3 ⊢
      exact k (.bl false) (.d (.bool false)) H3 M3 s13 m3 (Dq.bl false) q3
  · exact q3.elim
theorem q_chain {op op' : CmpOp} {t u : D2} (ho : QO X E (compareOp op) t) (ho' : QO X E (compareOp op') u) (ha : QE X E a da) (hb : QE X E b db) (hc : QE X E c dc) (hm : lastMarks [op, op'] [b, c] = false := by with_unfolding_all rfl) :
    QE X E (.Compare a [op, op'] [b, c] pos) (dChain t u da db dc) := by
  obtain ⟨o, o1, o2⟩ := ho.ex
  obtain ⟨o', o1', o2'⟩ := ho'.ex
  obtain ⟨ta, a1, a2⟩ := ha.ex
  obtain ⟨tb, b1, b2⟩ := hb.ex
  obtain ⟨tc, c1, c2⟩ := hc.ex
  exact ⟨_, pe_chain o1 o1' a1 b1 c1 hm, simChain a2 b2 c2 o2 o2'⟩
theorem qt_chain {op op' : CmpOp} {t u : D2} (ho : QO X E (compareOp op) t) (ho' : QO X E (compareOp op') u) (ha : QE X E a da) (hb : QE X E b db) (hc : QE X E c dc) (hm : lastMarks [op, op'] [b, c] = false := by with_unfolding_all rfl) :
    QT X E (.Compare a [op, op'] [b, c] pos) (dB (dChain t u da db dc)) := by
  obtain ⟨o, o1, o2⟩ := ho.ex
  obtain ⟨o', o1', o2'⟩ := ho'.ex
  obtain ⟨ta, a1, a2⟩ := ha.ex
  obtain ⟨tb, b1, b2⟩ := hb.ex
  obtain ⟨tc, c1, c2⟩ := hc.ex
  exact ⟨_, pt_chain o1 o1' a1 b1 c1 hm, simB (simChain a2 b2 c2 o2 o2')⟩

/-! ### and, or, not -/
def dAnd (t u : DT) : DT := fun r M R P => t r M (fun b M1 => if b = true then u r M1 R P else R false M1) P
def dOr (t u : DT) : DT := fun r M R P => t r M (fun b M1 => if b = true then R true M1 else u r M1 R P) P
def dNot (t : DT) : DT := fun r M R P => t r M (fun b M1 => R (!b) M1) P
theorem qw_and1 (ha : QT X E a tA) : QW X E (.BoolOp .And [a] pos) tA := by
  obtain ⟨ta, a1, a2⟩ := ha.ex
  exact ⟨_, pw_and1 a1, a2⟩
theorem qw_or1 (ha : QT X E a tA) : QW X E (.BoolOp .Or [a] pos) tA := by
  obtain ⟨ta, a1, a2⟩ := ha.ex
  exact ⟨_, pw_or1 a1, a2⟩
theorem qw_and (ha : QT X E a tA) (hb : QW X E (.BoolOp .And (b :: es) pos) tB) : QW X E (.BoolOp .And (a :: b :: es) pos) (dAnd tA tB) := by
  obtain ⟨ta, a1, a2⟩ := ha.ex
  obtain ⟨tb, b1, b2⟩ := hb.ex
  refine ⟨_, pw_and a1 b1, fun g H r M R P Q he hm ht k ex => ?_⟩
  refine a2 g H r M _ P _ he hm ht (fun c H1 M1 s1 m1 q1 => ?_) ex
  cases c with
  | true =>
    rw [if_pos rfl] at q1 ⊢
    exact b2 g H1 r M1 R P Q (he.mono s1) m1 q1 (fun b H2 M2 s2 m2 q2 => k b H2 M2 (s1.trans s2) m2 q2) (ex.mono s1)
  | false =>
    rw [if_neg Bool.false_ne_true] at q1 ⊢
    exact k _ H1 M1 s1 m1 q1
theorem qw_or (ha : QT X E a tA) (hb : QW X E (.BoolOp .Or (b :: es) pos) tB) : QW X E (.BoolOp .Or (a :: b :: es) pos) (dOr tA tB) := by
  obtain ⟨ta, a1, a2⟩ := ha.ex
  obtain ⟨tb, b1, b2⟩ := hb.ex
  refine ⟨_, pw_or a1 b1, fun g H r M R P Q he hm ht k ex => ?_⟩
  refine a2 g H r M _ P _ he hm ht (fun c H1 M1 s1 m1 q1 => ?_) ex
  cases c with
  | true =>
    rw [if_pos rfl] at q1 ⊢
    exact k _ H1 M1 s1 m1 q1
  | false =>
    rw [if_neg Bool.false_ne_true] at q1 ⊢
    exact b2 g H1 r M1 R P Q (he.mono s1) m1 q1 (fun b H2 M2 s2 m2 q2 => k b H2 M2 (s1.trans s2) m2 q2) (ex.mono s1)
theorem qt_not (ha : QT X E a tA) : QT X E (.UnaryOp .Not a pos) (dNot tA) := by
  obtain ⟨ta, a1, a2⟩ := ha.ex
  exact ⟨_, pt_not a1, fun g H r M R P Q he hm ht k ex => a2 g H r M _ P _ he hm ht (fun c H1 M1 s1 m1 q1 => k _ H1 M1 s1 m1 q1) ex⟩
/-- as values -/
def dAndV (da db : DX) : DX := fun r M R P => da r M (fun x M1 => match x with
  | .d (.bool k) => if k = true then db r M1 R P else R (.d (.bool false)) M1
  | _ => False) P
def dOrV (da db : DX) : DX := fun r M R P => da r M (fun x M1 => match x with
  | .d (.bool k) => if k = true then R (.d (.bool true)) M1 else db r M1 R P
  | _ => False) P
def dNotV (da : DX) : DX := fun r M R P => da r M (fun x M1 => match x with
  | .d (.bool k) => R (.d (.bool (!k))) M1
  | _ => False) P
theorem q_one {op} (ha : QE X E a da) : QE X E (.BoolOp op [a] pos) da := by
  obtain ⟨ta, a1, a2⟩ := ha.ex
  exact ⟨_, pe_one a1, a2⟩
theorem q_and (ha : QE X E a da) (hb : QE X E (.BoolOp .And (b :: es) pos) db) : QE X E (.BoolOp .And (a :: b :: es) pos) (dAndV da db) := by
  obtain ⟨ta, a1, a2⟩ := ha.ex
  obtain ⟨tb, b1, b2⟩ := hb.ex
  refine ⟨_, pe_and a1 b1, fun g H r M R P Q he hm ht k ex => ?_⟩
  refine a2 g H r M _ P _ he hm ht (fun v x H1 M1 s1 m1 x1 q1 => ?_) ex
  split at q1
  · rename_i k'
    cases x1
    refine ⟨k', rfl, ?_⟩
    cases k' with
    | true =>
      rw [if_pos rfl] at q1 ⊢
      exact b2 g H1 r M1 R P Q (he.mono s1) m1 q1 (fun v x H2 M2 s2 m2 x2 q2 => k v x H2 M2 (s1.trans s2) m2 x2 q2) (ex.mono s1)
    | false =>
      rw [if_neg Bool.false_ne_true] at q1 ⊢
      exact k (.bl false) (.d (.bool false)) H1 M1 s1 m1 (Dq.bl false) q1
  · exact q1.elim
theorem q_or (ha : QE X E a da) (hb : QE X E (.BoolOp .Or (b :: es) pos) db) : QE X E (.BoolOp .Or (a :: b :: es) pos) (dOrV da db) := by
  obtain ⟨ta, a1, a2⟩ := ha.ex
  obtain ⟨tb, b1, b2⟩ := hb.ex
  refine ⟨_, pe_or a1 b1, fun g H r M R P Q he hm ht k ex => ?_⟩
  refine a2 g H r M _ P _ he hm ht (fun v x H1 M1 s1 m1 x1 q1 => ?_) ex
  split at q1
  · rename_i k'
    cases x1
    refine ⟨k', rfl, ?_⟩
    cases k' with
    | true =>
      rw [if_pos rfl] at q1 ⊢
      exact k (.bl true) (.d (.bool true)) H1 M1 s1 m1 (Dq.bl true) q1
    | false =>
      rw [if_neg Bool.false_ne_true] at q1 ⊢
      exact b2 g H1 r M1 R P Q (he.mono s1) m1 q1 (fun v x H2 M2 s2 m2 x2 q2 => k v x H2 M2 (s1.trans s2) m2 x2 q2) (ex.mono s1)
  · exact q1.elim
theorem q_not (ha : QE X E a da) : QE X E (.UnaryOp .Not a pos) (dNotV da) := by
  obtain ⟨ta, a1, a2⟩ := ha.ex
  refine ⟨_, pe_not a1, fun g H r M R P Q he hm ht k ex => ?_⟩
  refine a2 g H r M _ P _ he hm ht (fun v x H1 M1 s1 m1 x1 q1 => ?_) ex
  split at q1
  · rename_i k'
    cases x1
    exact ⟨k', rfl, k (.bl (!k')) (.d (.bool (!k'))) H1 M1 s1 m1 (Dq.bl _) q1⟩
  · exact q1.elim
def dIf (t : DT) (da db : DX) : DX := fun r M R P => t r M (fun b M1 => if b = true then da r M1 R P else db r M1 R P) P
theorem q_if (hc : QT X E c tA) (ha : QE X E a da) (hb : QE X E b db) : QE X E (.IfExp c a b pos) (dIf tA da db) := by
  obtain ⟨tc, c1, c2⟩ := hc.ex
  obtain ⟨ta, a1, a2⟩ := ha.ex
  obtain ⟨tb, b1, b2⟩ := hb.ex
  refine ⟨_, pe_ifExp c1 a1 b1, fun g H r M R P Q he hm ht k ex => ?_⟩
  refine c2 g H r M _ P _ he hm ht (fun d H1 M1 s1 m1 q1 => ?_) ex
  cases d with
  | true =>
    rw [if_pos rfl] at q1 ⊢
    exact a2 g H1 r M1 R P Q (he.mono s1) m1 q1 (fun v x H2 M2 s2 m2 x2 q2 => k v x H2 M2 (s1.trans s2) m2 x2 q2) (ex.mono s1)
  | false =>
    rw [if_neg Bool.false_ne_true] at q1 ⊢
    exact b2 g H1 r M1 R P Q (he.mono s1) m1 q1 (fun v x H2 M2 s2 m2 x2 q2 => k v x H2 M2 (s1.trans s2) m2 x2 q2) (ex.mono s1)

/-! ### argument lists, displays -/
def dNil : DA := fun _ M R _ => R [] M
def dCons (da : DX) (dr : DA) : DA := fun r M R P => da r M (fun x M1 => dr r M1 (fun xs M2 => R (x :: xs) M2) P) P
theorem qa_nil : QA X E [] dNil := ⟨_, pa_nil, fun g H r M R P Q he hm ht k ex => k [] [] H M (.refl hm) hm .nil ht⟩
theorem qa_cons {dr : DA} (ha : QE X E e da) (hr : QA X E es dr) (hs : starEach (e :: es) X.env = (false, eval e X.env) :: starEach es X.env := by rfl) : QA X E (e :: es) (dCons da dr) := by
  obtain ⟨ta, a1, a2⟩ := ha.ex
  obtain ⟨tr, r1, r2⟩ := hr.ex
  refine ⟨_, pa_cons a1 r1 hs, fun g H r M R P Q he hm ht k ex => ?_⟩
  refine a2 g H r M _ P _ he hm ht (fun v x H1 M1 s1 m1 x1 q1 => ?_) ex
  exact r2 g H1 r M1 _ P _ (he.mono s1) m1 q1 (fun vs xs H2 M2 s2 m2 x2 q2 => k (v :: vs) (x :: xs) H2 M2 (s1.trans s2) m2 (.cons (x1.mono s2) x2) q2) (ex.mono s1)
/-- all are data -/
def allD : List Xv → Option (List PyData)
  | [] => some []
  | .d d :: xs => (allD xs).map (d :: ·)
  | .r _ :: _ => none
  | .clo _ _ _ _ _ :: _ => none
theorem allD_eq : ∀ {xs : List Xv} {ds : List PyData}, allD xs = some ds → xs = ds.map .d
  | [], ds, h => by cases h; rfl
  | .d d :: xs, ds, h => by
    unfold allD at h
    cases q : allD xs with
    | none => rw [q] at h; cases h
    | some es =>
      rw [q] at h
      cases h
      rw [List.map_cons, ← allD_eq q]
  | .r _ :: _, _, h => by cases h
  | .clo _ _ _ _ _ :: _, _, h => by cases h
theorem allD_map (ds : List PyData) : allD (ds.map .d) = some ds := by
  induction ds with
  | nil => rfl
  | cons d ds ih => rw [List.map_cons]; unfold allD; rw [ih]; rfl
/-- a tuple -/
def dTup (t : DA) : DX := fun r M R P => t r M (fun xs M1 => xs.length ≤ sizeLine ∧ match allD xs with
  | some ds => R (.d (.tuple ds)) M1
  | none => False) P
theorem q_tup {t : DA} {x1} (h : QA X E es t) : QE X E (.Tuple es x1 pos) (dTup t) := by
  obtain ⟨ta, a1, a2⟩ := h.ex
  refine ⟨_, pe_tup a1, fun g H r M R P Q he hm ht k ex => ?_⟩
  refine a2 g H r M _ P _ he hm ht (fun vs xs H1 M1 s1 m1 x1 q1 => ?_) ex
  obtain ⟨hl, q1⟩ := q1
  split at q1
  · rename_i ds q
    refine ⟨by rw [x1.length]; exact hl, fun p hp => ?_⟩
    have e := allD_eq q
    subst e
    have s2 := Stp.new (o := .tup vs) m1 hp
    refine k (.ref p) (.d (.tuple ds)) _ M1 (s1.trans s2) (m1.new hp) ?_ q1
    exact Dq.tup (Or.inl ⟨m1.gone hp, Or.inl upd_same⟩) (DqAll.mono s2 x1.data)
  · exact q1.elim
/-- a list of data that does not change -/
def dLst (t : DA) : DX := fun r M R P => t r M (fun xs M1 => xs.length ≤ sizeLine ∧ match allD xs with
  | some ds => R (.d (.list ds)) M1
  | none => False) P
theorem q_lst {t : DA} (h : QA X E es t) : QE X E (.List es pos) (dLst t) := by
  obtain ⟨ta, a1, a2⟩ := h.ex
  refine ⟨_, pe_lst a1, fun g H r M R P Q he hm ht k ex => ?_⟩
  refine a2 g H r M _ P _ he hm ht (fun vs xs H1 M1 s1 m1 x1 q1 => ?_) ex
  obtain ⟨hl, q1⟩ := q1
  split at q1
  · rename_i ds q
    refine ⟨by rw [x1.length]; exact hl, fun p hp => ?_⟩
    have e := allD_eq q
    subst e
    have s2 := Stp.new (o := .lst vs) m1 hp
    refine k (.ref p) (.d (.list ds)) _ M1 (s1.trans s2) (m1.new hp) ?_ q1
    exact Dq.lst (Or.inl ⟨m1.gone hp, Or.inl upd_same⟩) (DqAll.mono s2 x1.data)
  · exact q1.elim
/-- a list that will change -/
def dLstM (t : DA) : DX := fun r M R P => t r M (fun xs M1 => xs.length ≤ sizeLine ∧ ∀ p, M1 p = none → R (.r (.ref p)) (mset M1 p (.lst xs))) P
theorem q_lstM {t : DA} (h : QA X E es t) : QE X E (.List es pos) (dLstM t) := by
  obtain ⟨ta, a1, a2⟩ := h.ex
  refine ⟨_, pe_lst a1, fun g H r M R P Q he hm ht k ex => ?_⟩
  refine a2 g H r M _ P _ he hm ht (fun vs xs H1 M1 s1 m1 x1 q1 => ?_) ex
  obtain ⟨hl, q1⟩ := q1
  refine ⟨by rw [x1.length]; exact hl, fun p hp => ?_⟩
  have s2 := Stp.put (o := .lst vs) (u := .lst xs) m1 (Or.inl hp)
  exact k (.ref p) (.r (.ref p)) _ _ (s1.trans s2) (m1.put (Or.inl hp) ⟨vs, upd_same, x1.mono s2⟩) rfl (q1 p (m1.gone hp))
end
end Y
set_option maxHeartbeats 4000000
namespace Y
open PySem PySem.Spec PyProof.Rows L2
section
variable {X : Cx} {E : XK} {K : PySem.W.Frag} {f : Value → Value → Sem Value}

/-! ### ints -/
def dI (C : Int → Int → Prop) (g : Int → Int → PyData) : D2 := fun x y M R _ => match x, y with
  | .d (.int i), .d (.int j) => C i j ∧ R (.d (g i j)) M
  | _, _ => False
theorem qo_I {C : Int → Int → Prop} {gv : Int → Int → V} {g : Int → Int → PyData} (ho : OpR X f (rI C gv)) (hg : ∀ H M i j, Dq X.K H M (gv i j) (g i j)) : QO X E f (dI C g) := by
  refine ⟨_, ho, fun H M v u x y R P Q hm hx hy ht k _ => ?_⟩
  unfold dI at ht
  split at ht
  · rename_i i j
    cases hx
    cases hy
    exact ⟨i, j, rfl, rfl, ht.1, k _ (.d (g i j)) H M (.refl hm) hm (hg H M i j) ht.2⟩
  · exact ht.elim
theorem qo_I0 {gv : Int → Int → V} {g : Int → Int → PyData} (ho : OpR X f (rI0 gv)) (hg : ∀ H M i j, Dq X.K H M (gv i j) (g i j)) : QO X E f (dI (fun _ _ => True) g) := by
  refine ⟨_, ho, fun H M v u x y R P Q hm hx hy ht k _ => ?_⟩
  unfold dI at ht
  split at ht
  · rename_i i j
    cases hx
    cases hy
    exact ⟨i, j, rfl, rfl, k _ (.d (g i j)) H M (.refl hm) hm (hg H M i j) ht.2⟩
  · exact ht.elim
abbrev dSub : D2 := dI (fun _ _ => True) fun i j => .int (i - j)
abbrev dDiv : D2 := dI (fun _ j => 0 < j ∧ j < 1073741824) fun i j => .int (i / j)
abbrev dMod : D2 := dI (fun _ j => 0 < j) fun i j => .int (i % j)
abbrev dPow : D2 := dI (fun i j => 0 ≤ j ∧ j ≤ 1000000 ∧ i.natAbs < 2 ^ 64) fun i j => .int (i ^ j.toNat)
abbrev dLt : D2 := dI (fun _ _ => True) fun i j => .bool (decide (i < j))
abbrev dLe : D2 := dI (fun _ _ => True) fun i j => .bool (decide (i ≤ j))
abbrev dGt : D2 := dI (fun _ _ => True) fun i j => .bool (decide (j < i))
abbrev dGe : D2 := dI (fun _ _ => True) fun i j => .bool (decide (j ≤ i))
theorem o_sub : QO X E (binaryOp .Sub) dSub := qo_I0 op_sub fun _ _ _ _ => .int _
theorem o_div : QO X E (binaryOp .FloorDiv) dDiv := qo_I (C := CDiv) op_fdiv fun _ _ _ _ => .int _
theorem o_mod : QO X E (binaryOp .Mod) dMod := qo_I op_mod fun _ _ _ _ => .int _
theorem o_pow : QO X E (binaryOp .Pow) dPow := qo_I (C := CPow) op_pow fun _ _ _ _ => .int _
theorem o_lt : QO X E (compareOp .Lt) dLt := qo_I0 op_lt fun _ _ _ _ => .bl _
theorem o_le : QO X E (compareOp .LtE) dLe := qo_I0 op_le fun _ _ _ _ => .bl _
theorem o_gt : QO X E (compareOp .Gt) dGt := qo_I0 op_gt fun _ _ _ _ => .bl _
theorem o_ge : QO X E (compareOp .GtE) dGe := qo_I0 op_ge fun _ _ _ _ => .bl _

/-! ### + of ints, texts, tuples, lists -/
def dAdd : D2 := fun x y M R _ => match x, y with
  | .d (.int i), .d (.int j) => R (.d (.int (i + j))) M
  | .d (.str a), .d (.str b) => a.length + b.length ≤ sizeLine ∧ R (.d (.str (a ++ b))) M
  | .d (.tuple a), .d (.tuple b) => a ≠ [] ∧ b ≠ [] ∧ a.length + b.length ≤ sizeLine ∧ R (.d (.tuple (a ++ b))) M
  | .r (.ref p), .r (.ref q) => (match M p, M q with
    | some (.lst a), some (.lst b) => a.length + b.length ≤ sizeLine ∧ ∀ n, M n = none → R (.r (.ref n)) (mset M n (.lst (a ++ b)))
    | _, _ => False)
  | _, _ => False
theorem o_add : QO X E (binaryOp .Add) dAdd := by
  refine ⟨_, op_add.or (op_add_str.or (op_catT.or op_cat)), fun H M v u x y R P Q hm hx hy ht k _ => ?_⟩
  unfold dAdd at ht
  split at ht
  · rename_i i j
    cases hx
    cases hy
    exact Or.inl ⟨i, j, rfl, rfl, k _ (.d (.int (i + j))) H M (.refl hm) hm (Dq.int _) ht⟩
  · rename_i a b
    cases hx
    cases hy
    exact Or.inr (Or.inl ⟨a, b, rfl, rfl, ht.1, k _ (.d (.str (a ++ b))) H M (.refl hm) hm (Dq.str _) ht.2⟩)
  · rename_i a b
    obtain ⟨na, nb, hl, q⟩ := ht
    cases hx with
    | tup h1 a1 =>
      cases hy with
      | tup h2 a2 =>
        rename_i p1 vs p2 ws
        have l1 := a1.length
        have l2 := a2.length
        refine Or.inr (Or.inr (Or.inl ⟨p1, p2, vs, ws, rfl, rfl, h1.sq, h2.sq, fun e => na (by rw [e] at l1; exact List.length_eq_zero_iff.mp l1.symm), by omega, fun e => absurd (by rw [e] at l2; exact List.length_eq_zero_iff.mp l2.symm) nb, fun _ p hp => ?_⟩))
        have s := Stp.new (o := .tup (vs ++ ws)) hm hp
        exact k _ (.d (.tuple (a ++ b))) _ M s (hm.new hp) (Dq.tup (Or.inl ⟨hm.gone hp, Or.inl upd_same⟩) ((a1.mono s).append (a2.mono s))) q
  · rename_i p q
    split at ht
    · rename_i a b e1 e2
      obtain ⟨vs, h1, x1⟩ := hm p _ e1
      obtain ⟨ws, h2, x2⟩ := hm q _ e2
      obtain rfl : v = V.ref p := hx
      obtain rfl : u = V.ref q := hy
      refine Or.inr (Or.inr (Or.inr ⟨p, q, vs, ws, rfl, rfl, h1, h2, by rw [x1.length, x2.length]; exact ht.1, fun n hn => ?_⟩))
      have s := Stp.put (o := .lst (vs ++ ws)) (u := .lst (a ++ b)) hm (Or.inl hn)
      exact k (.ref n) (.r (.ref n)) _ _ s (hm.put (Or.inl hn) ⟨_, upd_same, (x1.mono s).append (x2.mono s)⟩) rfl (ht.2 n (hm.gone hn))
    · exact ht.elim
  · exact ht.elim

/-! ### * of ints, of a text and an int, of a list and an int -/
theorem op_mul_str : OpR X (binaryOp .Mult) (fun x y H Q => ∃ a n, x = .str a ∧ y = .int n ∧ MulOk a n ∧ Q (.str (Txt.mul a n)) H) := by
  intro pins s g H x y v u Q I rx ry h
  obtain ⟨a, n, rfl, rfl, ok, q⟩ := h
  obtain ⟨t, rfl⟩ := rx
  obtain ⟨t', rfl⟩ := ry
  exact SB.mul ok fun t2 k => ⟨.str _, H, I.tok _, ⟨_, rfl⟩, q⟩
def dMul : D2 := fun x y M R _ => match x, y with
  | .d (.int i), .d (.int j) => CMul i j ∧ R (.d (.int (i * j))) M
  | .d (.str a), .d (.int n) => MulOk a n ∧ R (.d (.str (Txt.mul a n))) M
  | .r (.ref p), .d (.int n) => (match M p with
    | some (.lst a) => 0 ≤ n ∧ n < 2 ^ 63 ∧ a.length * n.toNat ≤ sizeLine ∧ ∀ q, M q = none → R (.r (.ref q)) (mset M q (.lst (List.replicate n.toNat a).flatten))
    | _ => False)
  | _, _ => False
theorem XsOk.rep {H : Hp} {M : MH} {vs : List V} {xs : List Xv} (h : XsOk K H M vs xs) : ∀ n : Nat, XsOk K H M (List.replicate n vs).flatten (List.replicate n xs).flatten
  | 0 => .nil
  | n + 1 => by
    rw [List.replicate_succ, List.replicate_succ, List.flatten_cons, List.flatten_cons]
    exact h.append (XsOk.rep h n)
theorem o_mul : QO X E (binaryOp .Mult) dMul := by
  refine ⟨_, op_mul.or (op_mul_str.or op_rep), fun H M v u x y R P Q hm hx hy ht k _ => ?_⟩
  unfold dMul at ht
  split at ht
  · rename_i i j
    cases hx
    cases hy
    exact Or.inl ⟨i, j, rfl, rfl, ht.1, k _ (.d (.int (i * j))) H M (.refl hm) hm (Dq.int _) ht.2⟩
  · rename_i a n
    cases hx
    cases hy
    exact Or.inr (Or.inl ⟨a, n, rfl, rfl, ht.1, k _ (.d (.str (Txt.mul a n))) H M (.refl hm) hm (Dq.str _) ht.2⟩)
  · rename_i p n
    cases hy
    split at ht
    · rename_i a e1
      obtain ⟨vs, h1, x1⟩ := hm p _ e1
      obtain rfl : v = V.ref p := hx
      obtain ⟨n0, n1, hl, q⟩ := ht
      refine Or.inr (Or.inr ⟨p, n, vs, rfl, rfl, h1, by omega, n1, by rw [x1.length]; exact hl, fun m hn => ?_⟩)
      have s := Stp.put (o := .lst (List.replicate n.toNat vs).flatten) (u := .lst (List.replicate n.toNat a).flatten) hm (Or.inl hn)
      exact k (.ref m) (.r (.ref m)) _ _ s (hm.put (Or.inl hn) ⟨_, upd_same, (x1.mono s).rep _⟩) rfl (q m (hm.gone hn))
    · exact ht.elim
  · exact ht.elim

/-! ### ==, != of data -/
/-- both are plain, or both are data that == walks -/
def plainD : PyData → Bool
  | .none => true
  | .bool _ => true
  | .int _ => true
  | .str _ => true
  | _ => false
def scalD : PyData → PyData → Bool
  | .none, .none => true | .none, .int _ => true | .int _, .none => true | .none, .bool _ => true | .bool _, .none => true | .none, .str _ => true | .str _, .none => true
  | .int _, .int _ => true | .bool _, .bool _ => true | .str _, .str _ => true
  | .int _, .str _ => true | .str _, .int _ => true | .bool _, .str _ => true | .str _, .bool _ => true
  | _, _ => false
def dEq : D2 := fun x y M R _ => match x, y with
  | .d a, .d b => (scalD a b = true ∨ (SeqAt.shaped a = true ∧ SeqAt.shaped b = true)) ∧ R (.d (.bool (PyData.eqv a b))) M
  | _, _ => False
def dNe : D2 := fun x y M R _ => match x, y with
  | .d a, .d b => (scalD a b = true ∨ (SeqAt.shaped a = true ∧ SeqAt.shaped b = true)) ∧ R (.d (.bool (!PyData.eqv a b))) M
  | _, _ => False
theorem scal_of {H : Hp} {M : MH} {v u : V} {a b : PyData} (hx : Dq K H M v a) (hy : Dq K H M u b) (h : scalD a b = true) : scal v u = true ∧ decide (v = u) = PyData.eqv a b := by
  cases hx <;> cases hy <;> first
    | exact absurd h Bool.false_ne_true
    | (refine ⟨rfl, ?_⟩; first | rfl | exact dec_int | exact dec_bl | exact dec_str | (simp [PyData.eqv]))
theorem o_eq (hu : X.A.units + 64 < cLine) : QO X E (compareOp .Eq) dEq := by
  refine ⟨_, op_eq.or (op_eqD hu), fun H M v u x y R P Q hm hx hy ht k _ => ?_⟩
  unfold dEq at ht
  split at ht
  · rename_i a b
    obtain ⟨h, q⟩ := ht
    have fin := k (.bl (PyData.eqv a b)) (.d (.bool (PyData.eqv a b))) H M (.refl hm) hm (Dq.bl _) q
    rcases h with h | ⟨h1, h2⟩
    · obtain ⟨e1, e2⟩ := scal_of hx hy h
      refine Or.inl ⟨e1, ?_⟩
      rw [e2]
      exact fin
    · exact Or.inr ⟨a, b, Dq.dp hx, Dq.dp hy, h1, h2, fin⟩
  · exact ht.elim
theorem o_ne (hu : X.A.units + 64 < cLine) : QO X E (compareOp .NotEq) dNe := by
  refine ⟨_, op_ne.or (op_neD hu), fun H M v u x y R P Q hm hx hy ht k _ => ?_⟩
  unfold dNe at ht
  split at ht
  · rename_i a b
    obtain ⟨h, q⟩ := ht
    have fin := k (.bl (!PyData.eqv a b)) (.d (.bool (!PyData.eqv a b))) H M (.refl hm) hm (Dq.bl _) q
    rcases h with h | ⟨h1, h2⟩
    · obtain ⟨e1, e2⟩ := scal_of hx hy h
      refine Or.inl ⟨e1, ?_⟩
      rw [e2]
      exact fin
    · exact Or.inr ⟨a, b, Dq.dp hx, Dq.dp hy, h1, h2, fin⟩
  · exact ht.elim

/-! ### is None -/
def noneX : Xv → Bool
  | .d .none => true
  | .r .non => true
  | _ => false
def dIsN : D2 := fun x y M R _ => match y with
  | .d .none => R (.d (.bool (noneX x))) M
  | _ => False
def dNotN : D2 := fun x y M R _ => match y with
  | .d .none => R (.d (.bool (!noneX x))) M
  | _ => False
theorem noneX_eq {H : Hp} {M : MH} {v : V} {x : Xv} (h : XOk K H M v x) : decide (v = .non) = noneX x := by
  cases x with
  | d d => cases h <;> rfl
  | r w => obtain rfl : v = w := h; cases v <;> rfl
  | clo f c q σ b => obtain rfl : v = .ref f := h.1; rfl
theorem o_isN : QO X E (compareOp .Is) dIsN := by
  refine ⟨_, op_isN, fun H M v u x y R P Q hm hx hy ht k _ => ?_⟩
  unfold dIsN at ht
  split at ht
  · cases hy
    refine ⟨rfl, ?_⟩
    rw [noneX_eq hx]
    exact k (.bl (noneX x)) (.d (.bool (noneX x))) H M (.refl hm) hm (Dq.bl _) ht
  · exact ht.elim
theorem o_notN : QO X E (compareOp .IsNot) dNotN := by
  refine ⟨_, op_notN, fun H M v u x y R P Q hm hx hy ht k _ => ?_⟩
  unfold dNotN at ht
  split at ht
  · cases hy
    refine ⟨rfl, ?_⟩
    rw [noneX_eq hx]
    exact k (.bl (!noneX x)) (.d (.bool (!noneX x))) H M (.refl hm) hm (Dq.bl _) ht
  · exact ht.elim

/-! ### in, not in -/
theorem flat_of {H : Hp} {M : MH} {v : V} {a : PyData} (h : Dq K H M v a) (p : plainD a = true) : flatV v = true := by
  cases h <;> first | rfl | exact absurd p Bool.false_ne_true
theorem eqV_of {H : Hp} {M : MH} {v u : V} {a b : PyData} (hx : Dq K H M v a) (hy : Dq K H M u b) (p : plainD a = true) (q : plainD b = true) : eqV v u = PyData.eqv a b := by
  cases hx <;> first
    | exact absurd p Bool.false_ne_true
    | (cases hy <;> first | exact absurd q Bool.false_ne_true | rfl | simp [eqV, PyData.eqv])
theorem flats_of {H : Hp} {M : MH} : ∀ {vs : List V} {ds : List PyData}, DqAll K H M vs ds → ds.all plainD = true → vs.all flatV = true
  | _, _, .nil, _ => rfl
  | _, _, .cons h t, p => by
    rw [List.all_cons, Bool.and_eq_true] at p
    rw [List.all_cons, flat_of h p.1, flats_of t p.2]; rfl
theorem inV_of {H : Hp} {M : MH} {v : V} {a : PyData} (hx : Dq K H M v a) (p : plainD a = true) : ∀ {vs : List V} {ds : List PyData}, DqAll K H M vs ds → ds.all plainD = true → inV v vs = ds.any fun z => PyData.eqv z a
  | _, _, .nil, _ => rfl
  | _, _, .cons h t, q => by
    rw [List.all_cons, Bool.and_eq_true] at q
    have ih := inV_of hx p t q.2
    unfold inV at ih ⊢
    rw [List.any_cons, List.any_cons, ih, eqV_of h hx q.1 p]
/-- the items, where they are read: data, or a list that changes -/
def itemsD (M : MH) : Xv → Option (List PyData)
  | .d (.list ds) => some ds
  | .d (.tuple ds) => some ds
  | .r (.ref p) => (match M p with
    | some (.lst xs) => allD xs
    | _ => none)
  | _ => none
theorem itemsD_ok {H : Hp} {M : MH} (hm : MOk K H M) {v : V} {y : Xv} (h : XOk K H M v y) {ds : List PyData} (e : itemsD M y = some ds) : ∃ p vs, v = .ref p ∧ (SqL K H p vs ∨ SqT K H p vs) ∧ DqAll K H M vs ds := by
  unfold itemsD at e
  split at e
  · cases e
    cases h with
    | lst h1 a1 => exact ⟨_, _, rfl, Or.inl h1.sq, a1⟩
  · cases e
    cases h with
    | tup h1 a1 => exact ⟨_, _, rfl, Or.inr h1.sq, a1⟩
  · rename_i p
    split at e
    · rename_i xs em
      obtain ⟨vs, h1, x1⟩ := hm p _ em
      have q := allD_eq e
      subst q
      exact ⟨p, vs, h, Or.inl (SqL.of h1), x1.data⟩
    · cases e
  · cases e
def dInS (neg : Bool) : D2 := fun x y M R _ => match x, y with
  | .d (.str a), .d (.str z) => ∃ c, a = ⟨#[c]⟩ ∧ R (.d (.bool (if neg then !decide (c ∈ z.cps.toList) else decide (c ∈ z.cps.toList)))) M
  | .d a, y => (match itemsD M y with
    | some ds => plainD a = true ∧ ds.all plainD = true ∧ R (.d (.bool (if neg then !(ds.any fun z => PyData.eqv z a) else ds.any fun z => PyData.eqv z a))) M
    | none => False)
  | _, _ => False
theorem o_in : QO X E (compareOp .In) (dInS false) := by
  refine ⟨_, op_in_sign.or op_in_seq, fun H M v u x y R P Q hm hx hy ht k _ => ?_⟩
  unfold dInS at ht
  split at ht
  · rename_i a z
    obtain ⟨c, rfl, q⟩ := ht
    cases hx
    cases hy
    exact Or.inl ⟨c, z, rfl, rfl, k _ (.d (.bool _)) H M (.refl hm) hm (Dq.bl _) q⟩
  · rename_i a y' _
    split at ht
    · rename_i ds e
      obtain ⟨p, vs, rfl, sq, da⟩ := itemsD_ok hm hy e
      obtain ⟨h1, h2, q⟩ := ht
      refine Or.inr ⟨p, vs, rfl, sq, flat_of hx h1, flats_of da h2, ?_⟩
      rw [inV_of hx h1 da h2]
      exact k _ (.d (.bool _)) H M (.refl hm) hm (Dq.bl _) q
    · exact ht.elim
  · exact ht.elim
theorem o_notIn : QO X E (compareOp .NotIn) (dInS true) := by
  refine ⟨_, op_notIn_sign.or op_notIn_seq, fun H M v u x y R P Q hm hx hy ht k _ => ?_⟩
  unfold dInS at ht
  split at ht
  · rename_i a z
    obtain ⟨c, rfl, q⟩ := ht
    cases hx
    cases hy
    exact Or.inl ⟨c, z, rfl, rfl, k _ (.d (.bool _)) H M (.refl hm) hm (Dq.bl _) q⟩
  · rename_i a y' _
    split at ht
    · rename_i ds e
      obtain ⟨p, vs, rfl, sq, da⟩ := itemsD_ok hm hy e
      obtain ⟨h1, h2, q⟩ := ht
      refine Or.inr ⟨p, vs, rfl, sq, flat_of hx h1, flats_of da h2, ?_⟩
      rw [inV_of hx h1 da h2]
      exact k _ (.d (.bool _)) H M (.refl hm) hm (Dq.bl _) q
    · exact ht.elim
  · exact ht.elim
/-- in a dict of the module that is never changed: its keys -/
def dInK (a : Addr) (kvs : List (Str × PyData)) : D2 := fun x y M R _ => match x, y with
  | .d (.str z), .r (.ref p) => p = a ∧ R (.d (.bool ((kvs.lookup z).isSome))) M
  | _, _ => False
def dIxK (a : Addr) (kvs : List (Str × PyData)) : D2 := fun x y M R _ => match x, y with
  | .r (.ref p), .d (.str z) => p = a ∧ (match kvs.lookup z with
    | some d => R (.d d) M
    | none => False)
  | _, _ => False
/-- what the written part says of such a dict: every key is found or not, as kvs tells -/
structure KTab (K : PySem.W.Frag) (w : World) (a : Addr) (kvs : List (Str × PyData)) : Prop where
  ex : ∃ es n, KDict K w a es n
  yes : ∀ z d, kvs.lookup z = some d → ∃ (u : Value) (v : V), PySem.W.nsIn K a z = some (some u) ∧ RelV v u ∧ ∀ H M, Dq K H M v d
  no : ∀ z, kvs.lookup z = none → PySem.W.nsIn K a z = some none
theorem o_inK {a : Addr} {kvs : List (Str × PyData)} (T : KTab X.K X.w a kvs) : QO X E (compareOp .In) (dInK a kvs) := by
  obtain ⟨es, n, D⟩ := T.ex
  refine ⟨_, op_in_kd D, fun H M v u x y R P Q hm hx hy ht k _ => ?_⟩
  unfold dInK at ht
  split at ht
  · rename_i z p
    obtain ⟨rfl, q⟩ := ht
    cases hx
    obtain rfl : u = V.ref p := hy
    have fin := k (.bl ((kvs.lookup z).isSome)) (.d (.bool _)) H M (.refl hm) hm (Dq.bl _) q
    cases e : kvs.lookup z with
    | some d =>
      obtain ⟨w, v', h1, _, _⟩ := T.yes z d e
      refine ⟨z, _, rfl, rfl, h1, ?_⟩
      rw [e] at fin
      exact fin
    | none =>
      refine ⟨z, _, rfl, rfl, T.no z e, ?_⟩
      rw [e] at fin
      exact fin
  · exact ht.elim
theorem i_K {a : Addr} {kvs : List (Str × PyData)} (T : KTab X.K X.w a kvs) : QI X E (dIxK a kvs) := by
  obtain ⟨es, n, D⟩ := T.ex
  refine ⟨_, ix_kdict, fun H M v u x y R P Q hm hx hy ht k _ => ?_⟩
  unfold dIxK at ht
  split at ht
  · rename_i p z
    obtain ⟨rfl, q⟩ := ht
    cases hy
    obtain rfl : v = V.ref p := hx
    split at q
    · rename_i d e
      obtain ⟨w, v', h1, h2, h3⟩ := T.yes z d e
      exact ⟨p, z, v', rfl, rfl, ⟨es, n, w, D.at_, D.lit, h1, h2⟩, k v' (.d d) H M (.refl hm) hm (h3 H M) q⟩
    · exact q.elim
  · exact ht.elim

/-! ### xs[i], t[i], s[i] -/
def dIx : D2 := fun x y M R _ => match x, y with
  | .d (.list ds), .d (.int i) => (match atI ds i with
    | some d => R (.d d) M
    | none => False)
  | .d (.tuple ds), .d (.int i) => (match atI ds i with
    | some d => R (.d d) M
    | none => False)
  | .d (.str z), .d (.int i) => z.length ≤ sizeLine ∧ (match atI z.cps.toList i with
    | some c => R (.d (.str ⟨#[c]⟩)) M
    | none => False)
  | .r (.ref p), .d (.int i) => (match M p with
    | some (.lst xs) => (match atI xs i with
      | some x => R x M
      | none => False)
    | _ => False)
  | _, _ => False
theorem atI_all {H : Hp} {M : MH} {vs : List V} {ds : List PyData} {i : Int} {d : PyData} (h : DqAll K H M vs ds) (e : atI ds i = some d) : ∃ v, atI vs i = some v ∧ Dq K H M v d := by
  unfold atI at e ⊢
  rw [h.length]
  cases q : ixN ds.length i with
  | none => rw [q] at e; cases e
  | some j =>
    rw [q] at e
    exact h.get e
theorem atI_xs {H : Hp} {M : MH} {vs : List V} {ds : List Xv} {i : Int} {d : Xv} (h : XsOk K H M vs ds) (e : atI ds i = some d) : ∃ v, atI vs i = some v ∧ XOk K H M v d := by
  unfold atI at e ⊢
  rw [h.length]
  cases q : ixN ds.length i with
  | none => rw [q] at e; cases e
  | some j =>
    rw [q] at e
    exact h.get e
theorem i_seq : QI X E dIx := by
  refine ⟨_, ix_seq, fun H M v u x y R P Q hm hx hy ht k _ => ?_⟩
  unfold dIx at ht
  split at ht
  · cases hy
    split at ht
    · rename_i d e
      cases hx with
      | lst h1 a1 =>
        obtain ⟨w, e1, dw⟩ := atI_all a1 e
        exact Or.inl ⟨_, _, _, _, rfl, rfl, h1.sq, e1, k w (.d d) H M (.refl hm) hm dw ht⟩
    · exact ht.elim
  · cases hy
    split at ht
    · rename_i d e
      cases hx with
      | tup h1 a1 =>
        obtain ⟨w, e1, dw⟩ := atI_all a1 e
        exact Or.inr (Or.inl ⟨_, _, _, _, rfl, rfl, h1.sq, e1, k w (.d d) H M (.refl hm) hm dw ht⟩)
    · exact ht.elim
  · cases hy
    cases hx
    obtain ⟨hl, ht⟩ := ht
    split at ht
    · rename_i c e
      exact Or.inr (Or.inr ⟨_, _, c, rfl, rfl, hl, e, k _ (.d (.str ⟨#[c]⟩)) H M (.refl hm) hm (Dq.str _) ht⟩)
    · exact ht.elim
  · rename_i p i
    cases hy
    split at ht
    · rename_i xs em
      obtain ⟨vs, h1, x1⟩ := hm p _ em
      obtain rfl : v = V.ref p := hx
      split at ht
      · rename_i d e
        obtain ⟨w, e1, dw⟩ := atI_xs x1 e
        exact Or.inl ⟨_, _, _, _, rfl, rfl, SqL.of h1, e1, k w d H M (.refl hm) hm dw ht⟩
      · exact ht.elim
    · exact ht.elim
  · exact ht.elim
end
end Y
set_option maxHeartbeats 4000000
namespace Y
open PySem PySem.Spec PyProof.Rows L2
/-! ### where a statement ends -/
structure DEnds where
  nx : DEnv → MH → Prop
  rt : Xv → MH → Prop
  bk : DEnv → MH → Prop := fun _ _ => False
  ct : DEnv → MH → Prop := fun _ _ => False
  ex : PX := fun _ _ _ => False
abbrev DS := DEnds → DEnv → MH → Prop
structure EndsOk (K : PySem.W.Frag) (E : XK) (H : Hp) (M : MH) (D : DEnds) (D' : Ends) : Prop where
  nx : ∀ g r H' M', Stp H M H' M' → MOk K H' M' → EnvOk K H' M' g r → D.nx r M' → D'.nx g H'
  rt : ∀ v x H' M', Stp H M H' M' → MOk K H' M' → XOk K H' M' v x → D.rt x M' → D'.rt v H'
  bk : ∀ g r H' M', Stp H M H' M' → MOk K H' M' → EnvOk K H' M' g r → D.bk r M' → D'.bk g H'
  ct : ∀ g r H' M', Stp H M H' M' → MOk K H' M' → EnvOk K H' M' g r → D.ct r M' → D'.ct g H'
  ex : EHyp K E H M D.ex
section
variable {K : PySem.W.Frag} {E : XK} {H H1 : Hp} {M M1 : MH} {D : DEnds} {D' : Ends}
theorem EndsOk.mono (s : Stp H M H1 M1) (h : EndsOk K E H M D D') : EndsOk K E H1 M1 D D' where
  nx := fun g r H2 M2 t => h.nx g r H2 M2 (s.trans t)
  rt := fun v x H2 M2 t => h.rt v x H2 M2 (s.trans t)
  bk := fun g r H2 M2 t => h.bk g r H2 M2 (s.trans t)
  ct := fun g r H2 M2 t => h.ct g r H2 M2 (s.trans t)
  ex := h.ex.mono s
end
def SimS (K : PySem.W.Frag) (E : XK) (ts : TS) (t : DS) : Prop := ∀ (g : L2.St) (H : Hp) (r : DEnv) (M : MH) (D : DEnds) (D' : Ends), EnvOk K H M g r → MOk K H M → t D r M → EndsOk K E H M D D' → ts D' g H
structure QS (X : Cx) (E : XK) (st : Stmt) (t : DS) : Prop where
  ex : ∃ ts, PS X st ts ∧ SimS X.K E ts t
structure QSs (X : Cx) (E : XK) (st : List Stmt) (t : DS) : Prop where
  ex : ∃ ts, PSs X st ts ∧ SimS X.K E ts t
section
variable {X : Cx} {E : XK} {a b c e : Expr} {es : List Expr} {da db dc dd : DX} {tA tB : DT} {pos : Pos} {st : Stmt} {sts : List Stmt} {t u : DS}
def dNext : DS := fun D r M => D.nx r M
def dSeq (t u : DS) : DS := fun D r M => t { D with nx := u D } r M
theorem qss_nil : QSs X E [] dNext := ⟨_, pss_nil, fun g H r M D D' he hm ht k => k.nx g r H M (.refl hm) hm he ht⟩
theorem qss_one (h : QS X E st t) : QSs X E [st] t := by
  obtain ⟨ts, h1, h2⟩ := h.ex
  exact ⟨_, pss_one h1, h2⟩
theorem qss_cons (h : QS X E st t) (h' : QSs X E sts u) : QSs X E (st :: sts) (dSeq t u) := by
  obtain ⟨ts, h1, h2⟩ := h.ex
  obtain ⟨us, g1, g2⟩ := h'.ex
  refine ⟨_, pss_cons h1 g1, fun g H r M D D' he hm ht k => ?_⟩
  refine h2 g H r M { D with nx := u D } { D' with nx := us D' } he hm ht ⟨fun g1 r1 H1 M1 s1 m1 e1 q1 => ?_, k.rt, k.bk, k.ct, k.ex⟩
  exact g2 g1 H1 r1 M1 D D' e1 m1 q1 (k.mono s1)
theorem qs_pass : QS X E (.Pass pos) dNext := ⟨_, ps_pass, fun g H r M D D' he hm ht k => k.nx g r H M (.refl hm) hm he ht⟩
def dBreak : DS := fun D r M => D.bk r M
theorem qs_break : QS X E (.Break pos) dBreak := ⟨_, ps_break, fun g H r M D D' he hm ht k => k.bk g r H M (.refl hm) hm he ht⟩
def dCont : DS := fun D r M => D.ct r M
theorem qs_cont : QS X E (.Continue pos) dCont := ⟨_, ps_continue, fun g H r M D D' he hm ht k => k.ct g r H M (.refl hm) hm he ht⟩
def dDrop (da : DX) : DS := fun D r M => da r M (fun _ M1 => D.nx r M1) D.ex
theorem qs_expr (ha : QE X E e da) (h : ∀ te, PE X e te → PS X (.Expr e pos) (tDrop te)) : QS X E (.Expr e pos) (dDrop da) := by
  obtain ⟨te, h1, h2⟩ := ha.ex
  refine ⟨_, h te h1, fun g H r M D D' he hm ht k => ?_⟩
  exact h2 g H r M _ D.ex _ he hm ht (fun v x H1 M1 s1 m1 x1 q1 => k.nx g r H1 M1 s1 m1 (he.mono s1) q1) k.ex
def dRet (da : DX) : DS := fun D r M => da r M D.rt D.ex
theorem qs_ret (ha : QE X E e da) : QS X E (.Return (some e) pos) (dRet da) := by
  obtain ⟨te, h1, h2⟩ := ha.ex
  exact ⟨_, ps_ret h1, fun g H r M D D' he hm ht k => h2 g H r M _ D.ex _ he hm ht (fun v x H1 M1 s1 m1 x1 q1 => k.rt v x H1 M1 s1 m1 x1 q1) k.ex⟩
def dIfS (c : DT) (t u : DS) : DS := fun D r M => c r M (fun b M1 => if b = true then t D r M1 else u D r M1) D.ex
theorem qs_if {a b : List Stmt} (hc : QT X E c tA) (ha : QSs X E a t) (hb : QSs X E b u) : QS X E (.If c a b pos) (dIfS tA t u) := by
  obtain ⟨tc, c1, c2⟩ := hc.ex
  obtain ⟨ts, a1, a2⟩ := ha.ex
  obtain ⟨us, b1, b2⟩ := hb.ex
  refine ⟨_, ps_if c1 a1 b1, fun g H r M D D' he hm ht k => ?_⟩
  refine c2 g H r M _ D.ex _ he hm ht (fun d H1 M1 s1 m1 q1 => ?_) k.ex
  cases d with
  | true =>
    rw [if_pos rfl] at q1 ⊢
    exact a2 g H1 r M1 D D' (he.mono s1) m1 q1 (k.mono s1)
  | false =>
    rw [if_neg Bool.false_ne_true] at q1 ⊢
    exact b2 g H1 r M1 D D' (he.mono s1) m1 q1 (k.mono s1)
/-! ### stores -/
def dSet (i : Nat) (da : DX) : DS := fun D r M => da r M (fun x M1 => D.nx (r.set i (some x)) M1) D.ex
theorem qs_set (i : Nat) (ha : QE X E e da) (h : ∀ te, PE X e te → PS X st (tAsg te (gName i))) : QS X E st (dSet i da) := by
  obtain ⟨te, h1, h2⟩ := ha.ex
  refine ⟨_, h te h1, fun g H r M D D' he hm ht k => ?_⟩
  exact h2 g H r M _ D.ex _ he hm ht (fun v x H1 M1 s1 m1 x1 q1 => k.nx _ _ H1 M1 s1 m1 ((he.mono s1).set x1 i) q1) k.ex
def dPar (i j : Nat) (t : DA) : DS := fun D r M => t r M (fun xs M1 => match xs with
  | [x, y] => D.nx ((r.set i (some x)).set j (some y)) M1
  | _ => False) D.ex
theorem qs_par (i j : Nat) {t : DA} (ha : QA X E es t) (h : ∀ ta, PA X es ta → PS X st (tPar i j ta)) : QS X E st (dPar i j t) := by
  obtain ⟨ta, h1, h2⟩ := ha.ex
  refine ⟨_, h ta h1, fun g H r M D D' he hm ht k => ?_⟩
  refine h2 g H r M _ D.ex _ he hm ht (fun vs xs H1 M1 s1 m1 x1 q1 => ?_) k.ex
  split at q1
  · cases x1 with
    | cons y1 t1 =>
      cases t1 with
      | cons y2 t2 =>
        cases t2
        exact ⟨_, _, rfl, k.nx _ _ H1 M1 s1 m1 (((he.mono s1).set y1 i).set y2 j) q1⟩
  · exact q1.elim
def dPar3 (i j l : Nat) (t : DA) : DS := fun D r M => t r M (fun xs M1 => match xs with
  | [x, y, z] => D.nx (((r.set i (some x)).set j (some y)).set l (some z)) M1
  | _ => False) D.ex
theorem qs_par3 (i j l : Nat) {t : DA} (ha : QA X E es t) (h : ∀ ta, PA X es ta → PS X st (tPar3 i j l ta)) : QS X E st (dPar3 i j l t) := by
  obtain ⟨ta, h1, h2⟩ := ha.ex
  refine ⟨_, h ta h1, fun g H r M D D' he hm ht k => ?_⟩
  refine h2 g H r M _ D.ex _ he hm ht (fun vs xs H1 M1 s1 m1 x1 q1 => ?_) k.ex
  split at q1
  · cases x1 with
    | cons y1 t1 =>
      cases t1 with
      | cons y2 t2 =>
        cases t2 with
        | cons y3 t3 =>
          cases t3
          exact ⟨_, _, _, rfl, k.nx _ _ H1 M1 s1 m1 ((((he.mono s1).set y1 i).set y2 j).set y3 l) q1⟩
  · exact q1.elim
/-- a, b, .. = e, e a tuple -/
def setsX (r : DEnv) : List Nat → List PyData → DEnv
  | i :: is, d :: ds => setsX (r.set i (some (.d d))) is ds
  | _, _ => r
def dUnp (is : List Nat) (da : DX) : DS := fun D r M => da r M (fun x M1 => match x with
  | .d (.tuple ds) => ds.length = is.length ∧ D.nx (setsX r is ds) M1
  | _ => False) D.ex
def gNames : List Nat → TGs
  | [] => gNil
  | i :: is => gCons (gName i) (gNames is)
theorem gNames_ok {K : PySem.W.Frag} {H : Hp} {M : MH} {Q : L2.St → Hp → Prop} : ∀ {is : List Nat} {vs : List V} {ds : List PyData} {g : L2.St} {r : DEnv}, DqAll K H M vs ds → ds.length = is.length → EnvOk K H M g r →
    (∀ g', EnvOk K H M g' (setsX r is ds) → Q g' H) → gNames is vs g H Q
  | [], _, _, g, r, .nil, _, he, q => ⟨rfl, q g he⟩
  | i :: is, _, _, g, r, .cons h t, hl, he, q => by
    refine ⟨_, _, rfl, ?_⟩
    exact gNames_ok (is := is) t (by simpa using hl) (EnvOk.set (x := .d _) h i he) q
theorem qs_unp (is : List Nat) (ha : QE X E e da) (h : ∀ te, PE X e te → PS X st (tAsg te (gTup X.K is.length (gNames is)))) : QS X E st (dUnp is da) := by
  obtain ⟨te, h1, h2⟩ := ha.ex
  refine ⟨_, h te h1, fun g H r M D D' he hm ht k => ?_⟩
  refine h2 g H r M _ D.ex _ he hm ht (fun v x H1 M1 s1 m1 x1 q1 => ?_) k.ex
  split at q1
  · rename_i ds
    cases x1 with
    | tup l1 a1 => exact ⟨_, _, rfl, l1.sq, by rw [a1.length]; exact q1.1, gNames_ok a1 q1.1 (he.mono s1) fun g' e' => k.nx g' _ H1 M1 s1 m1 e' q1.2⟩
  · exact q1.elim
/-- o[i] = e, o a list that changes -/
def dPut (dv dobj di : DX) : DS := fun D r M => dv r M (fun v M1 => dobj r M1 (fun o M2 => di r M2 (fun i M3 => match o, i with
  | .r (.ref p), .d (.int k) => (match M3 p with
    | some (.lst xs) => (match ixN xs.length k with
      | some j => D.nx r (mset M3 p (.lst (xs.set j v)))
      | none => False)
    | _ => False)
  | _, _ => False) D.ex) D.ex) D.ex
theorem qs_sub {dv dobj di : DX} {o i : Expr} (hv : QE X E e dv) (ho : QE X E o dobj) (hi : QE X E i di)
    (h : ∀ te to ti, PE X e te → PE X o to → PE X i ti → PS X st (tAsg te (gSub to ti rSetL))) : QS X E st (dPut dv dobj di) := by
  obtain ⟨te, e1, e2⟩ := hv.ex
  obtain ⟨to, o1, o2⟩ := ho.ex
  obtain ⟨ti, i1, i2⟩ := hi.ex
  refine ⟨_, h te to ti e1 o1 i1, fun g H r M D D' he hm ht k => ?_⟩
  refine e2 g H r M _ D.ex _ he hm ht (fun v x H1 M1 s1 m1 x1 q1 => ?_) k.ex
  refine o2 g H1 r M1 _ D.ex _ (he.mono s1) m1 q1 (fun w y H2 M2 s2 m2 x2 q2 => ?_) (k.ex.mono s1)
  have s12 := s1.trans s2
  refine i2 g H2 r M2 _ D.ex _ (he.mono s12) m2 q2 (fun z n H3 M3 s3 m3 x3 q3 => ?_) (k.ex.mono s12)
  have s13 := s12.trans s3
  split at q3
  · rename_i p j
    cases x3
    obtain rfl : w = V.ref p := x2
    split at q3
    · rename_i xs em
      split at q3
      · rename_i j' ej
        obtain ⟨vs, hp, hx⟩ := m3 p _ em
        have s4 := Stp.put (o := .lst (vs.set j' v)) (u := .lst (xs.set j' x)) m3 (p := p) (Or.inr (by rw [em]; simp))
        have x4 := ((x1.mono s2).mono s3).mono s4
        refine ⟨p, vs, j, j', rfl, rfl, hp, by rw [hx.length]; exact ej, ?_⟩
        exact k.nx g r _ _ (s13.trans s4) (m3.put (Or.inr (by rw [em]; simp)) ⟨_, upd_same, (hx.mono s4).set x4 j'⟩) (he.mono (s13.trans s4)) q3
      · exact q3.elim
    · exact q3.elim
  · exact q3.elim
/-! ### objects of own classes -/
structure OwnC (K : PySem.W.Frag) (C : Addr) (fns : List Str) : Prop where
  cls : Cls K C
  no : ∀ f ∈ fns, NoAttr K C f
def dFld (C : Addr) (f : Str) (da : DX) : DX := fun r M R P => da r M (fun x M1 => match x with
  | .r (.ref p) => (match M1 p with
    | some (.ins C' fs) => C' = C ∧ (match fs.lookup f with
      | some y => R y M1
      | none => False)
    | _ => False)
  | _ => False) P
theorem q_fld {C : Addr} {f : Str} {fns : List Str} (O : OwnC X.K C fns) (hf : f ∈ fns) (ha : QE X E e da) (h : ∀ te, PE X e te → PE X (.Attribute e f pos) (tFld X.K te f)) : QE X E (.Attribute e f pos) (dFld C f da) := by
  obtain ⟨te, h1, h2⟩ := ha.ex
  refine ⟨_, h te h1, fun g H r M R P Q he hm ht k ex => ?_⟩
  refine h2 g H r M _ P _ he hm ht (fun v x H1 M1 s1 m1 x1 q1 => ?_) ex
  split at q1
  · rename_i p
    obtain rfl : v = V.ref p := x1
    split at q1
    · rename_i C' fs em
      obtain ⟨rfl, q1⟩ := q1
      split at q1
      · rename_i y el
        obtain ⟨dx, vfs, hp, hx⟩ := m1 p _ em
        obtain ⟨w, e1, x2⟩ := hx.look el
        exact ⟨p, _, dx, vfs, w, rfl, hp, O.cls, O.no f hf, e1, k w y H1 M1 s1 m1 x2 q1⟩
      · exact q1.elim
    · exact q1.elim
  · exact q1.elim
def dSetF (C : Addr) (f : Str) (dobj dv : DX) : DS := fun D r M => dv r M (fun y M1 => dobj r M1 (fun x M2 => match x with
  | .r (.ref p) => (match M2 p with
    | some (.ins C' fs) => C' = C ∧ fs.length < 1000 ∧ D.nx r (mset M2 p (.ins C (putX f y fs)))
    | _ => False)
  | _ => False) D.ex) D.ex
theorem qs_fld {C : Addr} {f : Str} {fns : List Str} {dobj dv : DX} {o v : Expr} (O : OwnC X.K C fns) (hf : f ∈ fns) (ho : QE X E o dobj) (hv : QE X E v dv) (h : ∀ to tv, PE X o to → PE X v tv → PS X st (sFld X.K to tv f)) : QS X E st (dSetF C f dobj dv) := by
  obtain ⟨to, o1, o2⟩ := ho.ex
  obtain ⟨tv, v1, v2⟩ := hv.ex
  refine ⟨_, h to tv o1 v1, fun g H r M D D' he hm ht k => ?_⟩
  refine v2 g H r M _ D.ex _ he hm ht (fun w y H1 M1 s1 m1 x1 q1 => ?_) k.ex
  refine o2 g H1 r M1 _ D.ex _ (he.mono s1) m1 q1 (fun z x H2 M2 s2 m2 x2 q2 => ?_) (k.ex.mono s1)
  have s12 := s1.trans s2
  split at q2
  · rename_i p
    obtain rfl : z = V.ref p := x2
    split at q2
    · rename_i C' fs em
      obtain ⟨rfl, hl, q2⟩ := q2
      obtain ⟨dx, vfs, hp, hx⟩ := m2 p _ em
      have s3 := Stp.put (o := .ins C' dx (putF f w vfs)) (u := .ins C' (putX f y fs)) m2 (p := p) (Or.inr (by rw [em]; simp))
      refine ⟨p, _, dx, vfs, rfl, hp, O.cls, O.no f hf, by rw [hx.length]; exact hl, ?_⟩
      exact k.nx g r _ _ (s12.trans s3) (m2.put (Or.inr (by rw [em]; simp)) ⟨_, _, upd_same, (hx.mono s3).put ((x1.mono s2).mono s3)⟩) (he.mono (s12.trans s3)) q2
    · exact q2.elim
  · exact q2.elim
/-- o.f += an int -/
def dAugF (C : Addr) (f : Str) (dobj dv : DX) : DS := fun D r M => dobj r M (fun x M1 => match x with
  | .r (.ref p) => (match M1 p with
    | some (.ins C' fs) => C' = C ∧ (match fs.lookup f with
      | some (.d (.int i)) => dv r M1 (fun y M2 => match y with
        | .d (.int j) => (match M2 p with
          | some (.ins C2 fs2) => C2 = C ∧ fs2.length < 1000 ∧ D.nx r (mset M2 p (.ins C (putX f (.d (.int (i + j))) fs2)))
          | _ => False)
        | _ => False) D.ex
      | _ => False)
    | _ => False)
  | _ => False) D.ex
theorem qs_augf {C : Addr} {f : Str} {fns : List Str} {dobj dv : DX} {o v : Expr} (O : OwnC X.K C fns) (hf : f ∈ fns) (ho : QE X E o dobj) (hv : QE X E v dv) (h : ∀ to tv, PE X o to → PE X v tv → PS X st (sFldAug X.K to tv rAdd f)) : QS X E st (dAugF C f dobj dv) := by
  obtain ⟨to, o1, o2⟩ := ho.ex
  obtain ⟨tv, v1, v2⟩ := hv.ex
  refine ⟨_, h to tv o1 v1, fun g H r M D D' he hm ht k => ?_⟩
  refine o2 g H r M _ D.ex _ he hm ht (fun z x H1 M1 s1 m1 x1 q1 => ?_) k.ex
  split at q1
  · rename_i p
    obtain rfl : z = V.ref p := x1
    split at q1
    · rename_i C' fs em
      obtain ⟨rfl, q1⟩ := q1
      split at q1
      · rename_i i el
        obtain ⟨dx, vfs, hp, hx⟩ := m1 p _ em
        obtain ⟨w, e1, x2⟩ := hx.look el
        cases x2
        refine ⟨p, _, dx, vfs, _, rfl, hp, O.cls, O.no f hf, e1, ?_⟩
        refine v2 g H1 r M1 _ D.ex _ (he.mono s1) m1 q1 (fun w2 y H2 M2 s2 m2 x2 q2 => ?_) (k.ex.mono s1)
        split at q2
        · rename_i j
          cases x2
          split at q2
          · rename_i C2 fs2 em2
            obtain ⟨rfl, hl, q2⟩ := q2
            obtain ⟨dx2, vfs2, hp2, hx2⟩ := m2 p _ em2
            have s3 := Stp.put (o := .ins C2 dx2 (putF f (.int (i + j)) vfs2)) (u := .ins C2 (putX f (.d (.int (i + j))) fs2)) m2 (p := p) (Or.inr (by rw [em2]; simp))
            refine ⟨i, j, rfl, rfl, dx2, vfs2, hp2, by rw [hx2.length]; exact hl, ?_⟩
            exact k.nx g r _ _ ((s1.trans s2).trans s3) (m2.put (Or.inr (by rw [em2]; simp)) ⟨_, _, upd_same, (hx2.mono s3).put (x := .d (.int (i + j))) (Dq.int _)⟩) (he.mono ((s1.trans s2).trans s3)) q2
          · exact q2.elim
        · exact q2.elim
      · exact q1.elim
    · exact q1.elim
  · exact q1.elim
end
end Y
set_option maxHeartbeats 4000000
namespace Y
open PySem PySem.Spec PyProof.Rows L2
section
variable {K : PySem.W.Frag} {H H' : Hp} {M M' : MH}
/-! ### what changed becomes data -/
mutual
/-- x, read in M, is the data d; what it is made of is let go in M' -/
inductive Den (M M' : MH) : Xv → PyData → Prop
  | d (d : PyData) : Den M M' (.d d) d
  | l {p : Addr} {xs : List Xv} {ds : List PyData} : M p = some (.lst xs) → M' p = none → DenAll M M' xs ds → Den M M' (.r (.ref p)) (.list ds)
inductive DenAll (M M' : MH) : List Xv → List PyData → Prop
  | nil : DenAll M M' [] []
  | cons {x : Xv} {d : PyData} {xs : List Xv} {ds : List PyData} : Den M M' x d → DenAll M M' xs ds → DenAll M M' (x :: xs) (d :: ds)
end
mutual
theorem Den.ok (hm : MOk K H M) (l : Less M M') : ∀ {v : V} {x : Xv} {d : PyData}, Den M M' x d → XOk K H M v x → Dq K H M' v d
  | _, _, _, .d _, h => Dq.mono (Stp.less hm l) h
  | v, _, _, .l (p := p) e e' a, h => by
    obtain ⟨vs, q, r⟩ := hm p _ e
    obtain rfl : v = V.ref p := h
    exact Dq.lst (Or.inl ⟨e', Or.inl q⟩) (DenAll.ok hm l a r)
theorem DenAll.ok (hm : MOk K H M) (l : Less M M') : ∀ {vs : List V} {xs : List Xv} {ds : List PyData}, DenAll M M' xs ds → XsOk K H M vs xs → DqAll K H M' vs ds
  | _, _, _, .nil, .nil => .nil
  | _, _, _, .cons h t, .cons q r => .cons (Den.ok hm l h q) (DenAll.ok hm l t r)
end
theorem DenAll.map {M M' : MH} (ds : List PyData) : DenAll M M' (ds.map .d) ds := by
  induction ds with
  | nil => exact .nil
  | cons d ds ih => exact .cons (.d d) ih
/-- a step that only forgets: the value x in M is the value y in M' -/
def Gho (M : MH) (x : Xv) (M' : MH) (y : Xv) : Prop := Less M M' ∧ (x = y ∨ ∃ d, y = .d d ∧ Den M M' x d)
theorem Gho.ok {x y : Xv} (hm : MOk K H M) (g : Gho M x M' y) {v : V} (h : XOk K H M v x) : MOk K H M' ∧ Stp H M H M' ∧ XOk K H M' v y := by
  refine ⟨hm.less g.1, Stp.less hm g.1, ?_⟩
  rcases g.2 with rfl | ⟨d, rfl, q⟩
  · exact h.mono (Stp.less hm g.1)
  · exact Den.ok hm g.1 q h
theorem Gho.refl {x : Xv} : Gho M x M x := ⟨Less.refl, Or.inl rfl⟩
end
section
variable {X : Cx} {E : XK} {a b c e : Expr} {es : List Expr} {da db dc dd : DX} {tA tB : DT} {pos : Pos} {st : Stmt} {sts : List Stmt} {t u : DS}
def dGho (da : DX) : DX := fun r M R P => da r M (fun x M1 => ∃ y M2, Gho M1 x M2 y ∧ R y M2) P
theorem q_gho (h : QE X E e da) : QE X E e (dGho da) := by
  obtain ⟨te, h1, h2⟩ := h.ex
  refine ⟨te, h1, fun g H r M R P Q he hm ht k ex => ?_⟩
  refine h2 g H r M _ P _ he hm ht (fun v x H1 M1 s1 m1 x1 q1 => ?_) ex
  obtain ⟨y, M2, gh, q⟩ := q1
  obtain ⟨m2, s2, x2⟩ := gh.ok m1 x1
  exact k v y H1 M2 (s1.trans s2) m2 x2 q
/-! ### loops -/
def dWhile (c : DT) (tb : DS) : DS := fun D r M => ∃ (I : DEnv → MH → Prop) (μ : DEnv → MH → Nat), I r M ∧
  ∀ r M, I r M → c r M (fun b M1 => if b = true then tb { D with nx := fun r' M' => I r' M' ∧ μ r' M' < μ r M, ct := fun r' M' => I r' M' ∧ μ r' M' < μ r M, bk := D.nx } r M1 else D.nx r M1) D.ex
theorem qs_while {body : List Stmt} (hc : QT X E c tA) (hb : QSs X E body t) (h : ∀ tc tb, PT X c tc → PSs X body tb → PS X st (tWhile tc tb)) : QS X E st (dWhile tA t) := by
  obtain ⟨tc, c1, c2⟩ := hc.ex
  obtain ⟨tb, b1, b2⟩ := hb.ex
  refine ⟨_, h tc tb c1 b1, fun g H r M D D' he hm ht k => ?_⟩
  obtain ⟨I, μ, h0, hs⟩ := ht
  refine ⟨fun m g1 H1 => ∃ r1 M1, Stp H M H1 M1 ∧ MOk X.K H1 M1 ∧ EnvOk X.K H1 M1 g1 r1 ∧ I r1 M1 ∧ m = μ r1 M1, ⟨_, r, M, .refl hm, hm, he, h0, rfl⟩, ?_⟩
  rintro m g1 H1 ⟨r1, M1, s1, m1, e1, i1, rfl⟩
  refine c2 g1 H1 r1 M1 _ D.ex _ e1 m1 (hs r1 M1 i1) (fun d H2 M2 s2 m2 q2 => ?_) (k.ex.mono s1)
  have s12 := s1.trans s2
  cases d with
  | true =>
    rw [if_pos rfl] at q2 ⊢
    refine ⟨fun g' H' => ∃ r' M', Stp H M H' M' ∧ MOk X.K H' M' ∧ EnvOk X.K H' M' g' r' ∧ I r' M' ∧ μ r' M' < μ r1 M1, fun g' H' ⟨r', M', x1, x2, x3, x4, x5⟩ => ⟨_, x5, r', M', x1, x2, x3, x4, rfl⟩, ?_⟩
    have kk := k.mono s12
    exact b2 g1 H2 r1 M2 _ _ (e1.mono s2) m2 q2
      ⟨fun g' r' H' M' x1 x2 x3 x4 => ⟨r', M', s12.trans x1, x2, x3, x4.1, x4.2⟩, kk.rt, kk.nx, fun g' r' H' M' x1 x2 x3 x4 => ⟨r', M', s12.trans x1, x2, x3, x4.1, x4.2⟩, kk.ex⟩
  | false =>
    rw [if_neg Bool.false_ne_true] at q2 ⊢
    exact k.nx g1 r1 H2 M2 s12 m2 (e1.mono s2) q2
/-- the turns of a for -/
def dLoop (n : Nat) (item : Nat → Xv) (i : Nat) (tb : DS) : DS := fun D r M => ∃ I : Nat → DEnv → MH → Prop, I 0 r M ∧
  (∀ k r M, k < n → I k r M → tb { D with nx := I (k + 1), ct := I (k + 1), bk := D.nx } (r.set i (some (item k))) M) ∧ ∀ r M, I n r M → D.nx r M
theorem simTurn {K : PySem.W.Frag} {ts : TS} {H0 H : Hp} {M0 M : MH} {D : DEnds} {D' : Ends} {I : DEnv → MH → Prop} {g : L2.St} {r : DEnv} {i : Nat} {v : V} {x : Xv} {J : L2.St → Hp → Prop} (b2 : SimS K E ts t) (s : Stp H0 M0 H M) (m : MOk K H M) (he : EnvOk K H M g r)
    (hx : XOk K H M v x) (k : EndsOk K E H0 M0 D D') (q : t { D with nx := I, ct := I, bk := D.nx } (r.set i (some x)) M)
    (hJ : ∀ g' r' H' M', Stp H0 M0 H' M' → MOk K H' M' → EnvOk K H' M' g' r' → I r' M' → J g' H') :
    ts { D' with nx := J, ct := J, bk := D'.nx } (g.set i (some v)) H := by
  have kk := k.mono s
  exact b2 _ H _ M _ _ (he.set hx i) m q ⟨fun g' r' H' M' x1 x2 x3 x4 => hJ g' r' H' M' (s.trans x1) x2 x3 x4, kk.rt, kk.nx, fun g' r' H' M' x1 x2 x3 x4 => hJ g' r' H' M' (s.trans x1) x2 x3 x4, kk.ex⟩
/-- for x in range(n) -/
def dForR1 (da : DX) (i : Nat) (tb : DS) : DS := fun D r M => da r M (fun x M1 => match x with
  | .d (.int j) => -(2 ^ 62) ≤ j ∧ j < 2 ^ 62 ∧ dLoop j.toNat (fun k => .d (.int (k : Nat))) i tb D r M1
  | _ => False) D.ex
theorem qs_forR1 {body : List Stmt} {i : Nat} (ha : QE X E a da) (hb : QSs X E body t) (h : ∀ te tb, PE X a te → PSs X body tb → PS X st (tFor (iRng1 (tCons te tNil)) (gName i) tb)) : QS X E st (dForR1 da i t) := by
  obtain ⟨tz, a1, a2⟩ := ha.ex
  obtain ⟨tb, b1, b2⟩ := hb.ex
  refine ⟨_, h tz tb a1 b1, fun g H r M D D' he hm ht k => ?_⟩
  refine a2 g H r M _ D.ex _ he hm ht (fun v x H1 M1 s1 m1 x1 q1 => ?_) k.ex
  split at q1
  · rename_i j
    obtain ⟨y1, y2, I, i0, is, ie⟩ := q1
    cases x1
    refine ⟨j, rfl, y1, y2, ?_⟩
    refine for_range (D := D') (fun n g' H' => ∃ r' M', Stp H M H' M' ∧ MOk X.K H' M' ∧ EnvOk X.K H' M' g' r' ∧ I n r' M') ⟨r, M1, s1, m1, he.mono s1, i0⟩ ?_ ?_
    · rintro n g2 H2 hn ⟨r2, M2, s2, m2, e2, i2⟩
      refine simTurn b2 s2 m2 e2 (x := .d (.int (n : Nat))) (v := .int (0 + (n : Nat))) (by rw [Int.zero_add]; exact Dq.int _) k (is n r2 M2 hn i2) fun g' r' H' M' z1 z2 z3 z4 => ⟨r', M', z1, z2, z3, z4⟩
    · rintro g2 H2 ⟨r2, M2, s2, m2, e2, i2⟩
      exact k.nx g2 r2 H2 M2 s2 m2 e2 (ie r2 M2 i2)
  · exact q1.elim
/-- for x in range(l, j) -/
def dForR2 (da db : DX) (i : Nat) (tb : DS) : DS := fun D r M => da r M (fun x M1 => db r M1 (fun y M2 => match x, y with
  | .d (.int l), .d (.int j) => (-(2 ^ 62) ≤ l ∧ l < 2 ^ 62 ∧ -(2 ^ 62) ≤ j ∧ j < 2 ^ 62) ∧ dLoop (j - l).toNat (fun k => .d (.int (l + (k : Nat)))) i tb D r M2
  | _, _ => False) D.ex) D.ex
theorem qs_forR2 {body : List Stmt} {i : Nat} (ha : QE X E a da) (hb' : QE X E b db) (hb : QSs X E body t) (h : ∀ te tf tb, PE X a te → PE X b tf → PSs X body tb → PS X st (tFor (iRng2 (tCons te (tCons tf tNil))) (gName i) tb)) : QS X E st (dForR2 da db i t) := by
  obtain ⟨tz, a1, a2⟩ := ha.ex
  obtain ⟨ty, c1, c2⟩ := hb'.ex
  obtain ⟨tb, b1, b2⟩ := hb.ex
  refine ⟨_, h tz ty tb a1 c1 b1, fun g H r M D D' he hm ht k => ?_⟩
  refine a2 g H r M _ D.ex _ he hm ht (fun v x H1 M1 s1 m1 x1 q1 => ?_) k.ex
  refine c2 g H1 r M1 _ D.ex _ (he.mono s1) m1 q1 (fun u y H2 M2 s2 m2 x2 q2 => ?_) (k.ex.mono s1)
  have s12 := s1.trans s2
  split at q2
  · rename_i l j
    obtain ⟨y1, I, i0, is, ie⟩ := q2
    cases x1
    cases x2
    refine ⟨l, j, rfl, y1, ?_⟩
    refine for_range (D := D') (fun n g' H' => ∃ r' M', Stp H M H' M' ∧ MOk X.K H' M' ∧ EnvOk X.K H' M' g' r' ∧ I n r' M') ⟨r, M2, s12, m2, he.mono s12, i0⟩ ?_ ?_
    · rintro n g2 H2 hn ⟨r2, M2, s2, m2, e2, i2⟩
      exact simTurn b2 s2 m2 e2 (x := .d (.int (l + (n : Nat)))) (v := .int (l + (n : Nat))) (Dq.int _) k (is n r2 M2 hn i2) fun g' r' H' M' z1 z2 z3 z4 => ⟨r', M', z1, z2, z3, z4⟩
    · rintro g2 H2 ⟨r2, M2, s2, m2, e2, i2⟩
      exact k.nx g2 r2 H2 M2 s2 m2 e2 (ie r2 M2 i2)
  · exact q2.elim
/-- for x in a list that is data -/
def dForD (da : DX) (i : Nat) (tb : DS) : DS := fun D r M => da r M (fun x M1 => match x with
  | .d (.list ds) => dLoop ds.length (fun k => .d (ds.getD k .none)) i tb D r M1
  | _ => False) D.ex
theorem qs_forD {body : List Stmt} {i : Nat} (ha : QE X E e da) (hb : QSs X E body t) (h : ∀ tl tb, PE X e tl → PSs X body tb → PS X st (tFor (iList X.K tl) (gName i) tb)) : QS X E st (dForD da i t) := by
  obtain ⟨tz, a1, a2⟩ := ha.ex
  obtain ⟨tb, b1, b2⟩ := hb.ex
  refine ⟨_, h tz tb a1 b1, fun g H r M D D' he hm ht k => ?_⟩
  refine a2 g H r M _ D.ex _ he hm ht (fun v x H1 M1 s1 m1 x1 q1 => ?_) k.ex
  split at q1
  · rename_i ds
    obtain ⟨I, i0, is, ie⟩ := q1
    cases x1 with
    | lst l1 al =>
      rename_i p vs
      have len := al.length
      refine ⟨p, rfl, ⟨vs, l1.sq⟩, ?_⟩
      refine for_list (D := D') (xs := vs) (fun n g' H' => ∃ r' M', Stp H1 M1 H' M' ∧ MOk X.K H' M' ∧ EnvOk X.K H' M' g' r' ∧ I n r' M') ⟨r, M1, .refl m1, m1, he.mono s1, i0⟩ ?_ ?_ ?_
      · rintro n g2 H2 hn ⟨r2, M2, s2, m2, e2, i2⟩
        exact (l1.mono s2).sq
      · rintro n y g2 H2 hy ⟨r2, M2, s2, m2, e2, i2⟩
        have hn : n < vs.length := (List.getElem?_eq_some_iff.mp hy).1
        have hd : ds[n]? = some (ds.getD n .none) := by
          rw [List.getD_eq_getElem?_getD, List.getElem?_eq_getElem (by omega)]; rfl
        obtain ⟨w, e1, dw⟩ := al.get hd
        rw [hy] at e1
        cases e1
        exact simTurn b2 s2 m2 e2 (x := .d (ds.getD n .none)) (dw.mono s2) (k.mono s1) (is n r2 M2 (by omega) i2) fun g' r' H' M' z1 z2 z3 z4 => ⟨r', M', z1, z2, z3, z4⟩
      · rintro g2 H2 ⟨r2, M2, s2, m2, e2, i2⟩
        rw [len] at i2
        exact k.nx g2 r2 H2 M2 (s1.trans s2) m2 e2 (ie r2 M2 i2)
  · exact q1.elim
/-- for x in a list that may change, but does not -/
def dForM (da : DX) (i : Nat) (tb : DS) : DS := fun D r M => da r M (fun x M1 => match x with
  | .r (.ref p) => (match M1 p with
    | some (.lst xs) => ∃ I : Nat → DEnv → MH → Prop, I 0 r M1 ∧ (∀ k r M, I k r M → M p = some (.lst xs)) ∧
      (∀ k r M y, xs[k]? = some y → I k r M → tb { D with nx := I (k + 1), ct := I (k + 1), bk := D.nx } (r.set i (some y)) M) ∧ ∀ r M, I xs.length r M → D.nx r M
    | _ => False)
  | _ => False) D.ex
theorem qs_forM {body : List Stmt} {i : Nat} (ha : QE X E e da) (hb : QSs X E body t) (h : ∀ tl tb, PE X e tl → PSs X body tb → PS X st (tFor (iList X.K tl) (gName i) tb)) : QS X E st (dForM da i t) := by
  obtain ⟨tz, a1, a2⟩ := ha.ex
  obtain ⟨tb, b1, b2⟩ := hb.ex
  refine ⟨_, h tz tb a1 b1, fun g H r M D D' he hm ht k => ?_⟩
  refine a2 g H r M _ D.ex _ he hm ht (fun v x H1 M1 s1 m1 x1 q1 => ?_) k.ex
  split at q1
  · rename_i p
    obtain rfl : v = V.ref p := x1
    split at q1
    · rename_i xs em
      obtain ⟨I, i0, il, is, ie⟩ := q1
      obtain ⟨vs, hp, hx⟩ := m1 p _ em
      refine ⟨p, rfl, ⟨vs, SqL.of hp⟩, fun n m g' H' => (∃ r' M', Stp H1 M1 H' M' ∧ MOk X.K H' M' ∧ EnvOk X.K H' M' g' r' ∧ I n r' M') ∧ n ≤ xs.length ∧ m = xs.length - n, ⟨_, ⟨r, M1, .refl m1, m1, he.mono s1, i0⟩, Nat.zero_le _, rfl⟩, ?_⟩
      rintro n m g2 H2 ⟨⟨r2, M2, s2, m2, e2, i2⟩, hn, rfl⟩
      obtain ⟨vs2, hp2, hx2⟩ := m2 p _ (il n r2 M2 i2)
      have len := hx2.length
      by_cases hlt : n < xs.length
      · refine Or.inr ⟨⟨vs2, vs2[n]'(by omega), SqL.of hp2, List.getElem?_eq_getElem _⟩, fun g' H' => ∃ r' M', Stp H1 M1 H' M' ∧ MOk X.K H' M' ∧ EnvOk X.K H' M' g' r' ∧ I (n + 1) r' M', fun g' H' z => ⟨_, by omega, z, by omega, rfl⟩, ?_⟩
        rintro y H' ⟨rfl, hy⟩
        have hy := hy vs2 (SqL.of hp2)
        have hd : xs[n]? = some (xs[n]'hlt) := List.getElem?_eq_getElem _
        obtain ⟨w, e1, dw⟩ := hx2.get hd
        rw [hy] at e1
        cases e1
        exact simTurn b2 s2 m2 e2 dw (k.mono s1) (is n r2 M2 _ hd i2) fun g' r' H' M' z1 z2 z3 z4 => ⟨r', M', z1, z2, z3, z4⟩
      · obtain rfl : n = xs.length := by omega
        exact Or.inl ⟨⟨vs2, SqL.of hp2, by omega⟩, k.nx g2 r2 H2 M2 (s1.trans s2) m2 e2 (ie r2 M2 i2)⟩
    · exact q1.elim
  · exact q1.elim
end
end Y
set_option maxHeartbeats 4000000
namespace Y
open PySem PySem.Spec PyProof.Rows L2
/-! ### promises of defs, by data -/
abbrev SpX := List Xv → MH → DR → PX → Prop
def toSp (K : PySem.W.Frag) (n : Nat) (spx : SpX) : Sp := fun vs H Q E => ∃ xs M R P, XsOk K H M vs xs ∧ MOk K H M ∧ xs.length = n ∧ spx xs M R P ∧
  (∀ v x H' M', Stp H M H' M' → MOk K H' M' → XOk K H' M' v x → R x M' → Q v H') ∧ EHyp K E H M P
theorem toSp.len {K : PySem.W.Frag} {n : Nat} {spx : SpX} {vs : List V} {H : Hp} {Q : VK} {E : XK} (h : toSp K n spx vs H Q E) : vs.length = n := by
  obtain ⟨xs, M, R, P, x, _, l, _⟩ := h
  rw [x.length, l]
theorem toSp.imp {K : PySem.W.Frag} {n : Nat} {s1 s2 : SpX} (h : ∀ xs M R P, s1 xs M R P → s2 xs M R P) {vs : List V} {H : Hp} {Q : VK} {E : XK} (q : toSp K n s1 vs H Q E) : toSp K n s2 vs H Q E := by
  obtain ⟨xs, M, R, P, x, m, l, s, k, e⟩ := q
  exact ⟨xs, M, R, P, x, m, l, h _ _ _ _ s, k, e⟩
section
variable {X : Cx} {E : XK} {a b c e o : Expr} {es : List Expr} {da db dc dd : DX} {tA tB : DT} {pos : Pos} {st : Stmt} {sts : List Stmt} {t u : DS} {ta : DA}
/-- f(e, ..), f a def -/
def dCall (n : Nat) (spx : SpX) (ta : DA) : DX := fun r M R P => ta r M (fun xs M1 => xs.length = n ∧ spx xs M1 R P) P
theorem q_call {n : Nat} {spx : SpX} (ha : QA X E es ta) (h : ∀ ta, PA X es ta → PE X e (tCall (toSp X.K n spx) [] E ta)) : QE X E e (dCall n spx ta) := by
  obtain ⟨tz, a1, a2⟩ := ha.ex
  refine ⟨_, h tz a1, fun g H r M R P Q he hm ht k ex => ?_⟩
  refine a2 g H r M _ P _ he hm ht (fun vs xs H1 M1 s1 m1 x1 q1 => ?_) ex
  rw [List.append_nil]
  exact ⟨xs, M1, R, P, x1, m1, q1.1, q1.2, fun v x H' M' z => k v x H' M' (s1.trans z), ex.mono s1⟩
/-- o.m(e, ..), o of the class C -/
def dMeth (C : Addr) (m : Str) (n : Nat) (spx : SpX) (da : DX) (ta : DA) : DX := fun r M R P => da r M (fun x M1 => match x with
  | .r (.ref p) => (match M1 p with
    | some (.ins C' fs) => C' = C ∧ fs.lookup m = none ∧ ta r M1 (fun xs M2 => xs.length + 1 = n ∧ spx (.r (.ref p) :: xs) M2 R P) P
    | _ => False)
  | _ => False) P
theorem q_meth {C : Addr} {m : Str} {n : Nat} {spx : SpX} (ho : QE X E o da) (ha : QA X E es ta) (h : ∀ te ta, PE X o te → PA X es ta → PE X e (tMeth C m (toSp X.K n spx) [] E te ta)) : QE X E e (dMeth C m n spx da ta) := by
  obtain ⟨to, o1, o2⟩ := ho.ex
  obtain ⟨tz, a1, a2⟩ := ha.ex
  refine ⟨_, h to tz o1 a1, fun g H r M R P Q he hm ht k ex => ?_⟩
  refine o2 g H r M _ P _ he hm ht (fun v x H1 M1 s1 m1 x1 q1 => ?_) ex
  split at q1
  · rename_i p
    obtain rfl : v = V.ref p := x1
    split at q1
    · rename_i C' fs em
      obtain ⟨rfl, hn, q1⟩ := q1
      obtain ⟨dx, vfs, hp, hx⟩ := m1 p _ em
      refine ⟨p, dx, vfs, rfl, hp, hx.lookN hn, ?_⟩
      refine a2 g H1 r M1 _ P _ (he.mono s1) m1 q1 (fun vs xs H2 M2 s2 m2 x2 q2 => ?_) (ex.mono s1)
      rw [List.append_nil]
      exact ⟨.r (.ref p) :: xs, M2, R, P, .cons rfl x2, m2, q2.1, q2.2, fun v x H' M' z => k v x H' M' ((s1.trans s2).trans z), (ex.mono s1).mono s2⟩
    · exact q1.elim
  · exact q1.elim
/-- C(e, ..) -/
def dMake (C : Addr) (n : Nat) (spx : SpX) (ta : DA) : DX := fun r M R P => ta r M (fun xs M1 => xs.length + 1 = n ∧ ∀ p, M1 p = none → spx (.r (.ref p) :: xs) (mset M1 p (.ins C [])) (fun x M2 => x = .d .none ∧ R (.r (.ref p)) M2) P) P
theorem q_make {C : Addr} {n : Nat} {spx : SpX} (ha : QA X E es ta) (h : ∀ ta, PA X es ta → PE X e (tMake C (toSp X.K n spx) [] E ta)) : QE X E e (dMake C n spx ta) := by
  obtain ⟨tz, a1, a2⟩ := ha.ex
  refine ⟨_, h tz a1, fun g H r M R P Q he hm ht k ex => ?_⟩
  refine a2 g H r M _ P _ he hm ht (fun vs xs H1 M1 s1 m1 x1 q1 => ?_) ex
  obtain ⟨hl, q1⟩ := q1
  intro p dx hp hd hne
  have s2 := Stp.new (o := .own p) m1 hd
  have m2 := m1.new (o := .own p) hd
  have hp2 : upd H1 dx (.own p) p = none := by rw [upd_ne (Ne.symm hne)]; exact hp
  have s3 := Stp.put (o := .ins C dx []) (u := .ins C []) m2 (Or.inl hp2)
  have m3 := m2.put (o := .ins C dx []) (u := .ins C []) (Or.inl hp2) ⟨dx, [], upd_same, .nil⟩
  have s23 := s2.trans s3
  rw [List.append_nil]
  refine ⟨.r (.ref p) :: xs, _, _, P, .cons rfl (x1.mono s23), m3, hl, q1 p (m1.gone hp), fun v x H' M' z m4 x4 q4 => ?_, (ex.mono s1).mono s23⟩
  obtain ⟨rfl, q4⟩ := q4
  cases x4
  exact ⟨rfl, k (.ref p) (.r (.ref p)) H' M' ((s1.trans s23).trans z) m4 rfl q4⟩

/-- THE RULE for a def -/
theorem fn_x {P : Program} {w : World} {K : PySem.W.Frag} {mg : Str → Option Value} {base : Heap} {nm qual : Str} {params : Arguments} {body : List Stmt} {scope : Scope} {f : Addr} {fd : FuncData} {N ps : List Str} {k n : Nat} {spx : SpX} (F : FunD K nm qual params body scope [] [] f fd) (S : FnScope N ps scope) (hn : ps.length = n)
    (t : DS) (hbody : ∀ (cdv : Value) (A : Around) (outer : List Env) (s : Shared) (H : Hp) (E : XK), Room k (A.deeper (envOfC qual scope s.heap.objs.size f cdv)) → QSs (cxOf (L2.CX P w) P w K mg base N qual scope f cdv A outer s H E) E body t)
    (hp : ∀ xs M R Px, xs.length = n → spx xs M R Px → t { nx := fun _ M' => R (.d .none) M', rt := R, ex := Px } (startX N xs) M) : FnOk P w K mg base (L2.CX P w) (k + 1) f fd ps (toSp K n spx) := by
  refine F.ok S (fun vs H Q E h => by rw [h.len, hn]) fun cdv A outer s H vs Q E hr hsp => ?_
  obtain ⟨ts, h1, h2⟩ := (hbody cdv A outer s H E hr).ex
  obtain ⟨xs, M, R, Px, x, m, l, sp, kk, ee⟩ := hsp
  refine ⟨ts, h1, h2 _ H _ M _ _ (EnvOk.start x) m (hp xs M R Px l sp) ⟨fun g r H' M' z1 z2 z3 z4 => ?_, fun v x H' M' z1 z2 z3 z4 => kk v x H' M' z1 z2 z3 z4, fun _ _ _ _ _ _ _ z => z.elim, fun _ _ _ _ _ _ _ z => z.elim, ee⟩⟩
  exact kk .non (.d .none) H' M' z1 z2 Dq.non z4
theorem pass_x {P : Program} {w : World} {K : PySem.W.Frag} {mg : Str → Option Value} {base : Heap} {N : List Str} {qual : Str} {scope : Scope} {f : Addr} {cdv : Value} {A : Around} {outer : List Env} {s : Shared} {H : Hp} {E : XK} :
    Passes (L2.CX P w) (cxOf (L2.CX P w) P w K mg base N qual scope f cdv A outer s H E) E := passes_call (takes_of rfl rfl rfl rfl) fun _ _ _ _ h => h
theorem pass_no {CX : CXT} {X : Cx} (h : ∀ l H s e s', ¬ CX l H s (fun _ _ _ => False) e s') : Passes CX X (fun _ _ _ => False) := fun _ _ H s e s' _ c => (h _ _ _ _ _ c).elim
theorem CX_no {P : Program} {w : World} {l : List Env} {H : Hp} {s : Shared} {e : Value} {s' : Shared} : ¬ L2.CX P w l H s (fun _ _ _ => False) e s' := fun ⟨_, _, _, _, _, _, _, _, _, _, _, _, z⟩ => z
theorem passX_no {P : Program} {w : World} {X : Cx} : Passes (L2.CX P w) X (fun _ _ _ => False) := pass_no fun _ _ _ _ _ => CX_no

/-! ### built-in calls -/
abbrev DC := List Xv → MH → DR → PX → Prop
def SimC (K : PySem.W.Frag) (E : XK) (r : List V → Hp → VK → Prop) (t : DC) : Prop := ∀ (H : Hp) (M : MH) (vs : List V) (xs : List Xv) (R : DR) (P : PX) (Q : VK), MOk K H M → XsOk K H M vs xs → t xs M R P →
  (∀ w z H' M', Stp H M H' M' → MOk K H' M' → XOk K H' M' w z → R z M' → Q w H') → EHyp K E H M P → r vs H Q
structure QB (X : Cx) (E : XK) (f : Value) (t : DC) : Prop where
  ex : ∃ r, CallR X f r ∧ SimC X.K E r t
def dApp (t : DC) (ta : DA) : DX := fun r M R P => ta r M (fun xs M1 => t xs M1 R P) P
theorem q_app {f : Value} {t : DC} (hb : QB X E f t) (ha : QA X E es ta) (h : ∀ r ta, CallR X f r → PA X es ta → PE X e (tCB r ta)) : QE X E e (dApp t ta) := by
  obtain ⟨r, b1, b2⟩ := hb.ex
  obtain ⟨tz, a1, a2⟩ := ha.ex
  refine ⟨_, h r tz b1 a1, fun g H r M R P Q he hm ht k ex => ?_⟩
  refine a2 g H r M _ P _ he hm ht (fun vs xs H1 M1 s1 m1 x1 q1 => ?_) ex
  exact b2 H1 M1 vs xs R P Q m1 x1 q1 (fun w z H' M' s2 m2 x2 q2 => k w z H' M' (s1.trans s2) m2 x2 q2) (ex.mono s1)
theorem XsOk.one {K : PySem.W.Frag} {H : Hp} {M : MH} {vs : List V} {x : Xv} (h : XsOk K H M vs [x]) : ∃ v, vs = [v] ∧ XOk K H M v x := by
  cases h with
  | cons h t => cases t; exact ⟨_, rfl, h⟩
theorem XsOk.two {K : PySem.W.Frag} {H : Hp} {M : MH} {vs : List V} {x y : Xv} (h : XsOk K H M vs [x, y]) : ∃ v u, vs = [v, u] ∧ XOk K H M v x ∧ XOk K H M u y := by
  cases h with
  | cons h t =>
    obtain ⟨u, rfl, q⟩ := XsOk.one t
    exact ⟨_, _, rfl, h, q⟩
def lenX (M : MH) : Xv → Option Nat
  | .d (.str z) => if z.length ≤ sizeLine then some z.length else none
  | .d (.list ds) => some ds.length
  | .d (.tuple ds) => some ds.length
  | .r (.ref p) => (match M p with
    | some (.lst xs) => some xs.length
    | _ => none)
  | _ => none
def cLen : DC := fun xs M R _ => match xs with
  | [x] => (match lenX M x with
    | some n => R (.d (.int (n : Nat))) M
    | none => False)
  | _ => False
theorem b_len : QB X E (.builtin "len") cLen := by
  refine ⟨_, call_len, fun H M vs xs R P Q hm hx ht k _ => ?_⟩
  unfold cLen at ht
  split at ht
  · obtain ⟨v, rfl, x1⟩ := hx.one
    split at ht
    · rename_i n e
      refine ⟨v, n, rfl, ?_, k _ (.d (.int n)) H M (.refl hm) hm (Dq.int _) ht⟩
      unfold lenX at e
      split at e
      · split at e
        · rename_i z hz
          cases e
          cases x1
          exact ⟨hz, rfl⟩
        · cases e
      · cases e
        cases x1 with
        | lst l1 al => exact Or.inl ⟨_, l1.sq, al.length.symm⟩
      · cases e
        cases x1 with
        | tup l1 al => exact Or.inr ⟨_, l1.sq, al.length.symm⟩
      · rename_i p
        split at e
        · rename_i ys em
          cases e
          obtain ⟨ws, hp, hy⟩ := hm p _ em
          obtain rfl : v = V.ref p := x1
          exact Or.inl ⟨ws, SqL.of hp, hy.length.symm⟩
        · cases e
      · cases e
    · exact ht.elim
  · exact ht.elim
def cAbs : DC := fun xs M R _ => match xs with
  | [.d (.int i)] => R (.d (.int (if i < 0 then -i else i))) M
  | _ => False
theorem b_abs : QB X E (.builtin "abs") cAbs := by
  refine ⟨_, call_abs, fun H M vs xs R P Q hm hx ht k _ => ?_⟩
  unfold cAbs at ht
  split at ht
  · obtain ⟨v, rfl, x1⟩ := hx.one
    cases x1
    exact ⟨_, rfl, k _ (.d (.int _)) H M (.refl hm) hm (Dq.int _) ht⟩
  · exact ht.elim
def cMin : DC := fun xs M R _ => match xs with
  | [.d (.int i), .d (.int j)] => R (.d (.int (if j < i then j else i))) M
  | _ => False
theorem b_min (hc : X.calm = true) : QB X E (.builtin "min") cMin := by
  refine ⟨_, call_min2 hc, fun H M vs xs R P Q hm hx ht k _ => ?_⟩
  unfold cMin at ht
  split at ht
  · obtain ⟨v, u, rfl, x1, x2⟩ := hx.two
    cases x1
    cases x2
    exact ⟨_, _, rfl, k _ (.d (.int _)) H M (.refl hm) hm (Dq.int _) ht⟩
  · exact ht.elim
def cMax : DC := fun xs M R _ => match xs with
  | [.d (.int i), .d (.int j)] => R (.d (.int (if j > i then j else i))) M
  | _ => False
theorem b_max (hc : X.calm = true) : QB X E (.builtin "max") cMax := by
  refine ⟨_, call_max2 hc, fun H M vs xs R P Q hm hx ht k _ => ?_⟩
  unfold cMax at ht
  split at ht
  · obtain ⟨v, u, rfl, x1, x2⟩ := hx.two
    cases x1
    cases x2
    exact ⟨_, _, rfl, k _ (.d (.int _)) H M (.refl hm) hm (Dq.int _) ht⟩
  · exact ht.elim
theorem CallR.or {f : Value} {r r' : List V → Hp → VK → Prop} (h : CallR X f r) (h' : CallR X f r') : CallR X f (fun xs H Q => r xs H Q ∨ r' xs H Q) := fun pins s σ H xs us Q I rx q => by
  rcases q with q | q
  · exact h pins s σ H xs us Q I rx q
  · exact h' pins s σ H xs us Q I rx q
def cInt : DC := fun xs M R _ => match xs with
  | [.d (.int i)] => R (.d (.int i)) M
  | [.d (.bool b)] => R (.d (.int (if b then 1 else 0))) M
  | [.d (.str z)] => z.length ≤ 640 ∧ (match PySem.intText? z with
    | some n => R (.d (.int n)) M
    | none => False)
  | _ => False
theorem b_int : QB X E (.type "int") cInt := by
  refine ⟨_, CallR.or call_int1 call_int_str, fun H M vs xs R P Q hm hx ht k _ => ?_⟩
  unfold cInt at ht
  split at ht
  · obtain ⟨v, rfl, x1⟩ := hx.one
    cases x1
    exact Or.inl (Or.inl ⟨_, rfl, k _ (.d (.int _)) H M (.refl hm) hm (Dq.int _) ht⟩)
  · obtain ⟨v, rfl, x1⟩ := hx.one
    cases x1
    exact Or.inl (Or.inr ⟨_, rfl, k _ (.d (.int _)) H M (.refl hm) hm (Dq.int _) ht⟩)
  · obtain ⟨v, rfl, x1⟩ := hx.one
    cases x1
    obtain ⟨hl, ht⟩ := ht
    split at ht
    · rename_i n e
      exact Or.inr ⟨_, n, rfl, e, hl, k _ (.d (.int _)) H M (.refl hm) hm (Dq.int _) ht⟩
    · exact ht.elim
  · exact ht.elim
def cStr : DC := fun xs M R _ => match xs with
  | [.d (.int i)] => i.natAbs.log2 < 1920 ∧ R (.d (.str (toString i))) M
  | _ => False
theorem b_str : QB X E (.type "str") cStr := by
  refine ⟨_, call_str_int, fun H M vs xs R P Q hm hx ht k _ => ?_⟩
  unfold cStr at ht
  split at ht
  · obtain ⟨v, rfl, x1⟩ := hx.one
    cases x1
    exact ⟨_, rfl, ht.1, k _ (.d (.str _)) H M (.refl hm) hm (Dq.str _) ht.2⟩
  · exact ht.elim
/-- isinstance of data -/
def tyD : PyData → String
  | .none => "NoneType"
  | .bool _ => "bool"
  | .int _ => "int"
  | .str _ => "str"
  | .list _ => "list"
  | .tuple _ => "tuple"
  | .dict _ => "dict"
theorem tyD_ok {K : PySem.W.Frag} {H : Hp} {M : MH} {v : V} {d : PyData} (h : Dq K H M v d) : TyX K H v (.type (tyD d)) := by
  cases h with
  | non => exact .base .non
  | bl b => exact .base (.bl b)
  | int i => exact .base (.int i)
  | str x => exact .base (.str x)
  | lst l1 _ =>
    rcases l1.sq with (h | ⟨o, h⟩) | h
    · exact .base (.lst h)
    · exact .base (.frz h)
    · obtain ⟨o, its, n, e, c, _⟩ := h
      exact .kList e c
  | tup l1 _ =>
    rcases l1.sq with (h | ⟨o, h⟩) | h
    · exact .base (.tup h)
    · exact .fTuple h
    · obtain ⟨o, its, n, e, c, _⟩ := h
      exact .kTuple e c
def cIsi : DC := fun xs M R _ => match xs with
  | [.d d, .r (.ty n)] => (match kitB (tyD d) n with
    | some b => R (.d (.bool b)) M
    | none => False)
  | [.r (.ref p), .r (.ty n)] => (match M p with
    | some .dic => (match kitB "dict" n with
      | some b => R (.d (.bool b)) M
      | none => False)
    | some (.lst _) => (match kitB "list" n with
      | some b => R (.d (.bool b)) M
      | none => False)
    | _ => False)
  | _ => False
theorem b_isi : QB X E (.builtin "isinstance") cIsi := by
  refine ⟨_, call_isi, fun H M vs xs R P Q hm hx ht k _ => ?_⟩
  unfold cIsi at ht
  split at ht
  · rename_i d n
    obtain ⟨v, u, rfl, x1, x2⟩ := hx.two
    obtain rfl : u = V.ty n := x2
    split at ht
    · rename_i b e
      exact ⟨v, .ty n, _, _, b, rfl, .ty n, tyD_ok x1, kit_ty e, k _ (.d (.bool b)) H M (.refl hm) hm (Dq.bl b) ht⟩
    · exact ht.elim
  · rename_i p n
    obtain ⟨v, u, rfl, x1, x2⟩ := hx.two
    obtain rfl : u = V.ty n := x2
    obtain rfl : v = V.ref p := x1
    split at ht
    · rename_i em
      split at ht
      · rename_i b e
        exact ⟨.ref p, .ty n, _, _, b, rfl, .ty n, .base (.dK (hm p _ em)), kit_ty e, k _ (.d (.bool b)) H M (.refl hm) hm (Dq.bl b) ht⟩
      · exact ht.elim
    · rename_i ys em
      split at ht
      · rename_i b e
        obtain ⟨ws, hp, _⟩ := hm p _ em
        exact ⟨.ref p, .ty n, _, _, b, rfl, .ty n, .base (.lst hp), kit_ty e, k _ (.d (.bool b)) H M (.refl hm) hm (Dq.bl b) ht⟩
      · exact ht.elim
    · exact ht.elim
  · exact ht.elim
def allI : List PyData → Option (List Int)
  | [] => some []
  | .int i :: r => (allI r).map (i :: ·)
  | _ :: _ => none
theorem allI_ok {K : PySem.W.Frag} {H : Hp} {M : MH} : ∀ {vs : List V} {ds : List PyData} {ns : List Int}, DqAll K H M vs ds → allI ds = some ns → vs = ns.map V.int
  | _, _, _, .nil, e => by cases e; rfl
  | _, _, _, .cons (d := .int i) (ds := ds) h t, e => by
    unfold allI at e
    cases q : allI ds with
    | none => rw [q] at e; cases e
    | some ms =>
      rw [q] at e
      cases e
      cases h
      rw [List.map_cons, ← allI_ok t q]
  | _, _, _, .cons (d := .none) h t, e => by cases e
  | _, _, _, .cons (d := .bool _) h t, e => by cases e
  | _, _, _, .cons (d := .str _) h t, e => by cases e
  | _, _, _, .cons (d := .list _) h t, e => by cases e
  | _, _, _, .cons (d := .tuple _) h t, e => by cases e
  | _, _, _, .cons (d := .dict _) h t, e => by cases e
def cSum : DC := fun xs M R _ => match xs with
  | [.d (.list ds)] => (match allI ds with
    | some ns => R (.d (.int ns.sum)) M
    | none => False)
  | _ => False
theorem b_sum (hc : X.calm = true) : QB X E (.builtin "sum") cSum := by
  refine ⟨_, cr_sum hc, fun H M vs xs R P Q hm hx ht k _ => ?_⟩
  unfold cSum at ht
  split at ht
  · obtain ⟨v, rfl, x1⟩ := hx.one
    split at ht
    · rename_i ns e
      cases x1 with
      | lst l1 al => exact ⟨_, ns, rfl, by rw [← allI_ok al e]; exact l1.sq, k _ (.d (.int _)) H M (.refl hm) hm (Dq.int _) ht⟩
    · exact ht.elim
  · exact ht.elim
def allB : List PyData → Option (List Bool)
  | [] => some []
  | .bool i :: r => (allB r).map (i :: ·)
  | _ :: _ => none
theorem allB_ok {K : PySem.W.Frag} {H : Hp} {M : MH} : ∀ {vs : List V} {ds : List PyData} {ns : List Bool}, DqAll K H M vs ds → allB ds = some ns → vs = ns.map V.bl
  | _, _, _, .nil, e => by cases e; rfl
  | _, _, _, .cons (d := .bool i) (ds := ds) h t, e => by
    unfold allB at e
    cases q : allB ds with
    | none => rw [q] at e; cases e
    | some ms =>
      rw [q] at e
      cases e
      cases h
      rw [List.map_cons, ← allB_ok t q]
  | _, _, _, .cons (d := .none) h t, e => by cases e
  | _, _, _, .cons (d := .int _) h t, e => by cases e
  | _, _, _, .cons (d := .str _) h t, e => by cases e
  | _, _, _, .cons (d := .list _) h t, e => by cases e
  | _, _, _, .cons (d := .tuple _) h t, e => by cases e
  | _, _, _, .cons (d := .dict _) h t, e => by cases e
def cAll : DC := fun xs M R _ => match xs with
  | [.d (.list ds)] => (match allB ds with
    | some ns => R (.d (.bool (ns.all id))) M
    | none => False)
  | _ => False
theorem b_all (hc : X.calm = true) : QB X E (.builtin "all") cAll := by
  refine ⟨_, cr_all hc, fun H M vs xs R P Q hm hx ht k _ => ?_⟩
  unfold cAll at ht
  split at ht
  · obtain ⟨v, rfl, x1⟩ := hx.one
    split at ht
    · rename_i ns e
      cases x1 with
      | lst l1 al => exact ⟨_, ns, rfl, by rw [← allB_ok al e]; exact l1.sq, k _ (.d (.bool _)) H M (.refl hm) hm (Dq.bl _) ht⟩
    · exact ht.elim
  · exact ht.elim
end
end Y
set_option maxHeartbeats 4000000
namespace Y
open PySem PySem.Spec PyProof.Rows L2
section
variable {X : Cx} {E : XK} {a b c e o : Expr} {es : List Expr} {da db dc dd : DX} {tA tB : DT} {pos : Pos} {st : Stmt} {sts : List Stmt} {t u : DS} {ta : DA}
/-! ### methods of texts and lists -/
def recT (M : MH) (T : String) : Xv → Bool
  | .d (.str _) => T == "str"
  | .d (.list _) => T == "list"
  | .r (.ref p) => (match M p with
    | some (.lst _) => T == "list"
    | _ => false)
  | _ => false
theorem recT_ok {K : PySem.W.Frag} {H : Hp} {M : MH} {T : String} {v : V} {x : Xv} (hm : MOk K H M) (h : XOk K H M v x) (e : recT M T x = true) : tyV K T v H := by
  unfold recT at e
  split at e
  · cases h
    exact beq_iff_eq.mp e
  · cases h with
    | lst l1 _ => exact Or.inl ⟨beq_iff_eq.mp e, _, l1.sq⟩
  · rename_i p
    split at e
    · rename_i ys em
      obtain ⟨ws, hp, _⟩ := hm p _ em
      obtain rfl : v = V.ref p := h
      exact Or.inl ⟨beq_iff_eq.mp e, _, SqL.of hp⟩
    · cases e
  · cases e
abbrev DM := Xv → List Xv → MH → DR → PX → Prop
def SimM (K : PySem.W.Frag) (E : XK) (r : V → List V → Hp → VK → Prop) (t : DM) : Prop := ∀ (H : Hp) (M : MH) (v : V) (x : Xv) (vs : List V) (xs : List Xv) (R : DR) (P : PX) (Q : VK), MOk K H M → XOk K H M v x → XsOk K H M vs xs → t x xs M R P →
  (∀ w z H' M', Stp H M H' M' → MOk K H' M' → XOk K H' M' w z → R z M' → Q w H') → EHyp K E H M P → r v vs H Q
structure QM (X : Cx) (E : XK) (id : String) (t : DM) : Prop where
  ex : ∃ r, MtR X id r ∧ SimM X.K E r t
def dBM (T : String) (t : DM) (da : DX) (ta : DA) : DX := fun r M R P => da r M (fun x M1 => recT M1 T x = true ∧ ta r M1 (fun xs M2 => t x xs M2 R P) P) P
theorem q_bm {T id : String} {t : DM} (hb : QM X E id t) (ho : QE X E o da) (ha : QA X E es ta) (h : ∀ r to ta, MtR X id r → PE X o to → PA X es ta → PE X e (tBM X.K T r to ta)) : QE X E e (dBM T t da ta) := by
  obtain ⟨r, b1, b2⟩ := hb.ex
  obtain ⟨to, o1, o2⟩ := ho.ex
  obtain ⟨tz, a1, a2⟩ := ha.ex
  refine ⟨_, h r to tz b1 o1 a1, fun g H r M R P Q he hm ht k ex => ?_⟩
  refine o2 g H r M _ P _ he hm ht (fun v x H1 M1 s1 m1 x1 q1 => ?_) ex
  refine ⟨recT_ok m1 x1 q1.1, ?_⟩
  refine a2 g H1 r M1 _ P _ (he.mono s1) m1 q1.2 (fun vs xs H2 M2 s2 m2 x2 q2 => ?_) (ex.mono s1)
  exact b2 H2 M2 v x vs xs R P Q m2 (x1.mono s2) x2 q2 (fun w z H' M' s3 m3 x3 q3 => k w z H' M' ((s1.trans s2).trans s3) m3 x3 q3) ((ex.mono s1).mono s2)
theorem q_bm0 {T id : String} {t : DM} (hb : QM X E id t) (ho : QE X E o da) (h : ∀ r to, MtR X id r → PE X o to → PE X e (tBM0 X.K T r to)) : QE X E e (dBM T t da dNil) := by
  obtain ⟨r, b1, b2⟩ := hb.ex
  obtain ⟨to, o1, o2⟩ := ho.ex
  refine ⟨_, h r to b1 o1, fun g H r M R P Q he hm ht k ex => ?_⟩
  refine o2 g H r M _ P _ he hm ht (fun v x H1 M1 s1 m1 x1 q1 => ?_) ex
  refine ⟨recT_ok m1 x1 q1.1, ?_⟩
  exact b2 H1 M1 v x [] [] R P Q m1 x1 .nil q1.2 (fun w z H' M' s3 m3 x3 q3 => k w z H' M' (s1.trans s3) m3 x3 q3) (ex.mono s1)
def mApp : DM := fun x xs M R _ => match x, xs with
  | .r (.ref p), [y] => (match M p with
    | some (.lst ys) => ys.length < sizeLine ∧ R (.d .none) (mset M p (.lst (ys ++ [y])))
    | _ => False)
  | _, _ => False
theorem m_append : QM X E "list.append" mApp := by
  refine ⟨_, mt_append, fun H M v x vs xs R P Q hm hx hxs ht k _ => ?_⟩
  unfold mApp at ht
  split at ht
  · rename_i p y
    obtain rfl : v = V.ref p := hx
    obtain ⟨w, rfl, hy⟩ := hxs.one
    split at ht
    · rename_i ys em
      obtain ⟨ws, hp, hw⟩ := hm p _ em
      have s := Stp.put (o := .lst (ws ++ [w])) (u := .lst (ys ++ [y])) hm (p := p) (Or.inr (by rw [em]; simp))
      refine ⟨p, ws, w, rfl, rfl, hp, by rw [hw.length]; exact ht.1, ?_⟩
      exact k .non (.d .none) _ _ s (hm.put (Or.inr (by rw [em]; simp)) ⟨_, upd_same, (hw.mono s).append (.cons (hy.mono s) .nil)⟩) Dq.non ht.2
    · exact ht.elim
  · exact ht.elim
def mPop : DM := fun x xs M R _ => match x, xs with
  | .r (.ref p), [] => (match M p with
    | some (.lst ys) => (match ys[ys.length - 1]? with
      | some y => R y (mset M p (.lst ys.dropLast))
      | none => False)
    | _ => False)
  | _, _ => False
theorem m_pop : QM X E "list.pop" mPop := by
  refine ⟨_, mt_pop, fun H M v x vs xs R P Q hm hx hxs ht k _ => ?_⟩
  unfold mPop at ht
  split at ht
  · rename_i p
    obtain rfl : v = V.ref p := hx
    cases hxs
    split at ht
    · rename_i ys em
      split at ht
      · rename_i y ey
        obtain ⟨ws, hp, hw⟩ := hm p _ em
        have s := Stp.put (o := .lst ws.dropLast) (u := .lst ys.dropLast) hm (p := p) (Or.inr (by rw [em]; simp))
        obtain ⟨w, e1, xw⟩ := hw.get ey
        refine ⟨p, ws, w, rfl, rfl, hp, by rw [hw.length]; exact e1, ?_⟩
        exact k w y _ _ s (hm.put (Or.inr (by rw [em]; simp)) ⟨_, upd_same, (hw.mono s).dropLast⟩) (xw.mono s) ht
      · exact ht.elim
    · exact ht.elim
  · exact ht.elim
def mIdx : DM := fun x xs M R _ => match x, xs with
  | .d (.list ds), [.d d] => plainD d = true ∧ ds.all plainD = true ∧ (match ds.findIdx? (fun z => PyData.eqv z d) with
    | some j => R (.d (.int (j : Nat))) M
    | none => False)
  | _, _ => False
theorem m_index : QM X E "list.index" mIdx := by
  refine ⟨_, mt_index, fun H M v x vs xs R P Q hm hx hxs ht k _ => ?_⟩
  unfold mIdx at ht
  split at ht
  · rename_i ds d
    obtain ⟨w, rfl, hw⟩ := hxs.one
    obtain ⟨p1, p2, ht⟩ := ht
    split at ht
    · rename_i j ej
      cases hx with
      | lst l1 al =>
        rename_i p ws
        obtain ⟨hj, hv, hb⟩ := List.findIdx?_eq_some_iff_getElem.mp ej
        obtain ⟨z, ez, dz⟩ := al.get (List.getElem?_eq_getElem hj)
        have pz : plainD ds[j] = true := List.all_eq_true.mp p2 _ (List.getElem_mem hj)
        refine ⟨p, ws, w, j, z, rfl, rfl, l1.sq, flat_of hw p1, flats_of al p2, ez, by rw [eqV_of dz hw pz p1]; exact hv, fun m z' hmj ez' => ?_, k _ (.d (.int (j : Nat))) H M (.refl hm) hm (Dq.int _) ht⟩
        have hm' : m < ds.length := by omega
        obtain ⟨z2, e2, d2⟩ := al.get (List.getElem?_eq_getElem hm')
        rw [ez'] at e2
        cases e2
        have pm : plainD ds[m] = true := List.all_eq_true.mp p2 _ (List.getElem_mem hm')
        rw [eqV_of d2 hw pm p1]
        have := hb m hmj
        simpa using this
    · exact ht.elim
  · exact ht.elim
def allS : List PyData → Option (List Str)
  | [] => some []
  | .str i :: r => (allS r).map (i :: ·)
  | _ :: _ => none
theorem allS_ok {K : PySem.W.Frag} {H : Hp} {M : MH} : ∀ {vs : List V} {ds : List PyData} {ns : List Str}, DqAll K H M vs ds → allS ds = some ns → vs = ns.map V.str
  | _, _, _, .nil, e => by cases e; rfl
  | _, _, _, .cons (d := .str i) (ds := ds) h t, e => by
    unfold allS at e
    cases q : allS ds with
    | none => rw [q] at e; cases e
    | some ms =>
      rw [q] at e
      cases e
      cases h
      rw [List.map_cons, ← allS_ok t q]
  | _, _, _, .cons (d := .none) h t, e => by cases e
  | _, _, _, .cons (d := .int _) h t, e => by cases e
  | _, _, _, .cons (d := .bool _) h t, e => by cases e
  | _, _, _, .cons (d := .list _) h t, e => by cases e
  | _, _, _, .cons (d := .tuple _) h t, e => by cases e
  | _, _, _, .cons (d := .dict _) h t, e => by cases e
def mJoin : DM := fun x xs M R _ => match x, xs with
  | .d (.str z), [y] => (match itemsD M y with
    | some ds => (match allS ds with
      | some ss => (ss.map (·.length)).sum + ss.length * z.length ≤ 16777216 ∧ R (.d (.str (Txt.join z ss))) M
      | none => False)
    | none => False)
  | _, _ => False
theorem m_join : QM X E "str.join" mJoin := by
  refine ⟨_, mt_join, fun H M v x vs xs R P Q hm hx hxs ht k _ => ?_⟩
  unfold mJoin at ht
  split at ht
  · rename_i z y
    obtain ⟨w, rfl, hw⟩ := hxs.one
    cases hx
    split at ht
    · rename_i ds e1
      split at ht
      · rename_i ss e2
        obtain ⟨p, us, rfl, sq, al⟩ := itemsD_ok hm hw e1
        have := allS_ok al e2
        subst this
        exact ⟨z, p, ss, rfl, rfl, sq, ht.1, k _ (.d (.str _)) H M (.refl hm) hm (Dq.str _) ht.2⟩
      · exact ht.elim
    · exact ht.elim
  · exact ht.elim
/-! ### slices -/
abbrev DO := DEnv → MH → (Option Int → MH → Prop) → PX → Prop
def SimP (K : PySem.W.Frag) (E : XK) (te : TO) (t : DO) : Prop := ∀ (g : L2.St) (H : Hp) (r : DEnv) (M : MH) (R : Option Int → MH → Prop) (P : PX) (Q : Option Int → Hp → Prop), EnvOk K H M g r → MOk K H M → t r M R P →
  (∀ z H' M', Stp H M H' M' → MOk K H' M' → R z M' → Q z H') → EHyp K E H M P → te g H Q
structure QP (X : Cx) (E : XK) (e : Option Expr) (t : DO) : Prop where
  ex : ∃ te, PO X e te ∧ SimP X.K E te t
def dNoP : DO := fun _ M R _ => R none M
theorem qp_no : QP X E none dNoP := ⟨_, po_none, fun g H r M R P Q he hm ht k _ => k none H M (.refl hm) hm ht⟩
def dP (da : DX) : DO := fun r M R P => da r M (fun x M1 => match x with
  | .d (.int i) => R (some i) M1
  | _ => False) P
theorem qp_some (ha : QE X E e da) : QP X E (some e) (dP da) := by
  obtain ⟨te, h1, h2⟩ := ha.ex
  refine ⟨_, po_some h1, fun g H r M R P Q he hm ht k ex => ?_⟩
  refine h2 g H r M _ P _ he hm ht (fun v x H1 M1 s1 m1 x1 q1 => ?_) ex
  split at q1
  · cases x1
    exact ⟨_, rfl, k _ H1 M1 s1 m1 q1⟩
  · exact q1.elim
def cutD {α : Type} (xs : List α) (lo hi : Option Int) : List α := (xs.drop (HT.sIx xs.length 0 lo)).take (HT.sIx xs.length xs.length hi - HT.sIx xs.length 0 lo)
def dCut : Xv → Option Int → Option Int → MH → DR → Prop := fun x lo hi M R => match x with
  | .d (.str z) => z.length ≤ sizeLine ∧ R (.d (.str (cutS z lo hi))) M
  | .d (.list ds) => R (.d (.list (cutD ds lo hi))) M
  | .d (.tuple ds) => ¬ (HT.sIx ds.length 0 lo = 0 ∧ HT.sIx ds.length ds.length hi = ds.length) ∧ R (.d (.tuple (cutD ds lo hi))) M
  | _ => False
def dSl (da : DX) (lo hi : DO) : DX := fun r M R P => da r M (fun x M1 => lo r M1 (fun l M2 => hi r M2 (fun h M3 => dCut x l h M3 R) P) P) P
theorem cutV_ok {K : PySem.W.Frag} {H : Hp} {M : MH} {vs : List V} {ds : List PyData} (h : DqAll K H M vs ds) (lo hi : Option Int) : DqAll K H M (cutV vs lo hi) (cutD ds lo hi) := by
  unfold cutV cutD
  rw [h.length]
  exact (h.drop _).take _
theorem q_slice {lo hi : Option Expr} {dl dh : DO} (ha : QE X E a da) (hl : QP X E lo dl) (hh : QP X E hi dh)
    (h : ∀ te tl th, PE X a te → PO X lo tl → PO X hi th → PE X e (tSl (fun x l h H Q => rSlS x l h H Q ∨ (rSlL X.K x l h H Q ∨ rSlT X.K x l h H Q)) te tl th)) : QE X E e (dSl da dl dh) := by
  obtain ⟨te, a1, a2⟩ := ha.ex
  obtain ⟨tl, l1, l2⟩ := hl.ex
  obtain ⟨th, h1, h2⟩ := hh.ex
  refine ⟨_, h te tl th a1 l1 h1, fun g H r M R P Q he hm ht k ex => ?_⟩
  refine a2 g H r M _ P _ he hm ht (fun v x H1 M1 s1 m1 x1 q1 => ?_) ex
  refine l2 g H1 r M1 _ P _ (he.mono s1) m1 q1 (fun l H2 M2 s2 m2 q2 => ?_) (ex.mono s1)
  have s12 := s1.trans s2
  refine h2 g H2 r M2 _ P _ (he.mono s12) m2 q2 (fun h' H3 M3 s3 m3 q3 => ?_) (ex.mono s12)
  have s13 := s12.trans s3
  have x3 := (x1.mono s2).mono s3
  unfold dCut at q3
  split at q3
  · cases x3
    exact Or.inl ⟨_, rfl, q3.1, k _ (.d (.str _)) H3 M3 s13 m3 (Dq.str _) q3.2⟩
  · cases x3 with
    | lst e1 al =>
      rename_i ds p vs
      refine Or.inr (Or.inl ⟨p, vs, rfl, e1.sq, fun n hn => ?_⟩)
      have s4 := Stp.new (o := .lst (cutV vs l h')) m3 hn
      exact k _ (.d (.list (cutD ds l h'))) _ M3 (s13.trans s4) (m3.new hn) (Dq.lst (Or.inl ⟨m3.gone hn, Or.inl upd_same⟩) (DqAll.mono s4 (cutV_ok al l h'))) q3
  · cases x3 with
    | tup e1 al =>
      rename_i ds p vs
      refine Or.inr (Or.inr ⟨p, vs, rfl, e1.sq, by rw [al.length]; exact q3.1, fun n hn => ?_⟩)
      have s4 := Stp.new (o := .tup (cutV vs l h')) m3 hn
      exact k _ (.d (.tuple (cutD ds l h'))) _ M3 (s13.trans s4) (m3.new hn) (Dq.tup (Or.inl ⟨m3.gone hn, Or.inl upd_same⟩) (DqAll.mono s4 (cutV_ok al l h'))) q3.2
  · exact q3.elim
theorem sl_any : SlR X (fun x l h H Q => rSlS x l h H Q ∨ (rSlL X.K x l h H Q ∨ rSlT X.K x l h H Q)) := sl_str.or (sl_list.or sl_tup)
/-! ### comprehensions -/
/-- the weakest reading of an expression: the same in every block -/
def canT (K : PySem.W.Frag) (E : XK) (t : DX) : TE := fun g H Q => ∃ r M R P, EnvOk K H M g r ∧ MOk K H M ∧ t r M R P ∧ (∀ v x H' M', Stp H M H' M' → MOk K H' M' → XOk K H' M' v x → R x M' → Q v H') ∧ EHyp K E H M P
theorem QE.can (h : QE X E e da) : PE X e (canT X.K E da) := by
  obtain ⟨te, h1, h2⟩ := h.ex
  refine ⟨fun pins s σ H Q I q => h1.run pins s σ H Q I ?_⟩
  obtain ⟨r, M, R, P, z1, z2, z3, z4, z5⟩ := q
  exact h2 σ H r M R P Q z1 z2 z3 z4 z5
theorem wipe_comm {σ : L2.St} {i : Nat} {x : Option V} : ∀ {vs : List Nat}, i ∉ vs → L2.wipe (σ.set i x) vs = (L2.wipe σ vs).set i x
  | [], _ => rfl
  | v :: vs, h => by
    unfold L2.wipe
    rw [wipe_comm (fun q => h (List.mem_cons_of_mem _ q)), List.set_comm _ _ (fun q => h (by rw [q]; exact List.mem_cons_self))]
theorem wipe_in {σ : L2.St} {i : Nat} {x : Option V} : ∀ {vs : List Nat}, i ∈ vs → L2.wipe (σ.set i x) vs = L2.wipe σ vs
  | v :: vs, h => by
    unfold L2.wipe
    by_cases q : i ∈ vs
    · rw [wipe_in q]
    · rcases List.mem_cons.mp h with rfl | h
      · rw [wipe_comm q, List.set_set]
      · exact absurd h q
theorem wipe_again (σ : L2.St) : ∀ (us vs : List Nat), (∀ i ∈ us, i ∈ vs) → L2.wipe (L2.wipe σ us) vs = L2.wipe σ vs
  | [], _, _ => rfl
  | u :: us, vs, h => by
    show L2.wipe ((L2.wipe σ us).set u none) vs = _
    rw [wipe_in (h u List.mem_cons_self)]
    exact wipe_again σ us vs fun i q => h i (List.mem_cons_of_mem _ q)
theorem wipe_set {σ : L2.St} {i : Nat} {x : Option V} (own : List Nat) (h : i ∈ own) : L2.wipe ((L2.wipe σ own).set i x) own = L2.wipe σ own := by
  rw [wipe_in h]
  exact wipe_again σ own own fun _ q => q
/-- what a comprehension without tests comes to: n turns, the k-th of f k -/
def dComp (n : Nat) (f : Nat → PyData) (i : Nat) (own : List Nat) (te : DX) : DX := fun r M R _ => ∃ ys : List PyData, ys.length = n ∧ n ≤ sizeLine ∧
  (∀ k y, k < n → ys[k]? = some y → ∀ M', (∀ a o, M a = some o → M' a = some o) → te ((wipeX r own).set i (some (.d (f k)))) M' (fun z M'' => z = .d y ∧ M'' = M') (fun _ _ _ => False)) ∧ R (.d (.list ys)) M
theorem lc_x {K : PySem.W.Frag} {J : It} {n : Nat} {G : Hp → Prop} {Yv : Nat → Hp → V → Hp → Prop} (w : Walk J n G Yv) {f : Nat → PyData} {i : Nat} {own : List Nat} {te : DX} {g : L2.St} {r : DEnv} {H H1 : Hp} {M M1 : MH} {R : DR} {P : PX} {Q : VK} {D : Addr}
    (he : EnvOk K H1 M1 g r) (hm : MOk K H1 M1) (hG : ∀ H', (∃ M', Stp H1 M1 H' M' ∧ MOk K H' M') → G H') (hY : ∀ k Ha x Hb Ma, Stp H1 M1 Ha Ma → k < n → Yv k Ha x Hb → Hb = Ha ∧ Dq K Ha Ma x (f k))
    (hi : i ∈ own) (ht : dComp n f i own te r M1 R P) (hD : H1 D = none) (k : ∀ v x H' M', Stp H1 M1 H' M' → MOk K H' M' → XOk K H' M' v x → R x M' → Q v H') :
    ∃ W : Nat → Nat → Hp → Prop, (∃ m, W 0 m (upd H1 D (.lst []))) ∧ ∀ i' m H, W i' m H →
      (J.stop i' H ∧ Q (.ref D) H) ∨ (J.go i' H ∧ ∃ Nx : Hp → Prop, (∀ H', Nx H' → ∃ m', m' < m ∧ W (i' + 1) m' H') ∧ ∀ x H', J.yld i' H x H' → gName i x (L2.wipe g own) H' fun σ2 H2 => L2.wipe σ2 own = L2.wipe g own ∧ tYes σ2 H2 fun b H3 =>
        if b = true then canT K (fun _ _ _ => False) te σ2 H3 fun y H4 => ∃ acc, H4 D = some (.lst acc) ∧ acc.length < sizeLine ∧ Nx (upd H4 D (.lst (acc ++ [y]))) else Nx H3) := by
  obtain ⟨ys, hl, hz, hte, hR⟩ := ht
  have hMD := hm.gone hD
  let MD : Nat → MH := fun j => mset M1 D (.lst ((ys.take j).map Xv.d))
  refine lc_it w (Qd := fun H' => Q (.ref D) H') (fun j H' => Stp H1 M1 H' (MD j) ∧ MOk K H' (MD j)) ⟨Stp.put hm (Or.inl hD), hm.put (Or.inl hD) ⟨[], upd_same, by rw [List.take_zero]; exact .nil⟩⟩ (fun j H' _ z => hG H' ⟨_, z.1, z.2⟩) ?_ ?_
  · rintro j x Ha Hb hj ⟨s1, m1⟩ y
    obtain ⟨rfl, dx⟩ := hY j Ha x Hb (MD j) s1 hj y
    refine ⟨wipe_set own hi, ?_⟩
    unfold tYes
    dsimp only
    rw [if_pos rfl]
    obtain ⟨y, ey⟩ : ∃ y, ys[j]? = some y := ⟨ys[j]'(by omega), List.getElem?_eq_getElem _⟩
    refine ⟨(wipeX r own).set i (some (.d (f j))), MD j, _, _, ((he.mono s1).wipe own).set (x := .d (f j)) dx i, m1, hte j y hj ey (MD j) (fun a o ea => ?_), ?_, EHyp.no⟩
    · show mset M1 D _ a = _
      rw [mset_ne (fun z => by rw [z, hMD] at ea; cases ea)]
      exact ea
    · rintro v z H4 M4 s4 m4 x4 ⟨rfl, rfl⟩
      obtain ⟨acc, hp, hacc⟩ := m4 D _ (show mset M1 D _ D = _ from mset_same)
      have hlen : acc.length = j := by rw [hacc.length, List.length_map, List.length_take]; omega
      refine ⟨acc, hp, by omega, ?_⟩
      have e2 : MD (j + 1) = mset (MD j) D (.lst ((ys.take j).map Xv.d ++ [.d y])) := by
        show mset M1 D _ = mset (mset M1 D _) D _
        rw [mset_mset, List.take_succ, ey, List.map_append]
        rfl
      have hput : H4 D = none ∨ MD j D ≠ none := Or.inr (by show mset M1 D _ D ≠ none; rw [mset_same]; simp)
      have s5 := Stp.put (o := .lst (acc ++ [v])) (u := .lst ((ys.take j).map Xv.d ++ [.d y])) m4 hput
      have m5 := m4.put (o := .lst (acc ++ [v])) (u := .lst ((ys.take j).map Xv.d ++ [.d y])) hput ⟨_, upd_same, (hacc.mono s5).append (.cons (x4.mono s5) .nil)⟩
      rw [e2]
      exact ⟨(s1.trans s4).trans s5, m5⟩
  · rintro H' ⟨s1, m1⟩
    have less : Less (MD n) M1 := fun a => by
      by_cases q : a = D
      · exact Or.inr (by rw [q]; exact hMD)
      · exact Or.inl (by show M1 a = mset M1 D _ a; rw [mset_ne q])
    have fin : XOk K H' M1 (.ref D) (.d (.list ys)) := XOk.frz m1 less (by show mset M1 D _ D = _; rw [mset_same, ← hl, List.take_length]) hMD
    exact k (.ref D) (.d (.list ys)) H' M1 (s1.trans (Stp.less m1 less)) (m1.less less) fin hR
/-- [.. for x in a list that is data] -/
def dLcD (da : DX) (i : Nat) (own : List Nat) (te : DX) : DX := fun r M R P => da r M (fun x M1 => match x with
  | .d (.list ds) => dComp ds.length (fun k => ds.getD k .none) i own te r M1 R P
  | _ => False) P
theorem getD_some {ds : List PyData} {k : Nat} (h : k < ds.length) : ds[k]? = some (ds.getD k .none) := by
  rw [List.getD_eq_getElem?_getD, List.getElem?_eq_getElem h]; rfl
theorem simLcD {K : PySem.W.Frag} {tl : TE} {i : Nat} {own : List Nat} {te : DX} (a2 : SimX K E tl da) (hi : i ∈ own) : SimX K E (tLc (iList K tl) (gName i) tYes (canT K (fun _ _ _ => False) te) own) (dLcD da i own te) := by
  intro g H r M R P Q he hm ht k ex
  refine a2 g H r M _ P _ he hm ht (fun v x H1 M1 s1 m1 x1 q1 => ?_) ex
  split at q1
  · rename_i ds
    cases x1 with
    | lst l1 al =>
      rename_i p vs
      refine ⟨p, rfl, ⟨vs, l1.sq⟩, fun D hD => ?_⟩
      have w := walk_list (K := K) (a := p) (xs := vs)
      rw [al.length] at w
      refine lc_x w (H := H) (M := M) (P := P) (R := R) (f := fun k => ds.getD k .none) (he.mono s1) m1 (fun H' ⟨M', s', _⟩ => (l1.mono s').sq) (fun j Ha x Hb Ma s' hj y => ⟨y.1, ?_⟩) hi q1 hD fun v x H' M' z => k v x H' M' (s1.trans z)
      obtain ⟨w', e', d'⟩ := al.get (getD_some hj)
      rw [y.2] at e'
      cases e'
      exact d'.mono s'
  · exact q1.elim
theorem q_lcD {i : Nat} {own : List Nat} {te : DX} (ha : QE X E a da) (hi : i ∈ own)
    (h : ∀ tl, PE X a tl → PE X e (tLc (iList X.K tl) (gName i) tYes (canT X.K (fun _ _ _ => False) te) own)) : QE X E e (dLcD da i own te) := by
  obtain ⟨tl, a1, a2⟩ := ha.ex
  exact ⟨_, h tl a1, simLcD a2 hi⟩
theorem qs_setLcD (j : Nat) {i : Nat} {own : List Nat} {te : DX} (ha : QE X E a da) (hi : i ∈ own)
    (h : ∀ tl, PE X a tl → PS X st (tAsg (tLc (iList X.K tl) (gName i) tYes (canT X.K (fun _ _ _ => False) te) own) (gName j))) : QS X E st (dSet j (dLcD da i own te)) := by
  obtain ⟨tl, a1, a2⟩ := ha.ex
  refine ⟨_, h tl a1, fun g H r M D D' he hm ht k => ?_⟩
  exact simLcD a2 hi g H r M _ D.ex _ he hm ht (fun v x H1 M1 s1 m1 x1 q1 => k.nx _ _ H1 M1 s1 m1 ((he.mono s1).set x1 j) q1) k.ex
/-- [.. for c in a text] -/
def dLcS (da : DX) (i : Nat) (own : List Nat) (te : DX) : DX := fun r M R P => da r M (fun x M1 => match x with
  | .d (.str z) => dComp z.cps.size (fun k => .str ⟨#[z.cps.getD k 0]⟩) i own te r M1 R P
  | _ => False) P
theorem q_lcS {i : Nat} {own : List Nat} {te : DX} (ha : QE X E a da) (hi : i ∈ own)
    (h : ∀ tl, PE X a tl → PE X e (tLc (iStr tl) (gName i) tYes (canT X.K (fun _ _ _ => False) te) own)) : QE X E e (dLcS da i own te) := by
  obtain ⟨tl, a1, a2⟩ := ha.ex
  refine ⟨_, h tl a1, fun g H r M R P Q he hm ht k ex => ?_⟩
  refine a2 g H r M _ P _ he hm ht (fun v x H1 M1 s1 m1 x1 q1 => ?_) ex
  split at q1
  · rename_i z
    cases x1
    refine ⟨z, rfl, fun D hD => ?_⟩
    refine lc_x walk_str (H := H) (M := M) (P := P) (R := R) (f := fun k => .str ⟨#[z.cps.getD k 0]⟩) (he.mono s1) m1 (fun H' _ => trivial) (fun j Ha x Hb Ma s' hj y => ?_) hi q1 hD fun v x H' M' z => k v x H' M' (s1.trans z)
    obtain ⟨e1, c, e2, rfl⟩ := y
    refine ⟨e1, ?_⟩
    have : z.cps.getD j 0 = c := by rw [Array.getD_eq_getD_getElem?, e2]; rfl
    rw [this]
    exact Dq.str _
  · exact q1.elim
end
end Y
set_option maxHeartbeats 4000000
namespace Y
open PySem PySem.Spec PyProof.Rows L2
/-! ### try: .. except A as e: .. except B as e: .. (several clauses that bind a name) -/
abbrev Clause := Value × Nat × (Addr → Value → Option Addr → TS)
/-- the ends behind a clause: its name is gone -/
def endsAs (D : Ends) (i : Nat) : Ends := { nx := fun σ H => D.nx (σ.set i none) H, rt := D.rt, bk := fun σ H => D.bk (σ.set i none) H, ct := fun σ H => D.ct (σ.set i none) H }
def wAss (K : PySem.W.Frag) (Wout : WX) (D : Ends) : List Clause → WX
  | [] => Wout
  | (c, i, ts) :: l => fun cls d σ H => ∃ b, PySem.W.exmOne K cls c = some b ∧ (b = true → ∀ a, H a = none → ts a cls d (endsAs D i) (σ.set i (some (.ref a))) H) ∧ (b = false → wAss K Wout D l cls d σ H)
inductive Clauses (X : Cx) : List ExceptHandler → List Clause → Prop
  | nil : Clauses X [] []
  | cons {x n : Str} {i : Nat} {c : Value} {ts : Addr → Value → Option Addr → TS} {b0 : Stmt} {suite : List Stmt} {np hp : Pos} {hds : List ExceptHandler} {l : List Clause} (slot : X.N[i]? = some n) (loc : X.env.kindOf n = some .local) (cl : Names X x c)
      (body : ∀ (a : Addr) (oe : Obj) (cls : Value) (d : Option Addr) (pn : List (Addr × Obj)), Zc cls d oe → (∃ vs, oe.data = .fields vs) → PSs (X.suite a ((a, oe) :: pn)) (b0 :: suite) (ts a cls d)) (more : Clauses X hds l) :
      Clauses X (.ExceptHandler (some (.Name x np)) (some n) (b0 :: suite) hp :: hds) ((c, i, ts) :: l)
section
variable {X : Cx} {body : List Stmt} {h0 : ExceptHandler} {hds : List ExceptHandler} {l : List Clause} {pos : Pos} {tb : WX → TS} {Wout : WX}
theorem try_ass (top : X.stack = X.env :: X.outer) (own : X.env.frame = some X.env.locals) (nd : X.N.Nodup) (tk : Takes X Wout)
    (hb : ∀ (W : WX) (pn : List (Addr × Obj)) (xe : Value → Shared → Prop), Takes (X.tr pn xe) W → PassesOwn (model X.prog X.w) X.A X.env xe → PSs (X.tr pn xe) body (tb W))
    (hcl : Clauses X (h0 :: hds) l) : PS X (.Try body (h0 :: hds) [] [] pos) (fun D σ H => tb (wAss X.K Wout D l) D σ H) := by
  refine ⟨fun pins s σ H D J0 start => ?_⟩
  have okX := J0.ok
  have hframes : X.A.frames = some (X.env :: X.outer) := okX.frames.trans (congrArg some top)
  refine wpAny_Try_except ?_
  let land : Value → Shared → Prop := fun e z1 => wpAny (model X.prog X.w) X.A (noteFrame e X.env) (fun _ z2 => wpAny (model X.prog X.w) X.A (setFlight e none) (fun _ z3 => wpAny (model X.prog X.w) X.A (handleBy e X.env (h0 :: hds)) (SP X pins D) X.xe z3) X.xe z2) X.xe z1
  have caught : Takes (X.tr (X.pn ++ pins) land) (wAss X.K Wout D l) := by
    rintro u z ⟨a, B, sI, pins', τ, G, cls, d, rfl, J', nb, up, sky, na, os, ag, w⟩
    have J : Inv X pins τ G sI := J'.ofTry okX
    have sky2 : Sky B (X.env :: X.outer) a (Zc cls d) X.env.locals z.heap := top ▸ sky
    show wpAny (model X.prog X.w) X.A (noteFrame (.ref a) X.env) _ _ _
    refine Sky.land Zc.steady hframes own sky2 fun k fl uk => ?_
    have Jk : Inv X pins τ G { z with heap := k } := J.landed nb fl.1 (up.trans uk) os ag
    obtain ⟨ob, fv, eob, zob, dob⟩ := fl.there
    have far : ¬ a ∈ frs (X.env :: X.outer) := fun inn => by
      obtain ⟨_, o2, e2, q2⟩ := fl.2.2.1.mem inn
      have : ob = o2 := Option.some.inj (eob.symm.trans e2)
      exact q2 _ (this ▸ dob)
    have apart : a ≠ X.env.locals := fun q => far (List.mem_filterMap.mpr ⟨X.env, List.mem_cons_self, own.trans (congrArg some q.symm)⟩)
    have apartF : a ∉ X.fs := fun inn => by
      obtain ⟨ev, m1, m2⟩ := List.mem_filterMap.mp inn
      exact far (List.mem_filterMap.mpr ⟨ev, List.mem_cons_of_mem _ m1, m2⟩)
    have Sk := Jk.suite eob dob na apart apartF
    have walk : ∀ {hs : List ExceptHandler} {m : List Clause}, Clauses X hs m → wAss X.K Wout D m cls d τ G → wpAny (model X.prog X.w) X.A (handleBy (.ref a) X.env hs) (SP X pins D) X.xe { z with heap := k } := by
      intro hs m hm
      induction hm with
      | nil =>
        intro w
        refine wpAny_handleBy_nil ?_
        obtain ⟨_, _, _, oe, vs, T, _, _, e1, _, e2, e3, _⟩ := id fl
        unfold PySem.passOn
        refine wpAny_bind (wpAny_field e1 e2 e3 ?_)
        rw [if_neg (show ¬ ((Value.ref T == Value.none) = true) from by simp)]
        have out : wpAny (model X.prog X.w) X.A (setFlight (.ref a) X.env.frame) (fun _ z4 => wpAny (model X.prog X.w) X.A (throw (.ref a) : Sem Flow) (SP X pins D) X.xe z4) X.xe { z with heap := k } := by
          rw [own]
          refine HandSPX.setFlight_upZ fl fun k4 fl4 u4 => wpAny_throw (tk _ _ ⟨a, B, sI, pins, τ, G, cls, d, rfl, J, nb, (up.trans uk).trans u4, Or.inr (Or.inr (top.symm ▸ fl4)), na, os, ag, w⟩)
        first
          | exact wpAny_bind (wpAny_pure (wpAny_bind out))
          | exact wpAny_bind out
      | @cons x n i c ts b0 suite np hp more m2 slot loc cl bod rest ih =>
        rintro ⟨b, eb, yes, no⟩
        refine wpAny_handleBy_cons (codeAny_handlers_test ?_) (fun q => by cases q)
        have lk : PySem.W.Looks (model X.prog X.w) k (typeOf (.ref a)) cls := fun A Q F s keeps q => wpAny_typeOf_ref (keeps _ _ eob) (zob.1.symm ▸ q)
        have cmp := PySem.W.exm_one (M := model X.prog X.w) Jk.kIn lk eb
        have named : ∀ {Q : Value → Shared → Prop} {F : Value → Shared → Prop}, Q c { z with heap := k } → wpAny (model X.prog X.w) (X.A.mark (some (.ref a))) (eval (.Name x np) X.env) Q F { z with heap := k } := by
          intro Q F q
          obtain ⟨g1, g2, g3 | ⟨g3, g4, g5⟩⟩ := cl
          · exact ld_glob (X := X.suite a ((a, ob) :: (X.pn ++ pins))) Sk g1 g3 q g2
          · exact ld_blt (X := X.suite a ((a, ob) :: (X.pn ++ pins))) Sk g1 g3 g4 q g5 g2
        refine named (cmp.here ?_)
        cases b with
        | false => exact ih (no rfl)
        | true =>
          refine codeAny_handlers_suite_as (HandSPX.lands_againZ fl fun k4 fl4 u4 => ?_)
          have J4 : Inv X pins τ G { z with heap := k4 } := J.landed nb fl4.1 ((up.trans uk).trans u4) os ag
          obtain ⟨o4, f4, e4, z4, d4⟩ := fl4.there
          refine store_ok (X := X.suite a ((a, o4) :: (X.pn ++ pins))) (v := .ref a) (J4.suite e4 d4 na apart apartF) nd slot (Or.inl loc) rfl (fun z5 J5 => ?_) (Or.inr loc)
          have gone : ∀ {τ6 : L2.St} {G6 : Hp} {z6 : Shared} {Q : Shared → Prop}, Inv (X.suite a ((a, o4) :: (X.pn ++ pins))) [] τ6 G6 z6 → (∀ z7, Inv X pins (τ6.set i none) G6 z7 → Q z7) →
              wpAny (model X.prog X.w) X.A (do bindName X.env n .none; unbindBehindTheSuite X.env n hp) (fun _ z7 => Q z7) X.xe z6 := fun J6 q => gone_ok (J6.unsuite okX) nd slot loc q
          refine wpAny_mono ((bod a o4 cls d (X.pn ++ pins) z4 ⟨_, d4⟩).run [] z5 _ G (endsAs D i) J5 (yes rfl a na)) (fun fw z6 q6 => ?_) (fun _ _ q => q.elim)
          cases fw with
          | ret u =>
            obtain ⟨v6, τ6, G6, J6, r6, q6⟩ := q6
            exact gone J6 fun z7 J7 => ⟨_, _, _, J7, r6, q6⟩
          | next =>
            obtain ⟨τ6, G6, J6, q6⟩ := q6
            exact gone J6 fun z7 J7 => ⟨_, _, J7, q6⟩
          | brk =>
            obtain ⟨τ6, G6, J6, q6⟩ := q6
            exact gone J6 fun z7 J7 => ⟨_, _, J7, q6⟩
          | cont =>
            obtain ⟨τ6, G6, J6, q6⟩ := q6
            exact gone J6 fun z7 J7 => ⟨_, _, J7, q6⟩
    exact walk hcl w
  refine wpAny_mono ((hb (wAss X.K Wout D l) (X.pn ++ pins) land caught PassesOwn.looking).run [] s σ H D (J0.toTry _) start) (fun fw z1 q => ?_) (fun e z1 he => he)
  cases fw with
  | ret u =>
    obtain ⟨v, τ, G, J, r, q⟩ := q
    exact ⟨v, τ, G, J.ofTry okX, r, q⟩
  | next =>
    obtain ⟨τ, G, J, q⟩ := q
    exact wpAny_execs_nil ⟨τ, G, J.ofTry okX, q⟩
  | brk =>
    obtain ⟨τ, G, J, q⟩ := q
    exact ⟨τ, G, J.ofTry okX, q⟩
  | cont =>
    obtain ⟨τ, G, J, q⟩ := q
    exact ⟨τ, G, J.ofTry okX, q⟩
end
/-! ### .. by data -/
def canS (K : PySem.W.Frag) (E : XK) (t : DS) : TS := fun D' g H => ∃ r M D, EnvOk K H M g r ∧ MOk K H M ∧ t D r M ∧ EndsOk K E H M D D'
theorem QSs.can {X : Cx} {E : XK} {st : List Stmt} {t : DS} (h : QSs X E st t) : PSs X st (canS X.K E t) := by
  obtain ⟨ts, h1, h2⟩ := h.ex
  refine ⟨fun pins s σ H D I q => h1.run pins s σ H D I ?_⟩
  obtain ⟨r, M, D0, z1, z2, z3, z4⟩ := q
  exact h2 σ H r M D0 D z1 z2 z3 z4
abbrev Eno : XK := fun _ _ _ => False
/-- a clause by data: the class, the slot, what the suite comes to -/
abbrev DClause := Value × Nat × (Addr → Value → Option Addr → DS)
def rawC (K : PySem.W.Frag) : DClause → Clause := fun q => (q.1, q.2.1, fun a cls d => canS K Eno (q.2.2 a cls d))
def exH (K : PySem.W.Frag) (n : Nat) (D : DEnds) : List DClause → PX
  | [] => D.ex
  | (c, i, t) :: l => fun cls d M => ∃ b, PySem.W.exmOne K cls c = some b ∧
      (b = true → ∀ a, M a = none → t a cls d { nx := fun r M' => D.nx (r.set i none) M', rt := D.rt, bk := fun r M' => D.bk (r.set i none) M', ct := fun r M' => D.ct (r.set i none) M' } ((List.replicate n none).set i (some (.r (.ref a)))) M) ∧ (b = false → exH K n D l cls d M)
def dTry (K : PySem.W.Frag) (n : Nat) (tb : DS) (l : List DClause) : DS := fun D r M => tb { D with ex := exH K n D l } r M
section
variable {X : Cx} {E : XK} {body : List Stmt} {h0 : ExceptHandler} {hds : List ExceptHandler} {l : List DClause} {pos : Pos} {t : DS}
/-- the wish of a frame for what leaves the body of a try: for any values of the slots -/
def EofW (n : Nat) (W : WX) : XK := fun cls d H => ∀ σ : L2.St, σ.length = n → W cls d σ H
theorem takes_len {X : Cx} {W : WX} (tk : Takes X W) : Takes X (fun cls d σ H => σ.length = X.N.length → W cls d σ H) := by
  rintro u s ⟨a, B, sI, pins, σ, H, cls, d, e, I, nb, up, sky, na, os, ag, w⟩
  exact tk u s ⟨a, B, sI, pins, σ, H, cls, d, e, I, nb, up, sky, na, os, ag, w I.len⟩
theorem passW {X : Cx} {W : WX} (tk : Takes X W) : Passes (L2.CX X.prog X.w) X (EofW X.N.length W) := passes_call (takes_len tk) fun cls d σ H q hl => q σ hl
theorem exH_ok {K : PySem.W.Frag} {n : Nat} {H : Hp} {M : MH} {D : DEnds} {D' : Ends} (k : EndsOk K E H M D D') : ∀ (l : List DClause), EHyp K (EofW n (wAss K (fun cls d _ H => E cls d H) D' (l.map (rawC K)))) H M (exH K n D l)
  | [] => fun cls d H1 M1 s1 m1 q σ _ => k.ex cls d H1 M1 s1 m1 q
  | (c, i, t) :: l => fun cls d H1 M1 s1 m1 ⟨b, e, yes, no⟩ σ hl => by
    refine ⟨b, e, fun hb a na => ?_, fun hb => exH_ok k l cls d H1 M1 s1 m1 (no hb) σ hl⟩
    have kk := k.mono s1
    have env0 : EnvOk K H1 M1 (σ.set i (some (.ref a))) ((List.replicate n none).set i (some (.r (.ref a)))) := by
      refine EnvOk.set (x := .r (.ref a)) rfl i ?_
      rw [← hl]
      exact envNone σ
    exact ⟨_, M1, _, env0, m1, yes hb a (m1.gone na), ⟨fun g r H2 M2 z1 z2 z3 z4 => kk.nx _ _ H2 M2 z1 z2 (z3.unset i none) z4, kk.rt, fun g r H2 M2 z1 z2 z3 z4 => kk.bk _ _ H2 M2 z1 z2 (z3.unset i none) z4, fun g r H2 M2 z1 z2 z3 z4 => kk.ct _ _ H2 M2 z1 z2 (z3.unset i none) z4, EHyp.no⟩⟩
where
  envNone {K : PySem.W.Frag} {H : Hp} {M : MH} : ∀ σ : L2.St, EnvOk K H M σ (List.replicate σ.length none)
    | [] => .nil
    | o :: σ => .non (envNone σ)
theorem qs_try (top : X.stack = X.env :: X.outer) (own : X.env.frame = some X.env.locals) (nd : X.N.Nodup) (tk : Takes X (fun cls d _ H => E cls d H)) (n : Nat) (hn : X.N.length = n)
    (hb : ∀ (W : WX) (pn : List (Addr × Obj)) (xe : Value → Shared → Prop), Takes (X.tr pn xe) W → PassesOwn (model X.prog X.w) X.A X.env xe → QSs (X.tr pn xe) (EofW n W) body t)
    (hcl : Clauses X (h0 :: hds) (l.map (rawC X.K))) : QS X E (.Try body (h0 :: hds) [] [] pos) (dTry X.K n t l) := by
  refine ⟨_, try_ass (tb := fun W => canS X.K (EofW n W) t) top own nd tk (fun W pn xe a b => (hb W pn xe a b).can) hcl, fun g H r M D D' he hm ht k => ?_⟩
  exact ⟨r, M, _, he, hm, ht, ⟨k.nx, k.rt, k.bk, k.ct, exH_ok k l⟩⟩
end
end Y
set_option maxHeartbeats 4000000
/-! an exception that has a dict of its own: its class, as isinstance asks for it -/
namespace Y
open PySem PySem.Spec PySem.Calls PyProof.Rows PySem.W
section
variable {prog : Program} {w : World} {A : Around} {F : Value → Shared → Prop} {s : Shared} {K : Frag} {x D : Addr} {ox : Obj} {od : Option Obj}
theorem data_first {C : Addr} {nm : Str} {at_ gt : Value} (there : (clsIn K C).isSome = true) (found : findIn K (.ref C) nm = some (some at_)) (getter : specialIn K at_ "__get__" = some (some gt)) (both : takesIn K at_ = some true) : findObj K C od nm = some (.bind gt at_) := by
  obtain ⟨cd, e⟩ := Option.isSome_iff_exists.mp there
  unfold findObj
  rw [e]
  show (findIn K (.ref C) nm).bind _ = _
  rw [found]
  simp [getter, both]
theorem class_of_exc {Q : Option Value → Shared → Prop} (C : L2.ExcC K D) (X : K.In s.heap) (I : InstAt s.heap x ox D od) (done : Q (some (.ref D)) { s with toks := s.toks + 1 }) : wpAny (model prog w) A (getAttr? (.ref x) "__class__") Q F s := by
  have fo : findObj K D od "__class__" = some (.bind (.builtin "getset_descriptor.__get__") (.builtin "object.__class__")) := data_first (by obtain ⟨cd, e, _⟩ := any_some C.hd; rw [e]; rfl) C.ha C.hn C.ht
  obtain ⟨hp, g, d, t, os⟩ := s
  have kind := I.type (M := model prog w)
  have own := looks_findIn (M := model prog w) X C.hg
  have seek := looks_find (M := model prog w) X I fo
  have below : Looks (model prog w) hp (isInstance (.ref x) (.type "BaseException")) true := kind.andThen (looks_subIn X C.hs)
  have n1 : (Value.builtin "BaseException.__getattribute__" == Value.builtin "object.__getattribute__") = false := by decide +kernel
  have n2 : (onTheHeap (Value.ref D) && Value.builtin "BaseException.__getattribute__" == Value.builtin "object.__getattribute__") = false := by rw [n1]; rfl
  have n3 : (false && onTheHeap (Value.builtin "BaseException.__getattribute__")) = false := rfl
  unfold getAttr? getAttrBy? getAttrBy
  refine wpAny_bind (wpAny_mkText (wpAny_bind (wpAny_attempt (wpAny_holding (wpAny_bind (kind.at (wpAny_bind (own.at ?_))))))))
  show wpAny _ _ (if (onTheHeap (Value.ref D) && Value.builtin "BaseException.__getattribute__" == Value.builtin "object.__getattribute__") = true then _ else _) _ _ _
  rw [n2, if_neg Bool.false_ne_true]
  unfold getAttrByItsOwn hookBefore
  refine wpAny_bind ?_
  rw [if_pos (show onTheHeap (Value.ref D) = true from rfl)]
  refine (looks_findIn (M := model prog w) X C.hk).at (wpAny_bind (wpAny_attempt (wpAny_holding ?_)))
  unfold callGetattribute
  rw [n3, if_neg Bool.false_ne_true]
  unfold boundAndCalled
  rw [PySem.F.excAttr_ValueError.ga.bind (.ref x)]
  refine wpAny_bind (wpAny_pure ?_)
  show wpAny _ _ (call (.builtin "BaseException.__getattribute__") [.ref x, .str "__class__" t]) _ _ _
  refine wpAny_call (codeAny_call_builtin PySem.F.excAttr_ValueError.ga.plain PySem.F.entry_bexc_ga ?_)
  refine @check_slot (model prog w) _ _ ⟨hp, g, d, t + 1, os⟩ "BaseException.__getattribute__" "BaseException" "__getattribute__" (.ref x) [.str "__class__" t] [] _ (by decide +kernel) (by decide +kernel) below (PySem.F.args_bexc_ga (.ref x) (.str "__class__" t)) ?_
  unfold Builtin.«object.__getattribute__»
  refine wpAny_bind (wpAny_of_eq (a := ((Value.ref x : Value), [Value.str "__class__" t])) (by first | rfl | (simp only [slotArgs]; rfl)) ?_)
  refine wpAny_bind (wpAny_pure (wpAny_bind (kind.at (wpAny_bind (seek.at ?_)))))
  show wpAny _ _ (holding [Value.builtin "object.__class__"] (call (.builtin "getset_descriptor.__get__") [.builtin "object.__class__", .ref x, .ref D]) >>= ret) _ _ _
  refine wpAny_bind (wpAny_holding (wpAny_call (class_get (s := ⟨hp, g, d, t + 1, os⟩) (ox := ox) (od := od) X I C.hm ?_)))
  refine wpAny_pure ?_
  show wpAny _ _ (handedOut (.ref D)) _ _ _
  rw [handedOut_of (v := .ref D) rfl]
  first
    | exact wpAny_pure (wpAny_pure done)
    | exact wpAny_pure done
    | exact wpAny_pure (wpAny_bind (wpAny_pure (wpAny_pure done)))
theorem kit_of_exc (C : L2.ExcC K D) : KitX K (.ref x) (.ref D) (fun h => InstAt h x ox D od) where
  ty := fun _ _ _ I => I.type
  it := fun _ _ X _ => by
    obtain ⟨cd, e, _⟩ := any_some C.hd
    unfold clsIn at e
    split at e
    · rename_i o1 o2 o3 o4 found
      intro _ _ _ _ keeps q
      unfold isType loadHead
      exact wpAny_bind (wpAny_loadPart (keeps _ _ (X _ _ found)) (wpAny_pure q))
    · cases e
  ne := fun h tp dd its n sl X at_ => by
    obtain ⟨cd, e, _⟩ := any_some C.hd
    refine Bool.eq_false_iff.mpr fun q => ?_
    obtain rfl : D = tp := Value.ref.inj (beq_iff_eq.mp q)
    unfold clsIn at e
    split at e
    · rename_i o1 o2 o3 o4 found
      cases (X _ _ found).symm.trans at_
    · cases e
  ca := fun X I k => class_of_exc C X I k
end
end Y
namespace Y
open PySem PySem.Spec PyProof.Rows L2
section
variable {X : Cx} {E : XK} {a b c e o : Expr} {es : List Expr} {da db dc dd : DX} {pos : Pos} {st : Stmt} {t u : DS} {ta : DA}
/-! ### isinstance(e, C), e.f of the exception that a suite holds -/
def cIsE (K : PySem.W.Frag) (D at_ : Addr) (d : Option Addr) : DC := fun xs M R _ => match xs with
  | [.r (.ref p), .r (.ref C)] => p = at_ ∧ (match d with
    | none => True
    | some dx => ∃ fs, M dx = some (.exd fs)) ∧ ∃ b, PySem.W.kitOne K (.ref D) (.ref C) = some b ∧ R (.d (.bool b)) M
  | _ => False
theorem b_isE {D at_ : Addr} {d : Option Addr} {oe : Obj} {pn : List (Addr × Obj)} (C : ExcC X.K D) (hz : Zc (.ref D) d oe) (hf : ∃ vs, oe.data = .fields vs) : QB (X.suite at_ ((at_, oe) :: pn)) E (.builtin "isinstance") (cIsE X.K D at_ d) := by
  refine ⟨fun xs H Q => ∃ (cl : Addr) (b : Bool), xs = [.ref at_, .ref cl] ∧ (match d with
    | none => True
    | some dx => ∃ fs, H dx = some (.xd fs)) ∧ PySem.W.kitOne X.K (.ref D) (.ref cl) = some b ∧ Q (.bl b) H, ?_, ?_⟩
  · intro pins s σ H xs us Q I r h
    obtain ⟨cl, b, rfl, hd, e, q⟩ := h
    obtain ⟨u1, u2, rfl, rx, rc⟩ := vals2 r
    obtain rfl : u1 = Value.ref at_ := rx
    obtain rfl : u2 = Value.ref cl := rc
    obtain ⟨here, _⟩ := I.pin (at_, oe) (List.mem_append.mpr (Or.inl List.mem_cons_self))
    obtain ⟨vs, hv⟩ := hf
    have no : PySem.W.notCls oe = true := by unfold PySem.W.notCls; rw [hv] <;> rfl
    have J : ∃ od, PySem.W.InstAt s.heap at_ oe D od := by
      cases d with
      | none => exact ⟨none, here, hz.1, no, by rw [hz.2]; trivial⟩
      | some dx =>
        obtain ⟨fs, ex⟩ := hd
        obtain ⟨mA, hns, _⟩ := show ObjOk X.prog X.w H s.heap dx (.xd fs) from I.hok dx _ ex
        obtain ⟨od, ho, _⟩ := lookIn_ns hns
        exact ⟨some od, here, hz.1, no, by rw [hz.2]; exact ho⟩
    obtain ⟨od, J⟩ := J
    exact PySem.W.kia_one (kit_of_exc C) I.kIn J e (fun z => nomatch z) fun tk => ⟨.bl b, H, I.kept (t' := tk) fun _ _ z => z, rfl, q⟩
  · intro H M vs xs R P Q hm hx ht k _
    unfold cIsE at ht
    split at ht
    · rename_i p cl
      obtain ⟨rfl, hd, b, e, q⟩ := ht
      obtain ⟨v, u, rfl, x1, x2⟩ := hx.two
      obtain rfl : v = V.ref p := x1
      obtain rfl : u = V.ref cl := x2
      refine ⟨cl, b, rfl, ?_, e, k _ (.d (.bool b)) H M (.refl hm) hm (Dq.bl b) q⟩
      cases d with
      | none => trivial
      | some dx =>
        obtain ⟨fs, ed⟩ := hd
        obtain ⟨vfs, q, _⟩ := hm dx _ ed
        exact ⟨vfs, q⟩
    · exact ht.elim
def dXf (at_ : Addr) (d : Option Addr) (f : Str) (da : DX) : DX := fun r M R P => da r M (fun x M1 => match x with
  | .r (.ref p) => p = at_ ∧ (match d with
    | some dx => (match M1 dx with
      | some (.exd fs) => (match fs.lookup f with
        | some y => R y M1
        | none => False)
      | _ => False)
    | none => False)
  | _ => False) P
theorem q_xf {D at_ : Addr} {d : Option Addr} {oe : Obj} {pn : List (Addr × Obj)} {f : Str} (T : XfC X.K D) (no : PySem.W.findIn X.K (.ref D) f = some none) (hz : Zc (.ref D) d oe) (hf : ∃ vs, oe.data = .fields vs) (ha : QE (X.suite at_ ((at_, oe) :: pn)) E e da)
    (h : ∀ te, PE (X.suite at_ ((at_, oe) :: pn)) e te → PE (X.suite at_ ((at_, oe) :: pn)) (.Attribute e f pos) (tXf at_ (.ref D) d D f te)) : QE (X.suite at_ ((at_, oe) :: pn)) E (.Attribute e f pos) (dXf at_ d f da) := by
  obtain ⟨te, h1, h2⟩ := ha.ex
  refine ⟨_, h te h1, fun g H r M R P Q he hm ht k ex => ?_⟩
  refine h2 g H r M _ P _ he hm ht (fun v x H1 M1 s1 m1 x1 q1 => ?_) ex
  split at q1
  · rename_i p
    obtain ⟨rfl, q1⟩ := q1
    obtain rfl : v = V.ref p := x1
    split at q1
    · rename_i dx
      split at q1
      · rename_i fs em
        split at q1
        · rename_i y el
          obtain ⟨vfs, ev, hx⟩ := m1 dx _ em
          obtain ⟨z, ez, xz⟩ := hx.look el
          exact ⟨rfl, rfl, dx, vfs, z, rfl, ev, ez, k z y H1 M1 s1 m1 xz q1⟩
        · exact q1.elim
      · exact q1.elim
    · exact q1.elim
  · exact q1.elim
/-! ### raise -/
abbrev DMk := DEnv → MH → PX → Prop
structure QMk (X : Cx) (E : XK) (e : Expr) (t : DMk) : Prop where
  ex : ∃ tm, PMk X e tm ∧ ∀ (g : L2.St) (H : Hp) (r : DEnv) (M : MH) (P : PX), EnvOk X.K H M g r → MOk X.K H M → t r M P → EHyp X.K E H M P → tm g H E
def dRaise (t : DMk) : DS := fun D r M => t r M D.ex
theorem qs_raise {t : DMk} (hc : X.calm = true) (tk : Takes X (fun cls d _ H => E cls d H)) (he : QMk X E e t) : QS X E (.Raise (some e) none pos) (dRaise t) := by
  obtain ⟨tm, h1, h2⟩ := he.ex
  exact ⟨_, ps_raise hc tk h1, fun g H r M D D' env hm ht k => h2 g H r M D.ex env hm ht k.ex⟩
/-- C(), C an own class without __init__ -/
def mkC0 (C : Addr) : DMk := fun _ M P => P (.ref C) none M
theorem q_mk0 {C : Addr} {x : Str} {p : Pos} (q : PySem.W.excIn X.K C [.type "ValueError", .type "Exception", .type "BaseException", .type "object"] "ValueError.__new__" = true) (gC : X.mg x = some (.ref C)) (kC : PySem.W.keepIn X.K (.ref C) = true) (r : Raises X (.ref C)) (hg : Gl X x)
    (hdb : (x == ("__debug__" : Str)) = false := by decide) : QMk X E (.Call (.Name x p) [] [] pos) (mkC0 C) := by
  refine ⟨fun _ H Q => Q (.ref C) none H, ?_, fun g H rr M P he hm ht k => k _ _ H M (.refl hm) hm ht⟩
  intro pins s σ H Q I h
  refine wpAny_Call_Name_kw (ld_glob I hg gC ?_ hdb)
  refine PySem.W.callWith_K0 I.kIn kC ?_
  obtain ⟨bm, N, nm, qn, bs, hdct, sn, sub, ab, col, dd, k0, k1, k2, k3, k5, mN, hC, hN, hni, T⟩ := exc_obj I.kIn q
  refine wpAny_call_exc_subT PySem.F.excBase_ValueError T hC hN hni (fun h' e hm => ?_) (Nat.zero_le _)
  exact mk_of I hm r h (I.hok.gone hm.new)
/-- C(x), C an own class whose __init__ keeps x as its field f -/
def spInit (C : Addr) (f : Str) : Sp := fun vs H Q _ => ∃ a y, vs = [.ref a, y] ∧ H a = some (exo a C none) ∧ ∀ dx, H dx = none → dx ≠ a → Q .non (upd (upd H dx (exd dx [(f, y)])) a (exo a C (some dx)))
def mkC1 (C : Addr) (f : Str) (ta : DA) : DMk := fun r M P => ta r M (fun xs M1 => match xs with
  | [x] => ∀ d, M1 d = none → P (.ref C) (some d) (mset M1 d (.exd [(f, x)]))
  | _ => False) P
theorem q_mk1 {C : Addr} {f : Str} (ha : QA X E es ta) (h : ∀ ta, PA X es ta → PMk X e (tMkO C (spInit C f) [] ta)) : QMk X E e (mkC1 C f ta) := by
  obtain ⟨tz, a1, a2⟩ := ha.ex
  refine ⟨_, h tz a1, fun g H r M P he hm ht k => ?_⟩
  refine a2 g H r M _ P _ he hm ht (fun vs xs H1 M1 s1 m1 x1 q1 => ?_) k
  split at q1
  · rename_i x
    obtain ⟨y, rfl, hy⟩ := x1.one
    refine ⟨by simp, fun a ha => ⟨a, y, rfl, upd_same, fun dx hdx ne => ⟨rfl, dx, [(f, y)], upd_same, ?_, ?_, ?_⟩⟩⟩
    · rw [upd_ne ne, upd_same]
    · rw [upd_ne ne] at hdx
      exact hdx
    · rw [upd_ne ne] at hdx
      have eq : upd (del (upd (upd (upd H1 a (exo a C none)) dx (exd dx [(f, y)])) a (exo a C (some dx))) a) dx (.xd [(f, y)]) = upd H1 dx (.xd [(f, y)]) := by
        funext b
        by_cases b1 : b = dx
        · rw [b1, upd_same, upd_same]
        · rw [upd_ne b1, upd_ne b1]
          by_cases b2 : b = a
          · rw [b2, del_same, ha]
          · rw [del_ne b2, upd_ne b2, upd_ne b1, upd_ne b2]
      rw [eq]
      have s2 := Stp.put (o := .xd [(f, y)]) (u := .exd [(f, x)]) m1 (Or.inl hdx)
      exact k _ _ _ _ (s1.trans s2) (m1.put (Or.inl hdx) ⟨_, upd_same, .cons (hy.mono s2) .nil⟩) (q1 dx (m1.gone hdx))
  · exact q1.elim
end
end Y
set_option maxHeartbeats 4000000
/-! the rules as the printer writes them -/
namespace Y
open PySem PySem.Spec PyProof.Rows L2
theorem bt_isinstance : bootBuiltins "isinstance" = some (.builtin "isinstance") := by decide +kernel
theorem bt_len : bootBuiltins "len" = some (.builtin "len") := by decide +kernel
theorem bt_abs : bootBuiltins "abs" = some (.builtin "abs") := by decide +kernel
theorem bt_min : bootBuiltins "min" = some (.builtin "min") := by decide +kernel
theorem bt_max : bootBuiltins "max" = some (.builtin "max") := by decide +kernel
theorem bt_sum : bootBuiltins "sum" = some (.builtin "sum") := by decide +kernel
theorem bt_all : bootBuiltins "all" = some (.builtin "all") := by decide +kernel
theorem bt_repr : bootBuiltins "repr" = some (.builtin "repr") := by decide +kernel
theorem bt_int : bootBuiltins "int" = some (.type "int") := by decide +kernel
theorem bt_str : bootBuiltins "str" = some (.type "str") := by decide +kernel
theorem bt_bool : bootBuiltins "bool" = some (.type "bool") := by decide +kernel
theorem bt_tuple : bootBuiltins "tuple" = some (.type "tuple") := by decide +kernel
theorem bt_list : bootBuiltins "list" = some (.type "list") := by decide +kernel
section
variable {X : Cx} {E : XK} {a b c e o : Expr} {es : List Expr} {da db dc dd : DX} {tA tB : DT} {p pos apos : Pos} {st : Stmt} {body : List Stmt} {t u : DS} {ta : DA} {x : Str}
theorem v (i : Nat) (hN : X.N[i]? = some x := by rfl) (hv : Vis X.env.scope x := by first | exact Or.inl rfl | exact Or.inr (Or.inl rfl) | exact Or.inr (Or.inr rfl)) (hd : (x == ("__debug__" : Str)) = false := by decide)
    (hcd : (x == ("__classdict__" : Str)) = false := by decide) : QE X E (.Name x pos) (dVar i) := q_v i (pe_var hN hv hd hcd)
theorem gi {n : Int} (hm : ∃ t, X.mg x = some (.int n t)) (hg : Gl X x := by rfl) (hd : (x == ("__debug__" : Str)) = false := by decide) : QE X E (.Name x pos) (dC (.d (.int n))) := by
  obtain ⟨t, hm⟩ := hm
  exact q_c (pe_glob (v := .int n) hg hm ⟨t, rfl⟩ hd) fun _ _ => .int n
theorem gs {n : Str} (hm : ∃ t, X.mg x = some (.str n t)) (hg : Gl X x := by rfl) (hd : (x == ("__debug__" : Str)) = false := by decide) : QE X E (.Name x pos) (dC (.d (.str n))) := by
  obtain ⟨t, hm⟩ := hm
  exact q_c (pe_glob (v := .str n) hg hm ⟨t, rfl⟩ hd) fun _ _ => .str n
/-- a constant of the module that is data -/
theorem gd {n : Addr} {d : PyData} (hm : X.mg x = some (.ref n)) (hd : ∀ H M, Dq X.K H M (.ref n) d) (hg : Gl X x := by rfl) (hdb : (x == ("__debug__" : Str)) = false := by decide) : QE X E (.Name x pos) (dC (.d d)) :=
  q_c (pe_glob (v := .ref n) hg hm rfl hdb) hd
/-- a class, a dict of the module: its address -/
theorem gr {n : Addr} (hm : X.mg x = some (.ref n)) (hg : Gl X x := by rfl) (hdb : (x == ("__debug__" : Str)) = false := by decide) : QE X E (.Name x pos) (dC (.r (.ref n))) :=
  q_c (pe_glob (v := .ref n) hg hm rfl hdb) fun _ _ => rfl
theorem gt {n : String} (hm : X.mg x = none) (hv : bootBuiltins x = some (.type n)) (hg : Gl X x := by rfl) (hn : x ≠ "__name__" := by decide) (hdb : (x == ("__debug__" : Str)) = false := by decide) : QE X E (.Name x pos) (dC (.r (.ty n))) :=
  q_c (pe_bltn (v := .ty n) hg hm hv rfl hn hdb) fun _ _ => rfl
def dNeg (da : DX) : DX := fun r M R P => da r M (fun x M1 => match x with
  | .d (.int i) => R (.d (.int (-i))) M1
  | _ => False) P
theorem q_neg (ha : QE X E a da) : QE X E (.UnaryOp .USub a pos) (dNeg da) := by
  obtain ⟨te, h1, h2⟩ := ha.ex
  refine ⟨_, pe_un un_neg h1, fun g H r M R P Q he hm ht k ex => ?_⟩
  refine h2 g H r M _ P _ he hm ht (fun v x H1 M1 s1 m1 x1 q1 => ?_) ex
  split at q1
  · cases x1
    exact ⟨_, rfl, k _ (.d (.int _)) H1 M1 s1 m1 (Dq.int _) q1⟩
  · exact q1.elim
/-- {} -/
def dDic : DX := fun _ M R _ => ∀ n, M n = none → R (.r (.ref n)) (mset M n .dic)
theorem q_dic : QE X E (.Dict [] [] pos) dDic := by
  refine ⟨_, pe_dnewK, fun g H r M R P Q he hm ht k ex => ?_⟩
  intro n hn
  have s2 := Stp.put (o := .dK []) (u := .dic) hm (Or.inl hn)
  exact k (.ref n) (.r (.ref n)) _ _ s2 (hm.put (Or.inl hn) upd_same) rfl (ht n (hm.gone hn))
theorem mk0 {op : CmpOp} {b : Expr} (h : behindInMarks op b = false := by rfl) : behindInMarks op b = false := h
theorem cmp {op : CmpOp} {t : D2} (ho : QO X E (compareOp op) t) (ha : QE X E a da) (hb : QE X E b db) (hm : behindInMarks op b = false := by rfl) : QE X E (.Compare a [op] [b] pos) (dOp t da db) := q_cmp ho ha hb hm
theorem tcmp {op : CmpOp} {t : D2} (ho : QO X E (compareOp op) t) (ha : QE X E a da) (hb : QE X E b db) (hm : behindInMarks op b = false := by rfl) : QT X E (.Compare a [op] [b] pos) (dB (dOp t da db)) := qt_cmp ho ha hb hm
theorem tval (ha : QE X E e da) (he : ∀ whole, isTrue e X.env whole = (do let v ← whole; standAt e.pos; holding [v] (truthy v)) := by intro _; rfl) : QT X E e (dB da) := qt_val ha he
theorem ix {t : D2} (ho : QI X E t) (ha : QE X E a da) (hb : QE X E b db) (hs : PlainIx b := by intro _ _; rfl) : QE X E (.Subscript a b pos) (dOp t da db) := q_ix ho ha hb hs
theorem set1 {pos' : Pos} (i : Nat) (hN : X.N.Nodup) (ha : QE X E e da) (hi : X.N[i]? = some x := by rfl) (hx : Loc X.env.scope x := by first | exact Or.inl rfl | exact Or.inr rfl) (hs : swapsWith e (some (.Name x pos')) pos.line X.env = pure false := by rfl)
    (hf : X.fn x = true ∨ X.env.scope.names.lookup x = some .local := by first | exact Or.inl rfl | exact Or.inr rfl) : QS X E (.Assign [.Name x pos'] e pos) (dSet i da) := qs_set i ha fun te h => ps_set hN hi hx h hs hf
theorem retn (ha : QE X E e da) : QS X E (.Return (some e) pos) (dRet da) := qs_ret ha
theorem exps (ha : QE X E e da) (hs : swapsWith e none pos.line X.env = pure false := by rfl) : QS X E (.Expr e pos) (dDrop da) := qs_expr ha fun te h => ps_expr h hs
/-- f(e, ..) -/
theorem call {f : Addr} {fd : FuncData} {ps : List Str} {n : Nat} {spx : SpX} {j k : Nat} (F : FnOk X.prog X.w X.K X.mg X.base (L2.CX X.prog X.w) j f fd ps (toSp X.K n spx)) (hj : j ≤ k) (hr : Room k X.A) (hx : Passes (L2.CX X.prog X.w) X E) (hm : X.mg x = some (.ref f)) (hk : PySem.W.keepIn X.K (.ref f) = true) (hb : Binds X.K fd ps [])
    (ha : QA X E (e :: es) ta) (hg : Gl X x := by rfl) (hdb : (x == ("__debug__" : Str)) = false := by decide) (he : starEach (e :: es) X.env = (false, eval e X.env) :: starEach es X.env := by rfl) (hpl : (backTo pos (starEach es X.env)).any (·.1) = false := by rfl) :
    QE X E (.Call (.Name x p) (e :: es) [] pos) (dCall n spx ta) := q_call ha fun _ h => pe_call (F.mono hj) hr hg hm hk hb .nil hx h hdb he hpl
theorem blt {id : String} {t : DC} (hb : QB X E (.builtin id) t) (hm : X.mg x = none) (hv : bootBuiltins x = some (.builtin id)) (ha : QA X E (e :: es) ta) (hg : Gl X x := by rfl) (hn : x ≠ "__name__" := by decide) (hdb : (x == ("__debug__" : Str)) = false := by decide)
    (he : starEach (e :: es) X.env = (false, eval e X.env) :: starEach es X.env := by rfl) (hpl : (backTo pos (starEach es X.env)).any (·.1) = false := by rfl) : QE X E (.Call (.Name x p) (e :: es) [] pos) (dApp t ta) :=
  q_app hb ha fun _ _ hc h => pe_callB hc hg hm hv h hn hdb he hpl
theorem blty {id : String} {t : DC} (hb : QB X E (.type id) t) (hm : X.mg x = none) (hv : bootBuiltins x = some (.type id)) (ha : QA X E (e :: es) ta) (hg : Gl X x := by rfl) (hn : x ≠ "__name__" := by decide) (hdb : (x == ("__debug__" : Str)) = false := by decide)
    (he : starEach (e :: es) X.env = (false, eval e X.env) :: starEach es X.env := by rfl) (hpl : (backTo pos (starEach es X.env)).any (·.1) = false := by rfl) : QE X E (.Call (.Name x p) (e :: es) [] pos) (dApp t ta) :=
  q_app hb ha fun _ _ hc h => pe_callTy hc hg hm hv h hn hdb he hpl
theorem slc {lo hi : Option Expr} {dl dh : DO} {p2 : Pos} (ha : QE X E a da) (hl : QP X E lo dl) (hh : QP X E hi dh) : QE X E (.Subscript a (.Slice lo hi none p2) pos) (dSl da dl dh) := q_slice ha hl hh fun _ _ _ h1 h2 h3 => pe_slice sl_any h1 h2 h3
/-- o.m(e, ..) of an own class -/
theorem meth {C f : Addr} {m : Str} {fd : FuncData} {ps : List Str} {n : Nat} {spx : SpX} {j k : Nat} {fns : List Str} (O : OwnC X.K C fns) (hM : Meth X.K C m f) (F : FnOk X.prog X.w X.K X.mg X.base (L2.CX X.prog X.w) j f fd ps (toSp X.K n spx)) (hj : j ≤ k) (hr : Room k X.A) (hx : Passes (L2.CX X.prog X.w) X E)
    (hb : Binds X.K fd ps []) (ho : QE X E o da) (ha : QA X E (e :: es) ta) (pl : Sem Bool)
    (hst : starEach (e :: es) X.env = (false, eval e X.env) :: starEach es X.env := by rfl) (hpl : (backTo pos (starEach es X.env)).any (·.1) = false := by rfl)
    (ht : eval (.Call (.Attribute o m apos) (e :: es) [] pos) X.env = (do
      let ov ← eval o X.env
      standAt apos.atName
      let (f, first) ← holding [ov] (getMethod ov m pl)
      callWith pos f first (backTo pos (starEach (e :: es) X.env)) (backToKw pos (keywordEach [] X.env))) := by rfl) :
    QE X E (.Call (.Attribute o m apos) (e :: es) [] pos) (dMeth C m n spx da ta) := q_meth ho ha fun _ _ h1 h2 => pe_meth h1 O.cls hM (F.mono hj) hr hb .nil hx h2 hst hpl ht
theorem meth0 {C f : Addr} {m : Str} {fd : FuncData} {ps : List Str} {n : Nat} {spx : SpX} {j k : Nat} {fns : List Str} (O : OwnC X.K C fns) (hM : Meth X.K C m f) (F : FnOk X.prog X.w X.K X.mg X.base (L2.CX X.prog X.w) j f fd ps (toSp X.K n spx)) (hj : j ≤ k) (hr : Room k X.A) (hx : Passes (L2.CX X.prog X.w) X E)
    (hb : Binds X.K fd ps []) (ho : QE X E o da) (pl : Sem Bool)
    (ht : eval (.Call (.Attribute o m apos) [] [] pos) X.env = (do
      let ov ← eval o X.env
      standAt apos.atName
      let (f, first) ← holding [ov] (getMethod ov m pl)
      callWith pos f first (backTo pos (starEach [] X.env)) (backToKw pos (keywordEach [] X.env))) := by rfl) :
    QE X E (.Call (.Attribute o m apos) [] [] pos) (dMeth C m n spx da dNil) := by
  obtain ⟨to, o1, o2⟩ := ho.ex
  refine ⟨_, pe_meth0 o1 O.cls hM (F.mono hj) hr hb .nil hx ht, fun g H r M R P Q he hm hq kk ex => ?_⟩
  refine o2 g H r M _ P _ he hm hq (fun v x H1 M1 s1 m1 x1 q1 => ?_) ex
  split at q1
  · rename_i q
    obtain rfl : v = V.ref q := x1
    split at q1
    · rename_i C' fs em
      obtain ⟨rfl, hn, hl, q1⟩ := q1
      obtain ⟨dx, vfs, hp, hx⟩ := m1 q _ em
      exact ⟨q, dx, vfs, rfl, hp, hx.lookN hn, _, M1, R, P, .cons (x := .r (.ref q)) rfl .nil, m1, hl, q1, fun v x H' M' z => kk v x H' M' (s1.trans z), ex.mono s1⟩
    · exact q1.elim
  · exact q1.elim
theorem make {C f : Addr} {fd : FuncData} {ps : List Str} {n : Nat} {spx : SpX} {j k : Nat} (hM : Mk X.K C f) (F : FnOk X.prog X.w X.K X.mg X.base (L2.CX X.prog X.w) j f fd ps (toSp X.K n spx)) (hj : j + 1 ≤ k) (hr : Room k X.A) (hx : Passes (L2.CX X.prog X.w) X E) (hm : X.mg x = some (.ref C)) (hb : Binds X.K fd ps [])
    (ha : QA X E (e :: es) ta) (hg : Gl X x := by rfl) (hdb : (x == ("__debug__" : Str)) = false := by decide) (he : starEach (e :: es) X.env = (false, eval e X.env) :: starEach es X.env := by rfl) (hpl : (backTo pos (starEach es X.env)).any (·.1) = false := by rfl) :
    QE X E (.Call (.Name x p) (e :: es) [] pos) (dMake C n spx ta) := q_make ha fun _ h => pe_make hM F (hr.mono hj) hg hm hb .nil hx h hdb he hpl
theorem make0 {C f : Addr} {fd : FuncData} {ps : List Str} {n : Nat} {spx : SpX} {j k : Nat} (hM : Mk X.K C f) (F : FnOk X.prog X.w X.K X.mg X.base (L2.CX X.prog X.w) j f fd ps (toSp X.K n spx)) (hj : j + 1 ≤ k) (hr : Room k X.A) (hx : Passes (L2.CX X.prog X.w) X E) (hm : X.mg x = some (.ref C)) (hb : Binds X.K fd ps [])
    (hg : Gl X x := by rfl) (hdb : (x == ("__debug__" : Str)) = false := by decide) : QE X E (.Call (.Name x p) [] [] pos) (dMake C n spx dNil) := by
  refine ⟨_, pe_make0 hM F (hr.mono hj) hg hm hb .nil hx hdb, fun g H r M R P Q he hm ht k ex => ?_⟩
  obtain ⟨hl, q1⟩ := ht
  intro p dx hp hd hne
  have s2 := Stp.new (o := .own p) hm hd
  have m2 := hm.new (o := .own p) hd
  have hp2 : upd H dx (.own p) p = none := by rw [upd_ne (Ne.symm hne)]; exact hp
  have s3 := Stp.put (o := .ins C dx []) (u := .ins C []) m2 (Or.inl hp2)
  have m3 := m2.put (o := .ins C dx []) (u := .ins C []) (Or.inl hp2) ⟨dx, [], upd_same, .nil⟩
  have s23 := s2.trans s3
  refine ⟨_, _, _, P, .cons (x := .r (.ref p)) rfl .nil, m3, hl, q1 p (hm.gone hp), fun v x H' M' z m4 x4 q4 => ?_, ex.mono s23⟩
  obtain ⟨rfl, q4⟩ := q4
  cases x4
  exact ⟨rfl, k (.ref p) (.r (.ref p)) H' M' (s23.trans z) m4 rfl q4⟩
theorem fld {C : Addr} {f : Str} {fns : List Str} (O : OwnC X.K C fns) (ha : QE X E e da) (hf : f ∈ fns := by decide) (hb : attributeBase e f X.env (eval e X.env) = eval e X.env := by rfl) : QE X E (.Attribute e f pos) (dFld C f da) := q_fld O hf ha fun _ h => pe_fld h hb
theorem setf {C : Addr} {f : Str} {fns : List Str} {dobj dv : DX} {v : Expr} {pos' : Pos} (O : OwnC X.K C fns) (ho : QE X E o dobj) (hv : QE X E v dv) (hf : f ∈ fns := by decide) (hs : swapsWith v (some (.Attribute o f pos')) pos.line X.env = pure false := by rfl) : QS X E (.Assign [.Attribute o f pos'] v pos) (dSetF C f dobj dv) :=
  qs_fld O hf ho hv fun _ _ h1 h2 => ps_fld h1 h2 hs
theorem augf {C : Addr} {f : Str} {fns : List Str} {dobj dv : DX} {v : Expr} {pos' : Pos} (O : OwnC X.K C fns) (ho : QE X E o dobj) (hv : QE X E v dv) (hf : f ∈ fns := by decide) : QS X E (.AugAssign (.Attribute o f pos') .Add v pos) (dAugF C f dobj dv) :=
  qs_augf O hf ho hv fun _ _ h1 h2 => ps_fldaug h1 h2 in_add
theorem par2 {x y : Str} {a b : Expr} {px py pt : Pos} {kt k2 pt2} (i j : Nat) (hN : X.N.Nodup) (hc : X.calm = true) (ha : QA X E [a, b] ta) (hi : X.N[i]? = some x := by rfl) (hj : X.N[j]? = some y := by rfl) (hij : i ≠ j := by decide)
    (hx : X.env.scope.names.lookup x = some .local := by rfl) (hy : X.env.scope.names.lookup y = some .local := by rfl)
    (hw : swappedStores [.Tuple [.Name x px, .Name y py] kt pt] (.Tuple [a, b] k2 pt2) X.env = pure (some [x, y]) := by rfl)
    (hs : swapsWithSole [.Tuple [.Name x px, .Name y py] kt pt] (.Tuple [a, b] k2 pt2) pos.line X.env = pure false := by rfl) :
    QS X E (.Assign [.Tuple [.Name x px, .Name y py] kt pt] (.Tuple [a, b] k2 pt2) pos) (dPar i j ta) := qs_par i j ha fun _ h => ps_par hc hN hi hj hij hx hy h hw hs
theorem whil (hp : PassesOwn (model X.prog X.w) X.A X.env X.xe) (hc : QT X E c tA) (hb : QSs X E body t) : QS X E (.While c body [] pos) (dWhile tA t) := qs_while hc hb fun _ _ h1 h2 => ps_while hp h1 h2
theorem forD {tp : Pos} (i : Nat) (hN : X.N.Nodup) (hc : X.calm = true) (hp : PassesOwn (model X.prog X.w) X.A X.env X.xe) (ha : QE X E e da) (hb : QSs X E body t) (hi : X.N[i]? = some x := by rfl) (hx : Loc X.env.scope x := by first | exact Or.inl rfl | exact Or.inr rfl)
    (hf : X.fn x = true ∨ X.env.scope.names.lookup x = some .local := by first | exact Or.inl rfl | exact Or.inr rfl) (hs : ∀ x, foldedSetIterable e X.env x = pure x := by intro _; rfl) : QS X E (.For (.Name x tp) e body [] pos) (dForD da i t) :=
  qs_forD ha hb fun _ _ h1 h2 => ps_for hp hc (pi_list h1) (pg_name hN hi hx hf) h2 hs
theorem forM {tp : Pos} (i : Nat) (hN : X.N.Nodup) (hc : X.calm = true) (hp : PassesOwn (model X.prog X.w) X.A X.env X.xe) (ha : QE X E e da) (hb : QSs X E body t) (hi : X.N[i]? = some x := by rfl) (hx : Loc X.env.scope x := by first | exact Or.inl rfl | exact Or.inr rfl)
    (hf : X.fn x = true ∨ X.env.scope.names.lookup x = some .local := by first | exact Or.inl rfl | exact Or.inr rfl) (hs : ∀ x, foldedSetIterable e X.env x = pure x := by intro _; rfl) : QS X E (.For (.Name x tp) e body [] pos) (dForM da i t) :=
  qs_forM ha hb fun _ _ h1 h2 => ps_for hp hc (pi_list h1) (pg_name hN hi hx hf) h2 hs
theorem forR1 {tp : Pos} (i : Nat) (hN : X.N.Nodup) (hc : X.calm = true) (hp : PassesOwn (model X.prog X.w) X.A X.env X.xe) (hm : X.mg "range" = none) (ha : QE X E a da) (hb : QSs X E body t) (hi : X.N[i]? = some x := by rfl) (hx : Loc X.env.scope x := by first | exact Or.inl rfl | exact Or.inr rfl)
    (hf : X.fn x = true ∨ X.env.scope.names.lookup x = some .local := by first | exact Or.inl rfl | exact Or.inr rfl) (hg : Gl X "range" := by rfl) (hs : ∀ y, foldedSetIterable (.Call (.Name "range" p) [a] [] apos) X.env y = pure y := by intro _; rfl) (hs2 : starEach [a] X.env = [(false, eval a X.env)] := by rfl) :
    QS X E (.For (.Name x tp) (.Call (.Name "range" p) [a] [] apos) body [] pos) (dForR1 da i t) :=
  qs_forR1 ha hb fun _ _ h1 h2 => ps_for hp hc (pi_range1 hg hm (pa_cons h1 pa_nil hs2) hs2) (pg_name hN hi hx hf) h2 hs
theorem forR2 {tp : Pos} (i : Nat) (hN : X.N.Nodup) (hc : X.calm = true) (hp : PassesOwn (model X.prog X.w) X.A X.env X.xe) (hm : X.mg "range" = none) (ha : QE X E a da) (hb' : QE X E b db) (hb : QSs X E body t) (hi : X.N[i]? = some x := by rfl) (hx : Loc X.env.scope x := by first | exact Or.inl rfl | exact Or.inr rfl)
    (hf : X.fn x = true ∨ X.env.scope.names.lookup x = some .local := by first | exact Or.inl rfl | exact Or.inr rfl) (hg : Gl X "range" := by rfl) (hs : ∀ y, foldedSetIterable (.Call (.Name "range" p) [a, b] [] apos) X.env y = pure y := by intro _; rfl) (hs2 : starEach [a, b] X.env = [(false, eval a X.env), (false, eval b X.env)] := by rfl) (hs3 : starEach [b] X.env = [(false, eval b X.env)] := by rfl) :
    QS X E (.For (.Name x tp) (.Call (.Name "range" p) [a, b] [] apos) body [] pos) (dForR2 da db i t) :=
  qs_forR2 ha hb' hb fun _ _ _ h1 h2 h3 => ps_for hp hc (pi_range2 hg hm (pa_cons h1 (pa_cons h2 pa_nil hs3) (by rw [hs2, hs3])) hs2 hs3) (pg_name hN hi hx hf) h3 hs
/-- o[i] = e -/
theorem put {dv dobj di : DX} {i : Expr} {p1 : Pos} (hv : QE X E e dv) (ho : QE X E o dobj) (hi : QE X E i di) (h : ∀ te to ti, PE X e te → PE X o to → PE X i ti → PS X (.Assign [.Subscript o i p1] e pos) (tAsg te (gSub to ti rSetL))) : QS X E (.Assign [.Subscript o i p1] e pos) (dPut dv dobj di) := qs_sub hv ho hi h
end
end Y
namespace Y
open PySem PySem.Spec PyProof.Rows L2
section
variable {X : Cx} {E : XK} {a elt : Expr} {da te : DX} {pos tp : Pos} {x : Str} {scope : Scope} {st : List Stmt} {t : DS}
theorem lcD (i : Nat) (own : List (Str × Nat)) (hN : X.N.Nodup) (hc : X.calm = true) (ha : QE X E a da) (ok : BlkOk X.N X.env.scope scope own)
    (he : ∀ (s : Shared) (H : Hp) (C : Addr) (cl : List (Str × Addr)) (fp : List Addr), QE (X.blk s H scope (compEnvC scope cl C X.env) fp) (fun _ _ _ => False) elt te)
    (hi : X.N[i]? = some x := by rfl) (hx : ∀ (s : Shared) (H : Hp) (C : Addr) (cl : List (Str × Addr)) (fp : List Addr), (X.blk s H scope (compEnvC scope cl C X.env) fp).env.scope.names.lookup x = some .local := by intros; rfl) (hj : i ∈ own.map (·.2) := by decide) (hs : ∀ y, foldedSetIterable a X.env y = pure y := by intro _; rfl) :
    QE X E (.ListComp elt [⟨.Name x tp, a, [], 0⟩] scope pos) (dLcD da i (own.map (·.2)) te) :=
  q_lcD ha hj fun tl h => pe_lc hc hN (pi_list h) ok (fun s H C cl fp => pg_name hN hi (Or.inl (hx s H C cl fp)) (Or.inr (hx s H C cl fp))) (fun _ _ _ _ _ => pts_nil) (fun s H C cl fp => (he s H C cl fp).can) hs
theorem setLcD {spos py : Pos} {y : Str} (j i : Nat) (own : List (Str × Nat)) (hN : X.N.Nodup) (hc : X.calm = true) (ha : QE X E a da) (ok : BlkOk X.N X.env.scope scope own)
    (he : ∀ (s : Shared) (H : Hp) (C : Addr) (cl : List (Str × Addr)) (fp : List Addr), QE (X.blk s H scope (compEnvC scope cl C X.env) fp) (fun _ _ _ => False) elt te)
    (hk : X.env.scope.kind = .function) (hy : X.N[j]? = some y := by rfl) (hyl : X.env.scope.names.lookup y = some .local := by rfl) (hl : (py.line == pos.line) = true := by rfl) (hna : (scope.names.any fun (n, k) => n == y && (k == .local || k == .cell)) = false := by rfl)
    (hi : X.N[i]? = some x := by rfl) (hx : ∀ (s : Shared) (H : Hp) (C : Addr) (cl : List (Str × Addr)) (fp : List Addr), (X.blk s H scope (compEnvC scope cl C X.env) fp).env.scope.names.lookup x = some .local := by intros; rfl) (hj : i ∈ own.map (·.2) := by decide) (hs : ∀ y, foldedSetIterable a X.env y = pure y := by intro _; rfl) :
    QS X E (.Assign [.Name y py] (.ListComp elt [⟨.Name x tp, a, [], 0⟩] scope pos) spos) (dSet j (dLcD da i (own.map (·.2)) te)) :=
  qs_setLcD j ha hj fun tl h => ps_setLc hc hN hy hyl (sw_true hk hyl hl hna) (pi_list h) ok (fun s H C cl fp => pg_name hN hi (Or.inl (hx s H C cl fp)) (Or.inr (hx s H C cl fp))) (fun _ _ _ _ _ => pts_nil) (fun s H C cl fp => (he s H C cl fp).can) hs
theorem lcS (i : Nat) (own : List (Str × Nat)) (hN : X.N.Nodup) (hc : X.calm = true) (ha : QE X E a da) (ok : BlkOk X.N X.env.scope scope own)
    (he : ∀ (s : Shared) (H : Hp) (C : Addr) (cl : List (Str × Addr)) (fp : List Addr), QE (X.blk s H scope (compEnvC scope cl C X.env) fp) (fun _ _ _ => False) elt te)
    (hi : X.N[i]? = some x := by rfl) (hx : ∀ (s : Shared) (H : Hp) (C : Addr) (cl : List (Str × Addr)) (fp : List Addr), (X.blk s H scope (compEnvC scope cl C X.env) fp).env.scope.names.lookup x = some .local := by intros; rfl) (hj : i ∈ own.map (·.2) := by decide) (hs : ∀ y, foldedSetIterable a X.env y = pure y := by intro _; rfl) :
    QE X E (.ListComp elt [⟨.Name x tp, a, [], 0⟩] scope pos) (dLcS da i (own.map (·.2)) te) :=
  q_lcS ha hj fun tl h => pe_lc hc hN (pi_str h) ok (fun s H C cl fp => pg_name hN hi (Or.inl (hx s H C cl fp)) (Or.inr (hx s H C cl fp))) (fun _ _ _ _ _ => pts_nil) (fun s H C cl fp => (he s H C cl fp).can) hs
/-- a clause's suite: the class is known -/
def dCls (cls : Value) (D : Addr) (t : DS) : DS := fun De r M => cls = .ref D ∧ t De r M
theorem qss_cls {cls : Value} {D : Addr} (h : cls = .ref D → QSs X E st t) : QSs X E st (dCls cls D t) := by
  by_cases e : cls = .ref D
  · obtain ⟨ts, h1, h2⟩ := (h e).ex
    exact ⟨ts, h1, fun g H r M De D' he hm ht k => h2 g H r M De D' he hm ht.2 k⟩
  · exact ⟨tNever, pss_never, fun g H r M De D' he hm ht k => (e ht.1).elim⟩
theorem par3 {x y z : Str} {a b c : Expr} {px py pz pt : Pos} {kt k2 pt2} {ta : DA} (i j l : Nat) (hN : X.N.Nodup) (hc : X.calm = true) (ha : QA X E [a, b, c] ta)
    (h : ∀ tz, PA X [a, b, c] tz → PS X (.Assign [.Tuple [.Name x px, .Name y py, .Name z pz] kt pt] (.Tuple [a, b, c] k2 pt2) pos) (tPar3 i j l tz)) :
    QS X E (.Assign [.Tuple [.Name x px, .Name y py, .Name z pz] kt pt] (.Tuple [a, b, c] k2 pt2) pos) (dPar3 i j l ta) := qs_par3 i j l ha h
end
end Y
set_option maxHeartbeats 4000000
/-! defs that show data by repr: their promise holds where nothing is being shown (A.guards = some []) -/
namespace Y
open PySem PySem.Spec PyProof.Rows L2
structure FnG (P : Program) (w : World) (K : PySem.W.Frag) (mg : Str → Option Value) (base : Heap) (CX : CXT) (k : Nat) (f : Addr) (fd : FuncData) (ps : List Str) (sp : Sp) : Prop where
  arity : ∀ vs H Q E, sp vs H Q E → vs.length = ps.length
  runs : ∀ (A : Around), A.guards = some [] → Room k A → ∀ (fr : List Env) (t : Shared) (H : Hp) (ar : Args) (us : List Value) (vs : List V) (Q : VK) (E : XK),
    Env0 P w K mg base A fr t H → BindsTo t fd ar (ps.zip us) → Vals vs us → sp vs H Q E → codeAny (model P w) A (.call (.ref f) ar) (CR CX fr P w H t Q E) t
section
variable {P : Program} {w : World} {K : PySem.W.Frag} {mg : Str → Option Value} {base : Heap} {CX : CXT} {j k : Nat} {f : Addr} {fd : FuncData} {ps N : List Str} {sp : Sp} {nm qual : Str} {params : Arguments} {body : List Stmt} {scope : Scope}
theorem FnG.up (F : FnG P w K mg base CX j f fd ps sp) (h : j ≤ k) : FnG P w K mg base CX k f fd ps sp := ⟨F.arity, fun A g r => F.runs A g (r.mono h)⟩
theorem _root_.L2.FnOk.toG (F : FnOk P w K mg base CX k f fd ps sp) : FnG P w K mg base CX k f fd ps sp := ⟨F.len, fun A _ r fr t H ar us vs Q E => F.run A fr t H ar us vs Q E r⟩
/-- a def by its body -/
theorem fnG_body (F : FunD K nm qual params body scope [] [] f fd) (S : FnScope N ps scope) (ar : ∀ vs H Q E, sp vs H Q E → vs.length = ps.length)
    (hb : ∀ (cd : Value) (A : Around) (fr : List Env) (t : Shared) (H : Hp) (vs : List V) (Q : VK) (E : XK), fd.code = cd → A.guards = some [] → Room k (A.deeper (envOfC qual scope t.heap.objs.size f cd)) → sp vs H Q E →
      ∃ ts, PSs (cxOf CX P w K mg base N qual scope f cd A fr t H E) body ts ∧ ts { nx := fun _ H' => Q .non H', rt := Q } (start N vs) H) : FnG P w K mg base CX (k + 1) f fd ps sp := by
  obtain ⟨oc, od, dV, kV, doc, pm, an, cd, ct, osl, rfl, here, code, _, _⟩ := F.ex
  refine ⟨ar, fun A g room fr t H args us vs Q E e0 bnd rel want => ?_⟩
  have inK : K.In t.heap := e0.mod.kin.keeps fun b o e => (e0.bs b o e).1
  have noLim : t.heap.NoLimit := e0.mod.nolimit.keeps fun b o e => (e0.bs b o e).1
  have kinds : ∀ q ∈ ps.zip us, scope.names.lookup q.1 = some .local ∨ (scope.names.lookup q.1 = some .cell ∧ ((cellsFrom (t.heap.objs.size + 1) scope.names []).lookup q.1).isSome = true) := by
    rintro ⟨x, u⟩ m
    rcases S.par x (List.of_mem_zip m).1 with loc | cel
    · exact Or.inl loc
    · exact Or.inr ⟨cel, PySem.W.cellsFrom_some _ _ _ (Or.inl cel)⟩
  refine codeAny_call_function room.depth (inK _ _ here) rfl S.co S.gen rfl (PySem.W.codeRec_of inK code) (bnd _ _ _ _ (wpAny_newFunctionEnv_cells S.kind kinds fun en hen t1 x => ?_))
  subst hen
  refine ⟨noLim.keeps x.toInCall.keep, codeAny_func ?_⟩
  obtain ⟨ts, walk, goal⟩ := hb cd A fr t H vs Q E rfl g (room.deeper _) want
  have I0 : Inv (cxOf CX P w K mg base N qual scope f cd A fr t H E) [] (start N vs) H t1 := inv_start S room.hd e0 (ar _ _ _ _ want) rel x
  have close : ∀ {σ : L2.St} {H' : Hp} {v : V} {u : Value} {z : Shared}, Inv (cxOf CX P w K mg base N qual scope f cd A fr t H E) [] σ H' z → RelV v u → Q v H' → CE fr P w H t Q u z := fun J rv q => ⟨_, _, J.os, J.bare, J.base, J.hok, rv, q⟩
  refine wpAny_mono (walk.run [] t1 (start N vs) H _ I0 goal) (fun fl z hz => ?_) fun _ _ q => q
  cases fl with
  | next =>
    obtain ⟨σ, H', J, q⟩ := hz
    exact close (v := V.non) (u := Value.none) J rfl q
  | ret u =>
    obtain ⟨v, σ, H', J, rv, q⟩ := hz
    exact close J rv q
  | brk => exact hz.elim fun _ h => h.elim fun _ h => False.elim h.2
  | cont => exact hz.elim fun _ h => h.elim fun _ h => False.elim h.2
/-- .. by data -/
theorem fnG_x {n : Nat} {spx : SpX} (F : FunD K nm qual params body scope [] [] f fd) (S : FnScope N ps scope) (hn : ps.length = n) (t : DS)
    (hb : ∀ (cd : Value) (A : Around) (fr : List Env) (s : Shared) (H : Hp) (E : XK), A.guards = some [] → Room k (A.deeper (envOfC qual scope s.heap.objs.size f cd)) → QSs (cxOf (L2.CX P w) P w K mg base N qual scope f cd A fr s H E) E body t)
    (hp : ∀ xs M R Px, xs.length = n → spx xs M R Px → t { nx := fun _ M' => R (.d .none) M', rt := R, ex := Px } (startX N xs) M) : FnG P w K mg base (L2.CX P w) (k + 1) f fd ps (toSp K n spx) := by
  refine fnG_body F S (fun vs H Q E h => by rw [h.len, hn]) fun cd A fr s H vs Q E _ g room want => ?_
  obtain ⟨ts, h1, h2⟩ := (hb cd A fr s H E g room).ex
  obtain ⟨xs, M, R, Px, x, m, l, sp, kk, ee⟩ := want
  exact ⟨ts, h1, h2 _ H _ M _ _ (EnvOk.start x) m (hp xs M R Px l sp) ⟨fun g r H' M' z1 z2 z3 z4 => kk .non (.d .none) H' M' z1 z2 Dq.non z4, fun v x H' M' z1 z2 z3 z4 => kk v x H' M' z1 z2 z3 z4, fun _ _ _ _ _ _ _ z => z.elim, fun _ _ _ _ _ _ _ z => z.elim, ee⟩⟩
/-- .. its code object known -/
theorem fnG_xc {n : Nat} {spx : SpX} (F : FunD K nm qual params body scope [] [] f fd) (S : FnScope N ps scope) (hn : ps.length = n) (t : DS)
    (hb : ∀ (cd : Value) (A : Around) (fr : List Env) (s : Shared) (H : Hp) (E : XK), fd.code = cd → A.guards = some [] → Room k (A.deeper (envOfC qual scope s.heap.objs.size f cd)) → QSs (cxOf (L2.CX P w) P w K mg base N qual scope f cd A fr s H E) E body t)
    (hp : ∀ xs M R Px, xs.length = n → spx xs M R Px → t { nx := fun _ M' => R (.d .none) M', rt := R, ex := Px } (startX N xs) M) : FnG P w K mg base (L2.CX P w) (k + 1) f fd ps (toSp K n spx) := by
  refine fnG_body F S (fun vs H Q E h => by rw [h.len, hn]) fun cd A fr s H vs Q E ec g room want => ?_
  obtain ⟨ts, h1, h2⟩ := (hb cd A fr s H E ec g room).ex
  obtain ⟨xs, M, R, Px, x, m, l, sp, kk, ee⟩ := want
  exact ⟨ts, h1, h2 _ H _ M _ _ (EnvOk.start x) m (hp xs M R Px l sp) ⟨fun g r H' M' z1 z2 z3 z4 => kk .non (.d .none) H' M' z1 z2 Dq.non z4, fun v x H' M' z1 z2 z3 z4 => kk v x H' M' z1 z2 z3 z4, fun _ _ _ _ _ _ _ z => z.elim, fun _ _ _ _ _ _ _ z => z.elim, ee⟩⟩
end
section
variable {X : Cx} {E : XK} {CX : CXT} {k : Nat} {f : Addr} {fd : FuncData} {ps : List Str} {sp : Sp} {x : Str} {p pos : Pos} {e : Expr} {es : List Expr} {ta : TA}
theorem runG {pins : List (Addr × Obj)} {σ : L2.St} {H : Hp} {s : Shared} {Q : VK} {us : List Value} {vs : List V} (F : FnG X.prog X.w X.K X.mg X.base CX k f fd ps sp) (hg : X.A.guards = some []) (hr : Room k X.A) (hb : Binds X.K fd ps []) (hx : Passes CX X E)
    (I : Inv X pins σ H s) (r : Vals vs us) (h : sp vs H Q E) : wpAny (model X.prog X.w) X.A (PySem.call (.ref f) us) (EP X pins σ Q) X.xe s := by
  have hl : (us ++ []).length = ps.length := by rw [List.append_nil, ← r.length]; exact F.arity _ _ _ _ h
  have bt := hb s us I.kIn hl
  rw [List.append_nil] at bt
  refine wpAny_call (codeAny_mono (F.runs X.A hg hr X.stack s H ⟨us, []⟩ us vs Q E I.env0 bt r h) fun r s' q => ?_)
  cases r with
  | ok fl => cases fl with
    | ret u => exact I.after q
    | next => exact q.elim
    | brk => exact q.elim
    | cont => exact q.elim
  | error e => exact hx pins σ H s e s' I q
theorem pe_callG (F : FnG X.prog X.w X.K X.mg X.base CX k f fd ps sp) (hgu : X.A.guards = some []) (hr : Room k X.A) (hg : Gl X x) (hm : X.mg x = some (.ref f)) (hk : PySem.W.keepIn X.K (.ref f) = true) (hb : Binds X.K fd ps []) (hx : Passes CX X E)
    (ha : PA X (e :: es) ta) (hdb : (x == ("__debug__" : Str)) = false := by decide) (he : starEach (e :: es) X.env = (false, eval e X.env) :: starEach es X.env := by rfl) (hpl : (backTo pos (starEach es X.env)).any (·.1) = false := by rfl) :
    PE X (.Call (.Name x p) (e :: es) [] pos) (tCall sp [] E ta) := by
  refine ⟨fun pins s σ H Q I h => wpAny_Call_Name_kw (ld_glob I hg hm ?_ hdb)⟩
  refine PySem.W.callWith_K (h₀ := X.base) I.ok.mod.kin hk (thn (ha.run pos pins s σ H _ I h) fun us s1 ⟨vs, H1, I1, r, q⟩ => ⟨I1.kIn, ?_⟩) he hpl
  have q : sp (vs ++ []) H1 Q E := q
  rw [List.append_nil] at q
  exact runG F hgu hr hb hx I1 r q
end
section
variable {X : Cx} {E : XK} {e : Expr} {es : List Expr} {p pos : Pos} {ta : DA} {x : Str}
/-- f(e, ..), f such a def -/
theorem callG {f : Addr} {fd : FuncData} {ps : List Str} {n : Nat} {spx : SpX} {j k : Nat} (F : FnG X.prog X.w X.K X.mg X.base (L2.CX X.prog X.w) j f fd ps (toSp X.K n spx)) (hgu : X.A.guards = some []) (hj : j ≤ k) (hr : Room k X.A) (hx : Passes (L2.CX X.prog X.w) X E) (hm : X.mg x = some (.ref f)) (hk : PySem.W.keepIn X.K (.ref f) = true) (hb : Binds X.K fd ps [])
    (ha : QA X E (e :: es) ta) (hg : Gl X x := by rfl) (hdb : (x == ("__debug__" : Str)) = false := by decide) (he : starEach (e :: es) X.env = (false, eval e X.env) :: starEach es X.env := by rfl) (hpl : (backTo pos (starEach es X.env)).any (·.1) = false := by rfl) :
    QE X E (.Call (.Name x p) (e :: es) [] pos) (dCall n spx ta) := q_call ha fun ta h => pe_callG (F.up hj) hgu hr hg hm hk hb hx h hdb he hpl
theorem _root_.L2.Room.units100 {k : Nat} {A : Around} (r : Room k A) : A.units + 100 < cLine := by have := r.un; omega
/-- repr of data that is a list or a tuple -/
def cRepr : DC := fun xs M R _ => match xs with
  | [.d (.tuple ds)] => PyData.showable (.tuple ds) = true ∧ PyData.hasDict (.tuple ds) = false ∧ PyData.depth (.tuple ds) ≤ 64 ∧ (PyData.shown (.tuple ds)).length ≤ sizeLine ∧ R (.d (.str (PyData.shown (.tuple ds)))) M
  | _ => False
theorem b_repr (hgu : X.A.guards = some []) (hu : X.A.units + 100 < cLine) : QB X E (.builtin "repr") cRepr := by
  refine ⟨fun xs H Q => ∃ (a : Addr) (d : PyData), xs = [.ref a] ∧ Dp X.K H (.ref a) d ∧ PyData.showable d = true ∧ PyData.hasDict d = false ∧ PyData.depth d ≤ 64 ∧ (PyData.shown d).length ≤ sizeLine ∧ Q (.str (PyData.shown d)) H, ?_, ?_⟩
  · intro pins s σ H xs us Q I r h
    obtain ⟨a, d, rfl, hd, h1, h2, h3, h4, q⟩ := h
    obtain ⟨u, rfl, ru⟩ := vals1 r
    obtain ⟨as, rd⟩ := Dp.reads I d _ u hd ru
    obtain rfl : u = Value.ref a := ru
    refine repr_of_reads' rd h1 (PyData.noDict_hsm h2) hgu (by omega) (fun _ _ e => e) (fun h' u tk hk => ⟨.str (PyData.shown d), H, I.kept (t' := tk) hk, ⟨_, rfl⟩, q⟩) h4
  · intro H M vs xs R P Q hm hx ht k _
    unfold cRepr at ht
    split at ht
    · rename_i ds
      obtain ⟨v, rfl, x1⟩ := hx.one
      obtain ⟨h1, h2, h3, h4, q⟩ := ht
      have dp := Dq.dp x1
      cases x1 with
      | tup l1 al => exact ⟨_, _, rfl, dp, h1, h2, h3, h4, k _ (.d (.str _)) H M (.refl hm) hm (Dq.str _) q⟩
    · exact ht.elim
end
section
theorem vals_of_ints {vs : List Value} {ns : List Int} (h : IntsAre vs ns) : Vals (ns.map V.int) vs := vals_ints h
/-- the law's own call, behind the top: nothing is being shown there -/
theorem lawG {P : Program} {w : World} {K : PySem.W.Frag} {mg mb : Str → Option Value} {CX : CXT} {k : Nat} {fa a : Addr} {fd : FuncData} {x : Str} {sp : Sp} {t : Shared} {vs : List Value} {ns : List Int}
    (inK : K.In t.heap) (nsM : t.heap.Ns mainGlobals mg) (nsB : t.heap.Ns builtinsNs mb) (boot : ∀ y : Str, y ≠ "__name__" → mb y = bootBuiltins y) (noLim : t.heap.NoLimit) (noGen : t.gens = #[])
    (obj : t.heap.get? a = some { cls := .type "list", data := .seq vs.toArray }) (its : IntsAre vs ns) (few : ns.length ≤ sizeLine) (room : Room k callerA)
    (F : ∀ base : Heap, K.In base → base.Ns mainGlobals mg → FnG P w K mg base CX k fa fd [x] sp) (bnd : ∀ (s : Shared) (u : Value), BindsTo s fd ⟨[u], []⟩ [(x, u)])
    (want : ∀ H : Hp, Only H → SqL K H a (ns.map V.int) → sp [.ref a] H (fun v _ => v = .bl true) fun _ _ _ => False) (noExc : ∀ H e s', ¬ CX [] H t (fun _ _ _ => False) e s') :
    codeAny (model P w) callerA (.call (.ref fa) ⟨[.ref a], []⟩) (fun r s' => r = .ok (.ret (.bool true)) ∧ OldK t.heap s'.heap ∧ s'.os = t.os ∧ AllBare s'.gens) t := by
  have rv := vals_ints its
  -- H: an abstract heap that tracks the script's list at most
  have from_ : ∀ H : Hp, Only H → SqL K H a (ns.map V.int) → HOk P w H t.heap → (∀ b, H b ≠ none → b = a ∧ K.lookup a = none) →
      codeAny (model P w) callerA (.call (.ref fa) ⟨[.ref a], []⟩) (fun r s' => r = .ok (.ret (.bool true)) ∧ OldK t.heap s'.heap ∧ s'.os = t.os ∧ AllBare s'.gens) t := by
    intro H only sq ok just
    have there : ∀ {b : Addr} {o : Obj}, t.heap.get? b = some o → H b = none → (hidT t.heap H).get? b = some o := fun e n => hidT_get e n
    have nsT : ∀ {b : Addr} {m : Str → Option Value}, t.heap.Ns b m → (hidT t.heap H).Ns b m := by
      rintro b m ⟨o, es, ep, e, d, r⟩
      refine ⟨o, es, ep, there e ?_, d, r⟩
      cases q : H b with
      | none => rfl
      | some u =>
        obtain ⟨rfl, _⟩ := just b (by rw [q]; simp)
        cases obj.symm.trans e
        cases (show Data.seq vs.toArray _ = Data.dict es ep from d)
    have inT : K.In (hidT t.heap H) := fun b o e => there (inK b o e) (by
      cases q : H b with
      | none => rfl
      | some u =>
        obtain ⟨rfl, n⟩ := just b (by rw [q]; simp)
        rw [n] at e; cases e)
    have e0 : Env0 P w K mg (hidT t.heap H) callerA [] t H :=
      ⟨rfl, ⟨inT, nsT nsM, ⟨mb, nsT nsB, boot⟩, noLim.elim fun mc h => ⟨mc, nsT h.1, h.2⟩⟩, fun b o e => of_hidT e, Nat.le_of_eq (hidT_size _ _), trivial, fun b hb => absurd (show b ∈ ([] : List Addr) from hb) (by simp), ok, .of_eq noGen⟩
    refine codeAny_mono ((F _ inT (nsT nsM)).runs callerA rfl room [] t H ⟨[.ref a], []⟩ [.ref a] [.ref a] _ _ e0 (bnd t (.ref a)) (.cons rfl .nil) (want H only sq)) fun r s' q => ?_
    cases r with
    | error e => exact absurd q (noExc H e s')
    | ok fl => cases fl with
      | next => exact q.elim
      | brk => exact q.elim
      | cont => exact q.elim
      | ret u =>
        obtain ⟨v, H', os, bare, un, ok', ru, ev⟩ := q
        obtain rfl : v = .bl true := ev
        obtain rfl : u = Value.bool true := ru
        refine ⟨rfl, OldK.of_keep fun b o e => ?_, os, bare⟩
        cases q : H b with
        | none => exact un.keep b o e q (by intro z; exact absurd (show b ∈ ([] : List Addr) from z) (by simp)) (by simp)
        | some u =>
          obtain z | ⟨ob, xs, z⟩ := only b
          · rw [q] at z; cases z
          · obtain ⟨e1, _⟩ := ok b _ z
            obtain ⟨e2, _⟩ := ok' b _ (un.frzs b ob _ z)
            cases e.symm.trans e1
            exact e2
  by_cases hk : K.lookup a = none
  · have at_a : ∀ b, (if b = a then some (HO.frz { cls := .type "list", data := .seq vs.toArray } (.lst (ns.map V.int))) else none : Option HO) ≠ none → b = a := fun b q => by
      by_cases e : b = a
      · exact e
      · exact absurd (if_neg e) q
    refine from_ (fun b => if b = a then some (.frz { cls := .type "list", data := .seq vs.toArray } (.lst (ns.map V.int))) else none) (fun b => ?_) (Or.inl (Or.inr ⟨_, if_pos rfl⟩)) (fun b u z => ?_) fun b z => ⟨at_a b z, hk⟩
    · by_cases e : b = a
      · exact Or.inr ⟨_, _, if_pos e⟩
      · exact Or.inl (if_neg e)
    · have z2 : (if b = a then some (HO.frz { cls := .type "list", data := .seq vs.toArray } (.lst (ns.map V.int))) else none : Option HO) = some u := z
      obtain rfl := at_a b (by rw [z2]; simp)
      rw [if_pos rfl] at z2
      cases z2
      exact ⟨obj, by rw [List.length_map]; exact few, vs, _, rv, obj⟩
  · cases q : K.lookup a with
    | none => exact absurd q hk
    | some o =>
      cases obj.symm.trans (inK a o q)
      exact from_ (fun _ => none) (fun _ => Or.inl rfl) (Or.inr ⟨_, vs.toArray, _, q, rfl, rfl, rfl, by rw [List.size_toArray, its.length]; exact few, by simpa using rv⟩) (fun b u z => by cases (show (none : Option HO) = some u from z)) fun b z => absurd rfl z
/-- a law's end over a head by facts, for such a promise -/
theorem walkG {l : PySem.W.OpenLaw} {n k : Nat} {q : Program} {loose : List Str} {XP : (Str → Option Value) → Heap → Prop} {YP : World → Heap → Prop} {d : DefRec} {CX : World → CXT} {x : Str}
    (hn : l.most = some n) (hn2 : n ≤ sizeLine) (hdf : d.params.defaults = []) (room : Room k callerA)
    (F : ∀ (w : World) (mg : Str → Option Value) (fa : Addr) (h : Heap), YP w h → h.Ns mainGlobals mg → mg d.name = some (.ref fa) →
      ∃ (K : PySem.W.Frag) (fd : FuncData) (sp : Sp), K.In h ∧ (∀ (s : Shared) (u : Value), BindsTo s fd ⟨[u], []⟩ [(x, u)]) ∧
        (∀ (H : Hp) (a : Addr) (ns : List Int), ns.length ≤ n → Only H → SqL K H a (ns.map V.int) → sp [.ref a] H (fun v _ => v = .bl true) fun _ _ _ => False) ∧
        ∀ base : Heap, K.In base → base.Ns mainGlobals mg → FnG l.prog w K mg base (CX w) k fa fd [x] sp)
    (noExc : ∀ (w : World) (H : Hp) (s : Shared) (e : Value) (s' : Shared), ¬ CX w [] H s (fun _ _ _ => False) e s') :
    PySem.W.WalkO q loose XP YP l.row.toRowW d [] (fun f vs => PySem.call f vs) := by
  refine Att.attach_call hn hdf fun w s0 s1 mg mb fa o pm cd doc a vs ns G Y ho hd hcd hmg hobj hints hlen hg => ?_
  obtain ⟨K, fd, sp, inK, bnd, want, hF⟩ := F w mg fa _ Y G.T.g hmg
  exact lawG inK G.T.g G.T.b G.T.builtins G.T.nolimit hg hobj hints (Nat.le_trans hlen hn2) room hF bnd (fun H hO hS => want H a ns hlen hO hS) fun H => noExc w H s1
end
end Y
set_option maxHeartbeats 4000000
/-! f(lambda: e): the lambda is a value that remembers the names it was made among -/
namespace Y
open PySem PySem.Spec PyProof.Rows L2
section
variable {K : PySem.W.Frag} {H H' : Hp} {M M' : MH}
def upX : Xb → Xv
  | .d d => .d d
  | .r v => .r v
def liftB (b : List (Option Xb)) : DEnv := b.map fun o => o.map upX
def dropB : DEnv → List (Option Xb)
  | [] => []
  | some (.d d) :: r => some (.d d) :: dropB r
  | some (.r v) :: r => some (.r v) :: dropB r
  | _ :: r => none :: dropB r
theorem EnvB.lift : ∀ {g : L2.St} {b : List (Option Xb)}, EnvB K H M g b → EnvOk K H M g (liftB b)
  | _, _, .nil => .nil
  | _, _, .non t => .non t.lift
  | _, _, .som (x := x) h t => .som (x := upX x) (match x, h with
    | .d _, h => h
    | .r _, h => h) t.lift
theorem EnvOk.drop0 : ∀ {g : L2.St} {r : DEnv}, EnvOk K H M g r → EnvB K H M g (dropB r)
  | _, _, .nil => .nil
  | _, _, .non t => .non t.drop0
  | _, _, .som (x := .d d) h t => .som (x := .d d) h t.drop0
  | _, _, .som (x := .r v) h t => .som (x := .r v) h t.drop0
  | _, _, .som (x := .clo _ _ _ _ _) h t => .non t.drop0
/-- a reading's weakest: what it asks of names and heap -/
def weak (K : PySem.W.Frag) (E : XK) (t : DX) : TE := fun g H Q => ∃ r M R P, EnvOk K H M g r ∧ MOk K H M ∧ t r M R P ∧ (∀ v x H' M', Stp H M H' M' → MOk K H' M' → XOk K H' M' v x → R x M' → Q v H') ∧ EHyp K E H M P
theorem QE.weak {X : Cx} {E : XK} {e : Expr} {t : DX} (h : QE X E e t) : PE X e (Y.weak X.K E t) := by
  obtain ⟨te, h1, h2⟩ := h.ex
  exact ⟨fun pins s σ H Q I ⟨r, M, R, P, a, b, c, d, f⟩ => h1.run pins s σ H Q I (h2 σ H r M R P Q a b c d f)⟩
end
section
variable {X : Cx} {pins : List (Addr × Obj)} {σ : L2.St} {H : Hp} {s : Shared}
/-- a lambda is made: by a code object of the table, or by a new one that is told there -/
theorem make_lam {c P : Addr} {params : Arguments} {body : Expr} {scope : Scope} {pos : Pos} {E : Value → Shared → Prop} {Q : Value → Shared → Prop} {ps : Array Value} (I : Inv X pins σ H s) (TB : LamX.TabB X.base X.mg c P) (hc : X.env.code = .ref c)
    (hP : H P = some (.tbl ps)) (ok : TriplesOk ps.toList) (all : ∀ (pos : Pos) (cv : Value), codeAmong pos ps.toList = some cv → ∃ c0, cv = .ref c0 ∧ H c0 = some (LamX.CodeO c0 (X.env.qual ++ "<lambda>")))
    (hdef : defaultsOf params X.env = ([], [])) (hfree : ∀ y ∈ scope.names, y.2 = .free → ∃ c, X.env.cells.lookup y.1 = some c)
    (k : ∀ (f c' : Addr) (pm ctv : Value) (H1 : Hp) (s' : Shared), Inv X pins σ H1 s' →
      (H1 = H ∧ (∃ q0 : Pos, codeAmong q0 ps.toList = some (.ref c')) ∨ ∃ ps' : Array Value, H c' = none ∧ H1 = upd (upd H P (.tbl ps')) c' (LamX.CodeO c' (X.env.qual ++ "<lambda>")) ∧ TriplesOk ps'.toList ∧ ∀ (q0 : Pos) (cv : Value), codeAmong q0 ps'.toList = some cv → codeAmong q0 ps.toList = some cv ∨ cv = .ref c') →
      s'.heap.get? f = some (PySem.W.kla_obj "<lambda>" (X.env.qual ++ "<lambda>") params body scope (cloFrom X.env.cells scope.names []) pm c' ctv) → H1 f = none → f ∉ frs X.stack → H1 c' = some (LamX.CodeO c' (X.env.qual ++ "<lambda>")) → Q (.ref f) s') :
    wpAny (model X.prog X.w) X.A (eval (.Lambda params body scope pos) X.env) Q E s := by
  have inH : s.heap.get? P = some { cls := .none, data := .fields ps } := I.hok P _ hP
  have away : ∀ f, s.heap.objs.size ≤ f → f ∉ frs X.stack := fun f hf z => by
    rcases List.mem_cons.mp (I.stkSub _ z) with e | e
    · exact absurd I.lt (by rw [← e]; exact Nat.not_lt.mpr hf)
    · exact I.nofs hf e
  have bm := TB.bm.keeps I.bk
  have gl := I.mod.glob.keeps I.bk
  have cd := TB.code.keeps I.bk
  refine PySem.W.kla_eval hdef ?_
  cases q : codeAmong pos ps.toList with
  | some cv =>
    obtain ⟨c', rfl, hco⟩ := all pos cv q
    refine PySem.W.kla_makeFunctionHit (mg := X.mg) (c := c) (P := P) (ps := ps) (closure_ok hfree) I.ok.glob gl hc cd inH ok q bm fun ctv h' tk kp sz => ?_
    exact k h'.objs.size c' _ ctv H _ (I.kept fun b o e => Heap.get?_push_of_some _ (kp b o e)) (Or.inl ⟨rfl, pos, q⟩) (Heap.get?_push_size _ rfl) (I.hok.fresh sz) (away _ sz) hco
  | none =>
    refine PySem.W.kla_makeFunction (mg := X.mg) (c := c) (P := P) (ps := ps) (closure_ok hfree) I.ok.glob gl hc cd inH ok q TB.gP bm fun c' ctv h' tk kp ge lt rec_ tb => ?_
    obtain ⟨c2, oc, vs, t, e2, g1, g2, g3⟩ := rec_
    cases e2
    have sz : s.heap.objs.size ≤ h'.objs.size := Nat.le_trans ge (Nat.le_of_lt lt)
    have none' : H c' = none := I.hok.fresh ge
    have J := LamX.inv_table (t' := tk) (more := #[rawInt pos.line, rawInt pos.col, .ref c']) (h' := h'.push (PySem.W.kla_obj "<lambda>" (X.env.qual ++ "<lambda>") params body scope (cloFrom X.env.cells scope.names []) ((X.mg "__name__").getD .none) c' ctv)) I hP
      (fun b o hb e => Heap.get?_push_of_some _ (kp b o hb e)) (Heap.get?_push_of_some _ tb) ge ⟨oc, vs, t, Heap.get?_push_of_some _ g1, g2, g3⟩
    have lst : (ps ++ #[rawInt pos.line, rawInt pos.col, .ref c']).toList = ps.toList ++ [rawInt pos.line, rawInt pos.col, .ref c'] := by simp
    refine k h'.objs.size c' _ ctv _ _ J (Or.inr ⟨_, none', rfl, by rw [lst]; exact PySem.TriplesOk_snoc _ _ _ _ ok, fun q0 cv hq => ?_⟩) (Heap.get?_push_size _ rfl) ?_ (away _ sz) upd_same
    · rw [lst] at hq
      exact LamX.among_app _ ok hq
    · rw [upd_ne (Nat.ne_of_gt lt), upd_ne (Nat.ne_of_gt (Nat.lt_of_lt_of_le (Heap.lt_size inH) sz))]
      exact I.hok.fresh sz
end
/-- a(), a what a def got: the lambda y -/
def dAct (y : Xv) (dl : DX) : DX := fun r M R P => r[0]? = some (some y) ∧ match y with
  | .clo _ _ _ _ b => dl (liftB b) M R P
  | _ => False
/-- x(lambda: ..): TG, what x does with what it got -/
def dLam (T : Addr) (q : Str) (N : List Str) (TG : DX → DS) (dl : DX) : DX := fun r M R P => M T = some (.tbl q) ∧
  ∀ (f c : Addr) (σ : L2.St), M f = none → M c = none → TG (dAct (.clo f c q σ (dropB r)) dl) { nx := fun _ M' => R (.d .none) M', rt := R, ex := P } (startX N [.clo f c q σ (dropB r)]) M
section
variable {X : Cx} {E : XK}
/-- what leaves a lambda's body -/
theorem pass_lam {A : Around} {outer : List Env} {s : Shared} {H : Hp} {E' : XK} {scope : Scope} {f c : Addr} : Passes (L2.CX X.prog X.w) (LamX.lamCx X A outer s H E' scope f c) E' := passes_call (takes_of rfl rfl rfl rfl) fun _ _ _ _ h => h
theorem q_lam {N : List Str} {x a : Str} {g c T : Addr} {k : Nat} {fd : FuncData} {pg : Arguments} {bg : List Stmt} {sg : Scope} {params : Arguments} {body : Expr} {scope : Scope} {dl : DX} {TG : DX → DS} {p lpos pos : Pos}
    (hm : X.mg x = some (.ref g)) (hk : PySem.W.keepIn X.K (.ref g) = true) (F : FunD X.K x x pg bg sg [] [] g fd) (hb : Binds X.K fd [a] []) (S : FnScope N [a] sg) (hc : X.env.code = .ref c) (TB : LamX.TabB X.base X.mg c T) (hr : Room (k + 2) X.A) (hx : Passes (L2.CX X.prog X.w) X E)
    (hG : ∀ (cdv : Value) (s : Shared) (H : Hp) (act : DX), Room (k + 1) (X.A.deeper (envOfC x sg s.heap.objs.size g cdv)) →
      (∀ (W : WX) (pn : List (Addr × Obj)) (xe : Value → Shared → Prop) (p1 p2 : Pos), Takes ((cxOf (L2.CX X.prog X.w) X.prog X.w X.K X.mg X.base N x sg g cdv X.A X.stack s H E).tr pn xe) W →
        QE ((cxOf (L2.CX X.prog X.w) X.prog X.w X.K X.mg X.base N x sg g cdv X.A X.stack s H E).tr pn xe) (EofW N.length W) (.Call (.Name a p1) [] [] p2) act) →
      QSs (cxOf (L2.CX X.prog X.w) X.prog X.w X.K X.mg X.base N x sg g cdv X.A X.stack s H E) E bg (TG act))
    (hl : ∀ (A : Around) (outer : List Env) (s : Shared) (H : Hp) (E' : XK) (f c' : Addr), Room k (A.deeper (LamX.lamEnv X scope s.heap.objs.size f c')) → Passes (L2.CX X.prog X.w) (LamX.lamCx X A outer s H E' scope f c') E' → QE (LamX.lamCx X A outer s H E' scope f c') E' body dl)
    (hN : N[0]? = some a := by rfl) (hv : Vis sg a := by first | exact Or.inl rfl | exact Or.inr (Or.inl rfl) | exact Or.inr (Or.inr rfl)) (L : LamX.LamS X.env.scope scope := by exact LamX.lamS_by (by rfl)) (hdef : defaultsOf params X.env = ([], []) := by rfl)
    (hbind : ∀ (q : Str) (cl : List (Str × Addr)) (pm cv ctv : Value), bindArgs (PySem.W.kla_fn "<lambda>" q params body scope cl pm cv ctv) ⟨[], []⟩ = pure [] := by intros; rfl)
    (hg : Gl X x := by rfl) (hdb : (x == ("__debug__" : Str)) = false := by decide) (hd : (a == ("__debug__" : Str)) = false := by decide) (hcd : (a == ("__classdict__" : Str)) = false := by decide) :
    QE X E (.Call (.Name x p) [.Lambda params body scope lpos] [] pos) (dLam T (X.env.qual ++ "<lambda>") N TG dl) := by
  obtain ⟨oc, od, dV, kV, doc, pm, an, cdv, ct, osl, rfl, here, code, _, _⟩ := F.ex
  refine ⟨weak X.K E (dLam T (X.env.qual ++ "<lambda>") N TG dl), ⟨fun pins s σ H Q I h => ?_⟩, fun σ H r M R P Q a b c d e => ⟨r, M, R, P, a, b, c, d, e⟩⟩
  obtain ⟨r, M, R, Px, he, m0, ⟨hT, want⟩, kk, ex⟩ := h
  obtain ⟨ps, hP, ok, all⟩ := m0 T _ hT
  refine wpAny_Call_Name_kw (ld_glob I hg hm ?_ hdb)
  refine PySem.W.callWith_K (h₀ := X.base) I.ok.mod.kin hk ?_ (by rfl) (by rfl)
  show wpAny _ _ (spliced ((false, eval (.Lambda params body scope lpos) X.env) :: backTo pos (starEach [] X.env))) _ _ s
  refine Calls.spliced_cons (make_lam I TB hc hP ok (fun q0 cv hq => let ⟨c0, e1, e2, _⟩ := all q0 cv hq; ⟨c0, e1, e2⟩) hdef (L.has I.ok) fun f c' pm' ctv H1 s' I1 way hf fresh nfr hco => ?_)
  refine Calls.spliced_nil ⟨I1.kIn, ?_⟩
  -- the objects behind it: the same ones
  have key : Stp H M H1 M ∧ MOk X.K H1 M ∧ M c' = none ∧ M f = none := by
    rcases way with ⟨rfl, q0, hq⟩ | ⟨ps', n1, rfl, ok', all'⟩
    · obtain ⟨c0, e1, _, e3⟩ := all q0 _ hq
      cases e1
      exact ⟨.refl m0, m0, e3, m0.gone fresh⟩
    · have mc := m0.gone n1
      have ne : T ≠ c' := fun z => by rw [z] at hT; rw [mc] at hT; cases hT
      have at_ : ∀ b, b ≠ T → b ≠ c' → upd (upd H T (.tbl ps')) c' (LamX.CodeO c' (X.env.qual ++ "<lambda>")) b = H b := fun b h1 h2 => by rw [upd_ne h2, upd_ne h1]
      have stp : Stp H M (upd (upd H T (.tbl ps')) c' (LamX.CodeO c' (X.env.qual ++ "<lambda>"))) M := ⟨fun b o hb e => ⟨by
          rw [at_ b (fun z => by rw [z, hT] at hb; cases hb) (fun z => by rw [z, n1] at e; cases e)]
          exact e, hb⟩, fun b hb => by
          by_cases h2 : b = c'
          · rw [h2, upd_same]; simp
          · by_cases h1 : b = T
            · rw [h1, upd_ne ne, upd_same]; simp
            · rw [at_ b h1 h2]; exact m0.there hb⟩
      refine ⟨stp, fun b o e => ?_, mc, ?_⟩
      · have h2 : b ≠ c' := fun z => by rw [z, mc] at e; cases e
        by_cases h1 : b = T
        · subst h1
          cases hT.symm.trans e
          refine ⟨ps', by rw [upd_ne ne, upd_same], ok', fun q0 cv hq => ?_⟩
          rcases all' q0 cv hq with z | z
          · obtain ⟨c0, e1, e2, e3⟩ := all q0 cv z
            exact ⟨c0, e1, (stp.keep c0 _ e3 e2).1, e3⟩
          · exact ⟨c', z, upd_same, mc⟩
        · exact (m0 b o e).mono stp (at_ b h1 h2)
      · by_cases h1 : f = T
        · rw [h1, upd_ne ne, upd_same] at fresh
          cases fresh
        · by_cases h2 : f = c'
          · rw [h2]; exact mc
          · rw [at_ f h1 h2] at fresh
            exact m0.gone fresh
  obtain ⟨stp, m1, mc, mf⟩ := key
  have he1 := he.mono stp
  have rc : codeAny (model X.prog X.w) X.A (.call (.ref g) ⟨[.ref f], []⟩) (CR (L2.CX X.prog X.w) X.stack X.prog X.w H1 s' Q E) s' := by
    refine LamX.run_ofS (N := N) (ps := [a]) (us := [.ref f]) (vs := [.ref f]) here code S hr I1.env0 (hb s' [.ref f] I1.kIn rfl) (.cons rfl .nil) rfl fun hr' => ?_
    obtain ⟨ts, t1, t2⟩ := (hG cdv s' H1 (dAct (.clo f c' (X.env.qual ++ "<lambda>") σ (dropB r)) dl) hr' fun W pn xe p1 p2 tk => by
      have pa := LamX.pe_act (p1 := p1) (p2 := p2) (tb := weak X.K (EofW N.length W) dl) (E := EofW N.length W) (i := 0) I1 L hf fresh nfr (hbind _ _ _ _ _) (takes_len tk) (fun cls d σ' H' q hlen => q σ' hlen) hr' (fun A outer s H hr2 => (hl A outer s H _ f c' hr2 pass_lam).weak) hN hv hd hcd
      refine ⟨_, pa, fun g2 H2 r2 M2 R2 P2 Q2 a1 a2 a3 a4 a5 => ?_⟩
      obtain ⟨b1, b2⟩ := a3
      obtain ⟨v, v1, v2, ⟨v3, v4⟩, v5⟩ := a1.get b1
      exact ⟨by rw [v1, v2], v3, _, M2, R2, P2, v5.lift, a2, b2, a4, a5⟩).ex
    refine ⟨ts, t1, t2 _ H1 _ M _ _ (EnvOk.start (.cons (x := .clo f c' (X.env.qual ++ "<lambda>") σ (dropB r)) ⟨rfl, ⟨hco, mc⟩, he1.drop0⟩ .nil)) m1 (want f c' σ mf mc) ?_⟩
    exact ⟨fun g r H' M' z1 z2 z3 z4 => kk .non (.d .none) H' M' (stp.trans z1) z2 Dq.non z4, fun v x H' M' z1 z2 z3 z4 => kk v x H' M' (stp.trans z1) z2 z3 z4, fun _ _ _ _ _ _ _ z => z.elim, fun _ _ _ _ _ _ _ z => z.elim, ex.mono stp⟩
  refine wpAny_call (codeAny_mono rc fun r s2 hq => ?_)
  cases r with
  | error e => exact hx pins σ H1 s' e s2 I1 hq
  | ok fl => cases fl with
    | ret u => exact I1.after hq
    | next => exact hq.elim
    | brk => exact hq.elim
    | cont => exact hq.elim
end
end Y
set_option maxHeartbeats 4000000
/-! the law's call where some defs make lambdas: their tables are there from the start -/
namespace Y
open PySem PySem.Spec PyProof.Rows L2
/-- what is tracked ahead of the call: the tables, the script's list if it is not K's -/
def hp0 (tabs : List Addr) (a : Addr) (o : Option HO) : Hp := fun b => if b ∈ tabs then some (.tbl #[]) else if b = a then o else none
theorem hp0_tab {tabs : List Addr} {a b : Addr} {o : Option HO} (h : b ∈ tabs) : hp0 tabs a o b = some (.tbl #[]) := by unfold hp0; rw [if_pos h]
theorem hp0_at {tabs : List Addr} {a : Addr} {o : Option HO} (h : a ∉ tabs) : hp0 tabs a o a = o := by unfold hp0; rw [if_neg h, if_pos rfl]
theorem hp0_no {tabs : List Addr} {a b : Addr} {o : Option HO} (h : b ∉ tabs) (n : b ≠ a) : hp0 tabs a o b = none := by unfold hp0; rw [if_neg h, if_neg n]
theorem lawT {P : Program} {w : World} {K : PySem.W.Frag} {mg mb : Str → Option Value} {CX : CXT} {k : Nat} {fa a : Addr} {cs : List (Addr × Addr)} {fd : FuncData} {x : Str} {sp : Sp} {t : Shared} {vs : List Value} {ns : List Int}
    (inK : K.In t.heap) (nsM : t.heap.Ns mainGlobals mg) (nsB : t.heap.Ns builtinsNs mb) (boot : ∀ y : Str, y ≠ "__name__" → mb y = bootBuiltins y) (noLim : t.heap.NoLimit) (noGen : t.gens = #[])
    (tab : ∀ p ∈ cs, t.heap.get? p.2 = some { cls := .none, data := .fields #[] }) (tabK : ∀ p ∈ cs, K.lookup p.2 = none) (cod : ∀ p ∈ cs, PySem.W.CodeHd t.heap p.1 p.2)
    (bmod : ∃ (bm : Addr) (ob : Obj), mg "__builtins__" = some (.ref bm) ∧ bm ≠ builtinsNs ∧ t.heap.get? bm = some ob ∧ ob.cls = .type "module" ∧ ob.dict = some builtinsNs ∧ ob.data = .plain)
    (obj : t.heap.get? a = some { cls := .type "list", data := .seq vs.toArray }) (its : IntsAre vs ns) (few : ns.length ≤ sizeLine) (room : Room k callerA)
    (F : ∀ base : Heap, K.In base → base.Ns mainGlobals mg → (∀ p ∈ cs, LamX.TabB base mg p.1 p.2) → FnG P w K mg base CX k fa fd [x] sp) (bnd : ∀ (s : Shared) (u : Value), BindsTo s fd ⟨[u], []⟩ [(x, u)])
    (want : ∀ H : Hp, (∀ p ∈ cs, H p.2 = some (.tbl #[])) → SqL K H a (ns.map V.int) → sp [.ref a] H (fun v _ => v = .bl true) fun _ _ _ => False) (noExc : ∀ H e s', ¬ CX [] H t (fun _ _ _ => False) e s') :
    codeAny (model P w) callerA (.call (.ref fa) ⟨[.ref a], []⟩) (fun r s' => r = .ok (.ret (.bool true)) ∧ OldK t.heap s'.heap ∧ s'.os = t.os ∧ AllBare s'.gens) t := by
  have rv := vals_ints its
  have inT : ∀ {b : Addr}, b ∈ cs.map (·.2) → ∃ p ∈ cs, p.2 = b := fun hb => by
    obtain ⟨p, hp, e⟩ := List.mem_map.mp hb
    exact ⟨p, hp, e⟩
  have tabAt : ∀ {b : Addr}, b ∈ cs.map (·.2) → t.heap.get? b = some { cls := .none, data := .fields #[] } := fun hb => by
    obtain ⟨p, hp, rfl⟩ := inT hb
    exact tab p hp
  have na : a ∉ cs.map (·.2) := fun z => by
    have q := tabAt z
    rw [obj] at q
    cases (show Data.seq vs.toArray _ = Data.fields #[] from congrArg Obj.data (Option.some.inj q))
  have mem : ∀ p ∈ cs, p.2 ∈ cs.map (·.2) := fun p hp => List.mem_map.mpr ⟨p, hp, rfl⟩
  -- o: the script's list, tracked or not
  have from_ : ∀ o : Option HO, (o = none ∨ (o = some (.frz { cls := .type "list", data := .seq vs.toArray } (.lst (ns.map V.int))) ∧ K.lookup a = none)) → SqL K (hp0 (cs.map (·.2)) a o) a (ns.map V.int) →
      codeAny (model P w) callerA (.call (.ref fa) ⟨[.ref a], []⟩) (fun r s' => r = .ok (.ret (.bool true)) ∧ OldK t.heap s'.heap ∧ s'.os = t.os ∧ AllBare s'.gens) t := by
    intro o way sq
    have tr : ∀ {b : Addr} {u : HO}, hp0 (cs.map (·.2)) a o b = some u → (b ∈ cs.map (·.2) ∧ u = .tbl #[]) ∨ (b = a ∧ o = some u) := fun {b u} e => by
      unfold hp0 at e
      by_cases h1 : b ∈ cs.map (·.2)
      · rw [if_pos h1] at e
        exact Or.inl ⟨h1, (Option.some.inj e).symm⟩
      · rw [if_neg h1] at e
        by_cases h2 : b = a
        · rw [if_pos h2] at e
          exact Or.inr ⟨h2, e⟩
        · rw [if_neg h2] at e
          cases e
    have hok : HOk P w (hp0 (cs.map (·.2)) a o) t.heap := fun b u e => by
      rcases tr e with ⟨h1, rfl⟩ | ⟨rfl, h2⟩
      · exact tabAt h1
      · rcases way with rfl | ⟨rfl, _⟩
        · cases h2
        · cases h2
          exact ⟨obj, by rw [List.length_map]; exact few, vs, _, rv, obj⟩
    -- an object of another kind is not tracked
    have free : ∀ {b : Addr} {ob : Obj}, t.heap.get? b = some ob → (∀ l n, ob.data ≠ .seq l n) → ob.data ≠ .fields #[] → hp0 (cs.map (·.2)) a o b = none := fun {b ob} e h1 h2 => by
      cases q : hp0 (cs.map (·.2)) a o b with
      | none => rfl
      | some u =>
        rcases tr q with ⟨z, _⟩ | ⟨rfl, _⟩
        · cases (tabAt z).symm.trans e
          exact (h2 rfl).elim
        · cases obj.symm.trans e
          exact (h1 _ _ rfl).elim
    have there : ∀ {b : Addr} {ob : Obj}, t.heap.get? b = some ob → hp0 (cs.map (·.2)) a o b = none → (hidT t.heap (hp0 (cs.map (·.2)) a o)).get? b = some ob := fun e n => hidT_get e n
    have nsT : ∀ {b : Addr} {m : Str → Option Value}, t.heap.Ns b m → (hidT t.heap (hp0 (cs.map (·.2)) a o)).Ns b m := by
      rintro b m ⟨ob, es, ep, e, d, r⟩
      exact ⟨ob, es, ep, there e (free e (by rw [d]; intro l n z; cases z) (by rw [d]; intro z; cases z)), d, r⟩
    have inT' : K.In (hidT t.heap (hp0 (cs.map (·.2)) a o)) := fun b ob e => there (inK b ob e) (by
      cases q : hp0 (cs.map (·.2)) a o b with
      | none => rfl
      | some u =>
        rcases tr q with ⟨z, _⟩ | ⟨rfl, h2⟩
        · obtain ⟨p, hp, rfl⟩ := inT z
          rw [tabK p hp] at e
          cases e
        · rcases way with rfl | ⟨_, n⟩
          · cases h2
          · rw [n] at e
            cases e)
    have tb : ∀ p ∈ cs, LamX.TabB (hidT t.heap (hp0 (cs.map (·.2)) a o)) mg p.1 p.2 := fun p hp => by
      have notM : ∀ {b : Addr} {ob : Obj}, t.heap.get? b = some ob → (∀ es ep, ob.data ≠ .dict es ep) → b ≠ mainGlobals := fun {b ob} e h z => by
        obtain ⟨o2, es, ep, e2, d2, _⟩ := nsM
        rw [z] at e
        cases e.symm.trans e2
        exact h _ _ d2
      refine ⟨?_, ?_, fun z => notM (tab p hp) (fun es ep z2 => by cases z2) z.symm⟩
      · obtain ⟨ob, us, file, tf, flags, tg, inF, text, tt, e1, r1, r2, r3, rs⟩ := cod p hp
        refine ⟨ob, us, file, tf, flags, tg, inF, text, tt, there e1 (free e1 (by rw [r2]; intro l n z; cases z) (by rw [r2]; intro z; cases z; simp at r3)), r1, r2, r3, rs⟩
      · obtain ⟨bm, ob, m1, m2, m3, m4, m5, m6⟩ := bmod
        refine ⟨bm, ob, m1, m2, notM m3 (by rw [m6]; intro es ep z; cases z), fun z => ?_, there m3 (free m3 (by rw [m6]; intro l n z; cases z) (by rw [m6]; intro z; cases z)), m4, m5, m6⟩
        rw [z] at m3
        cases (tab p hp).symm.trans m3
        cases m6
    have e0 : Env0 P w K mg (hidT t.heap (hp0 (cs.map (·.2)) a o)) callerA [] t (hp0 (cs.map (·.2)) a o) :=
      ⟨rfl, ⟨inT', nsT nsM, ⟨mb, nsT nsB, boot⟩, noLim.elim fun mc h => ⟨mc, nsT h.1, h.2⟩⟩, fun b ob e => of_hidT e, Nat.le_of_eq (hidT_size _ _), trivial, fun b hb => absurd (show b ∈ ([] : List Addr) from hb) (by simp), hok, .of_eq noGen⟩
    refine codeAny_mono ((F _ inT' (nsT nsM) tb).runs callerA rfl room [] t _ ⟨[.ref a], []⟩ [.ref a] [.ref a] _ _ e0 (bnd t (.ref a)) (.cons rfl .nil) (want _ (fun p hp => hp0_tab (mem p hp)) sq)) fun r s' q => ?_
    cases r with
    | error e => exact absurd q (noExc _ e s')
    | ok fl => cases fl with
      | next => exact q.elim
      | brk => exact q.elim
      | cont => exact q.elim
      | ret u =>
        obtain ⟨v, H', os, bare, un, ok', ru, ev⟩ := q
        obtain rfl : v = .bl true := ev
        obtain rfl : u = Value.bool true := ru
        have stay : ∀ b ob, b ∉ cs.map (·.2) → t.heap.get? b = some ob → s'.heap.get? b = some ob := fun b ob nb e => by
          cases q : hp0 (cs.map (·.2)) a o b with
          | none => exact un.keep b ob e q (by intro z; exact absurd (show b ∈ ([] : List Addr) from z) (by simp)) (by simp)
          | some u =>
            rcases tr q with ⟨z, _⟩ | ⟨rfl, h2⟩
            · exact absurd z nb
            · rcases way with rfl | ⟨rfl, _⟩
              · cases h2
              · cases h2
                obtain ⟨e2, _⟩ := ok' b _ (un.frzs b _ _ q)
                cases obj.symm.trans e
                exact e2
        have more : ∀ {b : Addr}, b ∈ cs.map (·.2) → ∃ l : Array Value, s'.heap.get? b = some { cls := .none, data := .fields l } := fun {b} hb => by
          obtain ⟨l, z⟩ := un.tbls b #[] (hp0_tab hb)
          exact ⟨_, ok' b _ z⟩
        refine ⟨rfl, ⟨fun b ob e => ?_, fun b ob e => ?_⟩, os, bare⟩
        · by_cases hb : b ∈ cs.map (·.2)
          · obtain ⟨l, hl⟩ := more hb
            cases (tabAt hb).symm.trans e
            obtain ⟨p, hp, rfl⟩ := inT hb
            exact Or.inr (Or.inl ⟨((cod p hp).tab (tab p hp)).isCodeTable, rfl, #[], l, rfl, by rw [Array.empty_append]; exact hl⟩)
          · exact Or.inl (stay b ob hb e)
        · by_cases hb : b ∈ cs.map (·.2)
          · obtain ⟨l, hl⟩ := more hb
            exact ⟨_, hl⟩
          · exact ⟨ob, stay b ob hb e⟩
  cases hk : K.lookup a with
  | none => exact from_ (some (.frz { cls := .type "list", data := .seq vs.toArray } (.lst (ns.map V.int)))) (Or.inr ⟨rfl, hk⟩) (Or.inl (Or.inr ⟨_, hp0_at na⟩))
  | some ob =>
    cases obj.symm.trans (inK a ob hk)
    exact from_ none (Or.inl rfl) (Or.inr ⟨_, vs.toArray, _, hk, rfl, rfl, rfl, by rw [List.size_toArray, its.length]; exact few, by simpa using rv⟩)
/-- a law's end over a head by facts, with tables -/
theorem walkT {l : PySem.W.OpenLaw} {n k : Nat} {q : Program} {loose : List Str} {XP : (Str → Option Value) → Heap → Prop} {YP : World → Heap → Prop} {d : DefRec} {CX : World → CXT} {x : Str}
    (hn : l.most = some n) (hn2 : n ≤ sizeLine) (hdf : d.params.defaults = []) (room : Room k callerA)
    (F : ∀ (w : World) (mg : Str → Option Value) (fa : Addr) (h : Heap), YP w h → h.Ns mainGlobals mg → mg d.name = some (.ref fa) →
      ∃ (K : PySem.W.Frag) (fd : FuncData) (cs : List (Addr × Addr)) (sp : Sp), K.In h ∧ (∀ p ∈ cs, h.get? p.2 = some { cls := .none, data := .fields #[] }) ∧ (∀ p ∈ cs, K.lookup p.2 = none) ∧ (∀ p ∈ cs, PySem.W.CodeHd h p.1 p.2) ∧ (∀ (s : Shared) (u : Value), BindsTo s fd ⟨[u], []⟩ [(x, u)]) ∧
        (∀ (H : Hp) (a : Addr) (ns : List Int), ns.length ≤ n → (∀ p ∈ cs, H p.2 = some (.tbl #[])) → SqL K H a (ns.map V.int) → sp [.ref a] H (fun v _ => v = .bl true) fun _ _ _ => False) ∧
        ∀ base : Heap, K.In base → base.Ns mainGlobals mg → (∀ p ∈ cs, LamX.TabB base mg p.1 p.2) → FnG l.prog w K mg base (CX w) k fa fd [x] sp)
    (noExc : ∀ (w : World) (H : Hp) (s : Shared) (e : Value) (s' : Shared), ¬ CX w [] H s (fun _ _ _ => False) e s') :
    PySem.W.WalkO q loose XP YP l.row.toRowW d [] (fun f vs => PySem.call f vs) := by
  refine Att.attach_callB hn hdf fun w s0 s1 mg mb fa o pm cd doc a vs ns G Y ho hd hcd hmg hobj hints hlen hbits hg => ?_
  obtain ⟨K, fd, cs, sp, inK, t1, t2, t3, bnd, want, hF⟩ := F w mg fa _ Y G.T.g hmg
  exact lawT inK G.T.g G.T.b G.T.builtins G.T.nolimit hg t1 t2 t3 G.T.bmain hobj hints (Nat.le_trans hlen hn2) room hF bnd (fun H h1 hS => want H a ns hlen h1 hS) fun H => noExc w H s1
end Y
set_option maxHeartbeats 4000000
/-! more rules: what is never reached, classes in a tuple, list(..), comprehensions over ranges -/
namespace Y
open PySem PySem.Spec PyProof.Rows L2
section
variable {X : Cx} {E : XK} {a b c e o tg : Expr} {es : List Expr} {da db dc dd : DX} {pos apos p tp : Pos} {st : List Stmt} {s1 : Stmt} {t u : DS}
def dNo : DS := fun _ _ _ => False
theorem qss_no : QSs X E st dNo := ⟨tNever, pss_never, fun _ _ _ _ _ _ _ _ h _ => h.elim⟩

/-! ### isinstance(e, (C1, C2)) of the exception that a suite holds -/
def dIsT (K : PySem.W.Frag) (D at_ : Addr) (d : Option Addr) (C1 C2 : Addr) (da : DX) : DX := fun r M R P => da r M (fun x M1 => x = .r (.ref at_) ∧ (match d with
    | none => True
    | some dx => ∃ fs, M1 dx = some (.exd fs)) ∧ ∃ b, PySem.W.kitAny K (.ref D) [.ref C1, .ref C2] = some b ∧ R (.d (.bool b)) M1) P
theorem q_isT {D at_ C1 C2 : Addr} {d : Option Addr} {oe : Obj} {pn : List (Addr × Obj)} {n1 n2 : Str} {p1 p2 : Pos} {k1} (C : ExcC X.K D) (hz : Zc (.ref D) d oe) (hf : ∃ vs, oe.data = .fields vs)
    (hm : (X.suite at_ ((at_, oe) :: pn)).mg "isinstance" = none) (ha : QE (X.suite at_ ((at_, oe) :: pn)) E a da)
    (m1 : X.mg n1 = some (.ref C1)) (m2 : X.mg n2 = some (.ref C2)) (g1 : Gl (X.suite at_ ((at_, oe) :: pn)) n1 := by rfl) (g2 : Gl (X.suite at_ ((at_, oe) :: pn)) n2 := by rfl) (b1 : (n1 == ("__debug__" : Str)) = false := by decide) (b2 : (n2 == ("__debug__" : Str)) = false := by decide)
    (hg : Gl (X.suite at_ ((at_, oe) :: pn)) "isinstance" := by rfl)
    (h1 : starEach [a, .Tuple [.Name n1 p1, .Name n2 p2] k1 tp] (X.suite at_ ((at_, oe) :: pn)).env = (false, eval a (X.suite at_ ((at_, oe) :: pn)).env) :: starEach [.Tuple [.Name n1 p1, .Name n2 p2] k1 tp] (X.suite at_ ((at_, oe) :: pn)).env := by rfl)
    (h2 : starEach [.Tuple [.Name n1 p1, .Name n2 p2] k1 tp] (X.suite at_ ((at_, oe) :: pn)).env = [(false, eval (.Tuple [.Name n1 p1, .Name n2 p2] k1 tp) (X.suite at_ ((at_, oe) :: pn)).env)] := by rfl)
    (h3 : starEach [.Name n1 p1, .Name n2 p2] (X.suite at_ ((at_, oe) :: pn)).env = (false, eval (.Name n1 p1) (X.suite at_ ((at_, oe) :: pn)).env) :: starEach [.Name n2 p2] (X.suite at_ ((at_, oe) :: pn)).env := by rfl)
    (h4 : starEach [.Name n2 p2] (X.suite at_ ((at_, oe) :: pn)).env = [(false, eval (.Name n2 p2) (X.suite at_ ((at_, oe) :: pn)).env)] := by rfl)
    (hpl : (backTo pos (starEach [.Tuple [.Name n1 p1, .Name n2 p2] k1 tp] (X.suite at_ ((at_, oe) :: pn)).env)).any (·.1) = false := by rfl) :
    QE (X.suite at_ ((at_, oe) :: pn)) E (.Call (.Name "isinstance" p) [a, .Tuple [.Name n1 p1, .Name n2 p2] k1 tp] [] pos) (dIsT X.K D at_ d C1 C2 da) := by
  obtain ⟨ta, a1, a2⟩ := ha.ex
  have pt := pe_tup (x1 := k1) (pos := tp) (pa_cons (pe_glob (pos := p1) (v := .ref C1) g1 m1 rfl b1) (pa_cons (pe_glob (pos := p2) (v := .ref C2) g2 m2 rfl b2) pa_nil h4) h3)
  have call : CallR (X.suite at_ ((at_, oe) :: pn)) (.builtin "isinstance") (fun xs H Q => ∃ (T : Addr) (b : Bool), xs = [.ref at_, .ref T] ∧ H T = some (.tup [.ref C1, .ref C2]) ∧ (match d with
      | none => True
      | some dx => ∃ fs, H dx = some (.xd fs)) ∧ PySem.W.kitAny X.K (.ref D) [.ref C1, .ref C2] = some b ∧ Q (.bl b) H) := by
    intro pins s σ H xs us Q I r h
    obtain ⟨T, b, rfl, hT, hd, e, q⟩ := h
    obtain ⟨u1, u2, rfl, rx, rc⟩ := vals2 r
    obtain rfl : u1 = Value.ref at_ := rx
    obtain rfl : u2 = Value.ref T := rc
    obtain ⟨here, _⟩ := I.pin (at_, oe) (List.mem_append.mpr (Or.inl List.mem_cons_self))
    obtain ⟨vs, hv⟩ := hf
    have no : PySem.W.notCls oe = true := by unfold PySem.W.notCls; rw [hv] <;> rfl
    have J : ∃ od, PySem.W.InstAt s.heap at_ oe D od := by
      cases d with
      | none => exact ⟨none, here, hz.1, no, by rw [hz.2]; trivial⟩
      | some dx =>
        obtain ⟨fs, ex⟩ := hd
        obtain ⟨mA, hns, _⟩ := show ObjOk X.prog X.w H s.heap dx (.xd fs) from I.hok dx _ ex
        obtain ⟨od, ho, _⟩ := lookIn_ns hns
        exact ⟨some od, here, hz.1, no, by rw [hz.2]; exact ho⟩
    obtain ⟨od, J⟩ := J
    obtain ⟨_, its, rv, o, q1, q2, n, q3⟩ := (show ObjOk X.prog X.w H s.heap T (.tup [.ref C1, .ref C2]) from I.hok T _ hT)
    obtain ⟨w1, w2, rfl, r1, r2⟩ := vals2 rv
    obtain rfl : w1 = Value.ref C1 := r1
    obtain rfl : w2 = Value.ref C2 := r2
    obtain ⟨oc, od', dt, sl⟩ := o
    simp only at q2 q3
    subst q2 q3
    exact PySem.W.kia_tup (kit_of_exc C) I.kIn J q1 e (fun z => nomatch z) fun tk => ⟨.bl b, H, I.kept (t' := tk) fun _ _ z => z, rfl, q⟩
  refine ⟨_, pe_callB call hg hm (by decide +kernel) (pa_cons a1 (pa_cons pt pa_nil h2) h1) (by decide) (by decide) h1 hpl, fun g H r M R P Q he hm ht k ex => ?_⟩
  refine a2 g H r M _ P _ he hm ht (fun v x H1 M1 s1 m1 x1 q1 => ?_) ex
  obtain ⟨rfl, hd, b, e, q⟩ := q1
  obtain rfl : v = V.ref at_ := x1
  refine ⟨by rw [sizeLine_eq]; show 2 ≤ 16777216; decide, fun T hT => ?_⟩
  have s2 := Stp.new (o := .tup [.ref C1, .ref C2]) m1 hT
  refine ⟨T, b, rfl, upd_same, ?_, e, k (.bl b) (.d (.bool b)) _ M1 (s1.trans s2) (m1.new hT) (Dq.bl b) q⟩
  cases d with
  | none => trivial
  | some dx =>
    obtain ⟨fs, ex⟩ := hd
    obtain ⟨vfs, e1, _⟩ := m1 dx _ ex
    exact ⟨vfs, by rw [upd_ne (fun z => by rw [z, hT] at e1; cases e1)]; exact e1⟩

/-! ### list(..) of data -/
def cList : DC := fun xs M R _ => match xs with
  | [.d (.tuple ds)] => R (.d (.list ds)) M
  | [.d (.list ds)] => R (.d (.list ds)) M
  | _ => False
theorem b_list : QB X E (.type "list") cList := by
  refine ⟨_, call_list_of, fun H M vs xs R P Q hm hx ht k _ => ?_⟩
  unfold cList at ht
  split at ht
  · obtain ⟨v, rfl, x1⟩ := hx.one
    cases x1 with
    | tup l1 al => exact ⟨_, _, rfl, Or.inr l1.sq, fun l hl => k _ (.d (.list _)) _ M (Stp.new hm hl) (hm.new hl) (Dq.lst (Or.inl ⟨hm.gone hl, Or.inl upd_same⟩) (DqAll.mono (Stp.new hm hl) al)) ht⟩
  · obtain ⟨v, rfl, x1⟩ := hx.one
    cases x1 with
    | lst l1 al => exact ⟨_, _, rfl, Or.inl l1.sq, fun l hl => k _ (.d (.list _)) _ M (Stp.new hm hl) (hm.new hl) (Dq.lst (Or.inl ⟨hm.gone hl, Or.inl upd_same⟩) (DqAll.mono (Stp.new hm hl) al)) ht⟩
  · exact ht.elim

/-! ### what is gone through: so many turns, the k-th of the data f k; nothing changes by it -/
abbrev DIt := DEnv → MH → (Nat → (Nat → PyData) → MH → Prop) → PX → Prop
def SimIt (K : PySem.W.Frag) (E : XK) (wi : TI) (t : DIt) : Prop := ∀ (g : L2.St) (H : Hp) (r : DEnv) (M : MH) (R : Nat → (Nat → PyData) → MH → Prop) (P : PX) (Q : It → Hp → Prop), EnvOk K H M g r → MOk K H M → t r M R P →
  (∀ (J : It) (n : Nat) (f : Nat → PyData) (H1 : Hp) (M1 : MH) (G : Hp → Prop) (Yv : Nat → Hp → V → Hp → Prop), Stp H M H1 M1 → MOk K H1 M1 → Walk J n G Yv → (∀ H2 M2, Stp H1 M1 H2 M2 → G H2) →
    (∀ k Ha x Hb Ma, Stp H1 M1 Ha Ma → k < n → Yv k Ha x Hb → Hb = Ha ∧ Dq K Ha Ma x (f k)) → R n f M1 → Q J H1) → EHyp K E H M P → wi g H Q
structure QIt (X : Cx) (E : XK) (tg a : Expr) (t : DIt) : Prop where
  ex : ∃ wi, PI X tg a wi ∧ SimIt X.K E wi t
def dItL (da : DX) : DIt := fun r M R P => da r M (fun x M1 => match x with
  | .d (.list ds) => R ds.length (fun k => ds.getD k .none) M1
  | _ => False) P
theorem itL (ha : QE X E a da) : QIt X E tg a (dItL da) := by
  obtain ⟨tl, a1, a2⟩ := ha.ex
  refine ⟨_, pi_list a1, fun g H r M R P Q he hm ht k ex => ?_⟩
  refine a2 g H r M _ P _ he hm ht (fun v x H1 M1 s1 m1 x1 q1 => ?_) ex
  split at q1
  · rename_i ds
    cases x1 with
    | lst l1 al =>
      rename_i p vs
      have w := walk_list (K := X.K) (a := p) (xs := vs)
      rw [al.length] at w
      refine ⟨p, rfl, ⟨vs, l1.sq⟩, k _ _ _ H1 M1 _ _ s1 m1 w (fun H2 M2 s' => (l1.mono s').sq) (fun j Ha x Hb Ma s' hj y => ⟨y.1, ?_⟩) q1⟩
      obtain ⟨w', e', d'⟩ := al.get (getD_some hj)
      rw [y.2] at e'
      cases e'
      exact d'.mono s'
  · exact q1.elim
def dItT (da : DX) : DIt := fun r M R P => da r M (fun x M1 => match x with
  | .d (.tuple ds) => R ds.length (fun k => ds.getD k .none) M1
  | _ => False) P
theorem itT (ha : QE X E a da) : QIt X E tg a (dItT da) := by
  obtain ⟨tl, a1, a2⟩ := ha.ex
  refine ⟨_, pi_tup a1, fun g H r M R P Q he hm ht k ex => ?_⟩
  refine a2 g H r M _ P _ he hm ht (fun v x H1 M1 s1 m1 x1 q1 => ?_) ex
  split at q1
  · rename_i ds
    cases x1 with
    | tup l1 al =>
      rename_i p vs
      have w := walk_tup (K := X.K) (a := p) (xs := vs)
      rw [al.length] at w
      refine ⟨p, rfl, ⟨vs, l1.sq⟩, k _ _ _ H1 M1 _ _ s1 m1 w (fun H2 M2 s' => (l1.mono s').sq) (fun j Ha x Hb Ma s' hj y => ⟨y.1, ?_⟩) q1⟩
      obtain ⟨w', e', d'⟩ := al.get (getD_some hj)
      rw [y.2] at e'
      cases e'
      exact d'.mono s'
  · exact q1.elim
def dItS (da : DX) : DIt := fun r M R P => da r M (fun x M1 => match x with
  | .d (.str z) => R z.cps.size (fun k => .str ⟨#[z.cps.getD k 0]⟩) M1
  | _ => False) P
theorem itS (ha : QE X E a da) : QIt X E tg a (dItS da) := by
  obtain ⟨tl, a1, a2⟩ := ha.ex
  refine ⟨_, pi_str a1, fun g H r M R P Q he hm ht k ex => ?_⟩
  refine a2 g H r M _ P _ he hm ht (fun v x H1 M1 s1 m1 x1 q1 => ?_) ex
  split at q1
  · rename_i z
    cases x1
    refine ⟨z, rfl, k _ _ _ H1 M1 _ _ s1 m1 walk_str (fun H2 M2 s' => trivial) (fun j Ha x Hb Ma s' hj y => ?_) q1⟩
    obtain ⟨e1, c, e2, rfl⟩ := y
    have : z.cps.getD j 0 = c := by rw [Array.getD_eq_getD_getElem?, e2]; rfl
    refine ⟨e1, ?_⟩
    rw [this]
    exact Dq.str _
  · exact q1.elim
def dItR1 (da : DX) : DIt := fun r M R P => da r M (fun x M1 => match x with
  | .d (.int j) => -4611686018427387904 ≤ j ∧ j < 4611686018427387904 ∧ R j.toNat (fun k => .int (k : Nat)) M1
  | _ => False) P
theorem itR1 (hm : X.mg "range" = none) (ha : QE X E a da) (hg : Gl X "range" := by rfl) (hs : starEach [a] X.env = [(false, eval a X.env)] := by rfl) : QIt X E tg (.Call (.Name "range" p) [a] [] apos) (dItR1 da) := by
  obtain ⟨tl, a1, a2⟩ := ha.ex
  refine ⟨_, pi_range1 hg hm (pa_cons a1 pa_nil hs) hs, fun g H r M R P Q he hm ht k ex => ?_⟩
  refine a2 g H r M _ P _ he hm ht (fun v x H1 M1 s1 m1 x1 q1 => ?_) ex
  split at q1
  · rename_i j
    cases x1
    obtain ⟨q1, q2, q3⟩ := q1
    refine ⟨j, rfl, by omega, by omega, k _ _ _ H1 M1 _ _ s1 m1 walk_range (fun _ _ _ => trivial) (fun i Ha x Hb Ma s' hj y => ⟨y.1, ?_⟩) q3⟩
    have e : x = V.int (0 + (i : Nat)) := y.2
    rw [e, Int.zero_add]
    exact Dq.int _
  · exact q1.elim
def dItR3 (da db dc : DX) : DIt := fun r M R P => da r M (fun x M1 => db r M1 (fun y M2 => dc r M2 (fun z M3 => match x, y, z with
  | .d (.int i), .d (.int j), .d (.int c) => ∃ n, RgC i j c n ∧ R n (fun k => .int (i + (k : Nat) * c)) M3
  | _, _, _ => False) P) P) P
theorem itR3 (hm : X.mg "range" = none) (ha : QE X E a da) (hb : QE X E b db) (hc : QE X E c dc) (hg : Gl X "range" := by rfl) (hs : starEach [a, b, c] X.env = (false, eval a X.env) :: starEach [b, c] X.env := by rfl)
    (hs2 : starEach [b, c] X.env = (false, eval b X.env) :: starEach [c] X.env := by rfl) (hs3 : starEach [c] X.env = [(false, eval c X.env)] := by rfl) (hpl : (backTo apos (starEach [b, c] X.env)).any (·.1) = false := by rfl) :
    QIt X E tg (.Call (.Name "range" p) [a, b, c] [] apos) (dItR3 da db dc) := by
  obtain ⟨ta, a1, a2⟩ := ha.ex
  obtain ⟨tb, b1, b2⟩ := hb.ex
  obtain ⟨tc, c1, c2⟩ := hc.ex
  refine ⟨_, pi_range3 hg hm (pa_cons a1 (pa_cons b1 (pa_cons c1 pa_nil hs3) hs2) hs) hs hpl, fun g H r M R P Q he hm ht k ex => ?_⟩
  refine a2 g H r M _ P _ he hm ht (fun v x H1 M1 s1 m1 x1 q1 => ?_) ex
  refine b2 g H1 r M1 _ P _ (he.mono s1) m1 q1 (fun u y H2 M2 s2 m2 x2 q2 => ?_) (ex.mono s1)
  refine c2 g H2 r M2 _ P _ ((he.mono s1).mono s2) m2 q2 (fun w z H3 M3 s3 m3 x3 q3 => ?_) ((ex.mono s1).mono s2)
  split at q3
  · rename_i i j c
    obtain ⟨n, rg, q⟩ := q3
    cases x1
    cases x2
    cases x3
    refine ⟨i, j, c, n, rfl, rg, k _ _ _ H3 M3 _ _ ((s1.trans s2).trans s3) m3 walk_rangeC (fun _ _ _ => trivial) (fun i' Ha x Hb Ma s' hj y => ⟨y.1, ?_⟩) q⟩
    have e : x = V.int (i + (i' : Nat) * c) := y.2
    rw [e]
    exact Dq.int _
  · exact q3.elim

/-! ### a comprehension over such -/
/-- .. its list changes later on -/
def dCompM (n : Nat) (f : Nat → PyData) (i : Nat) (own : List Nat) (te : DX) : DX := fun r M R _ => ∃ ys : List PyData, ys.length = n ∧ n ≤ sizeLine ∧
  (∀ k y, k < n → ys[k]? = some y → ∀ M', (∀ a o, M a = some o → M' a = some o) → te ((wipeX r own).set i (some (.d (f k)))) M' (fun z M'' => z = .d y ∧ M'' = M') (fun _ _ _ => False)) ∧ ∀ D, M D = none → R (.r (.ref D)) (mset M D (.lst (ys.map .d)))
theorem lc_y {K : PySem.W.Frag} {J : It} {n : Nat} {G : Hp → Prop} {Yv : Nat → Hp → V → Hp → Prop} (w : Walk J n G Yv) {f : Nat → PyData} {i : Nat} {own : List Nat} {te : DX} {g : L2.St} {r : DEnv} {H1 : Hp} {M1 : MH} {Q : VK} {D : Addr} {ys : List PyData}
    (he : EnvOk K H1 M1 g r) (hm : MOk K H1 M1) (hG : ∀ H' M', Stp H1 M1 H' M' → G H') (hY : ∀ k Ha x Hb Ma, Stp H1 M1 Ha Ma → k < n → Yv k Ha x Hb → Hb = Ha ∧ Dq K Ha Ma x (f k))
    (hi : i ∈ own) (hl : ys.length = n) (hz : n ≤ sizeLine) (hte : ∀ k y, k < n → ys[k]? = some y → ∀ M', (∀ a o, M1 a = some o → M' a = some o) → te ((wipeX r own).set i (some (.d (f k)))) M' (fun z M'' => z = .d y ∧ M'' = M') (fun _ _ _ => False)) (hD : H1 D = none)
    (k : ∀ H', Stp H1 M1 H' (mset M1 D (.lst (ys.map .d))) → MOk K H' (mset M1 D (.lst (ys.map .d))) → Q (.ref D) H') :
    ∃ W : Nat → Nat → Hp → Prop, (∃ m, W 0 m (upd H1 D (.lst []))) ∧ ∀ i' m H, W i' m H →
      (J.stop i' H ∧ Q (.ref D) H) ∨ (J.go i' H ∧ ∃ Nx : Hp → Prop, (∀ H', Nx H' → ∃ m', m' < m ∧ W (i' + 1) m' H') ∧ ∀ x H', J.yld i' H x H' → gName i x (L2.wipe g own) H' fun σ2 H2 => L2.wipe σ2 own = L2.wipe g own ∧ tYes σ2 H2 fun b H3 =>
        if b = true then canT K (fun _ _ _ => False) te σ2 H3 fun y H4 => ∃ acc, H4 D = some (.lst acc) ∧ acc.length < sizeLine ∧ Nx (upd H4 D (.lst (acc ++ [y]))) else Nx H3) := by
  have hMD := hm.gone hD
  let MD : Nat → MH := fun j => mset M1 D (.lst ((ys.take j).map Xv.d))
  refine lc_it w (Qd := fun H' => Q (.ref D) H') (fun j H' => Stp H1 M1 H' (MD j) ∧ MOk K H' (MD j)) ⟨Stp.put hm (Or.inl hD), hm.put (Or.inl hD) ⟨[], upd_same, by rw [List.take_zero]; exact .nil⟩⟩ (fun j H' _ z => hG H' _ z.1) ?_ ?_
  · rintro j x Ha Hb hj ⟨s1, m1⟩ y
    obtain ⟨rfl, dx⟩ := hY j Ha x Hb (MD j) s1 hj y
    refine ⟨wipe_set own hi, ?_⟩
    unfold tYes
    dsimp only
    rw [if_pos rfl]
    obtain ⟨y, ey⟩ : ∃ y, ys[j]? = some y := ⟨ys[j]'(by omega), List.getElem?_eq_getElem _⟩
    refine ⟨(wipeX r own).set i (some (.d (f j))), MD j, _, _, ((he.mono s1).wipe own).set (x := .d (f j)) dx i, m1, hte j y hj ey (MD j) (fun a o ea => ?_), ?_, EHyp.no⟩
    · show mset M1 D _ a = _
      rw [mset_ne (fun z => by rw [z, hMD] at ea; cases ea)]
      exact ea
    · rintro v z H4 M4 s4 m4 x4 ⟨rfl, rfl⟩
      obtain ⟨acc, hp, hacc⟩ := m4 D _ (show mset M1 D _ D = _ from mset_same)
      have hlen : acc.length = j := by rw [hacc.length, List.length_map, List.length_take]; omega
      refine ⟨acc, hp, by omega, ?_⟩
      have e2 : MD (j + 1) = mset (MD j) D (.lst ((ys.take j).map Xv.d ++ [.d y])) := by
        show mset M1 D _ = mset (mset M1 D _) D _
        rw [mset_mset, List.take_succ, ey, List.map_append]
        rfl
      have hput : H4 D = none ∨ MD j D ≠ none := Or.inr (by show mset M1 D _ D ≠ none; rw [mset_same]; simp)
      have s5 := Stp.put (o := .lst (acc ++ [v])) (u := .lst ((ys.take j).map Xv.d ++ [.d y])) m4 hput
      have m5 := m4.put (o := .lst (acc ++ [v])) (u := .lst ((ys.take j).map Xv.d ++ [.d y])) hput ⟨_, upd_same, (hacc.mono s5).append (.cons (x4.mono s5) .nil)⟩
      rw [e2]
      exact ⟨(s1.trans s4).trans s5, m5⟩
  · rintro H' ⟨s1, m1⟩
    have e : MD n = mset M1 D (.lst (ys.map .d)) := by show mset M1 D _ = _; rw [← hl, List.take_length]
    rw [e] at s1 m1
    exact k H' s1 m1
def dLcI (t : DIt) (i : Nat) (own : List Nat) (te : DX) : DX := fun r M R P => t r M (fun n f M1 => dComp n f i own te r M1 R P) P
def dLcIM (t : DIt) (i : Nat) (own : List Nat) (te : DX) : DX := fun r M R P => t r M (fun n f M1 => dCompM n f i own te r M1 R P) P
theorem simLcI {K : PySem.W.Frag} {wi : TI} {ti : DIt} {i : Nat} {own : List Nat} {te : DX} (a2 : SimIt K E wi ti) (hi : i ∈ own) : SimX K E (tLc wi (gName i) tYes (canT K (fun _ _ _ => False) te) own) (dLcI ti i own te) := by
  intro g H r M R P Q he hm ht k ex
  refine a2 g H r M _ P _ he hm ht (fun J n f H1 M1 G Yv s1 m1 w hG hY q D hD => ?_) ex
  exact lc_x w (H := H) (M := M) (P := P) (he.mono s1) m1 (fun H' ⟨M', s', _⟩ => hG H' M' s') hY hi q hD fun v x H' M' z => k v x H' M' (s1.trans z)
theorem simLcIM {K : PySem.W.Frag} {wi : TI} {ti : DIt} {i : Nat} {own : List Nat} {te : DX} (a2 : SimIt K E wi ti) (hi : i ∈ own) : SimX K E (tLc wi (gName i) tYes (canT K (fun _ _ _ => False) te) own) (dLcIM ti i own te) := by
  intro g H r M R P Q he hm ht k ex
  refine a2 g H r M _ P _ he hm ht (fun J n f H1 M1 G Yv s1 m1 w hG hY q D hD => ?_) ex
  obtain ⟨ys, hl, hz, hte, hR⟩ := q
  exact lc_y w (he.mono s1) m1 hG hY hi hl hz hte hD fun H' s' m' => k (.ref D) (.r (.ref D)) H' _ (s1.trans s') m' rfl (hR D (m1.gone hD))
end
section
variable {X : Cx} {E : XK} {a elt : Expr} {te : DX} {ti : DIt} {pos tp : Pos} {x : Str} {scope : Scope}
theorem lcI (i : Nat) (own : List (Str × Nat)) (hN : X.N.Nodup) (hc : X.calm = true) (ha : QIt X E (.Name x tp) a ti) (ok : BlkOk X.N X.env.scope scope own)
    (he : ∀ (s : Shared) (H : Hp) (C : Addr) (cl : List (Str × Addr)) (fp : List Addr), QE (X.blk s H scope (compEnvC scope cl C X.env) fp) (fun _ _ _ => False) elt te)
    (hi : X.N[i]? = some x := by rfl) (hx : ∀ (s : Shared) (H : Hp) (C : Addr) (cl : List (Str × Addr)) (fp : List Addr), (X.blk s H scope (compEnvC scope cl C X.env) fp).env.scope.names.lookup x = some .local := by intros; rfl) (hj : i ∈ own.map (·.2) := by decide) (hs : ∀ y, foldedSetIterable a X.env y = pure y := by intro _; rfl) :
    QE X E (.ListComp elt [⟨.Name x tp, a, [], 0⟩] scope pos) (dLcI ti i (own.map (·.2)) te) := by
  obtain ⟨wi, h1, h2⟩ := ha.ex
  exact ⟨tLc wi (gName i) tYes (canT X.K (fun _ _ _ => False) te) (own.map (·.2)), pe_lc hc hN h1 ok (fun s H C cl fp => pg_name hN hi (Or.inl (hx s H C cl fp)) (Or.inr (hx s H C cl fp))) (fun _ _ _ _ _ => pts_nil) (fun s H C cl fp => (he s H C cl fp).can) hs, simLcI h2 hj⟩
theorem setLcI {spos py : Pos} {y : Str} (j i : Nat) (own : List (Str × Nat)) (hN : X.N.Nodup) (hc : X.calm = true) (ha : QIt X E (.Name x tp) a ti) (ok : BlkOk X.N X.env.scope scope own)
    (he : ∀ (s : Shared) (H : Hp) (C : Addr) (cl : List (Str × Addr)) (fp : List Addr), QE (X.blk s H scope (compEnvC scope cl C X.env) fp) (fun _ _ _ => False) elt te)
    (hk : X.env.scope.kind = .function) (hy : X.N[j]? = some y := by rfl) (hyl : X.env.scope.names.lookup y = some .local := by rfl) (hl : (py.line == pos.line) = true := by rfl) (hna : (scope.names.any fun (n, k) => n == y && (k == .local || k == .cell)) = false := by rfl)
    (hi : X.N[i]? = some x := by rfl) (hx : ∀ (s : Shared) (H : Hp) (C : Addr) (cl : List (Str × Addr)) (fp : List Addr), (X.blk s H scope (compEnvC scope cl C X.env) fp).env.scope.names.lookup x = some .local := by intros; rfl) (hj : i ∈ own.map (·.2) := by decide) (hs : ∀ y, foldedSetIterable a X.env y = pure y := by intro _; rfl) :
    QS X E (.Assign [.Name y py] (.ListComp elt [⟨.Name x tp, a, [], 0⟩] scope pos) spos) (dSet j (dLcI ti i (own.map (·.2)) te)) := by
  obtain ⟨wi, h1, h2⟩ := ha.ex
  refine ⟨tAsg (tLc wi (gName i) tYes (canT X.K (fun _ _ _ => False) te) (own.map (·.2))) (gName j), ps_setLc hc hN hy hyl (sw_true hk hyl hl hna) h1 ok (fun s H C cl fp => pg_name hN hi (Or.inl (hx s H C cl fp)) (Or.inr (hx s H C cl fp))) (fun _ _ _ _ _ => pts_nil) (fun s H C cl fp => (he s H C cl fp).can) hs, fun g H r M D D' he hm ht k => ?_⟩
  exact simLcI h2 hj g H r M _ D.ex _ he hm ht (fun v x H1 M1 s1 m1 x1 q1 => k.nx _ _ H1 M1 s1 m1 ((he.mono s1).set x1 j) q1) k.ex
theorem setLcIM {spos py : Pos} {y : Str} (j i : Nat) (own : List (Str × Nat)) (hN : X.N.Nodup) (hc : X.calm = true) (ha : QIt X E (.Name x tp) a ti) (ok : BlkOk X.N X.env.scope scope own)
    (he : ∀ (s : Shared) (H : Hp) (C : Addr) (cl : List (Str × Addr)) (fp : List Addr), QE (X.blk s H scope (compEnvC scope cl C X.env) fp) (fun _ _ _ => False) elt te)
    (hk : X.env.scope.kind = .function) (hy : X.N[j]? = some y := by rfl) (hyl : X.env.scope.names.lookup y = some .local := by rfl) (hl : (py.line == pos.line) = true := by rfl) (hna : (scope.names.any fun (n, k) => n == y && (k == .local || k == .cell)) = false := by rfl)
    (hi : X.N[i]? = some x := by rfl) (hx : ∀ (s : Shared) (H : Hp) (C : Addr) (cl : List (Str × Addr)) (fp : List Addr), (X.blk s H scope (compEnvC scope cl C X.env) fp).env.scope.names.lookup x = some .local := by intros; rfl) (hj : i ∈ own.map (·.2) := by decide) (hs : ∀ y, foldedSetIterable a X.env y = pure y := by intro _; rfl) :
    QS X E (.Assign [.Name y py] (.ListComp elt [⟨.Name x tp, a, [], 0⟩] scope pos) spos) (dSet j (dLcIM ti i (own.map (·.2)) te)) := by
  obtain ⟨wi, h1, h2⟩ := ha.ex
  refine ⟨tAsg (tLc wi (gName i) tYes (canT X.K (fun _ _ _ => False) te) (own.map (·.2))) (gName j), ps_setLc hc hN hy hyl (sw_true hk hyl hl hna) h1 ok (fun s H C cl fp => pg_name hN hi (Or.inl (hx s H C cl fp)) (Or.inr (hx s H C cl fp))) (fun _ _ _ _ _ => pts_nil) (fun s H C cl fp => (he s H C cl fp).can) hs, fun g H r M D D' he hm ht k => ?_⟩
  exact simLcIM h2 hj g H r M _ D.ex _ he hm ht (fun v x H1 M1 s1 m1 x1 q1 => k.nx _ _ H1 M1 s1 m1 ((he.mono s1).set x1 j) q1) k.ex
end
end Y
namespace Y
open PySem PySem.Spec PyProof.Rows L2
section
variable {X : Cx} {E : XK}
/-- repr of a text, of data that is a tuple -/
def cRepr2 : DC := fun xs M R P => match xs with
  | [.d (.str s)] => (reprText s).length ≤ sizeLine ∧ R (.d (.str (reprText s))) M
  | xs => cRepr xs M R P
theorem b_repr2 (hgu : X.A.guards = some []) (hu : X.A.units + 100 < cLine) : QB X E (.builtin "repr") cRepr2 := by
  obtain ⟨r, c1, c2⟩ := (b_repr (E := E) hgu hu).ex
  refine ⟨fun xs H Q => (∃ s : Str, xs = [.str s] ∧ (reprText s).length ≤ sizeLine ∧ Q (.str (reprText s)) H) ∨ r xs H Q, ?_, ?_⟩
  · intro pins s σ H xs us Q I rv h
    rcases h with ⟨x, rfl, hl, q⟩ | h
    · obtain ⟨u, rfl, ru⟩ := vals1 rv
      obtain ⟨t, rfl⟩ : ∃ t, u = Value.str x t := ru
      refine PySem.P.repr_of_str ?_ hl
      exact ⟨.str (reprText x), H, I.kept (t' := s.toks + 1) fun _ _ e => e, ⟨_, rfl⟩, q⟩
    · exact c1 pins s σ H xs us Q I rv h
  · intro H M vs xs R P Q hm hx ht k ex
    unfold cRepr2 at ht
    split at ht
    · rename_i s
      obtain ⟨v, rfl, x1⟩ := hx.one
      cases x1
      exact Or.inl ⟨s, rfl, ht.1, k _ (.d (.str _)) H M (.refl hm) hm (Dq.str _) ht.2⟩
    · exact Or.inr (c2 H M vs xs R P Q hm hx ht k ex)
end
/-- the same, the lambda's name said -/
theorem q_lamq {X : Cx} {E : XK} {T : Addr} {q q' : Str} {N : List Str} {TG : DX → DS} {dl : DX} {e : Expr} (h : QE X E e (dLam T q N TG dl)) (hq : q = q') : QE X E e (dLam T q' N TG dl) := by
  subst hq
  exact h
end Y
set_option maxHeartbeats 4000000
namespace Y
open PySem PySem.Spec PyProof.Rows L2
structure Ad where
  f_is_integer : Addr
  e_is_integer : FuncData
  f_is_within : Addr
  e_is_within : FuncData
  f_is_worth : Addr
  e_is_worth : FuncData
  f_TooMany_init : Addr
  e_TooMany_init : FuncData
  f_BadSigns_init : Addr
  e_BadSigns_init : FuncData
  f_are_letters : Addr
  e_are_letters : FuncData
  f_is_word : Addr
  e_is_word : FuncData
  f_is_atom : Addr
  e_is_atom : FuncData
  f_parts_of : Addr
  e_parts_of : FuncData
  f_is_kind : Addr
  e_is_kind : FuncData
  f_is_sign : Addr
  e_is_sign : FuncData
  f_size_within : Addr
  e_size_within : FuncData
  f_size_of : Addr
  e_size_of : FuncData
  f_is_expression : Addr
  e_is_expression : FuncData
  f_check_expression : Addr
  e_check_expression : FuncData
  f_in_parentheses : Addr
  e_in_parentheses : FuncData
  f_atom_text : Addr
  e_atom_text : FuncData
  f_part_text : Addr
  e_part_text : FuncData
  f_text_of : Addr
  e_text_of : FuncData
  f_expression_text : Addr
  e_expression_text : FuncData
  f_Frame_init : Addr
  e_Frame_init : FuncData
  f_Frame_add : Addr
  e_Frame_add : FuncData
  f_Frame_join : Addr
  e_Frame_join : FuncData
  f_Frame_part : Addr
  e_Frame_part : FuncData
  f_Frame_whole : Addr
  e_Frame_whole : FuncData
  f_Text_init : Addr
  e_Text_init : FuncData
  f_Text_sign : Addr
  e_Text_sign : FuncData
  f_Text_fail : Addr
  e_Text_fail : FuncData
  f_Text_take : Addr
  e_Text_take : FuncData
  f_Text_word : Addr
  e_Text_word : FuncData
  f_Text_worth : Addr
  e_Text_worth : FuncData
  f_Text_atom : Addr
  e_Text_atom : FuncData
  f_Text_begin : Addr
  e_Text_begin : FuncData
  f_Text_times : Addr
  e_Text_times : FuncData
  f_Text_go_on : Addr
  e_Text_go_on : FuncData
  f_Text_read : Addr
  e_Text_read : FuncData
  f_read_expression : Addr
  e_read_expression : FuncData
  f_L_mixed : Addr
  e_L_mixed : FuncData
  f_L_hand : Addr
  e_L_hand : FuncData
  f_L_draw : Addr
  e_L_draw : FuncData
  f_L_letters : Addr
  e_L_letters : FuncData
  f_L_words : Addr
  e_L_words : FuncData
  f_L_worths : Addr
  e_L_worths : FuncData
  f_L_atom : Addr
  e_L_atom : FuncData
  f_L_expression : Addr
  e_L_expression : FuncData
  f_L_is_letter : Addr
  e_L_is_letter : FuncData
  f_L_lone_text : Addr
  e_L_lone_text : FuncData
  f_L_sign_text : Addr
  e_L_sign_text : FuncData
  f_L_blanks : Addr
  e_L_blanks : FuncData
  f_L_loose : Addr
  e_L_loose : FuncData
  f_L_row : Addr
  e_L_row : FuncData
  f_L_refusal : Addr
  e_L_refusal : FuncData
  f_L_no_expression : Addr
  e_L_no_expression : FuncData
  f_L_written : Addr
  e_L_written : FuncData
  f_L_is_read : Addr
  e_L_is_read : FuncData
  f_L_is_right : Addr
  e_L_is_right : FuncData
  f_L_great : Addr
  e_L_great : FuncData
  f_L_tower : Addr
  e_L_tower : FuncData
  f_law : Addr
  e_law : FuncData
  c_StoreError : Addr
  c_TooMany : Addr
  c_BadSigns : Addr
  c_NoPath : Addr
  c_NoExpression : Addr
  c_Frame : Addr
  c_Text : Addr
  kc_law : Addr
  kt_law : Addr
  c_SIGNS : Addr
  c_ALONE : Addr
  c_NAMED : Addr
  c_PAIRED : Addr
  c_LONE : Addr
  c_SIGN_OF : Addr
  c_KIND_OF : Addr
def kv_SIGN_OF : List (Str × PyData) := [("star", .str "*"), ("plus", .str "+"), ("maybe", .str "?")]
def kv_KIND_OF : List (Str × PyData) := [("*", .str "star"), ("+", .str "plus"), ("?", .str "maybe")]
structure Fx (K : PySem.W.Frag) (mg : Str → Option Value) (Z : Ad) (w : World) : Prop where
  F_is_integer : FunD K "is_integer" "is_integer" (defArgs s_is_integer) (defBody s_is_integer) (defScope s_is_integer) [] [] Z.f_is_integer Z.e_is_integer
  g_is_integer : mg "is_integer" = some (.ref Z.f_is_integer)
  k_is_integer : PySem.W.keepIn K (.ref Z.f_is_integer) = true
  F_is_within : FunD K "is_within" "is_within" (defArgs s_is_within) (defBody s_is_within) (defScope s_is_within) [] [] Z.f_is_within Z.e_is_within
  g_is_within : mg "is_within" = some (.ref Z.f_is_within)
  k_is_within : PySem.W.keepIn K (.ref Z.f_is_within) = true
  F_is_worth : FunD K "is_worth" "is_worth" (defArgs s_is_worth) (defBody s_is_worth) (defScope s_is_worth) [] [] Z.f_is_worth Z.e_is_worth
  g_is_worth : mg "is_worth" = some (.ref Z.f_is_worth)
  k_is_worth : PySem.W.keepIn K (.ref Z.f_is_worth) = true
  F_TooMany_init : FunD K "__init__" "TooMany.__init__" (defArgs s_TooMany_init) (defBody s_TooMany_init) (defScope s_TooMany_init) [] [] Z.f_TooMany_init Z.e_TooMany_init
  F_BadSigns_init : FunD K "__init__" "BadSigns.__init__" (defArgs s_BadSigns_init) (defBody s_BadSigns_init) (defScope s_BadSigns_init) [] [] Z.f_BadSigns_init Z.e_BadSigns_init
  F_are_letters : FunD K "are_letters" "are_letters" (defArgs s_are_letters) (defBody s_are_letters) (defScope s_are_letters) [] [] Z.f_are_letters Z.e_are_letters
  g_are_letters : mg "are_letters" = some (.ref Z.f_are_letters)
  k_are_letters : PySem.W.keepIn K (.ref Z.f_are_letters) = true
  F_is_word : FunD K "is_word" "is_word" (defArgs s_is_word) (defBody s_is_word) (defScope s_is_word) [] [] Z.f_is_word Z.e_is_word
  g_is_word : mg "is_word" = some (.ref Z.f_is_word)
  k_is_word : PySem.W.keepIn K (.ref Z.f_is_word) = true
  F_is_atom : FunD K "is_atom" "is_atom" (defArgs s_is_atom) (defBody s_is_atom) (defScope s_is_atom) [] [] Z.f_is_atom Z.e_is_atom
  g_is_atom : mg "is_atom" = some (.ref Z.f_is_atom)
  k_is_atom : PySem.W.keepIn K (.ref Z.f_is_atom) = true
  F_parts_of : FunD K "parts_of" "parts_of" (defArgs s_parts_of) (defBody s_parts_of) (defScope s_parts_of) [] [] Z.f_parts_of Z.e_parts_of
  g_parts_of : mg "parts_of" = some (.ref Z.f_parts_of)
  k_parts_of : PySem.W.keepIn K (.ref Z.f_parts_of) = true
  F_is_kind : FunD K "is_kind" "is_kind" (defArgs s_is_kind) (defBody s_is_kind) (defScope s_is_kind) [] [] Z.f_is_kind Z.e_is_kind
  g_is_kind : mg "is_kind" = some (.ref Z.f_is_kind)
  k_is_kind : PySem.W.keepIn K (.ref Z.f_is_kind) = true
  F_is_sign : FunD K "is_sign" "is_sign" (defArgs s_is_sign) (defBody s_is_sign) (defScope s_is_sign) [] [] Z.f_is_sign Z.e_is_sign
  g_is_sign : mg "is_sign" = some (.ref Z.f_is_sign)
  k_is_sign : PySem.W.keepIn K (.ref Z.f_is_sign) = true
  F_size_within : FunD K "size_within" "size_within" (defArgs s_size_within) (defBody s_size_within) (defScope s_size_within) [] [] Z.f_size_within Z.e_size_within
  g_size_within : mg "size_within" = some (.ref Z.f_size_within)
  k_size_within : PySem.W.keepIn K (.ref Z.f_size_within) = true
  F_size_of : FunD K "size_of" "size_of" (defArgs s_size_of) (defBody s_size_of) (defScope s_size_of) [] [] Z.f_size_of Z.e_size_of
  g_size_of : mg "size_of" = some (.ref Z.f_size_of)
  k_size_of : PySem.W.keepIn K (.ref Z.f_size_of) = true
  F_is_expression : FunD K "is_expression" "is_expression" (defArgs s_is_expression) (defBody s_is_expression) (defScope s_is_expression) [] [] Z.f_is_expression Z.e_is_expression
  g_is_expression : mg "is_expression" = some (.ref Z.f_is_expression)
  k_is_expression : PySem.W.keepIn K (.ref Z.f_is_expression) = true
  F_check_expression : FunD K "check_expression" "check_expression" (defArgs s_check_expression) (defBody s_check_expression) (defScope s_check_expression) [] [] Z.f_check_expression Z.e_check_expression
  g_check_expression : mg "check_expression" = some (.ref Z.f_check_expression)
  k_check_expression : PySem.W.keepIn K (.ref Z.f_check_expression) = true
  F_in_parentheses : FunD K "in_parentheses" "in_parentheses" (defArgs s_in_parentheses) (defBody s_in_parentheses) (defScope s_in_parentheses) [] [] Z.f_in_parentheses Z.e_in_parentheses
  g_in_parentheses : mg "in_parentheses" = some (.ref Z.f_in_parentheses)
  k_in_parentheses : PySem.W.keepIn K (.ref Z.f_in_parentheses) = true
  F_atom_text : FunD K "atom_text" "atom_text" (defArgs s_atom_text) (defBody s_atom_text) (defScope s_atom_text) [] [] Z.f_atom_text Z.e_atom_text
  g_atom_text : mg "atom_text" = some (.ref Z.f_atom_text)
  k_atom_text : PySem.W.keepIn K (.ref Z.f_atom_text) = true
  F_part_text : FunD K "part_text" "part_text" (defArgs s_part_text) (defBody s_part_text) (defScope s_part_text) [] [] Z.f_part_text Z.e_part_text
  g_part_text : mg "part_text" = some (.ref Z.f_part_text)
  k_part_text : PySem.W.keepIn K (.ref Z.f_part_text) = true
  F_text_of : FunD K "text_of" "text_of" (defArgs s_text_of) (defBody s_text_of) (defScope s_text_of) [] [] Z.f_text_of Z.e_text_of
  g_text_of : mg "text_of" = some (.ref Z.f_text_of)
  k_text_of : PySem.W.keepIn K (.ref Z.f_text_of) = true
  F_expression_text : FunD K "expression_text" "expression_text" (defArgs s_expression_text) (defBody s_expression_text) (defScope s_expression_text) [] [] Z.f_expression_text Z.e_expression_text
  g_expression_text : mg "expression_text" = some (.ref Z.f_expression_text)
  k_expression_text : PySem.W.keepIn K (.ref Z.f_expression_text) = true
  F_Frame_init : FunD K "__init__" "Frame.__init__" (defArgs s_Frame_init) (defBody s_Frame_init) (defScope s_Frame_init) [] [] Z.f_Frame_init Z.e_Frame_init
  F_Frame_add : FunD K "add" "Frame.add" (defArgs s_Frame_add) (defBody s_Frame_add) (defScope s_Frame_add) [] [] Z.f_Frame_add Z.e_Frame_add
  m_Frame_add : Meth K Z.c_Frame "add" Z.f_Frame_add
  F_Frame_join : FunD K "join" "Frame.join" (defArgs s_Frame_join) (defBody s_Frame_join) (defScope s_Frame_join) [] [] Z.f_Frame_join Z.e_Frame_join
  m_Frame_join : Meth K Z.c_Frame "join" Z.f_Frame_join
  F_Frame_part : FunD K "part" "Frame.part" (defArgs s_Frame_part) (defBody s_Frame_part) (defScope s_Frame_part) [] [] Z.f_Frame_part Z.e_Frame_part
  m_Frame_part : Meth K Z.c_Frame "part" Z.f_Frame_part
  F_Frame_whole : FunD K "whole" "Frame.whole" (defArgs s_Frame_whole) (defBody s_Frame_whole) (defScope s_Frame_whole) [] [] Z.f_Frame_whole Z.e_Frame_whole
  m_Frame_whole : Meth K Z.c_Frame "whole" Z.f_Frame_whole
  F_Text_init : FunD K "__init__" "Text.__init__" (defArgs s_Text_init) (defBody s_Text_init) (defScope s_Text_init) [] [] Z.f_Text_init Z.e_Text_init
  F_Text_sign : FunD K "sign" "Text.sign" (defArgs s_Text_sign) (defBody s_Text_sign) (defScope s_Text_sign) [] [] Z.f_Text_sign Z.e_Text_sign
  m_Text_sign : Meth K Z.c_Text "sign" Z.f_Text_sign
  F_Text_fail : FunD K "fail" "Text.fail" (defArgs s_Text_fail) (defBody s_Text_fail) (defScope s_Text_fail) [] [] Z.f_Text_fail Z.e_Text_fail
  m_Text_fail : Meth K Z.c_Text "fail" Z.f_Text_fail
  F_Text_take : FunD K "take" "Text.take" (defArgs s_Text_take) (defBody s_Text_take) (defScope s_Text_take) [] [] Z.f_Text_take Z.e_Text_take
  m_Text_take : Meth K Z.c_Text "take" Z.f_Text_take
  F_Text_word : FunD K "word" "Text.word" (defArgs s_Text_word) (defBody s_Text_word) (defScope s_Text_word) [] [] Z.f_Text_word Z.e_Text_word
  m_Text_word : Meth K Z.c_Text "word" Z.f_Text_word
  F_Text_worth : FunD K "worth" "Text.worth" (defArgs s_Text_worth) (defBody s_Text_worth) (defScope s_Text_worth) [] [] Z.f_Text_worth Z.e_Text_worth
  m_Text_worth : Meth K Z.c_Text "worth" Z.f_Text_worth
  F_Text_atom : FunD K "atom" "Text.atom" (defArgs s_Text_atom) (defBody s_Text_atom) (defScope s_Text_atom) [] [] Z.f_Text_atom Z.e_Text_atom
  m_Text_atom : Meth K Z.c_Text "atom" Z.f_Text_atom
  F_Text_begin : FunD K "begin" "Text.begin" (defArgs s_Text_begin) (defBody s_Text_begin) (defScope s_Text_begin) [] [] Z.f_Text_begin Z.e_Text_begin
  m_Text_begin : Meth K Z.c_Text "begin" Z.f_Text_begin
  F_Text_times : FunD K "times" "Text.times" (defArgs s_Text_times) (defBody s_Text_times) (defScope s_Text_times) [] [] Z.f_Text_times Z.e_Text_times
  m_Text_times : Meth K Z.c_Text "times" Z.f_Text_times
  F_Text_go_on : FunD K "go_on" "Text.go_on" (defArgs s_Text_go_on) (defBody s_Text_go_on) (defScope s_Text_go_on) [] [] Z.f_Text_go_on Z.e_Text_go_on
  m_Text_go_on : Meth K Z.c_Text "go_on" Z.f_Text_go_on
  F_Text_read : FunD K "read" "Text.read" (defArgs s_Text_read) (defBody s_Text_read) (defScope s_Text_read) [] [] Z.f_Text_read Z.e_Text_read
  m_Text_read : Meth K Z.c_Text "read" Z.f_Text_read
  F_read_expression : FunD K "read_expression" "read_expression" (defArgs s_read_expression) (defBody s_read_expression) (defScope s_read_expression) [] [] Z.f_read_expression Z.e_read_expression
  g_read_expression : mg "read_expression" = some (.ref Z.f_read_expression)
  k_read_expression : PySem.W.keepIn K (.ref Z.f_read_expression) = true
  F_L_mixed : FunD K "_law_mixed" "_law_mixed" (defArgs s_L_mixed) (defBody s_L_mixed) (defScope s_L_mixed) [] [] Z.f_L_mixed Z.e_L_mixed
  g_L_mixed : mg "_law_mixed" = some (.ref Z.f_L_mixed)
  k_L_mixed : PySem.W.keepIn K (.ref Z.f_L_mixed) = true
  F_L_hand : FunD K "_law_hand" "_law_hand" (defArgs s_L_hand) (defBody s_L_hand) (defScope s_L_hand) [] [] Z.f_L_hand Z.e_L_hand
  g_L_hand : mg "_law_hand" = some (.ref Z.f_L_hand)
  k_L_hand : PySem.W.keepIn K (.ref Z.f_L_hand) = true
  F_L_draw : FunD K "_law_draw" "_law_draw" (defArgs s_L_draw) (defBody s_L_draw) (defScope s_L_draw) [] [] Z.f_L_draw Z.e_L_draw
  g_L_draw : mg "_law_draw" = some (.ref Z.f_L_draw)
  k_L_draw : PySem.W.keepIn K (.ref Z.f_L_draw) = true
  F_L_letters : FunD K "_law_letters" "_law_letters" (defArgs s_L_letters) (defBody s_L_letters) (defScope s_L_letters) [] [] Z.f_L_letters Z.e_L_letters
  g_L_letters : mg "_law_letters" = some (.ref Z.f_L_letters)
  k_L_letters : PySem.W.keepIn K (.ref Z.f_L_letters) = true
  F_L_words : FunD K "_law_words" "_law_words" (defArgs s_L_words) (defBody s_L_words) (defScope s_L_words) [] [] Z.f_L_words Z.e_L_words
  g_L_words : mg "_law_words" = some (.ref Z.f_L_words)
  k_L_words : PySem.W.keepIn K (.ref Z.f_L_words) = true
  F_L_worths : FunD K "_law_worths" "_law_worths" (defArgs s_L_worths) (defBody s_L_worths) (defScope s_L_worths) [] [] Z.f_L_worths Z.e_L_worths
  g_L_worths : mg "_law_worths" = some (.ref Z.f_L_worths)
  k_L_worths : PySem.W.keepIn K (.ref Z.f_L_worths) = true
  F_L_atom : FunD K "_law_atom" "_law_atom" (defArgs s_L_atom) (defBody s_L_atom) (defScope s_L_atom) [] [] Z.f_L_atom Z.e_L_atom
  g_L_atom : mg "_law_atom" = some (.ref Z.f_L_atom)
  k_L_atom : PySem.W.keepIn K (.ref Z.f_L_atom) = true
  F_L_expression : FunD K "_law_expression" "_law_expression" (defArgs s_L_expression) (defBody s_L_expression) (defScope s_L_expression) [] [] Z.f_L_expression Z.e_L_expression
  g_L_expression : mg "_law_expression" = some (.ref Z.f_L_expression)
  k_L_expression : PySem.W.keepIn K (.ref Z.f_L_expression) = true
  F_L_is_letter : FunD K "_law_is_letter" "_law_is_letter" (defArgs s_L_is_letter) (defBody s_L_is_letter) (defScope s_L_is_letter) [] [] Z.f_L_is_letter Z.e_L_is_letter
  g_L_is_letter : mg "_law_is_letter" = some (.ref Z.f_L_is_letter)
  k_L_is_letter : PySem.W.keepIn K (.ref Z.f_L_is_letter) = true
  F_L_lone_text : FunD K "_law_lone_text" "_law_lone_text" (defArgs s_L_lone_text) (defBody s_L_lone_text) (defScope s_L_lone_text) [] [] Z.f_L_lone_text Z.e_L_lone_text
  g_L_lone_text : mg "_law_lone_text" = some (.ref Z.f_L_lone_text)
  k_L_lone_text : PySem.W.keepIn K (.ref Z.f_L_lone_text) = true
  F_L_sign_text : FunD K "_law_sign_text" "_law_sign_text" (defArgs s_L_sign_text) (defBody s_L_sign_text) (defScope s_L_sign_text) [] [] Z.f_L_sign_text Z.e_L_sign_text
  g_L_sign_text : mg "_law_sign_text" = some (.ref Z.f_L_sign_text)
  k_L_sign_text : PySem.W.keepIn K (.ref Z.f_L_sign_text) = true
  F_L_blanks : FunD K "_law_blanks" "_law_blanks" (defArgs s_L_blanks) (defBody s_L_blanks) (defScope s_L_blanks) [] [] Z.f_L_blanks Z.e_L_blanks
  g_L_blanks : mg "_law_blanks" = some (.ref Z.f_L_blanks)
  k_L_blanks : PySem.W.keepIn K (.ref Z.f_L_blanks) = true
  F_L_loose : FunD K "_law_loose" "_law_loose" (defArgs s_L_loose) (defBody s_L_loose) (defScope s_L_loose) [] [] Z.f_L_loose Z.e_L_loose
  g_L_loose : mg "_law_loose" = some (.ref Z.f_L_loose)
  k_L_loose : PySem.W.keepIn K (.ref Z.f_L_loose) = true
  F_L_row : FunD K "_law_row" "_law_row" (defArgs s_L_row) (defBody s_L_row) (defScope s_L_row) [] [] Z.f_L_row Z.e_L_row
  g_L_row : mg "_law_row" = some (.ref Z.f_L_row)
  k_L_row : PySem.W.keepIn K (.ref Z.f_L_row) = true
  F_L_refusal : FunD K "_law_refusal" "_law_refusal" (defArgs s_L_refusal) (defBody s_L_refusal) (defScope s_L_refusal) [] [] Z.f_L_refusal Z.e_L_refusal
  g_L_refusal : mg "_law_refusal" = some (.ref Z.f_L_refusal)
  k_L_refusal : PySem.W.keepIn K (.ref Z.f_L_refusal) = true
  F_L_no_expression : FunD K "_law_no_expression" "_law_no_expression" (defArgs s_L_no_expression) (defBody s_L_no_expression) (defScope s_L_no_expression) [] [] Z.f_L_no_expression Z.e_L_no_expression
  g_L_no_expression : mg "_law_no_expression" = some (.ref Z.f_L_no_expression)
  k_L_no_expression : PySem.W.keepIn K (.ref Z.f_L_no_expression) = true
  F_L_written : FunD K "_law_written" "_law_written" (defArgs s_L_written) (defBody s_L_written) (defScope s_L_written) [] [] Z.f_L_written Z.e_L_written
  g_L_written : mg "_law_written" = some (.ref Z.f_L_written)
  k_L_written : PySem.W.keepIn K (.ref Z.f_L_written) = true
  F_L_is_read : FunD K "_law_is_read" "_law_is_read" (defArgs s_L_is_read) (defBody s_L_is_read) (defScope s_L_is_read) [] [] Z.f_L_is_read Z.e_L_is_read
  g_L_is_read : mg "_law_is_read" = some (.ref Z.f_L_is_read)
  k_L_is_read : PySem.W.keepIn K (.ref Z.f_L_is_read) = true
  F_L_is_right : FunD K "_law_is_right" "_law_is_right" (defArgs s_L_is_right) (defBody s_L_is_right) (defScope s_L_is_right) [] [] Z.f_L_is_right Z.e_L_is_right
  g_L_is_right : mg "_law_is_right" = some (.ref Z.f_L_is_right)
  k_L_is_right : PySem.W.keepIn K (.ref Z.f_L_is_right) = true
  F_L_great : FunD K "_law_great" "_law_great" (defArgs s_L_great) (defBody s_L_great) (defScope s_L_great) [] [] Z.f_L_great Z.e_L_great
  g_L_great : mg "_law_great" = some (.ref Z.f_L_great)
  k_L_great : PySem.W.keepIn K (.ref Z.f_L_great) = true
  F_L_tower : FunD K "_law_tower" "_law_tower" (defArgs s_L_tower) (defBody s_L_tower) (defScope s_L_tower) [] [] Z.f_L_tower Z.e_L_tower
  g_L_tower : mg "_law_tower" = some (.ref Z.f_L_tower)
  k_L_tower : PySem.W.keepIn K (.ref Z.f_L_tower) = true
  F_law : FunD K "law" "law" (defArgs s_law) (defBody s_law) (defScope s_law) [] [] Z.f_law Z.e_law
  g_law : mg "law" = some (.ref Z.f_law)
  k_law : PySem.W.keepIn K (.ref Z.f_law) = true
  g_StoreError : mg "StoreError" = some (.ref Z.c_StoreError)
  g_TooMany : mg "TooMany" = some (.ref Z.c_TooMany)
  g_BadSigns : mg "BadSigns" = some (.ref Z.c_BadSigns)
  g_NoPath : mg "NoPath" = some (.ref Z.c_NoPath)
  g_NoExpression : mg "NoExpression" = some (.ref Z.c_NoExpression)
  g_Frame : mg "Frame" = some (.ref Z.c_Frame)
  o_Frame : OwnC K Z.c_Frame ["kept_or", "kept_then", "kept_last"]
  m_Frame : Mk K Z.c_Frame Z.f_Frame_init
  g_Text : mg "Text" = some (.ref Z.c_Text)
  o_Text : OwnC K Z.c_Text ["kept_text", "kept_at", "kept_frames", "kept_wanted"]
  m_Text : Mk K Z.c_Text Z.f_Text_init
  g_LETTERS : ∃ t, mg "LETTERS" = some (.str "abcdefghijklmnopqrstuvwxyz" t)
  g_MOST_WORTH : ∃ t, mg "MOST_WORTH" = some (.int 1000000000000000000 t)
  g_WORD_LETTERS : ∃ t, mg "WORD_LETTERS" = some (.int 2 t)
  g_MOST_DEEP : ∃ t, mg "MOST_DEEP" = some (.int 30 t)
  g_MOST_SIZE : ∃ t, mg "MOST_SIZE" = some (.int 300 t)
  g_MOST_TIMES : ∃ t, mg "MOST_TIMES" = some (.int 9 t)
  g_SIGNS : mg "SIGNS" = some (.ref Z.c_SIGNS)
  d_SIGNS : ∀ H M, Dq K H M (.ref Z.c_SIGNS) (.tuple [.str "<", .str "=", .str ">"])
  g_ALONE : mg "ALONE" = some (.ref Z.c_ALONE)
  d_ALONE : ∀ H M, Dq K H M (.ref Z.c_ALONE) (.tuple [.str "any", .str "here"])
  g_NAMED : mg "NAMED" = some (.ref Z.c_NAMED)
  d_NAMED : ∀ H M, Dq K H M (.ref Z.c_NAMED) (.tuple [.str "word", .str "back"])
  g_PAIRED : mg "PAIRED" = some (.ref Z.c_PAIRED)
  d_PAIRED : ∀ H M, Dq K H M (.ref Z.c_PAIRED) (.tuple [.str "then", .str "or"])
  g_LONE : mg "LONE" = some (.ref Z.c_LONE)
  d_LONE : ∀ H M, Dq K H M (.ref Z.c_LONE) (.tuple [.str "star", .str "plus", .str "maybe"])
  g_MOST_SIGNS : ∃ t, mg "MOST_SIGNS" = some (.int 100000 t)
  g_FIGURES : ∃ t, mg "FIGURES" = some (.str "0123456789" t)
  g_MOST_FIGURES : ∃ t, mg "MOST_FIGURES" = some (.int 20 t)
  g_TESTS : ∃ t, mg "TESTS" = some (.str "<=>" t)
  g_SIGN_OF : mg "SIGN_OF" = some (.ref Z.c_SIGN_OF)
  t_SIGN_OF : KTab K w Z.c_SIGN_OF kv_SIGN_OF
  g_KIND_OF : mg "KIND_OF" = some (.ref Z.c_KIND_OF)
  t_KIND_OF : KTab K w Z.c_KIND_OF kv_KIND_OF
  n_abs : mg "abs" = none
  n_all : mg "all" = none
  n_bool : mg "bool" = none
  n_int : mg "int" = none
  n_isinstance : mg "isinstance" = none
  n_len : mg "len" = none
  n_list : mg "list" = none
  n_max : mg "max" = none
  n_min : mg "min" = none
  n_range : mg "range" = none
  n_repr : mg "repr" = none
  n_str : mg "str" = none
  n_sum : mg "sum" = none
  n_tuple : mg "tuple" = none
  ei_NoExpression : PySem.W.excIn K Z.c_NoExpression [.type "ValueError", .type "Exception", .type "BaseException", .type "object"] "ValueError.__new__" = true
  ke_NoExpression : PySem.W.keepIn K (.ref Z.c_NoExpression) = true
  sb_NoExpression : PySem.W.subIn K (.ref Z.c_NoExpression) (.type "BaseException") = some true
  ty_NoExpression : PySem.W.typeIn K (.ref Z.c_NoExpression) = some (.type "type")
  oe_BadSigns : OexC K Z.c_BadSigns
  in_BadSigns : PySem.W.findIn K (.ref Z.c_BadSigns) "__init__" = some (some (.ref Z.f_BadSigns_init))
  ti_BadSigns : PySem.W.typeIn K (.ref Z.f_BadSigns_init) = some (.type "function")
  xn_BadSigns : PySem.W.findIn K (.ref Z.c_BadSigns) "at" = some none
  xf_BadSigns : XfC K Z.c_BadSigns
  xe_NoExpression : ExcC K Z.c_NoExpression
  xm_NoExpression_NoExpression : PySem.W.exmOne K (.ref Z.c_NoExpression) (.ref Z.c_NoExpression) = some true
  xi_NoExpression_StoreError : PySem.W.kitOne K (.ref Z.c_NoExpression) (.ref Z.c_StoreError) = some true
  xt_NoExpression_NoPath_TooMany : PySem.W.kitAny K (.ref Z.c_NoExpression) [.ref Z.c_NoPath, .ref Z.c_TooMany] = some false
  cd_law : Z.e_law.code = .ref Z.kc_law
section
variable {K : PySem.W.Frag} {mg : Str → Option Value} {Z : Ad} {w : World}
theorem bd_is_integer (z : Fx K mg Z w) : Binds K Z.e_is_integer ["thing"] [] := FunD.bindsN (ps := ["thing"]) z.F_is_integer fun _ _ _ _ _ _ us hl => match us, hl with | [_], _ => rfl
theorem bd_is_within (z : Fx K mg Z w) : Binds K Z.e_is_within ["thing", "least", "most"] [] := FunD.bindsN (ps := ["thing", "least", "most"]) z.F_is_within fun _ _ _ _ _ _ us hl => match us, hl with | [_, _, _], _ => rfl
theorem bd_is_worth (z : Fx K mg Z w) : Binds K Z.e_is_worth ["thing"] [] := FunD.bindsN (ps := ["thing"]) z.F_is_worth fun _ _ _ _ _ _ us hl => match us, hl with | [_], _ => rfl
theorem bd_TooMany_init (z : Fx K mg Z w) : Binds K Z.e_TooMany_init ["self", "most"] [] := FunD.bindsN (ps := ["self", "most"]) z.F_TooMany_init fun _ _ _ _ _ _ us hl => match us, hl with | [_, _], _ => rfl
theorem bd_BadSigns_init (z : Fx K mg Z w) : Binds K Z.e_BadSigns_init ["self", "at"] [] := FunD.bindsN (ps := ["self", "at"]) z.F_BadSigns_init fun _ _ _ _ _ _ us hl => match us, hl with | [_, _], _ => rfl
theorem bd_are_letters (z : Fx K mg Z w) : Binds K Z.e_are_letters ["thing", "many"] [] := FunD.bindsN (ps := ["thing", "many"]) z.F_are_letters fun _ _ _ _ _ _ us hl => match us, hl with | [_, _], _ => rfl
theorem bd_is_word (z : Fx K mg Z w) : Binds K Z.e_is_word ["thing"] [] := FunD.bindsN (ps := ["thing"]) z.F_is_word fun _ _ _ _ _ _ us hl => match us, hl with | [_], _ => rfl
theorem bd_is_atom (z : Fx K mg Z w) : Binds K Z.e_is_atom ["thing"] [] := FunD.bindsN (ps := ["thing"]) z.F_is_atom fun _ _ _ _ _ _ us hl => match us, hl with | [_], _ => rfl
theorem bd_parts_of (z : Fx K mg Z w) : Binds K Z.e_parts_of ["thing"] [] := FunD.bindsN (ps := ["thing"]) z.F_parts_of fun _ _ _ _ _ _ us hl => match us, hl with | [_], _ => rfl
theorem bd_is_kind (z : Fx K mg Z w) : Binds K Z.e_is_kind ["thing"] [] := FunD.bindsN (ps := ["thing"]) z.F_is_kind fun _ _ _ _ _ _ us hl => match us, hl with | [_], _ => rfl
theorem bd_is_sign (z : Fx K mg Z w) : Binds K Z.e_is_sign ["thing"] [] := FunD.bindsN (ps := ["thing"]) z.F_is_sign fun _ _ _ _ _ _ us hl => match us, hl with | [_], _ => rfl
theorem bd_size_within (z : Fx K mg Z w) : Binds K Z.e_size_within ["thing", "deep"] [] := FunD.bindsN (ps := ["thing", "deep"]) z.F_size_within fun _ _ _ _ _ _ us hl => match us, hl with | [_, _], _ => rfl
theorem bd_size_of (z : Fx K mg Z w) : Binds K Z.e_size_of ["thing"] [] := FunD.bindsN (ps := ["thing"]) z.F_size_of fun _ _ _ _ _ _ us hl => match us, hl with | [_], _ => rfl
theorem bd_is_expression (z : Fx K mg Z w) : Binds K Z.e_is_expression ["thing"] [] := FunD.bindsN (ps := ["thing"]) z.F_is_expression fun _ _ _ _ _ _ us hl => match us, hl with | [_], _ => rfl
theorem bd_check_expression (z : Fx K mg Z w) : Binds K Z.e_check_expression ["thing"] [] := FunD.bindsN (ps := ["thing"]) z.F_check_expression fun _ _ _ _ _ _ us hl => match us, hl with | [_], _ => rfl
theorem bd_in_parentheses (z : Fx K mg Z w) : Binds K Z.e_in_parentheses ["text"] [] := FunD.bindsN (ps := ["text"]) z.F_in_parentheses fun _ _ _ _ _ _ us hl => match us, hl with | [_], _ => rfl
theorem bd_atom_text (z : Fx K mg Z w) : Binds K Z.e_atom_text ["thing"] [] := FunD.bindsN (ps := ["thing"]) z.F_atom_text fun _ _ _ _ _ _ us hl => match us, hl with | [_], _ => rfl
theorem bd_part_text (z : Fx K mg Z w) : Binds K Z.e_part_text ["thing", "barred"] [] := FunD.bindsN (ps := ["thing", "barred"]) z.F_part_text fun _ _ _ _ _ _ us hl => match us, hl with | [_, _], _ => rfl
theorem bd_text_of (z : Fx K mg Z w) : Binds K Z.e_text_of ["thing"] [] := FunD.bindsN (ps := ["thing"]) z.F_text_of fun _ _ _ _ _ _ us hl => match us, hl with | [_], _ => rfl
theorem bd_expression_text (z : Fx K mg Z w) : Binds K Z.e_expression_text ["expression"] [] := FunD.bindsN (ps := ["expression"]) z.F_expression_text fun _ _ _ _ _ _ us hl => match us, hl with | [_], _ => rfl
theorem bd_Frame_init (z : Fx K mg Z w) : Binds K Z.e_Frame_init ["self"] [] := FunD.bindsN (ps := ["self"]) z.F_Frame_init fun _ _ _ _ _ _ us hl => match us, hl with | [_], _ => rfl
theorem bd_Frame_add (z : Fx K mg Z w) : Binds K Z.e_Frame_add ["self", "thing"] [] := FunD.bindsN (ps := ["self", "thing"]) z.F_Frame_add fun _ _ _ _ _ _ us hl => match us, hl with | [_, _], _ => rfl
theorem bd_Frame_join (z : Fx K mg Z w) : Binds K Z.e_Frame_join ["self"] [] := FunD.bindsN (ps := ["self"]) z.F_Frame_join fun _ _ _ _ _ _ us hl => match us, hl with | [_], _ => rfl
theorem bd_Frame_part (z : Fx K mg Z w) : Binds K Z.e_Frame_part ["self"] [] := FunD.bindsN (ps := ["self"]) z.F_Frame_part fun _ _ _ _ _ _ us hl => match us, hl with | [_], _ => rfl
theorem bd_Frame_whole (z : Fx K mg Z w) : Binds K Z.e_Frame_whole ["self"] [] := FunD.bindsN (ps := ["self"]) z.F_Frame_whole fun _ _ _ _ _ _ us hl => match us, hl with | [_], _ => rfl
theorem bd_Text_init (z : Fx K mg Z w) : Binds K Z.e_Text_init ["self", "text"] [] := FunD.bindsN (ps := ["self", "text"]) z.F_Text_init fun _ _ _ _ _ _ us hl => match us, hl with | [_, _], _ => rfl
theorem bd_Text_sign (z : Fx K mg Z w) : Binds K Z.e_Text_sign ["self"] [] := FunD.bindsN (ps := ["self"]) z.F_Text_sign fun _ _ _ _ _ _ us hl => match us, hl with | [_], _ => rfl
theorem bd_Text_fail (z : Fx K mg Z w) : Binds K Z.e_Text_fail ["self"] [] := FunD.bindsN (ps := ["self"]) z.F_Text_fail fun _ _ _ _ _ _ us hl => match us, hl with | [_], _ => rfl
theorem bd_Text_take (z : Fx K mg Z w) : Binds K Z.e_Text_take ["self", "signs"] [] := FunD.bindsN (ps := ["self", "signs"]) z.F_Text_take fun _ _ _ _ _ _ us hl => match us, hl with | [_, _], _ => rfl
theorem bd_Text_word (z : Fx K mg Z w) : Binds K Z.e_Text_word ["self"] [] := FunD.bindsN (ps := ["self"]) z.F_Text_word fun _ _ _ _ _ _ us hl => match us, hl with | [_], _ => rfl
theorem bd_Text_worth (z : Fx K mg Z w) : Binds K Z.e_Text_worth ["self"] [] := FunD.bindsN (ps := ["self"]) z.F_Text_worth fun _ _ _ _ _ _ us hl => match us, hl with | [_], _ => rfl
theorem bd_Text_atom (z : Fx K mg Z w) : Binds K Z.e_Text_atom ["self"] [] := FunD.bindsN (ps := ["self"]) z.F_Text_atom fun _ _ _ _ _ _ us hl => match us, hl with | [_], _ => rfl
theorem bd_Text_begin (z : Fx K mg Z w) : Binds K Z.e_Text_begin ["self"] [] := FunD.bindsN (ps := ["self"]) z.F_Text_begin fun _ _ _ _ _ _ us hl => match us, hl with | [_], _ => rfl
theorem bd_Text_times (z : Fx K mg Z w) : Binds K Z.e_Text_times ["self"] [] := FunD.bindsN (ps := ["self"]) z.F_Text_times fun _ _ _ _ _ _ us hl => match us, hl with | [_], _ => rfl
theorem bd_Text_go_on (z : Fx K mg Z w) : Binds K Z.e_Text_go_on ["self"] [] := FunD.bindsN (ps := ["self"]) z.F_Text_go_on fun _ _ _ _ _ _ us hl => match us, hl with | [_], _ => rfl
theorem bd_Text_read (z : Fx K mg Z w) : Binds K Z.e_Text_read ["self"] [] := FunD.bindsN (ps := ["self"]) z.F_Text_read fun _ _ _ _ _ _ us hl => match us, hl with | [_], _ => rfl
theorem bd_read_expression (z : Fx K mg Z w) : Binds K Z.e_read_expression ["text"] [] := FunD.bindsN (ps := ["text"]) z.F_read_expression fun _ _ _ _ _ _ us hl => match us, hl with | [_], _ => rfl
theorem bd_L_mixed (z : Fx K mg Z w) : Binds K Z.e_L_mixed ["_law_cell", "_law_turn"] [] := FunD.bindsN (ps := ["_law_cell", "_law_turn"]) z.F_L_mixed fun _ _ _ _ _ _ us hl => match us, hl with | [_, _], _ => rfl
theorem bd_L_hand (z : Fx K mg Z w) : Binds K Z.e_L_hand ["_law_script"] [] := FunD.bindsN (ps := ["_law_script"]) z.F_L_hand fun _ _ _ _ _ _ us hl => match us, hl with | [_], _ => rfl
theorem bd_L_draw (z : Fx K mg Z w) : Binds K Z.e_L_draw ["_law_hand_here", "_law_many"] [] := FunD.bindsN (ps := ["_law_hand_here", "_law_many"]) z.F_L_draw fun _ _ _ _ _ _ us hl => match us, hl with | [_, _], _ => rfl
theorem bd_L_letters (z : Fx K mg Z w) : Binds K Z.e_L_letters ["_law_hand_here", "_law_many"] [] := FunD.bindsN (ps := ["_law_hand_here", "_law_many"]) z.F_L_letters fun _ _ _ _ _ _ us hl => match us, hl with | [_, _], _ => rfl
theorem bd_L_words (z : Fx K mg Z w) : Binds K Z.e_L_words ["_law_hand_here"] [] := FunD.bindsN (ps := ["_law_hand_here"]) z.F_L_words fun _ _ _ _ _ _ us hl => match us, hl with | [_], _ => rfl
theorem bd_L_worths (z : Fx K mg Z w) : Binds K Z.e_L_worths ["_law_hand_here"] [] := FunD.bindsN (ps := ["_law_hand_here"]) z.F_L_worths fun _ _ _ _ _ _ us hl => match us, hl with | [_], _ => rfl
theorem bd_L_atom (z : Fx K mg Z w) : Binds K Z.e_L_atom ["_law_hand_here", "_law_words_here", "_law_worths_here"] [] := FunD.bindsN (ps := ["_law_hand_here", "_law_words_here", "_law_worths_here"]) z.F_L_atom fun _ _ _ _ _ _ us hl => match us, hl with | [_, _, _], _ => rfl
theorem bd_L_expression (z : Fx K mg Z w) : Binds K Z.e_L_expression ["_law_hand_here", "_law_words_here", "_law_worths_here", "_law_room", "_law_deep"] [] := FunD.bindsN (ps := ["_law_hand_here", "_law_words_here", "_law_worths_here", "_law_room", "_law_deep"]) z.F_L_expression fun _ _ _ _ _ _ us hl => match us, hl with | [_, _, _, _, _], _ => rfl
theorem bd_L_is_letter (z : Fx K mg Z w) : Binds K Z.e_L_is_letter ["_law_sign"] [] := FunD.bindsN (ps := ["_law_sign"]) z.F_L_is_letter fun _ _ _ _ _ _ us hl => match us, hl with | [_], _ => rfl
theorem bd_L_lone_text (z : Fx K mg Z w) : Binds K Z.e_L_lone_text ["_law_thing"] [] := FunD.bindsN (ps := ["_law_thing"]) z.F_L_lone_text fun _ _ _ _ _ _ us hl => match us, hl with | [_], _ => rfl
theorem bd_L_sign_text (z : Fx K mg Z w) : Binds K Z.e_L_sign_text ["_law_thing"] [] := FunD.bindsN (ps := ["_law_thing"]) z.F_L_sign_text fun _ _ _ _ _ _ us hl => match us, hl with | [_], _ => rfl
theorem bd_L_blanks (z : Fx K mg Z w) : Binds K Z.e_L_blanks ["_law_hand_here"] [] := FunD.bindsN (ps := ["_law_hand_here"]) z.F_L_blanks fun _ _ _ _ _ _ us hl => match us, hl with | [_], _ => rfl
theorem bd_L_loose (z : Fx K mg Z w) : Binds K Z.e_L_loose ["_law_hand_here", "_law_thing", "_law_tight"] [] := FunD.bindsN (ps := ["_law_hand_here", "_law_thing", "_law_tight"]) z.F_L_loose fun _ _ _ _ _ _ us hl => match us, hl with | [_, _, _], _ => rfl
theorem bd_L_row (z : Fx K mg Z w) : Binds K Z.e_L_row ["_law_hand_here", "_law_word", "_law_atom_here", "_law_many"] [] := FunD.bindsN (ps := ["_law_hand_here", "_law_word", "_law_atom_here", "_law_many"]) z.F_L_row fun _ _ _ _ _ _ us hl => match us, hl with | [_, _, _, _], _ => rfl
theorem bd_L_refusal (z : Fx K mg Z w) : Binds K Z.e_L_refusal ["_law_call"] [] := FunD.bindsN (ps := ["_law_call"]) z.F_L_refusal fun _ _ _ _ _ _ us hl => match us, hl with | [_], _ => rfl
theorem bd_L_no_expression (z : Fx K mg Z w) : Binds K Z.e_L_no_expression ["_law_hand_here", "_law_thing"] [] := FunD.bindsN (ps := ["_law_hand_here", "_law_thing"]) z.F_L_no_expression fun _ _ _ _ _ _ us hl => match us, hl with | [_, _], _ => rfl
theorem bd_L_written (z : Fx K mg Z w) : Binds K Z.e_L_written ["_law_thing", "_law_tight"] [] := FunD.bindsN (ps := ["_law_thing", "_law_tight"]) z.F_L_written fun _ _ _ _ _ _ us hl => match us, hl with | [_, _], _ => rfl
theorem bd_L_is_read (z : Fx K mg Z w) : Binds K Z.e_L_is_read ["_law_text", "_law_thing"] [] := FunD.bindsN (ps := ["_law_text", "_law_thing"]) z.F_L_is_read fun _ _ _ _ _ _ us hl => match us, hl with | [_, _], _ => rfl
theorem bd_L_is_right (z : Fx K mg Z w) : Binds K Z.e_L_is_right ["_law_hand_here", "_law_thing"] [] := FunD.bindsN (ps := ["_law_hand_here", "_law_thing"]) z.F_L_is_right fun _ _ _ _ _ _ us hl => match us, hl with | [_, _], _ => rfl
theorem bd_L_great (z : Fx K mg Z w) : Binds K Z.e_L_great ["_law_hand_here", "_law_words_here", "_law_worths_here"] [] := FunD.bindsN (ps := ["_law_hand_here", "_law_words_here", "_law_worths_here"]) z.F_L_great fun _ _ _ _ _ _ us hl => match us, hl with | [_, _, _], _ => rfl
theorem bd_L_tower (z : Fx K mg Z w) : Binds K Z.e_L_tower ["_law_hand_here", "_law_thing"] [] := FunD.bindsN (ps := ["_law_hand_here", "_law_thing"]) z.F_L_tower fun _ _ _ _ _ _ us hl => match us, hl with | [_, _], _ => rfl
theorem bd_law (z : Fx K mg Z w) : Binds K Z.e_law ["_law_script"] [] := FunD.bindsN (ps := ["_law_script"]) z.F_law fun _ _ _ _ _ _ us hl => match us, hl with | [_], _ => rfl
theorem Fx.ra_NoExpression {X : Cx} (z : Fx X.K mg Z w) : Raises X (.ref Z.c_NoExpression) := raises_own z.sb_NoExpression z.ty_NoExpression
end
end Y
set_option maxHeartbeats 4000000
/-! what the program's judge of expressions comes to, on data -/
namespace Y
open PySem PySem.Spec PyProof.Rows L2
def isIntD : PyData → Bool
  | .int _ => true
  | _ => false
def inR (d : PyData) (l m : Int) : Bool := match d with
  | .int i => decide (l ≤ i) && decide (i ≤ m)
  | _ => false
def letterC (c : Nat) : Bool := decide (c ∈ ("abcdefghijklmnopqrstuvwxyz" : Str).cps.toList)
def lettersD (d : PyData) (n : Int) : Bool := match d with
  | .str z => decide ((z.length : Int) = n) && z.cps.toList.all letterC
  | _ => false
def worthD (d : PyData) : Bool := inR d (-1000000000000000000) 1000000000000000000
/-- texts within are not too long -/
def strOk : PyData → Bool
  | .str z => decide (z.length ≤ 100000)
  | _ => true
def kindD : PyData → Bool
  | .tuple (.str _ :: _) => true
  | _ => false
def signD : PyData → Bool
  | .tuple [.str k, a, _] => decide (k ≠ "node") || (match a with
    | .str _ => true
    | _ => false)
  | _ => true
def atomL (k : Str) (rest : List PyData) : Bool :=
  if k = "any" ∨ k = "here" then rest.isEmpty
  else if k = "word" ∨ k = "back" then (match rest with
    | [a] => lettersD a 2
    | _ => false)
  else (match rest with
    | [.str s, b] => decide (k = "node") && (decide (s = "<" ∨ s = "=" ∨ s = ">") && worthD b)
    | _ => false)
def leastOf : PyData → Int
  | .int i => if i > 1 then i else 1
  | _ => 1
def partsL (k : Str) (rest : List PyData) : Option (List PyData) := match rest with
  | [a, b] => if k = "then" ∨ k = "or" then some [a, b] else none
  | [a] => if k = "star" ∨ k = "plus" ∨ k = "maybe" then some [a] else none
  | [a, b, c] => if k = "times" ∧ inR a 0 9 = true ∧ inR b (leastOf a) 9 = true then some [c] else none
  | _ => none
def optD : Option Int → PyData
  | none => .none
  | some i => .int i
def sumO : List (Option Int) → Option Int
  | [] => some 0
  | none :: _ => none
  | some i :: r => (sumO r).map (i + ·)
def mulBy (k : Str) (rest : List PyData) : Int := if k = "times" then (match rest with
  | _ :: .int b :: _ => b
  | _ => 1) else 1
def sizeW : Nat → PyData → Option Int
  | 0, _ => none
  | n + 1, .tuple (.str k :: rest) => if signD (.tuple (.str k :: rest)) = false then none else if atomL k rest = true then some 1 else (match partsL k rest with
    | none => none
    | some ps => (sumO (ps.map (sizeW n))).map (· * mulBy k rest))
  | _ + 1, _ => none
/-- x is this data; the empty dict passes for None -/
def AsD (M : MH) (x : Xv) (d : PyData) : Prop := x = .d d ∨ (d = .none ∧ ∃ n, x = .r (.ref n) ∧ M n = some .dic)
def sp_is_integer (Z : Ad) : SpX := fun xs M R P => ∃ d, xs = [.d d] ∧ R (.d (.bool (isIntD d))) M
def sp_is_within (Z : Ad) : SpX := fun xs M R P => ∃ d l m, xs = [.d d, .d (.int l), .d (.int m)] ∧ R (.d (.bool (inR d l m))) M
def sp_is_worth (Z : Ad) : SpX := fun xs M R P => ∃ d, xs = [.d d] ∧ R (.d (.bool (worthD d))) M
def sp_are_letters (Z : Ad) : SpX := fun xs M R P => ∃ d n, xs = [.d d, .d (.int n)] ∧ strOk d = true ∧ R (.d (.bool (lettersD d n))) M
def sp_is_word (Z : Ad) : SpX := fun xs M R P => ∃ d, xs = [.d d] ∧ strOk d = true ∧ R (.d (.bool (lettersD d 2))) M
def sp_is_atom (Z : Ad) : SpX := fun xs M R P => ∃ k rest, xs = [.d (.tuple (.str k :: rest))] ∧ rest.all strOk = true ∧ signD (.tuple (.str k :: rest)) = true ∧ R (.d (.bool (atomL k rest))) M
def sp_parts_of (Z : Ad) : SpX := fun xs M R P => ∃ k rest, xs = [.d (.tuple (.str k :: rest))] ∧ R (.d (match partsL k rest with
  | none => .none
  | some ps => .list ps)) M
def sp_is_kind (Z : Ad) : SpX := fun xs M R P => ∃ x d, xs = [x] ∧ AsD M x d ∧ R (.d (.bool (kindD d))) M
def sp_is_sign (Z : Ad) : SpX := fun xs M R P => ∃ k rest, xs = [.d (.tuple (.str k :: rest))] ∧ R (.d (.bool (signD (.tuple (.str k :: rest))))) M
mutual
/-- all texts within are not too long -/
def strsOk : PyData → Bool
  | .str z => decide (z.length ≤ 100000)
  | .tuple ds => strsAll ds
  | _ => true
def strsAll : List PyData → Bool
  | [] => true
  | d :: ds => strsOk d && strsAll ds
end
def sp_size_within (Z : Ad) (n : Nat) : SpX := fun xs M R P => ∃ x d, xs = [x, .d (.int (n : Int))] ∧ AsD M x d ∧ strsOk d = true ∧ R (.d (optD (sizeW n d))) M
def sizeO (d : PyData) : Option Int := (sizeW 30 d).bind fun i => if i > 300 then none else some i
def sp_size_of (Z : Ad) : SpX := fun xs M R P => ∃ x d, xs = [x] ∧ AsD M x d ∧ strsOk d = true ∧ R (.d (optD (sizeO d))) M
def sp_is_expression (Z : Ad) : SpX := fun xs M R P => ∃ x d, xs = [x] ∧ AsD M x d ∧ strsOk d = true ∧ R (.d (.bool (sizeO d).isSome)) M
end Y
set_option maxHeartbeats 4000000
namespace Y
open PySem PySem.Spec PyProof.Rows L2
abbrev N_is_integer : List Str := ["thing"]
theorem sc_is_integer : FnScope N_is_integer ["thing"] (defScope s_is_integer) := ⟨rfl, rfl, rfl, by decide +kernel, rfl, by decide +kernel, by decide +kernel⟩
def t_is_integer (Z : Ad) : DS :=
  (dRet (dAndV (dApp cIsi (dCons (dVar 0) (dCons (dC (.r (.ty "int"))) dNil))) (dNotV (dApp cIsi (dCons (dVar 0) (dCons (dC (.r (.ty "bool"))) dNil))))))
section
variable {P : Program} {w : World} {K : PySem.W.Frag} {mg : Str → Option Value} {base : Heap} {Z : Ad}
theorem b_is_integer (z : Fx K mg Z w)  {cdv : Value} {A : Around} {outer : List Env} {s : Shared} {H : Hp} {E : XK} (hr : Room 1 (A.deeper (envOfC "is_integer" (defScope s_is_integer) s.heap.objs.size Z.f_is_integer cdv))) :
    QSs (cxOf (L2.CX P w) P w K mg base N_is_integer "is_integer" (defScope s_is_integer) Z.f_is_integer cdv A outer s H E) E (defBody s_is_integer) (t_is_integer Z) :=
  (qss_one (retn (q_and (blt b_isi z.n_isinstance bt_isinstance (qa_cons (v 0) (qa_cons (gt z.n_int bt_int) qa_nil))) (q_one (q_not (blt b_isi z.n_isinstance bt_isinstance (qa_cons (v 0) (qa_cons (gt z.n_bool bt_bool) qa_nil))))))))
theorem ok_is_integer (z : Fx K mg Z w)  (pure : ∀ xs M R Px, xs.length = 1 → sp_is_integer Z xs M R Px → t_is_integer Z { nx := fun _ M' => R (.d .none) M', rt := R, ex := Px } (startX N_is_integer xs) M) :
    FnOk P w K mg base (L2.CX P w) 2 Z.f_is_integer Z.e_is_integer ["thing"] (toSp K 1 (sp_is_integer Z)) := fn_x z.F_is_integer sc_is_integer rfl (t_is_integer Z) (fun cdv A outer s H E hr => b_is_integer z  hr) pure
end
abbrev N_is_within : List Str := ["thing", "least", "most"]
theorem sc_is_within : FnScope N_is_within ["thing", "least", "most"] (defScope s_is_within) := ⟨rfl, rfl, rfl, by decide +kernel, rfl, by decide +kernel, by decide +kernel⟩
def t_is_within (Z : Ad) : DS :=
  (dRet (dAndV (dCall 1 (sp_is_integer Z) (dCons (dVar 0) dNil)) (dChain dLe dLe (dVar 1) (dVar 0) (dVar 2))))
section
variable {P : Program} {w : World} {K : PySem.W.Frag} {mg : Str → Option Value} {base : Heap} {Z : Ad}
theorem b_is_within (z : Fx K mg Z w) (F_is_integer : FnOk P w K mg base (L2.CX P w) 2 Z.f_is_integer Z.e_is_integer ["thing"] (toSp K 1 (sp_is_integer Z))) {cdv : Value} {A : Around} {outer : List Env} {s : Shared} {H : Hp} {E : XK} (hr : Room 2 (A.deeper (envOfC "is_within" (defScope s_is_within) s.heap.objs.size Z.f_is_within cdv))) :
    QSs (cxOf (L2.CX P w) P w K mg base N_is_within "is_within" (defScope s_is_within) Z.f_is_within cdv A outer s H E) E (defBody s_is_within) (t_is_within Z) :=
  (qss_one (retn (q_and (call F_is_integer (by first | decide | omega) hr pass_x z.g_is_integer z.k_is_integer (bd_is_integer z) (qa_cons (v 0) qa_nil)) (q_one (q_chain o_le o_le (v 1) (v 0) (v 2))))))
theorem ok_is_within (z : Fx K mg Z w) (F_is_integer : FnOk P w K mg base (L2.CX P w) 2 Z.f_is_integer Z.e_is_integer ["thing"] (toSp K 1 (sp_is_integer Z))) (pure : ∀ xs M R Px, xs.length = 3 → sp_is_within Z xs M R Px → t_is_within Z { nx := fun _ M' => R (.d .none) M', rt := R, ex := Px } (startX N_is_within xs) M) :
    FnOk P w K mg base (L2.CX P w) 3 Z.f_is_within Z.e_is_within ["thing", "least", "most"] (toSp K 3 (sp_is_within Z)) := fn_x z.F_is_within sc_is_within rfl (t_is_within Z) (fun cdv A outer s H E hr => b_is_within z F_is_integer hr) pure
end
abbrev N_is_worth : List Str := ["thing"]
theorem sc_is_worth : FnScope N_is_worth ["thing"] (defScope s_is_worth) := ⟨rfl, rfl, rfl, by decide +kernel, rfl, by decide +kernel, by decide +kernel⟩
def t_is_worth (Z : Ad) : DS :=
  (dRet (dCall 3 (sp_is_within Z) (dCons (dVar 0) (dCons (dNeg (dC (.d (.int 1000000000000000000)))) (dCons (dC (.d (.int 1000000000000000000))) dNil)))))
section
variable {P : Program} {w : World} {K : PySem.W.Frag} {mg : Str → Option Value} {base : Heap} {Z : Ad}
theorem b_is_worth (z : Fx K mg Z w) (F_is_within : FnOk P w K mg base (L2.CX P w) 3 Z.f_is_within Z.e_is_within ["thing", "least", "most"] (toSp K 3 (sp_is_within Z))) {cdv : Value} {A : Around} {outer : List Env} {s : Shared} {H : Hp} {E : XK} (hr : Room 3 (A.deeper (envOfC "is_worth" (defScope s_is_worth) s.heap.objs.size Z.f_is_worth cdv))) :
    QSs (cxOf (L2.CX P w) P w K mg base N_is_worth "is_worth" (defScope s_is_worth) Z.f_is_worth cdv A outer s H E) E (defBody s_is_worth) (t_is_worth Z) :=
  (qss_one (retn (call F_is_within (by first | decide | omega) hr pass_x z.g_is_within z.k_is_within (bd_is_within z) (qa_cons (v 0) (qa_cons (q_neg (gi z.g_MOST_WORTH)) (qa_cons (gi z.g_MOST_WORTH) qa_nil))))))
theorem ok_is_worth (z : Fx K mg Z w) (F_is_within : FnOk P w K mg base (L2.CX P w) 3 Z.f_is_within Z.e_is_within ["thing", "least", "most"] (toSp K 3 (sp_is_within Z))) (pure : ∀ xs M R Px, xs.length = 1 → sp_is_worth Z xs M R Px → t_is_worth Z { nx := fun _ M' => R (.d .none) M', rt := R, ex := Px } (startX N_is_worth xs) M) :
    FnOk P w K mg base (L2.CX P w) 4 Z.f_is_worth Z.e_is_worth ["thing"] (toSp K 1 (sp_is_worth Z)) := fn_x z.F_is_worth sc_is_worth rfl (t_is_worth Z) (fun cdv A outer s H E hr => b_is_worth z F_is_within hr) pure
end
abbrev N_are_letters : List Str := ["thing", "many", "sign"]
theorem sc_are_letters : FnScope N_are_letters ["thing", "many"] (defScope s_are_letters) := ⟨rfl, rfl, rfl, by decide +kernel, rfl, by decide +kernel, by decide +kernel⟩
def t_are_letters (Z : Ad) : DS :=
  (dRet (dAndV (dApp cIsi (dCons (dVar 0) (dCons (dC (.r (.ty "str"))) dNil))) (dAndV (dOp dEq (dApp cLen (dCons (dVar 0) dNil)) (dVar 1)) (dApp cAll (dCons (dLcS (dVar 0) 2 [2] (dOp (dInS false) (dVar 2) (dC (.d (.str "abcdefghijklmnopqrstuvwxyz"))))) dNil)))))
section
variable {P : Program} {w : World} {K : PySem.W.Frag} {mg : Str → Option Value} {base : Heap} {Z : Ad}
theorem b_are_letters (z : Fx K mg Z w)  {cdv : Value} {A : Around} {outer : List Env} {s : Shared} {H : Hp} {E : XK} (hr : Room 4 (A.deeper (envOfC "are_letters" (defScope s_are_letters) s.heap.objs.size Z.f_are_letters cdv))) :
    QSs (cxOf (L2.CX P w) P w K mg base N_are_letters "are_letters" (defScope s_are_letters) Z.f_are_letters cdv A outer s H E) E (defBody s_are_letters) (t_are_letters Z) :=
  (qss_one (retn (q_and (blt b_isi z.n_isinstance bt_isinstance (qa_cons (v 0) (qa_cons (gt z.n_str bt_str) qa_nil))) (q_and (cmp (o_eq hr.units) (blt b_len z.n_len bt_len (qa_cons (v 0) qa_nil)) (v 1)) (q_one (blt (b_all rfl) z.n_all bt_all (qa_cons (lcS 2 [("sign", 2)] sc_are_letters.nd rfl (v 0) (blkOk_by (by kernel_rfl)) (fun _ _ _ _ _ => (cmp o_in (v 2) (gs z.g_LETTERS)))) qa_nil)))))))
theorem ok_are_letters (z : Fx K mg Z w)  (pure : ∀ xs M R Px, xs.length = 2 → sp_are_letters Z xs M R Px → t_are_letters Z { nx := fun _ M' => R (.d .none) M', rt := R, ex := Px } (startX N_are_letters xs) M) :
    FnOk P w K mg base (L2.CX P w) 5 Z.f_are_letters Z.e_are_letters ["thing", "many"] (toSp K 2 (sp_are_letters Z)) := fn_x z.F_are_letters sc_are_letters rfl (t_are_letters Z) (fun cdv A outer s H E hr => b_are_letters z  hr) pure
end
abbrev N_is_word : List Str := ["thing"]
theorem sc_is_word : FnScope N_is_word ["thing"] (defScope s_is_word) := ⟨rfl, rfl, rfl, by decide +kernel, rfl, by decide +kernel, by decide +kernel⟩
def t_is_word (Z : Ad) : DS :=
  (dRet (dCall 2 (sp_are_letters Z) (dCons (dVar 0) (dCons (dC (.d (.int 2))) dNil))))
section
variable {P : Program} {w : World} {K : PySem.W.Frag} {mg : Str → Option Value} {base : Heap} {Z : Ad}
theorem b_is_word (z : Fx K mg Z w) (F_are_letters : FnOk P w K mg base (L2.CX P w) 5 Z.f_are_letters Z.e_are_letters ["thing", "many"] (toSp K 2 (sp_are_letters Z))) {cdv : Value} {A : Around} {outer : List Env} {s : Shared} {H : Hp} {E : XK} (hr : Room 5 (A.deeper (envOfC "is_word" (defScope s_is_word) s.heap.objs.size Z.f_is_word cdv))) :
    QSs (cxOf (L2.CX P w) P w K mg base N_is_word "is_word" (defScope s_is_word) Z.f_is_word cdv A outer s H E) E (defBody s_is_word) (t_is_word Z) :=
  (qss_one (retn (call F_are_letters (by first | decide | omega) hr pass_x z.g_are_letters z.k_are_letters (bd_are_letters z) (qa_cons (v 0) (qa_cons (gi z.g_WORD_LETTERS) qa_nil)))))
theorem ok_is_word (z : Fx K mg Z w) (F_are_letters : FnOk P w K mg base (L2.CX P w) 5 Z.f_are_letters Z.e_are_letters ["thing", "many"] (toSp K 2 (sp_are_letters Z))) (pure : ∀ xs M R Px, xs.length = 1 → sp_is_word Z xs M R Px → t_is_word Z { nx := fun _ M' => R (.d .none) M', rt := R, ex := Px } (startX N_is_word xs) M) :
    FnOk P w K mg base (L2.CX P w) 6 Z.f_is_word Z.e_is_word ["thing"] (toSp K 1 (sp_is_word Z)) := fn_x z.F_is_word sc_is_word rfl (t_is_word Z) (fun cdv A outer s H E hr => b_is_word z F_are_letters hr) pure
end
abbrev N_is_atom : List Str := ["thing"]
theorem sc_is_atom : FnScope N_is_atom ["thing"] (defScope s_is_atom) := ⟨rfl, rfl, rfl, by decide +kernel, rfl, by decide +kernel, by decide +kernel⟩
def t_is_atom (Z : Ad) : DS :=
  (dSeq (dIfS (dB (dOp (dInS false) (dOp dIx (dVar 0) (dC (.d (.int 0)))) (dC (.d (.tuple [.str "any", .str "here"]))))) (dRet (dOp dEq (dApp cLen (dCons (dVar 0) dNil)) (dC (.d (.int 1)))))
    dNext)
    (dSeq (dIfS (dB (dOp (dInS false) (dOp dIx (dVar 0) (dC (.d (.int 0)))) (dC (.d (.tuple [.str "word", .str "back"]))))) (dRet (dAndV (dOp dEq (dApp cLen (dCons (dVar 0) dNil)) (dC (.d (.int 2)))) (dCall 1 (sp_is_word Z) (dCons (dOp dIx (dVar 0) (dC (.d (.int 1)))) dNil))))
    dNext)
    (dRet (dAndV (dOp dEq (dApp cLen (dCons (dVar 0) dNil)) (dC (.d (.int 3)))) (dAndV (dOp dEq (dOp dIx (dVar 0) (dC (.d (.int 0)))) (dC (.d (.str "node")))) (dAndV (dOp (dInS false) (dOp dIx (dVar 0) (dC (.d (.int 1)))) (dC (.d (.tuple [.str "<", .str "=", .str ">"])))) (dCall 1 (sp_is_worth Z) (dCons (dOp dIx (dVar 0) (dC (.d (.int 2)))) dNil))))))))
section
variable {P : Program} {w : World} {K : PySem.W.Frag} {mg : Str → Option Value} {base : Heap} {Z : Ad}
theorem b_is_atom (z : Fx K mg Z w) (F_is_word : FnOk P w K mg base (L2.CX P w) 6 Z.f_is_word Z.e_is_word ["thing"] (toSp K 1 (sp_is_word Z))) (F_is_worth : FnOk P w K mg base (L2.CX P w) 4 Z.f_is_worth Z.e_is_worth ["thing"] (toSp K 1 (sp_is_worth Z))) {cdv : Value} {A : Around} {outer : List Env} {s : Shared} {H : Hp} {E : XK} (hr : Room 6 (A.deeper (envOfC "is_atom" (defScope s_is_atom) s.heap.objs.size Z.f_is_atom cdv))) :
    QSs (cxOf (L2.CX P w) P w K mg base N_is_atom "is_atom" (defScope s_is_atom) Z.f_is_atom cdv A outer s H E) E (defBody s_is_atom) (t_is_atom Z) :=
  (qss_cons (qs_if (tcmp o_in (ix i_seq (v 0) q_int) (gd z.g_ALONE z.d_ALONE)) (qss_one (retn (cmp (o_eq hr.units) (blt b_len z.n_len bt_len (qa_cons (v 0) qa_nil)) q_int)))
    qss_nil)
    (qss_cons (qs_if (tcmp o_in (ix i_seq (v 0) q_int) (gd z.g_NAMED z.d_NAMED)) (qss_one (retn (q_and (cmp (o_eq hr.units) (blt b_len z.n_len bt_len (qa_cons (v 0) qa_nil)) q_int) (q_one (call F_is_word (by first | decide | omega) hr pass_x z.g_is_word z.k_is_word (bd_is_word z) (qa_cons (ix i_seq (v 0) q_int) qa_nil))))))
    qss_nil)
    (qss_one (retn (q_and (cmp (o_eq hr.units) (blt b_len z.n_len bt_len (qa_cons (v 0) qa_nil)) q_int) (q_and (cmp (o_eq hr.units) (ix i_seq (v 0) q_int) q_str) (q_and (cmp o_in (ix i_seq (v 0) q_int) (gd z.g_SIGNS z.d_SIGNS)) (q_one (call F_is_worth (by first | decide | omega) hr pass_x z.g_is_worth z.k_is_worth (bd_is_worth z) (qa_cons (ix i_seq (v 0) q_int) qa_nil))))))))))
theorem ok_is_atom (z : Fx K mg Z w) (F_is_word : FnOk P w K mg base (L2.CX P w) 6 Z.f_is_word Z.e_is_word ["thing"] (toSp K 1 (sp_is_word Z))) (F_is_worth : FnOk P w K mg base (L2.CX P w) 4 Z.f_is_worth Z.e_is_worth ["thing"] (toSp K 1 (sp_is_worth Z))) (pure : ∀ xs M R Px, xs.length = 1 → sp_is_atom Z xs M R Px → t_is_atom Z { nx := fun _ M' => R (.d .none) M', rt := R, ex := Px } (startX N_is_atom xs) M) :
    FnOk P w K mg base (L2.CX P w) 7 Z.f_is_atom Z.e_is_atom ["thing"] (toSp K 1 (sp_is_atom Z)) := fn_x z.F_is_atom sc_is_atom rfl (t_is_atom Z) (fun cdv A outer s H E hr => b_is_atom z F_is_word F_is_worth hr) pure
end
abbrev N_parts_of : List Str := ["thing"]
theorem sc_parts_of : FnScope N_parts_of ["thing"] (defScope s_parts_of) := ⟨rfl, rfl, rfl, by decide +kernel, rfl, by decide +kernel, by decide +kernel⟩
def t_parts_of (Z : Ad) : DS :=
  (dSeq (dIfS (dAnd (dB (dOp (dInS false) (dOp dIx (dVar 0) (dC (.d (.int 0)))) (dC (.d (.tuple [.str "then", .str "or"]))))) (dB (dOp dEq (dApp cLen (dCons (dVar 0) dNil)) (dC (.d (.int 3)))))) (dRet (dLst (dCons (dOp dIx (dVar 0) (dC (.d (.int 1)))) (dCons (dOp dIx (dVar 0) (dC (.d (.int 2)))) dNil))))
    dNext)
    (dSeq (dIfS (dAnd (dB (dOp (dInS false) (dOp dIx (dVar 0) (dC (.d (.int 0)))) (dC (.d (.tuple [.str "star", .str "plus", .str "maybe"]))))) (dB (dOp dEq (dApp cLen (dCons (dVar 0) dNil)) (dC (.d (.int 2)))))) (dRet (dLst (dCons (dOp dIx (dVar 0) (dC (.d (.int 1)))) dNil)))
    dNext)
    (dSeq (dIfS (dAnd (dB (dOp dEq (dOp dIx (dVar 0) (dC (.d (.int 0)))) (dC (.d (.str "times"))))) (dAnd (dB (dOp dEq (dApp cLen (dCons (dVar 0) dNil)) (dC (.d (.int 4))))) (dB (dCall 3 (sp_is_within Z) (dCons (dOp dIx (dVar 0) (dC (.d (.int 1)))) (dCons (dC (.d (.int 0))) (dCons (dC (.d (.int 9))) dNil))))))) (dRet (dIf (dB (dCall 3 (sp_is_within Z) (dCons (dOp dIx (dVar 0) (dC (.d (.int 2)))) (dCons (dApp cMax (dCons (dC (.d (.int 1))) (dCons (dOp dIx (dVar 0) (dC (.d (.int 1)))) dNil))) (dCons (dC (.d (.int 9))) dNil))))) (dLst (dCons (dOp dIx (dVar 0) (dC (.d (.int 3)))) dNil)) (dC (.d .none))))
    dNext)
    (dRet (dC (.d .none))))))
section
variable {P : Program} {w : World} {K : PySem.W.Frag} {mg : Str → Option Value} {base : Heap} {Z : Ad}
theorem b_parts_of (z : Fx K mg Z w) (F_is_within : FnOk P w K mg base (L2.CX P w) 3 Z.f_is_within Z.e_is_within ["thing", "least", "most"] (toSp K 3 (sp_is_within Z))) {cdv : Value} {A : Around} {outer : List Env} {s : Shared} {H : Hp} {E : XK} (hr : Room 7 (A.deeper (envOfC "parts_of" (defScope s_parts_of) s.heap.objs.size Z.f_parts_of cdv))) :
    QSs (cxOf (L2.CX P w) P w K mg base N_parts_of "parts_of" (defScope s_parts_of) Z.f_parts_of cdv A outer s H E) E (defBody s_parts_of) (t_parts_of Z) :=
  (qss_cons (qs_if (QW.qt (qw_and (tcmp o_in (ix i_seq (v 0) q_int) (gd z.g_PAIRED z.d_PAIRED)) (qw_and1 (tcmp (o_eq hr.units) (blt b_len z.n_len bt_len (qa_cons (v 0) qa_nil)) q_int)))) (qss_one (retn (q_lst (qa_cons (ix i_seq (v 0) q_int) (qa_cons (ix i_seq (v 0) q_int) qa_nil)))))
    qss_nil)
    (qss_cons (qs_if (QW.qt (qw_and (tcmp o_in (ix i_seq (v 0) q_int) (gd z.g_LONE z.d_LONE)) (qw_and1 (tcmp (o_eq hr.units) (blt b_len z.n_len bt_len (qa_cons (v 0) qa_nil)) q_int)))) (qss_one (retn (q_lst (qa_cons (ix i_seq (v 0) q_int) qa_nil))))
    qss_nil)
    (qss_cons (qs_if (QW.qt (qw_and (tcmp (o_eq hr.units) (ix i_seq (v 0) q_int) q_str) (qw_and (tcmp (o_eq hr.units) (blt b_len z.n_len bt_len (qa_cons (v 0) qa_nil)) q_int) (qw_and1 (tval (call F_is_within (by first | decide | omega) hr pass_x z.g_is_within z.k_is_within (bd_is_within z) (qa_cons (ix i_seq (v 0) q_int) (qa_cons q_int (qa_cons (gi z.g_MOST_TIMES) qa_nil))))))))) (qss_one (retn (q_if (tval (call F_is_within (by first | decide | omega) hr pass_x z.g_is_within z.k_is_within (bd_is_within z) (qa_cons (ix i_seq (v 0) q_int) (qa_cons (blt (b_max rfl) z.n_max bt_max (qa_cons q_int (qa_cons (ix i_seq (v 0) q_int) qa_nil))) (qa_cons (gi z.g_MOST_TIMES) qa_nil))))) (q_lst (qa_cons (ix i_seq (v 0) q_int) qa_nil)) q_non)))
    qss_nil)
    (qss_one (retn q_non)))))
theorem ok_parts_of (z : Fx K mg Z w) (F_is_within : FnOk P w K mg base (L2.CX P w) 3 Z.f_is_within Z.e_is_within ["thing", "least", "most"] (toSp K 3 (sp_is_within Z))) (pure : ∀ xs M R Px, xs.length = 1 → sp_parts_of Z xs M R Px → t_parts_of Z { nx := fun _ M' => R (.d .none) M', rt := R, ex := Px } (startX N_parts_of xs) M) :
    FnOk P w K mg base (L2.CX P w) 8 Z.f_parts_of Z.e_parts_of ["thing"] (toSp K 1 (sp_parts_of Z)) := fn_x z.F_parts_of sc_parts_of rfl (t_parts_of Z) (fun cdv A outer s H E hr => b_parts_of z F_is_within hr) pure
end
abbrev N_is_kind : List Str := ["thing"]
theorem sc_is_kind : FnScope N_is_kind ["thing"] (defScope s_is_kind) := ⟨rfl, rfl, rfl, by decide +kernel, rfl, by decide +kernel, by decide +kernel⟩
def t_is_kind (Z : Ad) : DS :=
  (dRet (dAndV (dApp cIsi (dCons (dVar 0) (dCons (dC (.r (.ty "tuple"))) dNil))) (dAndV (dOp dGt (dApp cLen (dCons (dVar 0) dNil)) (dC (.d (.int 0)))) (dApp cIsi (dCons (dOp dIx (dVar 0) (dC (.d (.int 0)))) (dCons (dC (.r (.ty "str"))) dNil))))))
section
variable {P : Program} {w : World} {K : PySem.W.Frag} {mg : Str → Option Value} {base : Heap} {Z : Ad}
theorem b_is_kind (z : Fx K mg Z w)  {cdv : Value} {A : Around} {outer : List Env} {s : Shared} {H : Hp} {E : XK} (hr : Room 8 (A.deeper (envOfC "is_kind" (defScope s_is_kind) s.heap.objs.size Z.f_is_kind cdv))) :
    QSs (cxOf (L2.CX P w) P w K mg base N_is_kind "is_kind" (defScope s_is_kind) Z.f_is_kind cdv A outer s H E) E (defBody s_is_kind) (t_is_kind Z) :=
  (qss_one (retn (q_and (blt b_isi z.n_isinstance bt_isinstance (qa_cons (v 0) (qa_cons (gt z.n_tuple bt_tuple) qa_nil))) (q_and (cmp o_gt (blt b_len z.n_len bt_len (qa_cons (v 0) qa_nil)) q_int) (q_one (blt b_isi z.n_isinstance bt_isinstance (qa_cons (ix i_seq (v 0) q_int) (qa_cons (gt z.n_str bt_str) qa_nil))))))))
theorem ok_is_kind (z : Fx K mg Z w)  (pure : ∀ xs M R Px, xs.length = 1 → sp_is_kind Z xs M R Px → t_is_kind Z { nx := fun _ M' => R (.d .none) M', rt := R, ex := Px } (startX N_is_kind xs) M) :
    FnOk P w K mg base (L2.CX P w) 9 Z.f_is_kind Z.e_is_kind ["thing"] (toSp K 1 (sp_is_kind Z)) := fn_x z.F_is_kind sc_is_kind rfl (t_is_kind Z) (fun cdv A outer s H E hr => b_is_kind z  hr) pure
end
abbrev N_is_sign : List Str := ["thing"]
theorem sc_is_sign : FnScope N_is_sign ["thing"] (defScope s_is_sign) := ⟨rfl, rfl, rfl, by decide +kernel, rfl, by decide +kernel, by decide +kernel⟩
def t_is_sign (Z : Ad) : DS :=
  (dRet (dOrV (dOp dNe (dOp dIx (dVar 0) (dC (.d (.int 0)))) (dC (.d (.str "node")))) (dOrV (dOp dNe (dApp cLen (dCons (dVar 0) dNil)) (dC (.d (.int 3)))) (dApp cIsi (dCons (dOp dIx (dVar 0) (dC (.d (.int 1)))) (dCons (dC (.r (.ty "str"))) dNil))))))
section
variable {P : Program} {w : World} {K : PySem.W.Frag} {mg : Str → Option Value} {base : Heap} {Z : Ad}
theorem b_is_sign (z : Fx K mg Z w)  {cdv : Value} {A : Around} {outer : List Env} {s : Shared} {H : Hp} {E : XK} (hr : Room 9 (A.deeper (envOfC "is_sign" (defScope s_is_sign) s.heap.objs.size Z.f_is_sign cdv))) :
    QSs (cxOf (L2.CX P w) P w K mg base N_is_sign "is_sign" (defScope s_is_sign) Z.f_is_sign cdv A outer s H E) E (defBody s_is_sign) (t_is_sign Z) :=
  (qss_one (retn (q_or (cmp (o_ne hr.units) (ix i_seq (v 0) q_int) q_str) (q_or (cmp (o_ne hr.units) (blt b_len z.n_len bt_len (qa_cons (v 0) qa_nil)) q_int) (q_one (blt b_isi z.n_isinstance bt_isinstance (qa_cons (ix i_seq (v 0) q_int) (qa_cons (gt z.n_str bt_str) qa_nil))))))))
theorem ok_is_sign (z : Fx K mg Z w)  (pure : ∀ xs M R Px, xs.length = 1 → sp_is_sign Z xs M R Px → t_is_sign Z { nx := fun _ M' => R (.d .none) M', rt := R, ex := Px } (startX N_is_sign xs) M) :
    FnOk P w K mg base (L2.CX P w) 10 Z.f_is_sign Z.e_is_sign ["thing"] (toSp K 1 (sp_is_sign Z)) := fn_x z.F_is_sign sc_is_sign rfl (t_is_sign Z) (fun cdv A outer s H E hr => b_is_sign z  hr) pure
end
abbrev N_size_within : List Str := ["thing", "deep", "parts", "sizes", "part"]
theorem sc_size_within : FnScope N_size_within ["thing", "deep"] (defScope s_size_within) := ⟨rfl, rfl, rfl, by decide +kernel, rfl, by decide +kernel, by decide +kernel⟩
def t_size_within (spr : SpX) (Z : Ad) : DS :=
  (dSeq (dIfS (dOr (dB (dOp dEq (dVar 1) (dC (.d (.int 0))))) (dOr (dNot (dB (dCall 1 (sp_is_kind Z) (dCons (dVar 0) dNil)))) (dNot (dB (dCall 1 (sp_is_sign Z) (dCons (dVar 0) dNil)))))) (dRet (dC (.d .none)))
    dNext)
    (dSeq (dIfS (dB (dCall 1 (sp_is_atom Z) (dCons (dVar 0) dNil))) (dRet (dC (.d (.int 1))))
    dNext)
    (dSeq (dSet 2 (dCall 1 (sp_parts_of Z) (dCons (dVar 0) dNil)))
    (dSeq (dIfS (dB (dOp dIsN (dVar 2) (dC (.d .none)))) (dRet (dC (.d .none)))
    dNext)
    (dSeq (dSet 3 (dLcD (dVar 2) 4 [4] (dCall 2 spr (dCons (dVar 4) (dCons (dOp dSub (dVar 1) (dC (.d (.int 1)))) dNil)))))
    (dSeq (dIfS (dB (dOp (dInS false) (dC (.d .none)) (dVar 3))) (dRet (dC (.d .none)))
    dNext)
    (dRet (dOp dMul (dApp cSum (dCons (dVar 3) dNil)) (dIf (dB (dOp dEq (dOp dIx (dVar 0) (dC (.d (.int 0)))) (dC (.d (.str "times"))))) (dOp dIx (dVar 0) (dC (.d (.int 2)))) (dC (.d (.int 1))))))))))))
section
variable {P : Program} {w : World} {K : PySem.W.Frag} {mg : Str → Option Value} {base : Heap} {Z : Ad}
theorem b_size_within (z : Fx K mg Z w) (F_is_kind : FnOk P w K mg base (L2.CX P w) 9 Z.f_is_kind Z.e_is_kind ["thing"] (toSp K 1 (sp_is_kind Z))) (F_is_sign : FnOk P w K mg base (L2.CX P w) 10 Z.f_is_sign Z.e_is_sign ["thing"] (toSp K 1 (sp_is_sign Z))) (F_is_atom : FnOk P w K mg base (L2.CX P w) 7 Z.f_is_atom Z.e_is_atom ["thing"] (toSp K 1 (sp_is_atom Z))) (F_parts_of : FnOk P w K mg base (L2.CX P w) 8 Z.f_parts_of Z.e_parts_of ["thing"] (toSp K 1 (sp_parts_of Z))) {kk : Nat} (hk : 14 ≤ kk) {spr : SpX} (F_size_within : FnOk P w K mg base (L2.CX P w) kk Z.f_size_within Z.e_size_within ["thing", "deep"] (toSp K 2 spr)) {cdv : Value} {A : Around} {outer : List Env} {s : Shared} {H : Hp} {E : XK} (hr : Room kk (A.deeper (envOfC "size_within" (defScope s_size_within) s.heap.objs.size Z.f_size_within cdv))) :
    QSs (cxOf (L2.CX P w) P w K mg base N_size_within "size_within" (defScope s_size_within) Z.f_size_within cdv A outer s H E) E (defBody s_size_within) (t_size_within spr Z) :=
  (qss_cons (qs_if (QW.qt (qw_or (tcmp (o_eq hr.units) (v 1) q_int) (qw_or (qt_not (tval (call F_is_kind (by first | decide | omega) hr pass_x z.g_is_kind z.k_is_kind (bd_is_kind z) (qa_cons (v 0) qa_nil)))) (qw_or1 (qt_not (tval (call F_is_sign (by first | decide | omega) hr pass_x z.g_is_sign z.k_is_sign (bd_is_sign z) (qa_cons (v 0) qa_nil)))))))) (qss_one (retn q_non))
    qss_nil)
    (qss_cons (qs_if (tval (call F_is_atom (by first | decide | omega) hr pass_x z.g_is_atom z.k_is_atom (bd_is_atom z) (qa_cons (v 0) qa_nil))) (qss_one (retn q_int))
    qss_nil)
    (qss_cons (set1 2 sc_size_within.nd (call F_parts_of (by first | decide | omega) hr pass_x z.g_parts_of z.k_parts_of (bd_parts_of z) (qa_cons (v 0) qa_nil)))
    (qss_cons (qs_if (tcmp o_isN (v 2) q_non) (qss_one (retn q_non))
    qss_nil)
    (qss_cons (setLcD 3 4 [("part", 4)] sc_size_within.nd rfl (v 2) (blkOk_by (by kernel_rfl)) (fun _ _ _ _ _ => (call F_size_within (by first | decide | omega) hr passX_no z.g_size_within z.k_size_within (bd_size_within z) (qa_cons (v 4) (qa_cons (q_op o_sub (v 1) q_int) qa_nil)))) rfl)
    (qss_cons (qs_if (tcmp o_in q_non (v 3)) (qss_one (retn q_non))
    qss_nil)
    (qss_one (retn (q_op o_mul (blt (b_sum rfl) z.n_sum bt_sum (qa_cons (v 3) qa_nil)) (q_if (tcmp (o_eq hr.units) (ix i_seq (v 0) q_int) q_str) (ix i_seq (v 0) q_int) q_int))))))))))
theorem ok_size_within (z : Fx K mg Z w) (F_is_kind : FnOk P w K mg base (L2.CX P w) 9 Z.f_is_kind Z.e_is_kind ["thing"] (toSp K 1 (sp_is_kind Z))) (F_is_sign : FnOk P w K mg base (L2.CX P w) 10 Z.f_is_sign Z.e_is_sign ["thing"] (toSp K 1 (sp_is_sign Z))) (F_is_atom : FnOk P w K mg base (L2.CX P w) 7 Z.f_is_atom Z.e_is_atom ["thing"] (toSp K 1 (sp_is_atom Z))) (F_parts_of : FnOk P w K mg base (L2.CX P w) 8 Z.f_parts_of Z.e_parts_of ["thing"] (toSp K 1 (sp_parts_of Z))) {kk : Nat} (hk : 14 ≤ kk) {spr : SpX} (F_size_within : FnOk P w K mg base (L2.CX P w) kk Z.f_size_within Z.e_size_within ["thing", "deep"] (toSp K 2 spr)) {sps : SpX} (pure : ∀ xs M R Px, xs.length = 2 → sps xs M R Px → t_size_within spr Z { nx := fun _ M' => R (.d .none) M', rt := R, ex := Px } (startX N_size_within xs) M) :
    FnOk P w K mg base (L2.CX P w) (kk + 1) Z.f_size_within Z.e_size_within ["thing", "deep"] (toSp K 2 (sps)) := fn_x z.F_size_within sc_size_within rfl (t_size_within spr Z) (fun cdv A outer s H E hr => b_size_within z F_is_kind F_is_sign F_is_atom F_parts_of hk F_size_within hr) pure
end
abbrev N_size_of : List Str := ["thing", "found"]
theorem sc_size_of : FnScope N_size_of ["thing"] (defScope s_size_of) := ⟨rfl, rfl, rfl, by decide +kernel, rfl, by decide +kernel, by decide +kernel⟩
def t_size_of (Z : Ad) : DS :=
  (dSeq (dSet 1 (dCall 2 (sp_size_within Z 30) (dCons (dVar 0) (dCons (dC (.d (.int 30))) dNil))))
    (dRet (dIf (dOr (dB (dOp dIsN (dVar 1) (dC (.d .none)))) (dB (dOp dGt (dVar 1) (dC (.d (.int 300)))))) (dC (.d .none)) (dVar 1))))
section
variable {P : Program} {w : World} {K : PySem.W.Frag} {mg : Str → Option Value} {base : Heap} {Z : Ad}
theorem b_size_of (z : Fx K mg Z w) (F_size_within : FnOk P w K mg base (L2.CX P w) 45 Z.f_size_within Z.e_size_within ["thing", "deep"] (toSp K 2 (sp_size_within Z 30))) {cdv : Value} {A : Around} {outer : List Env} {s : Shared} {H : Hp} {E : XK} (hr : Room 59 (A.deeper (envOfC "size_of" (defScope s_size_of) s.heap.objs.size Z.f_size_of cdv))) :
    QSs (cxOf (L2.CX P w) P w K mg base N_size_of "size_of" (defScope s_size_of) Z.f_size_of cdv A outer s H E) E (defBody s_size_of) (t_size_of Z) :=
  (qss_cons (set1 1 sc_size_of.nd (call F_size_within (by first | decide | omega) hr pass_x z.g_size_within z.k_size_within (bd_size_within z) (qa_cons (v 0) (qa_cons (gi z.g_MOST_DEEP) qa_nil))))
    (qss_one (retn (q_if (QW.qt (qw_or (tcmp o_isN (v 1) q_non) (qw_or1 (tcmp o_gt (v 1) (gi z.g_MOST_SIZE))))) q_non (v 1)))))
theorem ok_size_of (z : Fx K mg Z w) (F_size_within : FnOk P w K mg base (L2.CX P w) 45 Z.f_size_within Z.e_size_within ["thing", "deep"] (toSp K 2 (sp_size_within Z 30))) (pure : ∀ xs M R Px, xs.length = 1 → sp_size_of Z xs M R Px → t_size_of Z { nx := fun _ M' => R (.d .none) M', rt := R, ex := Px } (startX N_size_of xs) M) :
    FnOk P w K mg base (L2.CX P w) 60 Z.f_size_of Z.e_size_of ["thing"] (toSp K 1 (sp_size_of Z)) := fn_x z.F_size_of sc_size_of rfl (t_size_of Z) (fun cdv A outer s H E hr => b_size_of z F_size_within hr) pure
end
abbrev N_is_expression : List Str := ["thing"]
theorem sc_is_expression : FnScope N_is_expression ["thing"] (defScope s_is_expression) := ⟨rfl, rfl, rfl, by decide +kernel, rfl, by decide +kernel, by decide +kernel⟩
def t_is_expression (Z : Ad) : DS :=
  (dRet (dOp dNotN (dCall 1 (sp_size_of Z) (dCons (dVar 0) dNil)) (dC (.d .none))))
section
variable {P : Program} {w : World} {K : PySem.W.Frag} {mg : Str → Option Value} {base : Heap} {Z : Ad}
theorem b_is_expression (z : Fx K mg Z w) (F_size_of : FnOk P w K mg base (L2.CX P w) 60 Z.f_size_of Z.e_size_of ["thing"] (toSp K 1 (sp_size_of Z))) {cdv : Value} {A : Around} {outer : List Env} {s : Shared} {H : Hp} {E : XK} (hr : Room 60 (A.deeper (envOfC "is_expression" (defScope s_is_expression) s.heap.objs.size Z.f_is_expression cdv))) :
    QSs (cxOf (L2.CX P w) P w K mg base N_is_expression "is_expression" (defScope s_is_expression) Z.f_is_expression cdv A outer s H E) E (defBody s_is_expression) (t_is_expression Z) :=
  (qss_one (retn (cmp o_notN (call F_size_of (by first | decide | omega) hr pass_x z.g_size_of z.k_size_of (bd_size_of z) (qa_cons (v 0) qa_nil)) q_non)))
theorem ok_is_expression (z : Fx K mg Z w) (F_size_of : FnOk P w K mg base (L2.CX P w) 60 Z.f_size_of Z.e_size_of ["thing"] (toSp K 1 (sp_size_of Z))) (pure : ∀ xs M R Px, xs.length = 1 → sp_is_expression Z xs M R Px → t_is_expression Z { nx := fun _ M' => R (.d .none) M', rt := R, ex := Px } (startX N_is_expression xs) M) :
    FnOk P w K mg base (L2.CX P w) 61 Z.f_is_expression Z.e_is_expression ["thing"] (toSp K 1 (sp_is_expression Z)) := fn_x z.F_is_expression sc_is_expression rfl (t_is_expression Z) (fun cdv A outer s H E hr => b_is_expression z F_size_of hr) pure
end
end Y
set_option maxHeartbeats 4000000
namespace Y
open PySem PySem.Spec PyProof.Rows L2
theorem kb_int (d : PyData) : kitB (tyD d) "int" = some (match d with
  | .int _ => true
  | .bool _ => true
  | _ => false) := by cases d <;> kernel_rfl
theorem kb_bool (d : PyData) : kitB (tyD d) "bool" = some (match d with
  | .bool _ => true
  | _ => false) := by cases d <;> kernel_rfl
theorem kb_str (d : PyData) : kitB (tyD d) "str" = some (match d with
  | .str _ => true
  | _ => false) := by cases d <;> kernel_rfl
theorem kb_tuple (d : PyData) : kitB (tyD d) "tuple" = some (match d with
  | .tuple _ => true
  | _ => false) := by cases d <;> kernel_rfl
theorem dComp_of {n : Nat} {f : Nat → PyData} {i : Nat} {own : List Nat} {te : DX} {r : DEnv} {M : MH} {R : DR} {P : PX} (g : Nat → PyData) (h0 : n ≤ sizeLine)
    (h : ∀ k, k < n → ∀ M', (∀ a o, M a = some o → M' a = some o) → te ((wipeX r own).set i (some (.d (f k)))) M' (fun z M'' => z = .d (g k) ∧ M'' = M') (fun _ _ _ => False)) (hR : R (.d (.list ((List.range n).map g))) M) : dComp n f i own te r M R P := by
  refine ⟨(List.range n).map g, by simp, h0, fun k y hk ey M' sup => ?_, hR⟩
  have e : ((List.range n).map g)[k]? = some (g k) := by simp [hk]
  rw [e] at ey
  cases ey
  exact h k hk M' sup
theorem range_getD {α β : Type} (φ : α → β) (d : α) : ∀ l : List α, (List.range l.length).map (fun k => φ (l.getD k d)) = l.map φ := fun l => by
  apply List.ext_getElem
  · simp
  · intro k h1 h2
    simp at h1 h2
    simp [h2]
theorem range_arr {β : Type} (φ : Nat → β) (a : Array Nat) : (List.range a.size).map (fun k => φ (a.getD k 0)) = a.toList.map φ := by
  obtain ⟨l⟩ := a
  have h := range_getD φ 0 l
  rw [← h]
  refine List.map_congr_left fun k hk => ?_
  simp [List.getD_eq_getElem?_getD, Array.getD_eq_getD_getElem?]
theorem allB_map {α : Type} (φ : α → Bool) : ∀ l : List α, allB (l.map fun x => PyData.bool (φ x)) = some (l.map φ)
  | [] => rfl
  | a :: l => by
    rw [List.map_cons, List.map_cons]
    unfold allB
    rw [allB_map φ l]
    rfl
theorem atI_0 {α : Type} (a : α) (l : List α) : atI (a :: l) 0 = some a := by
  unfold atI ixN
  rw [if_pos (Int.le_refl 0), if_pos (by simp only [List.length_cons]; omega)]
  rfl
theorem atI_1 {α : Type} (a b : α) (l : List α) : atI (a :: b :: l) 1 = some b := by
  unfold atI ixN
  rw [if_pos (by decide), if_pos (by simp only [List.length_cons]; omega)]
  rfl
theorem atI_2 {α : Type} (a b c : α) (l : List α) : atI (a :: b :: c :: l) 2 = some c := by
  unfold atI ixN
  rw [if_pos (by decide), if_pos (by simp only [List.length_cons]; omega)]
  rfl
theorem atI_3 {α : Type} (a b c d : α) (l : List α) : atI (a :: b :: c :: d :: l) 3 = some d := by
  unfold atI ixN
  rw [if_pos (by decide), if_pos (by simp only [List.length_cons]; omega)]
  rfl
theorem dIx_t {ds : List PyData} {i : Int} {d : PyData} {M : MH} {R : DR} {P : PX} (e : atI ds i = some d) : dIx (.d (.tuple ds)) (.d (.int i)) M R P = R (.d d) M := by
  show (match atI ds i with
    | some d => R (.d d) M
    | none => False) = _
  rw [e]
theorem dIx_l {ds : List PyData} {i : Int} {d : PyData} {M : MH} {R : DR} {P : PX} (e : atI ds i = some d) : dIx (.d (.list ds)) (.d (.int i)) M R P = R (.d d) M := by
  show (match atI ds i with
    | some d => R (.d d) M
    | none => False) = _
  rw [e]
theorem dInS_t {k : Str} {ds : List PyData} {neg : Bool} {M : MH} {R : DR} {P : PX} (h : ds.all plainD = true) : dInS neg (.d (.str k)) (.d (.tuple ds)) M R P = R (.d (.bool (if neg then !(ds.any fun z => PyData.eqv z (.str k)) else ds.any fun z => PyData.eqv z (.str k)))) M := by
  show (plainD (.str k) = true ∧ ds.all plainD = true ∧ _) = _
  rw [h]
  simp [plainD]
theorem dEq_ss {a b : Str} {M : MH} {R : DR} {P : PX} : dEq (.d (.str a)) (.d (.str b)) M R P = R (.d (.bool (a == b))) M := by
  show ((_ ∨ _) ∧ R (.d (.bool (PyData.eqv (.str a) (.str b)))) M) = _
  simp [scalD, PyData.eqv]
theorem dEq_ii {a b : Int} {M : MH} {R : DR} {P : PX} : dEq (.d (.int a)) (.d (.int b)) M R P = R (.d (.bool (a == b))) M := by
  show ((_ ∨ _) ∧ R (.d (.bool (PyData.eqv (.int a) (.int b)))) M) = _
  simp [scalD, PyData.eqv]
theorem dNe_ss {a b : Str} {M : MH} {R : DR} {P : PX} : dNe (.d (.str a)) (.d (.str b)) M R P = R (.d (.bool (!(a == b)))) M := by
  show ((_ ∨ _) ∧ R (.d (.bool (!PyData.eqv (.str a) (.str b)))) M) = _
  simp [scalD, PyData.eqv]
theorem dNe_ii {a b : Int} {M : MH} {R : DR} {P : PX} : dNe (.d (.int a)) (.d (.int b)) M R P = R (.d (.bool (!(a == b)))) M := by
  show ((_ ∨ _) ∧ R (.d (.bool (!PyData.eqv (.int a) (.int b)))) M) = _
  simp [scalD, PyData.eqv]
theorem cLen_t {ds : List PyData} {M : MH} {R : DR} {P : PX} : cLen [.d (.tuple ds)] M R P = R (.d (.int (ds.length : Nat))) M := rfl
theorem cLen_l {ds : List PyData} {M : MH} {R : DR} {P : PX} : cLen [.d (.list ds)] M R P = R (.d (.int (ds.length : Nat))) M := rfl
theorem cLen_s {z : Str} {M : MH} {R : DR} {P : PX} (h : z.length ≤ sizeLine) : cLen [.d (.str z)] M R P = R (.d (.int (z.length : Nat))) M := by
  show (match (if z.length ≤ sizeLine then some z.length else none) with
    | some n => R (.d (.int (n : Nat))) M
    | none => False) = _
  rw [if_pos h]
theorem cIsi_d {d : PyData} {n : String} {b : Bool} {M : MH} {R : DR} {P : PX} (h : kitB (tyD d) n = some b) : cIsi [.d d, .r (.ty n)] M R P = R (.d (.bool b)) M := by
  show (match kitB (tyD d) n with
    | some b => R (.d (.bool b)) M
    | none => False) = _
  rw [h]
theorem pure_is_integer {Z : Ad} (xs : List Xv) (M : MH) (R : DR) (P : PX) (hl : xs.length = 1) (h : sp_is_integer Z xs M R P) : t_is_integer Z { nx := fun _ M' => R (.d .none) M', rt := R, ex := P } (startX N_is_integer xs) M := by
  obtain ⟨d, rfl, h⟩ := h
  show dRet _ _ [some (.d d)] M
  simp only [dRet, dAndV, dNotV, dApp, dCons, dNil, dVar, dC, cIsi, List.getElem?_cons_zero, kb_int, kb_bool]
  cases d <;> exact h
theorem pure_is_within {Z : Ad} (xs : List Xv) (M : MH) (R : DR) (P : PX) (hl : xs.length = 3) (h : sp_is_within Z xs M R P) : t_is_within Z { nx := fun _ M' => R (.d .none) M', rt := R, ex := P } (startX N_is_within xs) M := by
  obtain ⟨d, l, m, rfl, h⟩ := h
  show dRet _ _ [some (.d d), some (.d (.int l)), some (.d (.int m))] M
  simp only [dRet, dAndV, dCall, dChain, dLe, dI, dCons, dNil, dVar, dC, List.getElem?_cons_zero, List.getElem?_cons_succ, sp_is_integer]
  refine ⟨rfl, d, rfl, ?_⟩
  cases d with
  | int i =>
    refine ⟨trivial, ?_⟩
    by_cases h1 : l ≤ i
    · simp only [inR, h1, decide_true, Bool.true_and] at h ⊢
      exact ⟨trivial, h⟩
    · simp only [inR, h1, decide_false, Bool.false_and] at h ⊢
      exact h
  | _ => exact h
theorem pure_is_worth {Z : Ad} (xs : List Xv) (M : MH) (R : DR) (P : PX) (hl : xs.length = 1) (h : sp_is_worth Z xs M R P) : t_is_worth Z { nx := fun _ M' => R (.d .none) M', rt := R, ex := P } (startX N_is_worth xs) M := by
  obtain ⟨d, rfl, h⟩ := h
  exact ⟨rfl, d, -1000000000000000000, 1000000000000000000, rfl, h⟩
theorem pure_are_letters {Z : Ad} (xs : List Xv) (M : MH) (R : DR) (P : PX) (hl : xs.length = 2) (h : sp_are_letters Z xs M R P) : t_are_letters Z { nx := fun _ M' => R (.d .none) M', rt := R, ex := P } (startX N_are_letters xs) M := by
  obtain ⟨d, n, rfl, hs, h⟩ := h
  show dRet _ _ [some (.d d), some (.d (.int n)), none] M
  simp only [dRet, dAndV, dOp, dEq, dApp, dCons, dNil, dVar, dC, cIsi, cLen, List.getElem?_cons_zero, List.getElem?_cons_succ, kb_str]
  cases d with
  | str z =>
    have hz : z.length ≤ 100000 := of_decide_eq_true hs
    have hz2 : z.length ≤ sizeLine := by rw [sizeLine_eq]; omega
    simp only [lenX, if_pos hz2, if_true]
    refine ⟨Or.inl rfl, ?_⟩
    simp only [PyData.eqv]
    by_cases e : (z.length : Int) = n
    · simp only [lettersD, e, decide_true, Bool.true_and, beq_self_eq_true, if_true, cAll, dLcS] at h ⊢
      simp only [dVar, List.getElem?_cons_zero]
      refine dComp_of (fun k => .bool (letterC (z.cps.getD k 0))) hz2 (fun k hk M' _ => ?_) ?_
      · show dOp _ _ _ [some (.d (.str z)), some (.d (.int n)), some (.d (.str ⟨#[z.cps.getD k 0]⟩))] M' _ _
        exact ⟨_, rfl, rfl, rfl⟩
      · have e3 := range_arr (fun c => PyData.bool (letterC c)) z.cps
        show match allB ((List.range z.cps.size).map fun k => PyData.bool (letterC (z.cps.getD k 0))) with
          | some ns => R (.d (.bool (ns.all id))) M
          | none => False
        rw [e3, allB_map]
        have e4 : (z.cps.toList.map letterC).all id = z.cps.toList.all letterC := by rw [List.all_map]; rfl
        show R (.d (.bool ((z.cps.toList.map letterC).all id))) M
        rw [e4]
        exact h
    · have e2 : ((z.length : Int) == n) = false := by simpa using e
      simp only [lettersD, e, decide_false, Bool.false_and, e2] at h ⊢
      exact h
  | _ => exact h
theorem pure_is_word {Z : Ad} (xs : List Xv) (M : MH) (R : DR) (P : PX) (hl : xs.length = 1) (h : sp_is_word Z xs M R P) : t_is_word Z { nx := fun _ M' => R (.d .none) M', rt := R, ex := P } (startX N_is_word xs) M := by
  obtain ⟨d, rfl, h⟩ := h
  exact ⟨rfl, d, 2, rfl, h⟩
end Y
set_option maxHeartbeats 4000000
namespace Y
open PySem PySem.Spec PyProof.Rows L2
theorem eqv_ss (a b : Str) : PyData.eqv (.str a) (.str b) = (a == b) := rfl
theorem any2 (a b k : Str) : ([PyData.str a, .str b].any fun z => PyData.eqv z (.str k)) = decide (k = a ∨ k = b) := by
  rw [Bool.eq_iff_iff]
  simp only [List.any_cons, List.any_nil, eqv_ss, Bool.or_false, Bool.or_eq_true, beq_iff_eq, decide_eq_true_eq]
  exact ⟨fun h => h.imp Eq.symm Eq.symm, fun h => h.imp Eq.symm Eq.symm⟩
theorem any3 (a b c k : Str) : ([PyData.str a, .str b, .str c].any fun z => PyData.eqv z (.str k)) = decide (k = a ∨ k = b ∨ k = c) := by
  rw [Bool.eq_iff_iff]
  simp only [List.any_cons, List.any_nil, eqv_ss, Bool.or_false, Bool.or_eq_true, beq_iff_eq, decide_eq_true_eq]
  exact ⟨fun h => h.imp Eq.symm (Or.imp Eq.symm Eq.symm), fun h => h.imp Eq.symm (Or.imp Eq.symm Eq.symm)⟩
theorem pure_is_kind {Z : Ad} (xs : List Xv) (M : MH) (R : DR) (P : PX) (hl : xs.length = 1) (h : sp_is_kind Z xs M R P) : t_is_kind Z { nx := fun _ M' => R (.d .none) M', rt := R, ex := P } (startX N_is_kind xs) M := by
  obtain ⟨x, d, rfl, hx, h⟩ := h
  rcases hx with rfl | ⟨rfl, n, rfl, hn⟩
  rotate_left
  · show dRet _ _ [some (.r (.ref n))] M
    simp only [dRet, dSet, dSeq, dIfS, dNext, dDrop, dVar, dC, dOp, dB, dAnd, dOr, dNot, dAndV, dOrV, dNotV, dIf, dNil, dCons, dCall, dApp, dChain, dSub, dLt, dLe, dGt, dGe, dI, List.getElem?_cons_zero, List.getElem?_cons_succ, List.set_cons_zero, List.set_cons_succ]
    have q : kitB "dict" "tuple" = some false := by kernel_rfl
    show (match M n with
      | some .dic => _
      | some (.lst _) => _
      | _ => False)
    rw [hn]
    dsimp only
    rw [q]
    exact h
  show dRet _ _ [some (.d d)] M
  simp only [dRet, dSet, dSeq, dIfS, dNext, dDrop, dVar, dC, dOp, dB, dAnd, dOr, dNot, dAndV, dOrV, dNotV, dIf, dNil, dCons, dCall, dApp, dChain, dSub, dLt, dLe, dGt, dGe, dI, List.getElem?_cons_zero, List.getElem?_cons_succ, List.set_cons_zero, List.set_cons_succ, cIsi_d (kb_tuple d)]
  cases d with
  | tuple ds =>
    cases ds with
    | nil => exact ⟨trivial, h⟩
    | cons a l =>
      simp only [if_true, cLen_t, dIx_t (atI_0 a l), cIsi_d (kb_str a)]
      refine ⟨trivial, ?_⟩
      have e : decide ((0 : Int) < ((a :: l).length : Nat)) = true := decide_eq_true (by simp only [List.length_cons]; omega)
      rw [e, if_pos rfl]
      cases a <;> exact h
  | _ => exact h
theorem pure_is_sign {Z : Ad} (xs : List Xv) (M : MH) (R : DR) (P : PX) (hl : xs.length = 1) (h : sp_is_sign Z xs M R P) : t_is_sign Z { nx := fun _ M' => R (.d .none) M', rt := R, ex := P } (startX N_is_sign xs) M := by
  obtain ⟨k, rest, rfl, h⟩ := h
  show dRet _ _ [some (.d (.tuple (.str k :: rest)))] M
  simp only [dRet, dSet, dSeq, dIfS, dNext, dDrop, dVar, dC, dOp, dB, dAnd, dOr, dNot, dAndV, dOrV, dNotV, dIf, dNil, dCons, dCall, dApp, dChain, dSub, dLt, dLe, dGt, dGe, dI, List.getElem?_cons_zero, List.getElem?_cons_succ, List.set_cons_zero, List.set_cons_succ, dIx_t (atI_0 _ _), dNe_ss, cLen_t, dNe_ii]
  by_cases e : k = "node"
  · subst e
    simp only [beq_self_eq_true, Bool.not_true, Bool.false_eq_true, if_false]
    match rest, h with
    | [a, b], h =>
      simp only [dIx_t (atI_1 _ _ _), cIsi_d (kb_str a)]
      simp only [signD] at h
      simp
      cases a <;> simpa using h
    | [], h => simpa [signD] using h
    | [a], h => simpa [signD] using h
    | a :: b :: c :: l, h =>
      have e2 : (((PyData.str "node" :: a :: b :: c :: l).length : Int) == 3) = false := by
        simp
        omega
      simp only [e2, Bool.not_false, if_true]
      exact h
  · have e1 : (k == ("node" : Str)) = false := by simpa using e
    simp only [e1, Bool.not_false, if_true]
    have e2 : signD (.tuple (.str k :: rest)) = true := by
      match rest with
      | [a, b] => simp [signD, e]
      | [] => rfl
      | [a] => rfl
      | a :: b :: c :: l => rfl
    rw [e2] at h
    exact h
theorem pure_is_atom {Z : Ad} (xs : List Xv) (M : MH) (R : DR) (P : PX) (hl : xs.length = 1) (h : sp_is_atom Z xs M R P) : t_is_atom Z { nx := fun _ M' => R (.d .none) M', rt := R, ex := P } (startX N_is_atom xs) M := by
  obtain ⟨k, rest, rfl, hs, hg, h⟩ := h
  show dSeq _ _ _ [some (.d (.tuple (.str k :: rest)))] M
  simp only [dRet, dSet, dSeq, dIfS, dNext, dDrop, dVar, dC, dOp, dB, dAnd, dOr, dNot, dAndV, dOrV, dNotV, dIf, dNil, dCons, dCall, dApp, dChain, dSub, dLt, dLe, dGt, dGe, dI, List.getElem?_cons_zero, List.getElem?_cons_succ, List.set_cons_zero, List.set_cons_succ, dIx_t (atI_0 _ _), dInS_t (ds := [PyData.str "any", .str "here"]) rfl, dInS_t (ds := [PyData.str "word", .str "back"]) rfl, any2, if_false, Bool.false_eq_true, cLen_t, dEq_ii, dEq_ss]
  unfold atomL at h
  by_cases e1 : k = "any" ∨ k = "here"
  · rw [if_pos e1] at h
    rw [decide_eq_true e1, if_pos rfl]
    have e2 : (((PyData.str k :: rest).length : Int) == 1) = rest.isEmpty := by cases rest <;> simp; omega
    rw [e2]
    exact h
  · rw [if_neg e1] at h
    rw [decide_eq_false e1, if_neg Bool.false_ne_true]
    by_cases e3 : k = "word" ∨ k = "back"
    · rw [if_pos e3] at h
      rw [decide_eq_true e3, if_pos rfl]
      match rest, hs, h with
      | [a], hs, h =>
        simp only [dIx_t (atI_1 _ _ _)]
        have hs' : strOk a = true := by simpa using hs
        exact ⟨rfl, a, rfl, hs', h⟩
      | [], hs, h => exact h
      | a :: b :: l, hs, h =>
        have e2 : (((PyData.str k :: a :: b :: l).length : Int) == 2) = false := by
          simp
          omega
        rw [e2, if_neg Bool.false_ne_true]
        exact h
    · rw [if_neg e3] at h
      rw [decide_eq_false e3, if_neg Bool.false_ne_true]
      match rest, hs, hg, h with
      | [a, b], hs, hg, h =>
        have e2 : (((PyData.str k :: [a, b]).length : Int) == 3) = true := rfl
        rw [e2, if_pos rfl]
        by_cases e4 : k = "node"
        · subst e4
          rw [beq_self_eq_true, if_pos rfl]
          cases a with
          | str s =>
            simp only [dIx_t (atI_1 _ _ _), dIx_t (atI_2 _ _ _ _), dInS_t (ds := [PyData.str "<", .str "=", .str ">"]) rfl, any3, if_false, Bool.false_eq_true]
            simp only [decide_true, Bool.true_and] at h
            by_cases e5 : s = "<" ∨ s = "=" ∨ s = ">"
            · rw [decide_eq_true e5] at h ⊢
              rw [if_pos rfl]
              exact ⟨rfl, b, rfl, h⟩
            · rw [decide_eq_false e5] at h ⊢
              rw [if_neg Bool.false_ne_true]
              exact h
          | _ => exact absurd hg (by simp [signD])
        · have e5 : (k == ("node" : Str)) = false := by simpa using e4
          rw [e5, if_neg Bool.false_ne_true]
          cases a with
          | str s =>
            simp only [e4, decide_false, Bool.false_and] at h
            exact h
          | _ => exact h
      | [], hs, hg, h => exact h
      | [a], hs, hg, h =>
        have e2 : (((PyData.str k :: [a]).length : Int) == 3) = false := rfl
        rw [e2, if_neg Bool.false_ne_true]
        cases a <;> exact h
      | a :: b :: c :: l, hs, hg, h =>
        have e2 : (((PyData.str k :: a :: b :: c :: l).length : Int) == 3) = false := by
          simp
          omega
        rw [e2, if_neg Bool.false_ne_true]
        cases a <;> exact h
end Y
set_option maxHeartbeats 4000000
namespace Y
open PySem PySem.Spec PyProof.Rows L2
theorem len_eq (k : PyData) (rest : List PyData) (n : Nat) : (((k :: rest).length : Int) == ((n + 1 : Nat) : Int)) = (rest.length == n) := by
  rw [Bool.eq_iff_iff]
  simp only [List.length_cons, beq_iff_eq]
  omega
theorem inR_int {d : PyData} {l m : Int} (h : inR d l m = true) : ∃ i, d = .int i ∧ l ≤ i ∧ i ≤ m := by
  cases d with
  | int i =>
    have h' : (decide (l ≤ i) && decide (i ≤ m)) = true := h
    rw [Bool.and_eq_true, decide_eq_true_eq, decide_eq_true_eq] at h'
    exact ⟨i, rfl, h'.1, h'.2⟩
  | _ => cases h
theorem pure_parts_of {Z : Ad} (xs : List Xv) (M : MH) (R : DR) (P : PX) (hl : xs.length = 1) (h : sp_parts_of Z xs M R P) : t_parts_of Z { nx := fun _ M' => R (.d .none) M', rt := R, ex := P } (startX N_parts_of xs) M := by
  obtain ⟨k, rest, rfl, h⟩ := h
  show dSeq _ _ _ [some (.d (.tuple (.str k :: rest)))] M
  simp only [dRet, dSet, dSeq, dIfS, dNext, dDrop, dVar, dC, dOp, dB, dAnd, dOr, dNot, dAndV, dOrV, dNotV, dIf, dNil, dCons, dCall, dApp, dChain, dSub, dLt, dLe, dGt, dGe, dI, List.getElem?_cons_zero, List.getElem?_cons_succ, List.set_cons_zero, List.set_cons_succ, dIx_t (atI_0 _ _), dInS_t (ds := [PyData.str "then", .str "or"]) rfl, dInS_t (ds := [PyData.str "star", .str "plus", .str "maybe"]) rfl, any2, any3, if_false, Bool.false_eq_true, cLen_t, dEq_ii, dEq_ss]
  have l2 := len_eq (.str k) rest 2
  have l1 := len_eq (.str k) rest 1
  have l3 := len_eq (.str k) rest 3
  have l2' : (((PyData.str k :: rest).length : Int) == 3) = (rest.length == 2) := l2
  have l1' : (((PyData.str k :: rest).length : Int) == 2) = (rest.length == 1) := l1
  have l3' : (((PyData.str k :: rest).length : Int) == 4) = (rest.length == 3) := l3
  rw [l2', l1', l3']
  match rest, h with
  | [a, b], h =>
    simp only [partsL] at h
    have b1 : (([a, b].length : Nat) == 1) = false := rfl
    have b2 : (([a, b].length : Nat) == 2) = true := rfl
    have b3 : (([a, b].length : Nat) == 3) = false := rfl
    simp only [b1, b2, b3, if_true, if_false, Bool.false_eq_true]
    by_cases e : k = "then" ∨ k = "or"
    · rw [if_pos e] at h
      rw [decide_eq_true e, if_pos rfl]
      unfold dLst dCons dNil
      simp only [dRet, dSet, dSeq, dIfS, dNext, dDrop, dVar, dC, dOp, dB, dAnd, dOr, dNot, dAndV, dOrV, dNotV, dIf, dNil, dCons, dCall, dApp, dChain, dSub, dLt, dLe, dGt, dGe, dI, List.getElem?_cons_zero, List.getElem?_cons_succ, List.set_cons_zero, List.set_cons_succ, dIx_t (atI_1 _ _ _), dIx_t (atI_2 _ _ _ _)]
      exact ⟨by rw [sizeLine_eq]; simp, h⟩
    · rw [if_neg e] at h
      rw [decide_eq_false e, if_neg Bool.false_ne_true]
      split <;> (split <;> exact h)
  | [a], h =>
    simp only [partsL] at h
    have b1 : (([a].length : Nat) == 1) = true := rfl
    have b2 : (([a].length : Nat) == 2) = false := rfl
    have b3 : (([a].length : Nat) == 3) = false := rfl
    simp only [b1, b2, b3, if_true, if_false, Bool.false_eq_true]
    have nothen : (if decide (k = "then" ∨ k = "or") = true then False else True) ∨ True := Or.inr trivial
    by_cases e : k = "star" ∨ k = "plus" ∨ k = "maybe"
    · rw [if_pos e] at h
      rw [decide_eq_true e]
      simp only [if_true]
      have fin : dLst (fun r M R P => dIx (.d (.tuple [.str k, a])) (.d (.int 1)) M (fun x M1 => R [x] M1) P) [some (.d (.tuple [.str k, a]))] M R P := by
        unfold dLst
        simp only [dIx_t (atI_1 _ _ _)]
        exact ⟨by rw [sizeLine_eq]; simp, h⟩
      split <;> exact fin
    · rw [if_neg e] at h
      rw [decide_eq_false e]
      simp only [if_false, Bool.false_eq_true]
      split <;> (split <;> exact h)
  | [], h =>
    have b1 : ((([] : List PyData).length : Nat) == 1) = false := rfl
    have b2 : ((([] : List PyData).length : Nat) == 2) = false := rfl
    have b3 : ((([] : List PyData).length : Nat) == 3) = false := rfl
    simp only [b1, b2, b3, if_true, if_false, Bool.false_eq_true]
    split <;> (split <;> (split <;> exact h))
  | [a, b, c], h =>
    have b1 : (([a, b, c].length : Nat) == 1) = false := rfl
    have b2 : (([a, b, c].length : Nat) == 2) = false := rfl
    have b3 : (([a, b, c].length : Nat) == 3) = true := rfl
    simp only [b1, b2, b3, if_true, if_false, Bool.false_eq_true]
    simp only [partsL] at h
    suffices q : (if (k == ("times" : Str)) = true then dIx (.d (.tuple [.str k, a, b, c])) (.d (.int 1)) M (fun x M1 => [x, Xv.d (.int 0), .d (.int 9)].length = 3 ∧ sp_is_within Z [x, .d (.int 0), .d (.int 9)] M1 (fun x M2 => match x with
        | .d (.bool k_1) => if k_1 = true then dIx (.d (.tuple [.str k, a, b, c])) (.d (.int 2)) M2 (fun x2 M3 => dIx (.d (.tuple [.str k, a, b, c])) (.d (.int 1)) M3 (fun x3 M4 => cMax [.d (.int 1), x3] M4 (fun x4 M5 => [x2, x4, Xv.d (.int 9)].length = 3 ∧ sp_is_within Z [x2, x4, .d (.int 9)] M5 (fun x M6 => match x with
            | .d (.bool k_2) => if k_2 = true then dLst (fun r M R P => dIx (.d (.tuple [.str k, a, b, c])) (.d (.int 3)) M (fun x M1 => R [x] M1) P) [some (.d (.tuple [.str k, a, b, c]))] M6 R P else R (.d .none) M6
            | _ => False) P) P) P) P else R (.d .none) M2
        | _ => False) P) P else R (.d .none) M) by
      split <;> (split <;> exact q)
    by_cases e : k = "times"
    · subst e
      rw [beq_self_eq_true, if_pos rfl, dIx_t (atI_1 _ _ _)]
      refine ⟨rfl, a, 0, 9, rfl, ?_⟩
      by_cases ha : inR a 0 9 = true
      · obtain ⟨i, rfl, _, _⟩ := inR_int ha
        simp only [ha, if_true]
        rw [dIx_t (atI_2 _ _ _ _), dIx_t (atI_1 _ _ _)]
        refine ⟨rfl, b, _, 9, rfl, ?_⟩
        simp only [ha, true_and, leastOf] at h
        by_cases hb : inR b (if i > 1 then i else 1) 9 = true
        · simp only [hb, if_true] at h ⊢
          unfold dLst
          simp only [dIx_t (atI_3 _ _ _ _ _)]
          exact ⟨by rw [sizeLine_eq]; simp, h⟩
        · simp only [hb, if_false, Bool.false_eq_true] at h ⊢
          exact h
      · have ha' : inR a 0 9 = false := by simpa using ha
        simp only [ha', if_false, Bool.false_eq_true] at h ⊢
        simpa using h
    · have e1 : (k == ("times" : Str)) = false := by simpa using e
      rw [e1, if_neg Bool.false_ne_true]
      simpa [e] using h
  | a :: b :: c :: d :: l, h =>
    have b1 : (((a :: b :: c :: d :: l).length : Nat) == 1) = false := by simp
    have b2 : (((a :: b :: c :: d :: l).length : Nat) == 2) = false := by simp
    have b3 : (((a :: b :: c :: d :: l).length : Nat) == 3) = false := by simp
    simp only [b1, b2, b3, if_true, if_false, Bool.false_eq_true]
    split <;> (split <;> (split <;> exact h))
end Y
set_option maxHeartbeats 4000000
namespace Y
open PySem PySem.Spec PyProof.Rows L2
theorem strsAll_mem : ∀ {ds : List PyData}, strsAll ds = true → ∀ d ∈ ds, strsOk d = true
  | d :: ds, h, e, he => by
    unfold strsAll at h
    rw [Bool.and_eq_true] at h
    rcases List.mem_cons.mp he with rfl | he
    · exact h.1
    · exact strsAll_mem h.2 e he
theorem strOk_of {d : PyData} (h : strsOk d = true) : strOk d = true := by
  cases d with
  | str z =>
    unfold strsOk at h
    exact h
  | _ => rfl
theorem parts_mem {k : Str} {rest ps : List PyData} (h : partsL k rest = some ps) : ∀ d ∈ ps, d ∈ rest := by
  match rest, h with
  | [a, b], h =>
    simp only [partsL] at h
    split at h
    · cases h; exact fun d hd => hd
    · cases h
  | [a], h =>
    simp only [partsL] at h
    split at h
    · cases h; exact fun d hd => hd
    · cases h
  | [a, b, c], h =>
    simp only [partsL] at h
    split at h
    · cases h
      exact fun d hd => by simp at hd; simp [hd]
    · cases h
  | [], h => cases h
  | a :: b :: c :: d :: l, h => cases h
theorem parts_len {k : Str} {rest ps : List PyData} (h : partsL k rest = some ps) : ps.length ≤ 2 := by
  match rest, h with
  | [a, b], h =>
    simp only [partsL] at h
    split at h
    · cases h; simp
    · cases h
  | [a], h =>
    simp only [partsL] at h
    split at h
    · cases h; simp
    · cases h
  | [a, b, c], h =>
    simp only [partsL] at h
    split at h
    · cases h; simp
    · cases h
  | [], h => cases h
  | a :: b :: c :: d :: l, h => cases h
theorem parts_times {rest ps : List PyData} (h : partsL "times" rest = some ps) : ∃ a i c, rest = [a, .int i, c] ∧ 1 ≤ i ∧ i ≤ 9 := by
  match rest, h with
  | [a, b, c], h =>
    simp only [partsL] at h
    split at h
    · rename_i q
      obtain ⟨_, qa, qb⟩ := q
      obtain ⟨i, rfl, _, _⟩ := inR_int qa
      obtain ⟨j, rfl, h1, h2⟩ := inR_int qb
      refine ⟨_, j, c, rfl, ?_, h2⟩
      revert h1
      show leastOf (.int _) ≤ j → 1 ≤ j
      unfold leastOf
      dsimp only
      split <;> omega
    · cases h
  | [a, b], h =>
    simp only [partsL] at h
    split at h
    · rename_i q
      rcases q with q | q <;> exact absurd q (by decide)
    · cases h
  | [a], h =>
    simp only [partsL] at h
    split at h
    · rename_i q
      rcases q with q | q | q <;> exact absurd q (by decide)
    · cases h
  | [], h => cases h
  | a :: b :: c :: d :: l, h => cases h
theorem sumO_none : ∀ {os : List (Option Int)}, os.any Option.isNone = true → sumO os = none
  | none :: _, _ => rfl
  | some i :: r, h => by
    have h' : r.any Option.isNone = true := by simpa using h
    unfold sumO
    rw [sumO_none h']
    rfl
theorem sumO_some : ∀ {os : List (Option Int)}, os.any Option.isNone = false → ∃ is, allI (os.map optD) = some is ∧ sumO os = some is.sum
  | [], _ => ⟨[], rfl, rfl⟩
  | none :: _, h => by simp at h
  | some i :: r, h => by
    have h' : r.any Option.isNone = false := by simpa using h
    obtain ⟨is, e1, e2⟩ := sumO_some h'
    refine ⟨i :: is, ?_, ?_⟩
    · show (allI (r.map optD)).map _ = _
      rw [e1]
      rfl
    · unfold sumO
      rw [e2]
      simp
theorem optD_plain : ∀ (os : List (Option Int)), (os.map optD).all plainD = true
  | [] => rfl
  | none :: r => by
    rw [List.map_cons, List.all_cons, optD_plain r]
    rfl
  | some i :: r => by
    rw [List.map_cons, List.all_cons, optD_plain r]
    rfl
theorem optD_any : ∀ (os : List (Option Int)), ((os.map optD).any fun z => PyData.eqv z .none) = os.any Option.isNone
  | [] => rfl
  | none :: r => by
    rw [List.map_cons, List.any_cons, List.any_cons, optD_any r]
    rfl
  | some i :: r => by
    rw [List.map_cons, List.any_cons, List.any_cons, optD_any r]
    rfl
theorem kind_cases (d : PyData) : (∃ k rest, d = .tuple (.str k :: rest)) ∨ (kindD d = false ∧ ∀ n, sizeW n d = none) := by
  cases d with
  | tuple ds =>
    cases ds with
    | nil => exact Or.inr ⟨rfl, fun n => by cases n <;> rfl⟩
    | cons a l =>
      cases a with
      | str k => exact Or.inl ⟨k, l, rfl⟩
      | _ => exact Or.inr ⟨rfl, fun n => by cases n <;> rfl⟩
  | _ => exact Or.inr ⟨rfl, fun n => by cases n <;> rfl⟩
theorem map_range {α β : Type} (φ : α → β) (d : α) (l : List α) : (List.range l.length).map (fun k => φ (l.getD k d)) = l.map φ := range_getD φ d l
theorem pure_size {Z : Ad} (spr : SpX) (n : Nat) (hn : ∀ m, n = m + 1 → ∀ xs M R P, sp_size_within Z m xs M R P → spr xs M R P) (xs : List Xv) (M : MH) (R : DR) (P : PX) (hl : xs.length = 2) (h : sp_size_within Z n xs M R P) :
    t_size_within spr Z { nx := fun _ M' => R (.d .none) M', rt := R, ex := P } (startX N_size_within xs) M := by
  obtain ⟨x, d, rfl, hx, hs, h⟩ := h
  show dSeq _ _ _ [some x, some (.d (.int n)), none, none, none] M
  simp only [dRet, dSet, dSeq, dIfS, dNext, dDrop, dVar, dC, dOp, dB, dAnd, dOr, dNot, dAndV, dOrV, dNotV, dIf, dNil, dCons, dCall, dApp, dChain, dSub, dLt, dLe, dGt, dGe, dI, List.getElem?_cons_zero, List.getElem?_cons_succ, List.set_cons_zero, List.set_cons_succ, dEq_ii]
  cases n with
  | zero => exact h
  | succ n =>
    have e0 : (((n + 1 : Nat) : Int) == 0) = false := by
      rw [Bool.eq_false_iff]
      simp
      omega
    rw [e0, if_neg Bool.false_ne_true]
    refine ⟨rfl, x, d, rfl, hx, ?_⟩
    rcases hx with rfl | ⟨rfl, q, rfl, hq⟩
    rotate_left
    · exact h
    rcases kind_cases d with ⟨k, rest, rfl⟩ | ⟨hk, hz⟩
    · have hk : kindD (.tuple (.str k :: rest)) = true := rfl
      rw [hk]
      simp only [Bool.not_true, Bool.false_eq_true, if_false]
      refine ⟨rfl, k, rest, rfl, ?_⟩
      have hw : sizeW (n + 1) (.tuple (.str k :: rest)) = if signD (.tuple (.str k :: rest)) = false then none else if atomL k rest = true then some 1 else (match partsL k rest with
        | none => none
        | some ps => (sumO (ps.map (sizeW n))).map (· * mulBy k rest)) := rfl
      rw [hw] at h
      by_cases hg : signD (.tuple (.str k :: rest)) = true
      · rw [hg] at h ⊢
        simp only [Bool.not_true, Bool.false_eq_true, if_false, Bool.true_eq_false] at h ⊢
        have hrest : strsAll rest = true := by
          have q : (strsOk (.str k) && strsAll rest) = true := hs
          rw [Bool.and_eq_true] at q
          exact q.2
        refine ⟨rfl, k, rest, rfl, List.all_eq_true.mpr fun d hd => strOk_of (strsAll_mem hrest d hd), hg, ?_⟩
        by_cases ha : atomL k rest = true
        · rw [ha] at h ⊢
          simp only [if_true] at h ⊢
          exact h
        · have ha' : atomL k rest = false := by simpa using ha
          rw [ha'] at h ⊢
          simp only [if_false, Bool.false_eq_true] at h ⊢
          refine ⟨rfl, k, rest, rfl, ?_⟩
          cases hp : partsL k rest with
          | none =>
            rw [hp] at h
            simp only [dIsN, noneX, if_true]
            exact h
          | some ps =>
            rw [hp] at h
            have h : R (.d (optD ((sumO (ps.map (sizeW n))).map (· * mulBy k rest)))) M := h
            simp only [dIsN, noneX, if_false, Bool.false_eq_true, dLcD, dVar, List.getElem?_cons_zero, List.getElem?_cons_succ]
            refine dComp_of (fun j => optD (sizeW n (ps.getD j .none))) (Nat.le_trans (parts_len hp) (by rw [sizeLine_eq]; decide)) (fun j hj M' _ => ?_) ?_
            · show dCall _ _ _ [some (.d (.tuple (.str k :: rest))), some (.d (.int ((n + 1 : Nat) : Int))), some (.d (.list ps)), none, some (.d (ps.getD j .none))] M' _ _
              simp only [dRet, dSet, dSeq, dIfS, dNext, dDrop, dVar, dC, dOp, dB, dAnd, dOr, dNot, dAndV, dOrV, dNotV, dIf, dNil, dCons, dCall, dApp, dChain, dSub, dLt, dLe, dGt, dGe, dI, List.getElem?_cons_zero, List.getElem?_cons_succ, List.set_cons_zero, List.set_cons_succ]
              refine ⟨trivial, rfl, ?_⟩
              apply hn n rfl
              refine ⟨_, ps.getD j .none, ?_, Or.inl rfl, ?_, rfl, rfl⟩
              · have e : (((n + 1 : Nat) : Int) - 1) = (n : Int) := by omega
                rw [e]
              · have q := getD_some hj
                exact strsAll_mem hrest _ (parts_mem hp _ (List.mem_of_getElem? q))
            · rw [map_range (fun d => optD (sizeW n d)) .none ps]
              have em : ps.map (fun d => optD (sizeW n d)) = (ps.map (sizeW n)).map optD := by rw [List.map_map]; rfl
              rw [em]
              simp only [dRet, dSet, dSeq, dIfS, dNext, dDrop, dVar, dC, dOp, dB, dAnd, dOr, dNot, dAndV, dOrV, dNotV, dIf, dNil, dCons, dCall, dApp, dChain, dSub, dLt, dLe, dGt, dGe, dI, List.getElem?_cons_zero, List.getElem?_cons_succ, List.set_cons_zero, List.set_cons_succ, dInS, itemsD]
              refine ⟨rfl, optD_plain _, ?_⟩
              rw [optD_any]
              simp only [if_false, Bool.false_eq_true]
              by_cases hnn : (ps.map (sizeW n)).any Option.isNone = true
              · rw [hnn]
                simp only [if_true]
                rw [sumO_none hnn] at h
                exact h
              · have hnn' : (ps.map (sizeW n)).any Option.isNone = false := by simpa using hnn
                rw [hnn']
                simp only [if_false, Bool.false_eq_true, cSum]
                obtain ⟨is, e1, e2⟩ := sumO_some hnn'
                rw [e1]
                rw [e2] at h
                simp only [dIx_t (atI_0 _ _), dEq_ss]
                by_cases ht : k = "times"
                · subst ht
                  obtain ⟨a, i, c, rfl, h1, h2⟩ := parts_times hp
                  rw [beq_self_eq_true, if_pos rfl, dIx_t (atI_2 _ _ _ _)]
                  refine ⟨Or.inr ⟨by omega, by omega⟩, ?_⟩
                  exact h
                · have e3 : (k == ("times" : Str)) = false := by simpa using ht
                  rw [e3, if_neg Bool.false_ne_true]
                  refine ⟨Or.inr ⟨by omega, by omega⟩, ?_⟩
                  have e4 : mulBy k rest = 1 := by unfold mulBy; rw [if_neg ht]
                  rw [e4] at h
                  exact h
      · have hg' : signD (.tuple (.str k :: rest)) = false := by simpa using hg
        rw [hg'] at h ⊢
        simp only [Bool.not_false, if_true] at h ⊢
        exact h
    · rw [hk]
      simp only [Bool.not_false, if_true]
      rw [hz] at h
      exact h
theorem pure_size_of {Z : Ad} (xs : List Xv) (M : MH) (R : DR) (P : PX) (hl : xs.length = 1) (h : sp_size_of Z xs M R P) : t_size_of Z { nx := fun _ M' => R (.d .none) M', rt := R, ex := P } (startX N_size_of xs) M := by
  obtain ⟨x, d, rfl, hx, hs, h⟩ := h
  show dSeq _ _ _ [some x, none] M
  simp only [dRet, dSet, dSeq, dIfS, dNext, dDrop, dVar, dC, dOp, dB, dAnd, dOr, dNot, dAndV, dOrV, dNotV, dIf, dNil, dCons, dCall, dApp, dChain, dSub, dLt, dLe, dGt, dGe, dI, List.getElem?_cons_zero, List.getElem?_cons_succ, List.set_cons_zero, List.set_cons_succ]
  refine ⟨rfl, x, d, rfl, hx, hs, ?_⟩
  unfold sizeO at h
  cases e : sizeW 30 d with
  | none =>
    rw [e] at h
    simp only [optD, dIsN, noneX, if_true]
    exact h
  | some i =>
    rw [e] at h
    simp only [optD, dIsN, noneX, if_false, Bool.false_eq_true]
    refine ⟨trivial, ?_⟩
    have h' : R (.d (optD (if i > 300 then none else some i))) M := h
    by_cases q : i > 300
    · rw [if_pos q] at h'
      have q' : (300 : Int) < i := q
      simp only [q', decide_true, if_true]
      exact h'
    · rw [if_neg q] at h'
      have q' : ¬ (300 : Int) < i := q
      simp only [q', decide_false, if_false, Bool.false_eq_true]
      exact h'
theorem pure_is_expression {Z : Ad} (xs : List Xv) (M : MH) (R : DR) (P : PX) (hl : xs.length = 1) (h : sp_is_expression Z xs M R P) : t_is_expression Z { nx := fun _ M' => R (.d .none) M', rt := R, ex := P } (startX N_is_expression xs) M := by
  obtain ⟨x, d, rfl, hx, hs, h⟩ := h
  show dRet _ _ [some x] M
  simp only [dRet, dSet, dSeq, dIfS, dNext, dDrop, dVar, dC, dOp, dB, dAnd, dOr, dNot, dAndV, dOrV, dNotV, dIf, dNil, dCons, dCall, dApp, dChain, dSub, dLt, dLe, dGt, dGe, dI, List.getElem?_cons_zero, List.getElem?_cons_succ, List.set_cons_zero, List.set_cons_succ, dNotN]
  refine ⟨rfl, x, d, rfl, hx, hs, ?_⟩
  cases e : sizeO d with
  | none =>
    rw [e] at h
    exact h
  | some i =>
    rw [e] at h
    exact h
/-! ### the promises -/
section
variable {P : Program} {w : World} {K : PySem.W.Frag} {mg : Str → Option Value} {base : Heap} {Z : Ad}
theorem fn_never {k : Nat} {f : Addr} {fd : FuncData} {ps : List Str} {n : Nat} (h : ps.length = n) : FnOk P w K mg base (L2.CX P w) k f fd ps (toSp K n fun _ _ _ _ => False) :=
  ⟨fun vs H Q E q => by rw [q.len, h], fun A outer s H args us vs Q E _ _ _ _ q => by
    obtain ⟨_, _, _, _, _, _, _, z, _⟩ := q
    exact z.elim⟩
theorem g_is_integer (z : Fx K mg Z w) : FnOk P w K mg base (L2.CX P w) 2 Z.f_is_integer Z.e_is_integer ["thing"] (toSp K 1 (sp_is_integer Z)) := ok_is_integer z pure_is_integer
theorem g_is_within (z : Fx K mg Z w) : FnOk P w K mg base (L2.CX P w) 3 Z.f_is_within Z.e_is_within ["thing", "least", "most"] (toSp K 3 (sp_is_within Z)) := ok_is_within z (g_is_integer z) pure_is_within
theorem g_is_worth (z : Fx K mg Z w) : FnOk P w K mg base (L2.CX P w) 4 Z.f_is_worth Z.e_is_worth ["thing"] (toSp K 1 (sp_is_worth Z)) := ok_is_worth z (g_is_within z) pure_is_worth
theorem g_are_letters (z : Fx K mg Z w) : FnOk P w K mg base (L2.CX P w) 5 Z.f_are_letters Z.e_are_letters ["thing", "many"] (toSp K 2 (sp_are_letters Z)) := ok_are_letters z pure_are_letters
theorem g_is_word (z : Fx K mg Z w) : FnOk P w K mg base (L2.CX P w) 6 Z.f_is_word Z.e_is_word ["thing"] (toSp K 1 (sp_is_word Z)) := ok_is_word z (g_are_letters z) pure_is_word
theorem g_is_atom (z : Fx K mg Z w) : FnOk P w K mg base (L2.CX P w) 7 Z.f_is_atom Z.e_is_atom ["thing"] (toSp K 1 (sp_is_atom Z)) := ok_is_atom z (g_is_word z) (g_is_worth z) pure_is_atom
theorem g_parts_of (z : Fx K mg Z w) : FnOk P w K mg base (L2.CX P w) 8 Z.f_parts_of Z.e_parts_of ["thing"] (toSp K 1 (sp_parts_of Z)) := ok_parts_of z (g_is_within z) pure_parts_of
theorem g_is_kind (z : Fx K mg Z w) : FnOk P w K mg base (L2.CX P w) 9 Z.f_is_kind Z.e_is_kind ["thing"] (toSp K 1 (sp_is_kind Z)) := ok_is_kind z pure_is_kind
theorem g_is_sign (z : Fx K mg Z w) : FnOk P w K mg base (L2.CX P w) 10 Z.f_is_sign Z.e_is_sign ["thing"] (toSp K 1 (sp_is_sign Z)) := ok_is_sign z pure_is_sign
theorem g_size_within (z : Fx K mg Z w) : ∀ n : Nat, FnOk P w K mg base (L2.CX P w) (15 + n) Z.f_size_within Z.e_size_within ["thing", "deep"] (toSp K 2 (sp_size_within Z n))
  | 0 => ok_size_within z (g_is_kind z) (g_is_sign z) (g_is_atom z) (g_parts_of z) (Nat.le_refl 14) (fn_never rfl) (pure_size _ 0 fun m e => by cases e)
  | n + 1 => ok_size_within z (g_is_kind z) (g_is_sign z) (g_is_atom z) (g_parts_of z) (by omega : 14 ≤ 15 + n) (g_size_within z n) (pure_size _ (n + 1) fun m e xs M R P q => by cases e; exact q)
theorem g_size_of (z : Fx K mg Z w) : FnOk P w K mg base (L2.CX P w) 60 Z.f_size_of Z.e_size_of ["thing"] (toSp K 1 (sp_size_of Z)) := ok_size_of z ((g_size_within z 30).mono (by decide)) pure_size_of
theorem g_is_expression (z : Fx K mg Z w) : FnOk P w K mg base (L2.CX P w) 61 Z.f_is_expression Z.e_is_expression ["thing"] (toSp K 1 (sp_is_expression Z)) := ok_is_expression z (g_size_of z) pure_is_expression
end
end Y
set_option maxHeartbeats 4000000
/-! the reader, in plain Lean, and what its methods promise -/
namespace Y
open PySem PySem.Spec PyProof.Rows L2
def at? (z : Str) (i : Nat) : Option Nat := z.cps.toList[i]?
def one (c : Nat) : Str := ⟨#[c]⟩
def sgnS (z : Str) (i : Nat) : Str := match at? z i with
  | some c => one c
  | none => ""
abbrev RR (α : Type) := Except Nat (α × Nat)
def takeF (p : Nat → Bool) (z : Str) (i : Nat) : RR Nat := match at? z i with
  | some c => if p c = true then .ok (c, i + 1) else .error i
  | none => .error i
def inS (s : Str) (c : Nat) : Bool := decide (c ∈ s.cps.toList)
def wordF (z : Str) (i : Nat) : RR Str := match takeF letterC z i with
  | .error e => .error e
  | .ok (c, _) => (match takeF letterC z (i + 1) with
    | .error e => .error e
    | .ok (d, _) => (match at? z (i + 2) with
      | some x => if letterC x = true then .error (i + 2) else .ok (⟨#[c, d]⟩, i + 2)
      | none => .ok (⟨#[c, d]⟩, i + 2)))
def figC (c : Nat) : Bool := inS "0123456789" c
def fig1C (c : Nat) : Bool := inS "123456789" c
def figs (z : Str) (i : Nat) : List Nat := (z.cps.toList.drop i).takeWhile figC
def finF (z : Str) (f : List Nat) (i : Nat) : List Nat × Nat := if f = [48] then (f, i) else (f ++ figs z i, i + (figs z i).length)
def strL (l : List Nat) : Str := ⟨l.toArray⟩
def valF (l : List Nat) : Option Int := if l.length > 20 then none else (PySem.intText? (strL l)).bind fun n => if worthD (.int n) = true then some n else none
def worthF (z : Str) (i : Nat) : RR Int :=
  let neg := decide (at? z i = some 45)
  match takeF (if neg then fig1C else figC) z (if neg then i + 1 else i) with
  | .error e => .error e
  | .ok (c, a) => (let q := finF z (if neg then [45, c] else [c]) a
    match valF q.1 with
    | some n => .ok (n, q.2)
    | none => .error i)
def nodeF (z : Str) (i : Nat) : RR PyData := match takeF (inS "<=>") z i with
  | .error e => .error e
  | .ok (t, _) => (match worthF z (i + 1) with
    | .error e => .error e
    | .ok (n, a) => (match takeF (inS "]") z a with
      | .error e => .error e
      | .ok (_, b) => .ok (.tuple [.str "node", .str (one t), .int n], b)))
def atomF (z : Str) (i : Nat) : RR PyData := match at? z i with
  | none => .error i
  | some c => if letterC c = true then (match wordF z i with
      | .error e => .error e
      | .ok (w, a) => .ok (.tuple [.str "word", .str w], a))
    else if c = 126 then (match wordF z (i + 1) with
      | .error e => .error e
      | .ok (w, a) => .ok (.tuple [.str "back", .str w], a))
    else if c = 46 then .ok (.tuple [.str "any"], i + 1)
    else if c = 95 then .ok (.tuple [.str "here"], i + 1)
    else if c = 91 then nodeF z (i + 1)
    else .error i
/-- a frame of the reader -/
structure Fr where
  o : PyData
  t : PyData
  l : PyData
def Fr.new : Fr := ⟨.none, .none, .none⟩
def noneD : PyData → Bool
  | .none => true
  | _ => false
def Fr.join (f : Fr) : Fr := ⟨f.o, if noneD f.l then f.t else if noneD f.t then f.l else .tuple [.str "then", f.t, f.l], .none⟩
def Fr.add (f : Fr) (d : PyData) : Fr := ⟨f.join.o, f.join.t, d⟩
def Fr.part (f : Fr) : Fr := ⟨if noneD f.join.o then f.join.t else .tuple [.str "or", f.join.o, f.join.t], .none, .none⟩
def frO (Z : Ad) (f : Fr) : MO := .ins Z.c_Frame [("kept_or", .d f.o), ("kept_then", .d f.t), ("kept_last", .d f.l)]
def sp_Frame_init (Z : Ad) : SpX := fun xs M R P => ∃ p, xs = [.r (.ref p)] ∧ M p = some (.ins Z.c_Frame []) ∧ R (.d .none) (mset M p (frO Z Fr.new))
def sp_Frame_join (Z : Ad) : SpX := fun xs M R P => ∃ p f, xs = [.r (.ref p)] ∧ M p = some (frO Z f) ∧ R (.d .none) (mset M p (frO Z f.join))
def sp_Frame_add (Z : Ad) : SpX := fun xs M R P => ∃ p f d, xs = [.r (.ref p), .d d] ∧ M p = some (frO Z f) ∧ R (.d .none) (mset M p (frO Z (f.add d)))
def sp_Frame_part (Z : Ad) : SpX := fun xs M R P => ∃ p f, xs = [.r (.ref p)] ∧ M p = some (frO Z f) ∧ R (.d .none) (mset M p (frO Z f.part))
def sp_Frame_whole (Z : Ad) : SpX := fun xs M R P => ∃ p f, xs = [.r (.ref p)] ∧ M p = some (frO Z f) ∧ R (.d f.part.o) (mset M p (frO Z f.part))
/-- the reader's state: below the current frame, the next one first -/
structure RS where
  txt : Str
  at_ : Nat
  want : Bool
  below : List Fr
  cur : Fr
def beginF (s : RS) : Except Nat RS := if at? s.txt s.at_ = some 40 then .ok ⟨s.txt, s.at_ + 1, true, s.cur :: s.below, Fr.new⟩ else (match atomF s.txt s.at_ with
  | .error e => .error e
  | .ok (d, a) => .ok ⟨s.txt, a, false, s.below, s.cur.add d⟩)
def timesF (z : Str) (i : Nat) : RR (Int × Int) := match takeF (inS "{") z i with
  | .error e => .error e
  | .ok _ => (match takeF figC z (i + 1) with
    | .error e => .error e
    | .ok (l, _) => (match takeF (inS ",") z (i + 2) with
      | .error e => .error e
      | .ok _ => (match takeF figC z (i + 3) with
        | .error e => .error e
        | .ok (m, _) => if at? z (i + 4) = some 125 ∧ ¬ (max 1 ((l : Int) - 48) ≤ (m : Int) - 48 ∧ (m : Int) - 48 ≤ 9) then .error (i + 4) else (match takeF (inS "}") z (i + 4) with
          | .error e => .error e
          | .ok _ => .ok (((l : Int) - 48, (m : Int) - 48), i + 5)))))
def kindC : Nat → Option Str
  | 42 => some "star"
  | 43 => some "plus"
  | 63 => some "maybe"
  | _ => none
def RS.last (s : RS) (d : PyData) (a : Nat) : RS := ⟨s.txt, a, s.want, s.below, ⟨s.cur.o, s.cur.t, d⟩⟩
def goF (s : RS) : Except Nat RS := match (at? s.txt s.at_).bind kindC with
  | some k => .ok (s.last (.tuple [.str k, s.cur.l]) (s.at_ + 1))
  | none => if at? s.txt s.at_ = some 123 then (match timesF s.txt s.at_ with
      | .error e => .error e
      | .ok ((l, m), a) => .ok (s.last (.tuple [.str "times", .int l, .int m, s.cur.l]) a))
    else if at? s.txt s.at_ = some 124 then .ok ⟨s.txt, s.at_ + 1, true, s.below, s.cur.part⟩
    else if at? s.txt s.at_ = some 41 then (match s.below with
      | [] => beginF s
      | f :: b => .ok ⟨s.txt, s.at_ + 1, s.want, b, f.add s.cur.part.o⟩)
    else beginF s
def stepF (s : RS) : Except Nat RS := if at? s.txt s.at_ = some 32 then .ok ⟨s.txt, s.at_ + 1, s.want, s.below, s.cur⟩ else if s.want = true then beginF s else goF s
def loopF : Nat → RS → Except Nat RS
  | 0, s => .ok s
  | n + 1, s => if s.at_ < s.txt.length then (match stepF s with
    | .error e => .error e
    | .ok s' => loopF n s') else .ok s
def endF (s : RS) : RR PyData := if s.want = true ∨ s.below ≠ [] then .error s.at_ else .ok (s.cur.part.o, s.at_)
def RS.new (z : Str) : RS := ⟨z, 0, true, [], Fr.new⟩
/-- the whole reader -/
def readF (z : Str) : Except Nat PyData := match loopF z.length (RS.new z) with
  | .error e => .error e
  | .ok s => (match endF s with
    | .error e => .error e
    | .ok (d, _) => .ok d)
/-! ### the objects -/
def Ext (M0 M : MH) : Prop := ∀ a o, M0 a = some o → M a = some o
theorem Ext.refl {M : MH} : Ext M M := fun _ _ h => h
theorem Ext.trans {M0 M M1 : MH} (a : Ext M0 M) (b : Ext M M1) : Ext M0 M1 := fun x o h => b x o (a x o h)
theorem Ext.mset {M0 M : MH} {p : Addr} {o : MO} (h : Ext M0 M) (hp : M0 p = none) : Ext M0 (mset M p o) := fun a u e => by
  rw [mset_ne (fun q => by rw [q, hp] at e; cases e)]
  exact h a u e
theorem Ext.none {M0 M : MH} {p : Addr} (h : Ext M0 M) (e : M p = none) : M0 p = none := by
  cases q : M0 p with
  | none => rfl
  | some o => rw [h p o q] at e; cases e
/-- an error of the reader, from a state whose base is M0 -/
def failQ (Z : Ad) (M0 : MH) (e : Nat) (P : PX) : Prop := ∀ M' d, Ext M0 M' → M0 d = none → M' d = some (.exd [("at", .d (.int (e : Nat)))]) → P (.ref Z.c_BadSigns) (some d) M'
def txO (Z : Ad) (z : Str) (i : Nat) (fl : Addr) (w : Bool) : MO := .ins Z.c_Text [("kept_text", .d (.str z)), ("kept_at", .d (.int (i : Nat))), ("kept_frames", .r (.ref fl)), ("kept_wanted", .d (.bool w))]
/-- a method that moves only the place -/
def lowSp (Z : Ad) (ys : List Xv) (F : Str → Nat → RR PyData) : SpX := fun xs M R P => ∃ p z i fl w M0, xs = .r (.ref p) :: ys ∧ M p = some (txO Z z i fl w) ∧ M0 p = none ∧ Ext M0 M ∧ z.length ≤ 100000 ∧ (match F z i with
  | .ok (d, j) => R (.d d) (mset M p (txO Z z j fl w))
  | .error e => failQ Z M0 e P)
def mapR {α β : Type} (f : α → β) : RR α → RR β
  | .ok (a, i) => .ok (f a, i)
  | .error e => .error e
def sp_Text_sign (Z : Ad) : SpX := fun xs M R P => ∃ p z i fl w, xs = [.r (.ref p)] ∧ M p = some (txO Z z i fl w) ∧ z.length ≤ 100000 ∧ R (.d (.str (sgnS z i))) M
def sp_Text_fail (Z : Ad) : SpX := fun xs M R P => ∃ p z i fl w M0, xs = [.r (.ref p)] ∧ M p = some (txO Z z i fl w) ∧ Ext M0 M ∧ failQ Z M0 i P
def sp_Text_take (Z : Ad) : SpX := fun xs M R P => ∃ s : Str, lowSp Z [.d (.str s)] (fun z i => mapR (fun c => .str (one c)) (takeF (inS s) z i)) xs M R P
def sp_Text_word (Z : Ad) : SpX := lowSp Z [] (fun z i => mapR .str (wordF z i))
def sp_Text_worth (Z : Ad) : SpX := lowSp Z [] (fun z i => mapR .int (worthF z i))
def sp_Text_atom (Z : Ad) : SpX := lowSp Z [] atomF
inductive Frs (Z : Ad) (M : MH) : List Addr → List Fr → Prop
  | nil : Frs Z M [] []
  | cons {a : Addr} {f : Fr} {as : List Addr} {fs : List Fr} : M a = some (frO Z f) → Frs Z M as fs → Frs Z M (a :: as) (f :: fs)
/-- the reader's objects: p the Text, fl its list of frames, fc the current one, fb those below -/
structure TxAt (Z : Ad) (M0 M : MH) (p fl fc : Addr) (fb : List Addr) (s : RS) : Prop where
  ext : Ext M0 M
  np : M0 p = none
  nl : M0 fl = none
  nf : ∀ a ∈ fc :: fb, M0 a = none
  obj : M p = some (txO Z s.txt s.at_ fl s.want)
  lst : M fl = some (.lst ((fb.reverse ++ [fc]).map fun a => .r (.ref a)))
  nd : (fc :: fb).Nodup
  frs : Frs Z M (fc :: fb) (s.cur :: s.below)
def TextSt (Z : Ad) (M0 M : MH) (p : Addr) (s : RS) : Prop := ∃ fl fc fb, TxAt Z M0 M p fl fc fb s
structure OkS (s : RS) : Prop where
  len : s.txt.length ≤ 100000
  at_ : s.at_ ≤ s.txt.length
  few : s.below.length ≤ s.at_
/-- a method that changes the state -/
def hiSp (Z : Ad) (F : RS → Except Nat RS) : SpX := fun xs M R P => ∃ p s M0, xs = [.r (.ref p)] ∧ TextSt Z M0 M p s ∧ OkS s ∧ (match F s with
  | .ok s' => ∀ M', TextSt Z M0 M' p s' → R (.d .none) M'
  | .error e => failQ Z M0 e P)
def sp_Text_begin (Z : Ad) : SpX := hiSp Z beginF
def sp_Text_times (Z : Ad) : SpX := hiSp Z fun s => match timesF s.txt s.at_ with
  | .error e => .error e
  | .ok ((l, m), a) => .ok (s.last (.tuple [.str "times", .int l, .int m, s.cur.l]) a)
def sp_Text_go_on (Z : Ad) : SpX := hiSp Z goF
def sp_Text_read (Z : Ad) : SpX := fun xs M R P => ∃ p z M0, xs = [.r (.ref p)] ∧ TextSt Z M0 M p (RS.new z) ∧ z.length ≤ 100000 ∧ (match readF z with
  | .ok d => ∀ M', Ext M0 M' → R (.d d) M'
  | .error e => failQ Z M0 e P)
def sp_Text_init (Z : Ad) : SpX := fun xs M R P => ∃ p z M0, xs = [.r (.ref p), .d (.str z)] ∧ M p = some (.ins Z.c_Text []) ∧ Ext M0 M ∧ M0 p = none ∧ ∀ M', TextSt Z M0 M' p (RS.new z) → R (.d .none) M'
/-- what is read, judged -/
def judged (d : PyData) : Bool := (sizeO d).isSome
def sp_read_expression (Z : Ad) : SpX := fun xs M R P => ∃ x, xs = [x] ∧ (match x with
  | .d (.str z) => z.length ≤ 1000000 ∧ (if z.length > 100000 then P (.ref Z.c_NoExpression) none M else (match readF z with
    | .ok d => strsOk d = true ∧ (if judged d = true then ∀ M', Ext M M' → R (.d d) M' else ∀ M', Ext M M' → P (.ref Z.c_NoExpression) none M')
    | .error e => failQ Z M e P))
  | .d (.tuple _) | .d .none | .d (.int _) | .d (.bool _) | .d (.list _) => ∀ M' d, Ext M M' → M d = none → M' d = some (.exd [("at", .d (.int (-1)))]) → P (.ref Z.c_BadSigns) (some d) M'
  | .r (.ref n) => M n = some .dic ∧ ∀ M' d, Ext M M' → M d = none → M' d = some (.exd [("at", .d (.int (-1)))]) → P (.ref Z.c_BadSigns) (some d) M'
  | _ => False)
end Y
set_option maxHeartbeats 4000000
namespace Y
open PySem PySem.Spec PyProof.Rows L2
abbrev N_Frame_init : List Str := ["self"]
theorem sc_Frame_init : FnScope N_Frame_init ["self"] (defScope s_Frame_init) := ⟨rfl, rfl, rfl, by decide +kernel, rfl, by decide +kernel, by decide +kernel⟩
def t_Frame_init (Z : Ad) : DS :=
  (dSeq (dSetF Z.c_Frame "kept_or" (dVar 0) (dC (.d .none)))
    (dSeq (dSetF Z.c_Frame "kept_then" (dVar 0) (dC (.d .none)))
    (dSetF Z.c_Frame "kept_last" (dVar 0) (dC (.d .none)))))
section
variable {P : Program} {w : World} {K : PySem.W.Frag} {mg : Str → Option Value} {base : Heap} {Z : Ad}
theorem b_Frame_init (z : Fx K mg Z w)  {cdv : Value} {A : Around} {outer : List Env} {s : Shared} {H : Hp} {E : XK} (hr : Room 1 (A.deeper (envOfC "Frame.__init__" (defScope s_Frame_init) s.heap.objs.size Z.f_Frame_init cdv))) :
    QSs (cxOf (L2.CX P w) P w K mg base N_Frame_init "Frame.__init__" (defScope s_Frame_init) Z.f_Frame_init cdv A outer s H E) E (defBody s_Frame_init) (t_Frame_init Z) :=
  (qss_cons (setf z.o_Frame (v 0) q_non)
    (qss_cons (setf z.o_Frame (v 0) q_non)
    (qss_one (setf z.o_Frame (v 0) q_non))))
theorem ok_Frame_init (z : Fx K mg Z w)  (pure : ∀ xs M R Px, xs.length = 1 → sp_Frame_init Z xs M R Px → t_Frame_init Z { nx := fun _ M' => R (.d .none) M', rt := R, ex := Px } (startX N_Frame_init xs) M) :
    FnOk P w K mg base (L2.CX P w) 2 Z.f_Frame_init Z.e_Frame_init ["self"] (toSp K 1 (sp_Frame_init Z)) := fn_x z.F_Frame_init sc_Frame_init rfl (t_Frame_init Z) (fun cdv A outer s H E hr => b_Frame_init z  hr) pure
end
abbrev N_Frame_add : List Str := ["self", "thing"]
theorem sc_Frame_add : FnScope N_Frame_add ["self", "thing"] (defScope s_Frame_add) := ⟨rfl, rfl, rfl, by decide +kernel, rfl, by decide +kernel, by decide +kernel⟩
def t_Frame_add (Z : Ad) : DS :=
  (dSeq (dDrop (dMeth Z.c_Frame "join" 1 (sp_Frame_join Z) (dVar 0) dNil))
    (dSetF Z.c_Frame "kept_last" (dVar 0) (dVar 1)))
section
variable {P : Program} {w : World} {K : PySem.W.Frag} {mg : Str → Option Value} {base : Heap} {Z : Ad}
theorem b_Frame_add (z : Fx K mg Z w) (F_Frame_join : FnOk P w K mg base (L2.CX P w) 2 Z.f_Frame_join Z.e_Frame_join ["self"] (toSp K 1 (sp_Frame_join Z))) {cdv : Value} {A : Around} {outer : List Env} {s : Shared} {H : Hp} {E : XK} (hr : Room 2 (A.deeper (envOfC "Frame.add" (defScope s_Frame_add) s.heap.objs.size Z.f_Frame_add cdv))) :
    QSs (cxOf (L2.CX P w) P w K mg base N_Frame_add "Frame.add" (defScope s_Frame_add) Z.f_Frame_add cdv A outer s H E) E (defBody s_Frame_add) (t_Frame_add Z) :=
  (qss_cons (exps (meth0 z.o_Frame z.m_Frame_join F_Frame_join (by first | decide | omega) hr pass_x (bd_Frame_join z) (v 0) _))
    (qss_one (setf z.o_Frame (v 0) (v 1))))
theorem ok_Frame_add (z : Fx K mg Z w) (F_Frame_join : FnOk P w K mg base (L2.CX P w) 2 Z.f_Frame_join Z.e_Frame_join ["self"] (toSp K 1 (sp_Frame_join Z))) (pure : ∀ xs M R Px, xs.length = 2 → sp_Frame_add Z xs M R Px → t_Frame_add Z { nx := fun _ M' => R (.d .none) M', rt := R, ex := Px } (startX N_Frame_add xs) M) :
    FnOk P w K mg base (L2.CX P w) 3 Z.f_Frame_add Z.e_Frame_add ["self", "thing"] (toSp K 2 (sp_Frame_add Z)) := fn_x z.F_Frame_add sc_Frame_add rfl (t_Frame_add Z) (fun cdv A outer s H E hr => b_Frame_add z F_Frame_join hr) pure
end
abbrev N_Frame_join : List Str := ["self"]
theorem sc_Frame_join : FnScope N_Frame_join ["self"] (defScope s_Frame_join) := ⟨rfl, rfl, rfl, by decide +kernel, rfl, by decide +kernel, by decide +kernel⟩
def t_Frame_join (Z : Ad) : DS :=
  (dSeq (dIfS (dB (dOp dNotN (dFld Z.c_Frame "kept_last" (dVar 0)) (dC (.d .none)))) (dSetF Z.c_Frame "kept_then" (dVar 0) (dIf (dB (dOp dIsN (dFld Z.c_Frame "kept_then" (dVar 0)) (dC (.d .none)))) (dFld Z.c_Frame "kept_last" (dVar 0)) (dTup (dCons (dC (.d (.str "then"))) (dCons (dFld Z.c_Frame "kept_then" (dVar 0)) (dCons (dFld Z.c_Frame "kept_last" (dVar 0)) dNil))))))
    dNext)
    (dSetF Z.c_Frame "kept_last" (dVar 0) (dC (.d .none))))
section
variable {P : Program} {w : World} {K : PySem.W.Frag} {mg : Str → Option Value} {base : Heap} {Z : Ad}
theorem b_Frame_join (z : Fx K mg Z w)  {cdv : Value} {A : Around} {outer : List Env} {s : Shared} {H : Hp} {E : XK} (hr : Room 1 (A.deeper (envOfC "Frame.join" (defScope s_Frame_join) s.heap.objs.size Z.f_Frame_join cdv))) :
    QSs (cxOf (L2.CX P w) P w K mg base N_Frame_join "Frame.join" (defScope s_Frame_join) Z.f_Frame_join cdv A outer s H E) E (defBody s_Frame_join) (t_Frame_join Z) :=
  (qss_cons (qs_if (tcmp o_notN (fld z.o_Frame (v 0)) q_non) (qss_one (setf z.o_Frame (v 0) (q_if (tcmp o_isN (fld z.o_Frame (v 0)) q_non) (fld z.o_Frame (v 0)) (q_tup (qa_cons q_str (qa_cons (fld z.o_Frame (v 0)) (qa_cons (fld z.o_Frame (v 0)) qa_nil)))))))
    qss_nil)
    (qss_one (setf z.o_Frame (v 0) q_non)))
theorem ok_Frame_join (z : Fx K mg Z w)  (pure : ∀ xs M R Px, xs.length = 1 → sp_Frame_join Z xs M R Px → t_Frame_join Z { nx := fun _ M' => R (.d .none) M', rt := R, ex := Px } (startX N_Frame_join xs) M) :
    FnOk P w K mg base (L2.CX P w) 2 Z.f_Frame_join Z.e_Frame_join ["self"] (toSp K 1 (sp_Frame_join Z)) := fn_x z.F_Frame_join sc_Frame_join rfl (t_Frame_join Z) (fun cdv A outer s H E hr => b_Frame_join z  hr) pure
end
abbrev N_Frame_part : List Str := ["self"]
theorem sc_Frame_part : FnScope N_Frame_part ["self"] (defScope s_Frame_part) := ⟨rfl, rfl, rfl, by decide +kernel, rfl, by decide +kernel, by decide +kernel⟩
def t_Frame_part (Z : Ad) : DS :=
  (dSeq (dDrop (dMeth Z.c_Frame "join" 1 (sp_Frame_join Z) (dVar 0) dNil))
    (dSeq (dSetF Z.c_Frame "kept_or" (dVar 0) (dIf (dB (dOp dIsN (dFld Z.c_Frame "kept_or" (dVar 0)) (dC (.d .none)))) (dFld Z.c_Frame "kept_then" (dVar 0)) (dTup (dCons (dC (.d (.str "or"))) (dCons (dFld Z.c_Frame "kept_or" (dVar 0)) (dCons (dFld Z.c_Frame "kept_then" (dVar 0)) dNil))))))
    (dSetF Z.c_Frame "kept_then" (dVar 0) (dC (.d .none)))))
section
variable {P : Program} {w : World} {K : PySem.W.Frag} {mg : Str → Option Value} {base : Heap} {Z : Ad}
theorem b_Frame_part (z : Fx K mg Z w) (F_Frame_join : FnOk P w K mg base (L2.CX P w) 2 Z.f_Frame_join Z.e_Frame_join ["self"] (toSp K 1 (sp_Frame_join Z))) {cdv : Value} {A : Around} {outer : List Env} {s : Shared} {H : Hp} {E : XK} (hr : Room 2 (A.deeper (envOfC "Frame.part" (defScope s_Frame_part) s.heap.objs.size Z.f_Frame_part cdv))) :
    QSs (cxOf (L2.CX P w) P w K mg base N_Frame_part "Frame.part" (defScope s_Frame_part) Z.f_Frame_part cdv A outer s H E) E (defBody s_Frame_part) (t_Frame_part Z) :=
  (qss_cons (exps (meth0 z.o_Frame z.m_Frame_join F_Frame_join (by first | decide | omega) hr pass_x (bd_Frame_join z) (v 0) _))
    (qss_cons (setf z.o_Frame (v 0) (q_if (tcmp o_isN (fld z.o_Frame (v 0)) q_non) (fld z.o_Frame (v 0)) (q_tup (qa_cons q_str (qa_cons (fld z.o_Frame (v 0)) (qa_cons (fld z.o_Frame (v 0)) qa_nil))))))
    (qss_one (setf z.o_Frame (v 0) q_non))))
theorem ok_Frame_part (z : Fx K mg Z w) (F_Frame_join : FnOk P w K mg base (L2.CX P w) 2 Z.f_Frame_join Z.e_Frame_join ["self"] (toSp K 1 (sp_Frame_join Z))) (pure : ∀ xs M R Px, xs.length = 1 → sp_Frame_part Z xs M R Px → t_Frame_part Z { nx := fun _ M' => R (.d .none) M', rt := R, ex := Px } (startX N_Frame_part xs) M) :
    FnOk P w K mg base (L2.CX P w) 3 Z.f_Frame_part Z.e_Frame_part ["self"] (toSp K 1 (sp_Frame_part Z)) := fn_x z.F_Frame_part sc_Frame_part rfl (t_Frame_part Z) (fun cdv A outer s H E hr => b_Frame_part z F_Frame_join hr) pure
end
abbrev N_Frame_whole : List Str := ["self"]
theorem sc_Frame_whole : FnScope N_Frame_whole ["self"] (defScope s_Frame_whole) := ⟨rfl, rfl, rfl, by decide +kernel, rfl, by decide +kernel, by decide +kernel⟩
def t_Frame_whole (Z : Ad) : DS :=
  (dSeq (dDrop (dMeth Z.c_Frame "part" 1 (sp_Frame_part Z) (dVar 0) dNil))
    (dRet (dFld Z.c_Frame "kept_or" (dVar 0))))
section
variable {P : Program} {w : World} {K : PySem.W.Frag} {mg : Str → Option Value} {base : Heap} {Z : Ad}
theorem b_Frame_whole (z : Fx K mg Z w) (F_Frame_part : FnOk P w K mg base (L2.CX P w) 3 Z.f_Frame_part Z.e_Frame_part ["self"] (toSp K 1 (sp_Frame_part Z))) {cdv : Value} {A : Around} {outer : List Env} {s : Shared} {H : Hp} {E : XK} (hr : Room 3 (A.deeper (envOfC "Frame.whole" (defScope s_Frame_whole) s.heap.objs.size Z.f_Frame_whole cdv))) :
    QSs (cxOf (L2.CX P w) P w K mg base N_Frame_whole "Frame.whole" (defScope s_Frame_whole) Z.f_Frame_whole cdv A outer s H E) E (defBody s_Frame_whole) (t_Frame_whole Z) :=
  (qss_cons (exps (meth0 z.o_Frame z.m_Frame_part F_Frame_part (by first | decide | omega) hr pass_x (bd_Frame_part z) (v 0) _))
    (qss_one (retn (fld z.o_Frame (v 0)))))
theorem ok_Frame_whole (z : Fx K mg Z w) (F_Frame_part : FnOk P w K mg base (L2.CX P w) 3 Z.f_Frame_part Z.e_Frame_part ["self"] (toSp K 1 (sp_Frame_part Z))) (pure : ∀ xs M R Px, xs.length = 1 → sp_Frame_whole Z xs M R Px → t_Frame_whole Z { nx := fun _ M' => R (.d .none) M', rt := R, ex := Px } (startX N_Frame_whole xs) M) :
    FnOk P w K mg base (L2.CX P w) 4 Z.f_Frame_whole Z.e_Frame_whole ["self"] (toSp K 1 (sp_Frame_whole Z)) := fn_x z.F_Frame_whole sc_Frame_whole rfl (t_Frame_whole Z) (fun cdv A outer s H E hr => b_Frame_whole z F_Frame_part hr) pure
end
abbrev N_Text_init : List Str := ["self", "text"]
theorem sc_Text_init : FnScope N_Text_init ["self", "text"] (defScope s_Text_init) := ⟨rfl, rfl, rfl, by decide +kernel, rfl, by decide +kernel, by decide +kernel⟩
def t_Text_init (Z : Ad) : DS :=
  (dSeq (dSetF Z.c_Text "kept_text" (dVar 0) (dVar 1))
    (dSeq (dSetF Z.c_Text "kept_at" (dVar 0) (dC (.d (.int 0))))
    (dSeq (dSetF Z.c_Text "kept_frames" (dVar 0) (dLstM (dCons (dMake Z.c_Frame 1 (sp_Frame_init Z) dNil) dNil)))
    (dSetF Z.c_Text "kept_wanted" (dVar 0) (dC (.d (.bool true)))))))
section
variable {P : Program} {w : World} {K : PySem.W.Frag} {mg : Str → Option Value} {base : Heap} {Z : Ad}
theorem b_Text_init (z : Fx K mg Z w) (F_Frame_init : FnOk P w K mg base (L2.CX P w) 2 Z.f_Frame_init Z.e_Frame_init ["self"] (toSp K 1 (sp_Frame_init Z))) {cdv : Value} {A : Around} {outer : List Env} {s : Shared} {H : Hp} {E : XK} (hr : Room 4 (A.deeper (envOfC "Text.__init__" (defScope s_Text_init) s.heap.objs.size Z.f_Text_init cdv))) :
    QSs (cxOf (L2.CX P w) P w K mg base N_Text_init "Text.__init__" (defScope s_Text_init) Z.f_Text_init cdv A outer s H E) E (defBody s_Text_init) (t_Text_init Z) :=
  (qss_cons (setf z.o_Text (v 0) (v 1))
    (qss_cons (setf z.o_Text (v 0) q_int)
    (qss_cons (setf z.o_Text (v 0) (q_lstM (qa_cons (make0 z.m_Frame F_Frame_init (by first | decide | omega) hr pass_x z.g_Frame (bd_Frame_init z)) qa_nil)))
    (qss_one (setf z.o_Text (v 0) q_bl)))))
theorem ok_Text_init (z : Fx K mg Z w) (F_Frame_init : FnOk P w K mg base (L2.CX P w) 2 Z.f_Frame_init Z.e_Frame_init ["self"] (toSp K 1 (sp_Frame_init Z))) (pure : ∀ xs M R Px, xs.length = 2 → sp_Text_init Z xs M R Px → t_Text_init Z { nx := fun _ M' => R (.d .none) M', rt := R, ex := Px } (startX N_Text_init xs) M) :
    FnOk P w K mg base (L2.CX P w) 5 Z.f_Text_init Z.e_Text_init ["self", "text"] (toSp K 2 (sp_Text_init Z)) := fn_x z.F_Text_init sc_Text_init rfl (t_Text_init Z) (fun cdv A outer s H E hr => b_Text_init z F_Frame_init hr) pure
end
abbrev N_Text_sign : List Str := ["self"]
theorem sc_Text_sign : FnScope N_Text_sign ["self"] (defScope s_Text_sign) := ⟨rfl, rfl, rfl, by decide +kernel, rfl, by decide +kernel, by decide +kernel⟩
def t_Text_sign (Z : Ad) : DS :=
  (dRet (dSl (dFld Z.c_Text "kept_text" (dVar 0)) (dP (dFld Z.c_Text "kept_at" (dVar 0))) (dP (dOp dAdd (dFld Z.c_Text "kept_at" (dVar 0)) (dC (.d (.int 1)))))))
section
variable {P : Program} {w : World} {K : PySem.W.Frag} {mg : Str → Option Value} {base : Heap} {Z : Ad}
theorem b_Text_sign (z : Fx K mg Z w)  {cdv : Value} {A : Around} {outer : List Env} {s : Shared} {H : Hp} {E : XK} (hr : Room 1 (A.deeper (envOfC "Text.sign" (defScope s_Text_sign) s.heap.objs.size Z.f_Text_sign cdv))) :
    QSs (cxOf (L2.CX P w) P w K mg base N_Text_sign "Text.sign" (defScope s_Text_sign) Z.f_Text_sign cdv A outer s H E) E (defBody s_Text_sign) (t_Text_sign Z) :=
  (qss_one (retn (slc (fld z.o_Text (v 0)) (qp_some (fld z.o_Text (v 0))) (qp_some (q_op o_add (fld z.o_Text (v 0)) q_int)))))
theorem ok_Text_sign (z : Fx K mg Z w)  (pure : ∀ xs M R Px, xs.length = 1 → sp_Text_sign Z xs M R Px → t_Text_sign Z { nx := fun _ M' => R (.d .none) M', rt := R, ex := Px } (startX N_Text_sign xs) M) :
    FnOk P w K mg base (L2.CX P w) 2 Z.f_Text_sign Z.e_Text_sign ["self"] (toSp K 1 (sp_Text_sign Z)) := fn_x z.F_Text_sign sc_Text_sign rfl (t_Text_sign Z) (fun cdv A outer s H E hr => b_Text_sign z  hr) pure
end
abbrev N_Text_fail : List Str := ["self"]
theorem sc_Text_fail : FnScope N_Text_fail ["self"] (defScope s_Text_fail) := ⟨rfl, rfl, rfl, by decide +kernel, rfl, by decide +kernel, by decide +kernel⟩
def t_Text_fail (Z : Ad) : DS :=
  (dRaise (mkC1 Z.c_BadSigns "at" (dCons (dFld Z.c_Text "kept_at" (dVar 0)) dNil)))
section
variable {P : Program} {w : World} {K : PySem.W.Frag} {mg : Str → Option Value} {base : Heap} {Z : Ad}
theorem b_Text_fail (z : Fx K mg Z w)  (F_BadSigns_init : FnOk P w K mg base (L2.CX P w) 1 Z.f_BadSigns_init Z.e_BadSigns_init ["self", "at"] (spInit Z.c_BadSigns "at")) {cdv : Value} {A : Around} {outer : List Env} {s : Shared} {H : Hp} {E : XK} (hr : Room 2 (A.deeper (envOfC "Text.fail" (defScope s_Text_fail) s.heap.objs.size Z.f_Text_fail cdv))) :
    QSs (cxOf (L2.CX P w) P w K mg base N_Text_fail "Text.fail" (defScope s_Text_fail) Z.f_Text_fail cdv A outer s H E) E (defBody s_Text_fail) (t_Text_fail Z) :=
  (qss_one (qs_raise rfl (takes_of rfl rfl rfl rfl) (q_mk1 (qa_cons (fld z.o_Text (v 0)) qa_nil) fun _ h => pmk_oex z.oe_BadSigns z.in_BadSigns z.ti_BadSigns F_BadSigns_init (hr.mono (by first | decide | omega)) (bd_BadSigns_init z) .nil passX_no rfl z.g_BadSigns h)))
theorem ok_Text_fail (z : Fx K mg Z w)  (F_BadSigns_init : FnOk P w K mg base (L2.CX P w) 1 Z.f_BadSigns_init Z.e_BadSigns_init ["self", "at"] (spInit Z.c_BadSigns "at")) (pure : ∀ xs M R Px, xs.length = 1 → sp_Text_fail Z xs M R Px → t_Text_fail Z { nx := fun _ M' => R (.d .none) M', rt := R, ex := Px } (startX N_Text_fail xs) M) :
    FnOk P w K mg base (L2.CX P w) 3 Z.f_Text_fail Z.e_Text_fail ["self"] (toSp K 1 (sp_Text_fail Z)) := fn_x z.F_Text_fail sc_Text_fail rfl (t_Text_fail Z) (fun cdv A outer s H E hr => b_Text_fail z  F_BadSigns_init hr) pure
end
abbrev N_Text_take : List Str := ["self", "signs", "sign"]
theorem sc_Text_take : FnScope N_Text_take ["self", "signs"] (defScope s_Text_take) := ⟨rfl, rfl, rfl, by decide +kernel, rfl, by decide +kernel, by decide +kernel⟩
def t_Text_take (Z : Ad) : DS :=
  (dSeq (dSet 2 (dMeth Z.c_Text "sign" 1 (sp_Text_sign Z) (dVar 0) dNil))
    (dSeq (dIfS (dOr (dB (dOp dEq (dVar 2) (dC (.d (.str ""))))) (dB (dOp (dInS true) (dVar 2) (dVar 1)))) (dDrop (dMeth Z.c_Text "fail" 1 (sp_Text_fail Z) (dVar 0) dNil))
    dNext)
    (dSeq (dAugF Z.c_Text "kept_at" (dVar 0) (dC (.d (.int 1))))
    (dRet (dVar 2)))))
section
variable {P : Program} {w : World} {K : PySem.W.Frag} {mg : Str → Option Value} {base : Heap} {Z : Ad}
theorem b_Text_take (z : Fx K mg Z w) (F_Text_sign : FnOk P w K mg base (L2.CX P w) 2 Z.f_Text_sign Z.e_Text_sign ["self"] (toSp K 1 (sp_Text_sign Z))) (F_Text_fail : FnOk P w K mg base (L2.CX P w) 3 Z.f_Text_fail Z.e_Text_fail ["self"] (toSp K 1 (sp_Text_fail Z))) {cdv : Value} {A : Around} {outer : List Env} {s : Shared} {H : Hp} {E : XK} (hr : Room 4 (A.deeper (envOfC "Text.take" (defScope s_Text_take) s.heap.objs.size Z.f_Text_take cdv))) :
    QSs (cxOf (L2.CX P w) P w K mg base N_Text_take "Text.take" (defScope s_Text_take) Z.f_Text_take cdv A outer s H E) E (defBody s_Text_take) (t_Text_take Z) :=
  (qss_cons (set1 2 sc_Text_take.nd (meth0 z.o_Text z.m_Text_sign F_Text_sign (by first | decide | omega) hr pass_x (bd_Text_sign z) (v 0) _))
    (qss_cons (qs_if (QW.qt (qw_or (tcmp (o_eq hr.units) (v 2) q_str) (qw_or1 (tcmp o_notIn (v 2) (v 1))))) (qss_one (exps (meth0 z.o_Text z.m_Text_fail F_Text_fail (by first | decide | omega) hr pass_x (bd_Text_fail z) (v 0) _)))
    qss_nil)
    (qss_cons (augf z.o_Text (v 0) q_int)
    (qss_one (retn (v 2))))))
theorem ok_Text_take (z : Fx K mg Z w) (F_Text_sign : FnOk P w K mg base (L2.CX P w) 2 Z.f_Text_sign Z.e_Text_sign ["self"] (toSp K 1 (sp_Text_sign Z))) (F_Text_fail : FnOk P w K mg base (L2.CX P w) 3 Z.f_Text_fail Z.e_Text_fail ["self"] (toSp K 1 (sp_Text_fail Z))) (pure : ∀ xs M R Px, xs.length = 2 → sp_Text_take Z xs M R Px → t_Text_take Z { nx := fun _ M' => R (.d .none) M', rt := R, ex := Px } (startX N_Text_take xs) M) :
    FnOk P w K mg base (L2.CX P w) 5 Z.f_Text_take Z.e_Text_take ["self", "signs"] (toSp K 2 (sp_Text_take Z)) := fn_x z.F_Text_take sc_Text_take rfl (t_Text_take Z) (fun cdv A outer s H E hr => b_Text_take z F_Text_sign F_Text_fail hr) pure
end
abbrev N_Text_word : List Str := ["self", "found"]
theorem sc_Text_word : FnScope N_Text_word ["self"] (defScope s_Text_word) := ⟨rfl, rfl, rfl, by decide +kernel, rfl, by decide +kernel, by decide +kernel⟩
def t_Text_word (Z : Ad) : DS :=
  (dSeq (dSet 1 (dOp dAdd (dMeth Z.c_Text "take" 2 (sp_Text_take Z) (dVar 0) (dCons (dC (.d (.str "abcdefghijklmnopqrstuvwxyz"))) dNil)) (dMeth Z.c_Text "take" 2 (sp_Text_take Z) (dVar 0) (dCons (dC (.d (.str "abcdefghijklmnopqrstuvwxyz"))) dNil))))
    (dSeq (dIfS (dAnd (dB (dOp dNe (dMeth Z.c_Text "sign" 1 (sp_Text_sign Z) (dVar 0) dNil) (dC (.d (.str ""))))) (dB (dOp (dInS false) (dMeth Z.c_Text "sign" 1 (sp_Text_sign Z) (dVar 0) dNil) (dC (.d (.str "abcdefghijklmnopqrstuvwxyz")))))) (dDrop (dMeth Z.c_Text "fail" 1 (sp_Text_fail Z) (dVar 0) dNil))
    dNext)
    (dRet (dVar 1))))
section
variable {P : Program} {w : World} {K : PySem.W.Frag} {mg : Str → Option Value} {base : Heap} {Z : Ad}
theorem b_Text_word (z : Fx K mg Z w) (F_Text_take : FnOk P w K mg base (L2.CX P w) 5 Z.f_Text_take Z.e_Text_take ["self", "signs"] (toSp K 2 (sp_Text_take Z))) (F_Text_sign : FnOk P w K mg base (L2.CX P w) 2 Z.f_Text_sign Z.e_Text_sign ["self"] (toSp K 1 (sp_Text_sign Z))) (F_Text_fail : FnOk P w K mg base (L2.CX P w) 3 Z.f_Text_fail Z.e_Text_fail ["self"] (toSp K 1 (sp_Text_fail Z))) {cdv : Value} {A : Around} {outer : List Env} {s : Shared} {H : Hp} {E : XK} (hr : Room 5 (A.deeper (envOfC "Text.word" (defScope s_Text_word) s.heap.objs.size Z.f_Text_word cdv))) :
    QSs (cxOf (L2.CX P w) P w K mg base N_Text_word "Text.word" (defScope s_Text_word) Z.f_Text_word cdv A outer s H E) E (defBody s_Text_word) (t_Text_word Z) :=
  (qss_cons (set1 1 sc_Text_word.nd (q_op o_add (meth z.o_Text z.m_Text_take F_Text_take (by first | decide | omega) hr pass_x (bd_Text_take z) (v 0) (qa_cons (gs z.g_LETTERS) qa_nil) _) (meth z.o_Text z.m_Text_take F_Text_take (by first | decide | omega) hr pass_x (bd_Text_take z) (v 0) (qa_cons (gs z.g_LETTERS) qa_nil) _)))
    (qss_cons (qs_if (QW.qt (qw_and (tcmp (o_ne hr.units) (meth0 z.o_Text z.m_Text_sign F_Text_sign (by first | decide | omega) hr pass_x (bd_Text_sign z) (v 0) _) q_str) (qw_and1 (tcmp o_in (meth0 z.o_Text z.m_Text_sign F_Text_sign (by first | decide | omega) hr pass_x (bd_Text_sign z) (v 0) _) (gs z.g_LETTERS))))) (qss_one (exps (meth0 z.o_Text z.m_Text_fail F_Text_fail (by first | decide | omega) hr pass_x (bd_Text_fail z) (v 0) _)))
    qss_nil)
    (qss_one (retn (v 1)))))
theorem ok_Text_word (z : Fx K mg Z w) (F_Text_take : FnOk P w K mg base (L2.CX P w) 5 Z.f_Text_take Z.e_Text_take ["self", "signs"] (toSp K 2 (sp_Text_take Z))) (F_Text_sign : FnOk P w K mg base (L2.CX P w) 2 Z.f_Text_sign Z.e_Text_sign ["self"] (toSp K 1 (sp_Text_sign Z))) (F_Text_fail : FnOk P w K mg base (L2.CX P w) 3 Z.f_Text_fail Z.e_Text_fail ["self"] (toSp K 1 (sp_Text_fail Z))) (pure : ∀ xs M R Px, xs.length = 1 → sp_Text_word Z xs M R Px → t_Text_word Z { nx := fun _ M' => R (.d .none) M', rt := R, ex := Px } (startX N_Text_word xs) M) :
    FnOk P w K mg base (L2.CX P w) 6 Z.f_Text_word Z.e_Text_word ["self"] (toSp K 1 (sp_Text_word Z)) := fn_x z.F_Text_word sc_Text_word rfl (t_Text_word Z) (fun cdv A outer s H E hr => b_Text_word z F_Text_take F_Text_sign F_Text_fail hr) pure
end
abbrev N_Text_worth : List Str := ["self", "begin", "found"]
theorem sc_Text_worth : FnScope N_Text_worth ["self"] (defScope s_Text_worth) := ⟨rfl, rfl, rfl, by decide +kernel, rfl, by decide +kernel, by decide +kernel⟩
def t_Text_worth (Z : Ad) : DS :=
  (dSeq (dSet 1 (dFld Z.c_Text "kept_at" (dVar 0)))
    (dSeq (dSet 2 (dIf (dB (dOp dEq (dMeth Z.c_Text "sign" 1 (sp_Text_sign Z) (dVar 0) dNil) (dC (.d (.str "-"))))) (dMeth Z.c_Text "take" 2 (sp_Text_take Z) (dVar 0) (dCons (dC (.d (.str "-"))) dNil)) (dC (.d (.str "")))))
    (dSeq (dSet 2 (dOp dAdd (dVar 2) (dMeth Z.c_Text "take" 2 (sp_Text_take Z) (dVar 0) (dCons (dIf (dB (dOp dEq (dVar 2) (dC (.d (.str ""))))) (dC (.d (.str "0123456789"))) (dSl (dC (.d (.str "0123456789"))) (dP (dC (.d (.int 1)))) dNoP)) dNil))))
    (dSeq (dWhile (dAnd (dB (dOp dNe (dVar 2) (dC (.d (.str "0"))))) (dAnd (dB (dOp dNe (dMeth Z.c_Text "sign" 1 (sp_Text_sign Z) (dVar 0) dNil) (dC (.d (.str ""))))) (dB (dOp (dInS false) (dMeth Z.c_Text "sign" 1 (sp_Text_sign Z) (dVar 0) dNil) (dC (.d (.str "0123456789")))))))
    (dSet 2 (dOp dAdd (dVar 2) (dMeth Z.c_Text "take" 2 (sp_Text_take Z) (dVar 0) (dCons (dC (.d (.str "0123456789"))) dNil)))))
    (dSeq (dIfS (dOr (dB (dOp dGt (dApp cLen (dCons (dVar 2) dNil)) (dC (.d (.int 20))))) (dNot (dB (dCall 1 (sp_is_worth Z) (dCons (dApp cInt (dCons (dVar 2) dNil)) dNil))))) (dRaise (mkC1 Z.c_BadSigns "at" (dCons (dVar 1) dNil)))
    dNext)
    (dRet (dApp cInt (dCons (dVar 2) dNil))))))))
section
variable {P : Program} {w : World} {K : PySem.W.Frag} {mg : Str → Option Value} {base : Heap} {Z : Ad}
theorem b_Text_worth (z : Fx K mg Z w) (F_Text_sign : FnOk P w K mg base (L2.CX P w) 2 Z.f_Text_sign Z.e_Text_sign ["self"] (toSp K 1 (sp_Text_sign Z))) (F_Text_take : FnOk P w K mg base (L2.CX P w) 5 Z.f_Text_take Z.e_Text_take ["self", "signs"] (toSp K 2 (sp_Text_take Z))) (F_is_worth : FnOk P w K mg base (L2.CX P w) 4 Z.f_is_worth Z.e_is_worth ["thing"] (toSp K 1 (sp_is_worth Z))) (F_BadSigns_init : FnOk P w K mg base (L2.CX P w) 1 Z.f_BadSigns_init Z.e_BadSigns_init ["self", "at"] (spInit Z.c_BadSigns "at")) {cdv : Value} {A : Around} {outer : List Env} {s : Shared} {H : Hp} {E : XK} (hr : Room 6 (A.deeper (envOfC "Text.worth" (defScope s_Text_worth) s.heap.objs.size Z.f_Text_worth cdv))) :
    QSs (cxOf (L2.CX P w) P w K mg base N_Text_worth "Text.worth" (defScope s_Text_worth) Z.f_Text_worth cdv A outer s H E) E (defBody s_Text_worth) (t_Text_worth Z) :=
  (qss_cons (set1 1 sc_Text_worth.nd (fld z.o_Text (v 0)))
    (qss_cons (set1 2 sc_Text_worth.nd (q_if (tcmp (o_eq hr.units) (meth0 z.o_Text z.m_Text_sign F_Text_sign (by first | decide | omega) hr pass_x (bd_Text_sign z) (v 0) _) q_str) (meth z.o_Text z.m_Text_take F_Text_take (by first | decide | omega) hr pass_x (bd_Text_take z) (v 0) (qa_cons q_str qa_nil) _) q_str))
    (qss_cons (set1 2 sc_Text_worth.nd (q_op o_add (v 2) (meth z.o_Text z.m_Text_take F_Text_take (by first | decide | omega) hr pass_x (bd_Text_take z) (v 0) (qa_cons (q_if (tcmp (o_eq hr.units) (v 2) q_str) (gs z.g_FIGURES) (slc (gs z.g_FIGURES) (qp_some q_int) qp_no)) qa_nil) _)))
    (qss_cons (whil (passes_of rfl) (QW.qt (qw_and (tcmp (o_ne hr.units) (v 2) q_str) (qw_and (tcmp (o_ne hr.units) (meth0 z.o_Text z.m_Text_sign F_Text_sign (by first | decide | omega) hr pass_x (bd_Text_sign z) (v 0) _) q_str) (qw_and1 (tcmp o_in (meth0 z.o_Text z.m_Text_sign F_Text_sign (by first | decide | omega) hr pass_x (bd_Text_sign z) (v 0) _) (gs z.g_FIGURES))))))
    (qss_one (set1 2 sc_Text_worth.nd (q_op o_add (v 2) (meth z.o_Text z.m_Text_take F_Text_take (by first | decide | omega) hr pass_x (bd_Text_take z) (v 0) (qa_cons (gs z.g_FIGURES) qa_nil) _)))))
    (qss_cons (qs_if (QW.qt (qw_or (tcmp o_gt (blt b_len z.n_len bt_len (qa_cons (v 2) qa_nil)) (gi z.g_MOST_FIGURES)) (qw_or1 (qt_not (tval (call F_is_worth (by first | decide | omega) hr pass_x z.g_is_worth z.k_is_worth (bd_is_worth z) (qa_cons (blty b_int z.n_int bt_int (qa_cons (v 2) qa_nil)) qa_nil))))))) (qss_one (qs_raise rfl (takes_of rfl rfl rfl rfl) (q_mk1 (qa_cons (v 1) qa_nil) fun _ h => pmk_oex z.oe_BadSigns z.in_BadSigns z.ti_BadSigns F_BadSigns_init (hr.mono (by first | decide | omega)) (bd_BadSigns_init z) .nil passX_no rfl z.g_BadSigns h)))
    qss_nil)
    (qss_one (retn (blty b_int z.n_int bt_int (qa_cons (v 2) qa_nil)))))))))
theorem ok_Text_worth (z : Fx K mg Z w) (F_Text_sign : FnOk P w K mg base (L2.CX P w) 2 Z.f_Text_sign Z.e_Text_sign ["self"] (toSp K 1 (sp_Text_sign Z))) (F_Text_take : FnOk P w K mg base (L2.CX P w) 5 Z.f_Text_take Z.e_Text_take ["self", "signs"] (toSp K 2 (sp_Text_take Z))) (F_is_worth : FnOk P w K mg base (L2.CX P w) 4 Z.f_is_worth Z.e_is_worth ["thing"] (toSp K 1 (sp_is_worth Z))) (F_BadSigns_init : FnOk P w K mg base (L2.CX P w) 1 Z.f_BadSigns_init Z.e_BadSigns_init ["self", "at"] (spInit Z.c_BadSigns "at")) (pure : ∀ xs M R Px, xs.length = 1 → sp_Text_worth Z xs M R Px → t_Text_worth Z { nx := fun _ M' => R (.d .none) M', rt := R, ex := Px } (startX N_Text_worth xs) M) :
    FnOk P w K mg base (L2.CX P w) 7 Z.f_Text_worth Z.e_Text_worth ["self"] (toSp K 1 (sp_Text_worth Z)) := fn_x z.F_Text_worth sc_Text_worth rfl (t_Text_worth Z) (fun cdv A outer s H E hr => b_Text_worth z F_Text_sign F_Text_take F_is_worth F_BadSigns_init hr) pure
end
abbrev N_Text_atom : List Str := ["self", "sign", "test", "found"]
theorem sc_Text_atom : FnScope N_Text_atom ["self"] (defScope s_Text_atom) := ⟨rfl, rfl, rfl, by decide +kernel, rfl, by decide +kernel, by decide +kernel⟩
def t_Text_atom (Z : Ad) : DS :=
  (dSeq (dSet 1 (dMeth Z.c_Text "sign" 1 (sp_Text_sign Z) (dVar 0) dNil))
    (dSeq (dIfS (dAnd (dB (dOp dNe (dVar 1) (dC (.d (.str ""))))) (dB (dOp (dInS false) (dVar 1) (dC (.d (.str "abcdefghijklmnopqrstuvwxyz")))))) (dRet (dTup (dCons (dC (.d (.str "word"))) (dCons (dMeth Z.c_Text "word" 1 (sp_Text_word Z) (dVar 0) dNil) dNil))))
    dNext)
    (dSeq (dIfS (dB (dOp dEq (dMeth Z.c_Text "take" 2 (sp_Text_take Z) (dVar 0) (dCons (dC (.d (.str "~._["))) dNil)) (dC (.d (.str "~"))))) (dRet (dTup (dCons (dC (.d (.str "back"))) (dCons (dMeth Z.c_Text "word" 1 (sp_Text_word Z) (dVar 0) dNil) dNil))))
    dNext)
    (dSeq (dIfS (dB (dOp dNe (dVar 1) (dC (.d (.str "["))))) (dRet (dIf (dB (dOp dEq (dVar 1) (dC (.d (.str "."))))) (dTup (dCons (dC (.d (.str "any"))) dNil)) (dTup (dCons (dC (.d (.str "here"))) dNil))))
    dNext)
    (dSeq (dSet 2 (dMeth Z.c_Text "take" 2 (sp_Text_take Z) (dVar 0) (dCons (dC (.d (.str "<=>"))) dNil)))
    (dSeq (dSet 3 (dTup (dCons (dC (.d (.str "node"))) (dCons (dVar 2) (dCons (dMeth Z.c_Text "worth" 1 (sp_Text_worth Z) (dVar 0) dNil) dNil)))))
    (dSeq (dDrop (dMeth Z.c_Text "take" 2 (sp_Text_take Z) (dVar 0) (dCons (dC (.d (.str "]"))) dNil)))
    (dRet (dVar 3)))))))))
section
variable {P : Program} {w : World} {K : PySem.W.Frag} {mg : Str → Option Value} {base : Heap} {Z : Ad}
theorem b_Text_atom (z : Fx K mg Z w) (F_Text_sign : FnOk P w K mg base (L2.CX P w) 2 Z.f_Text_sign Z.e_Text_sign ["self"] (toSp K 1 (sp_Text_sign Z))) (F_Text_word : FnOk P w K mg base (L2.CX P w) 6 Z.f_Text_word Z.e_Text_word ["self"] (toSp K 1 (sp_Text_word Z))) (F_Text_take : FnOk P w K mg base (L2.CX P w) 5 Z.f_Text_take Z.e_Text_take ["self", "signs"] (toSp K 2 (sp_Text_take Z))) (F_Text_worth : FnOk P w K mg base (L2.CX P w) 7 Z.f_Text_worth Z.e_Text_worth ["self"] (toSp K 1 (sp_Text_worth Z))) {cdv : Value} {A : Around} {outer : List Env} {s : Shared} {H : Hp} {E : XK} (hr : Room 7 (A.deeper (envOfC "Text.atom" (defScope s_Text_atom) s.heap.objs.size Z.f_Text_atom cdv))) :
    QSs (cxOf (L2.CX P w) P w K mg base N_Text_atom "Text.atom" (defScope s_Text_atom) Z.f_Text_atom cdv A outer s H E) E (defBody s_Text_atom) (t_Text_atom Z) :=
  (qss_cons (set1 1 sc_Text_atom.nd (meth0 z.o_Text z.m_Text_sign F_Text_sign (by first | decide | omega) hr pass_x (bd_Text_sign z) (v 0) _))
    (qss_cons (qs_if (QW.qt (qw_and (tcmp (o_ne hr.units) (v 1) q_str) (qw_and1 (tcmp o_in (v 1) (gs z.g_LETTERS))))) (qss_one (retn (q_tup (qa_cons q_str (qa_cons (meth0 z.o_Text z.m_Text_word F_Text_word (by first | decide | omega) hr pass_x (bd_Text_word z) (v 0) _) qa_nil)))))
    qss_nil)
    (qss_cons (qs_if (tcmp (o_eq hr.units) (meth z.o_Text z.m_Text_take F_Text_take (by first | decide | omega) hr pass_x (bd_Text_take z) (v 0) (qa_cons q_str qa_nil) _) q_str) (qss_one (retn (q_tup (qa_cons q_str (qa_cons (meth0 z.o_Text z.m_Text_word F_Text_word (by first | decide | omega) hr pass_x (bd_Text_word z) (v 0) _) qa_nil)))))
    qss_nil)
    (qss_cons (qs_if (tcmp (o_ne hr.units) (v 1) q_str) (qss_one (retn (q_if (tcmp (o_eq hr.units) (v 1) q_str) (q_tup (qa_cons q_str qa_nil)) (q_tup (qa_cons q_str qa_nil)))))
    qss_nil)
    (qss_cons (set1 2 sc_Text_atom.nd (meth z.o_Text z.m_Text_take F_Text_take (by first | decide | omega) hr pass_x (bd_Text_take z) (v 0) (qa_cons (gs z.g_TESTS) qa_nil) _))
    (qss_cons (set1 3 sc_Text_atom.nd (q_tup (qa_cons q_str (qa_cons (v 2) (qa_cons (meth0 z.o_Text z.m_Text_worth F_Text_worth (by first | decide | omega) hr pass_x (bd_Text_worth z) (v 0) _) qa_nil)))))
    (qss_cons (exps (meth z.o_Text z.m_Text_take F_Text_take (by first | decide | omega) hr pass_x (bd_Text_take z) (v 0) (qa_cons q_str qa_nil) _))
    (qss_one (retn (v 3))))))))))
theorem ok_Text_atom (z : Fx K mg Z w) (F_Text_sign : FnOk P w K mg base (L2.CX P w) 2 Z.f_Text_sign Z.e_Text_sign ["self"] (toSp K 1 (sp_Text_sign Z))) (F_Text_word : FnOk P w K mg base (L2.CX P w) 6 Z.f_Text_word Z.e_Text_word ["self"] (toSp K 1 (sp_Text_word Z))) (F_Text_take : FnOk P w K mg base (L2.CX P w) 5 Z.f_Text_take Z.e_Text_take ["self", "signs"] (toSp K 2 (sp_Text_take Z))) (F_Text_worth : FnOk P w K mg base (L2.CX P w) 7 Z.f_Text_worth Z.e_Text_worth ["self"] (toSp K 1 (sp_Text_worth Z))) (pure : ∀ xs M R Px, xs.length = 1 → sp_Text_atom Z xs M R Px → t_Text_atom Z { nx := fun _ M' => R (.d .none) M', rt := R, ex := Px } (startX N_Text_atom xs) M) :
    FnOk P w K mg base (L2.CX P w) 8 Z.f_Text_atom Z.e_Text_atom ["self"] (toSp K 1 (sp_Text_atom Z)) := fn_x z.F_Text_atom sc_Text_atom rfl (t_Text_atom Z) (fun cdv A outer s H E hr => b_Text_atom z F_Text_sign F_Text_word F_Text_take F_Text_worth hr) pure
end
abbrev N_Text_begin : List Str := ["self"]
theorem sc_Text_begin : FnScope N_Text_begin ["self"] (defScope s_Text_begin) := ⟨rfl, rfl, rfl, by decide +kernel, rfl, by decide +kernel, by decide +kernel⟩
def t_Text_begin (Z : Ad) : DS :=
  (dIfS (dB (dOp dEq (dMeth Z.c_Text "sign" 1 (sp_Text_sign Z) (dVar 0) dNil) (dC (.d (.str "("))))) (dSeq (dAugF Z.c_Text "kept_at" (dVar 0) (dC (.d (.int 1))))
    (dSeq (dDrop (dBM "list" mApp (dFld Z.c_Text "kept_frames" (dVar 0)) (dCons (dMake Z.c_Frame 1 (sp_Frame_init Z) dNil) dNil)))
    (dSetF Z.c_Text "kept_wanted" (dVar 0) (dC (.d (.bool true))))))
    (dSeq (dDrop (dMeth Z.c_Frame "add" 2 (sp_Frame_add Z) (dOp dIx (dFld Z.c_Text "kept_frames" (dVar 0)) (dNeg (dC (.d (.int 1))))) (dCons (dMeth Z.c_Text "atom" 1 (sp_Text_atom Z) (dVar 0) dNil) dNil)))
    (dSetF Z.c_Text "kept_wanted" (dVar 0) (dC (.d (.bool false))))))
section
variable {P : Program} {w : World} {K : PySem.W.Frag} {mg : Str → Option Value} {base : Heap} {Z : Ad}
theorem b_Text_begin (z : Fx K mg Z w) (F_Text_sign : FnOk P w K mg base (L2.CX P w) 2 Z.f_Text_sign Z.e_Text_sign ["self"] (toSp K 1 (sp_Text_sign Z))) (F_Frame_init : FnOk P w K mg base (L2.CX P w) 2 Z.f_Frame_init Z.e_Frame_init ["self"] (toSp K 1 (sp_Frame_init Z))) (F_Frame_add : FnOk P w K mg base (L2.CX P w) 3 Z.f_Frame_add Z.e_Frame_add ["self", "thing"] (toSp K 2 (sp_Frame_add Z))) (F_Text_atom : FnOk P w K mg base (L2.CX P w) 8 Z.f_Text_atom Z.e_Text_atom ["self"] (toSp K 1 (sp_Text_atom Z))) {cdv : Value} {A : Around} {outer : List Env} {s : Shared} {H : Hp} {E : XK} (hr : Room 8 (A.deeper (envOfC "Text.begin" (defScope s_Text_begin) s.heap.objs.size Z.f_Text_begin cdv))) :
    QSs (cxOf (L2.CX P w) P w K mg base N_Text_begin "Text.begin" (defScope s_Text_begin) Z.f_Text_begin cdv A outer s H E) E (defBody s_Text_begin) (t_Text_begin Z) :=
  (qss_one (qs_if (tcmp (o_eq hr.units) (meth0 z.o_Text z.m_Text_sign F_Text_sign (by first | decide | omega) hr pass_x (bd_Text_sign z) (v 0) _) q_str) (qss_cons (augf z.o_Text (v 0) q_int)
    (qss_cons (exps (q_bm m_append (fld z.o_Text (v 0)) (qa_cons (make0 z.m_Frame F_Frame_init (by first | decide | omega) hr pass_x z.g_Frame (bd_Frame_init z)) qa_nil) fun _ _ _ h1 h2 h3 => pe_bm PySem.F.plainAttrs_list PySem.F.slot_list_append PySem.F.type_list_append h1 h2 h3))
    (qss_one (setf z.o_Text (v 0) q_bl))))
    (qss_cons (exps (meth z.o_Frame z.m_Frame_add F_Frame_add (by first | decide | omega) hr pass_x (bd_Frame_add z) (ix i_seq (fld z.o_Text (v 0)) (q_neg q_int)) (qa_cons (meth0 z.o_Text z.m_Text_atom F_Text_atom (by first | decide | omega) hr pass_x (bd_Text_atom z) (v 0) _) qa_nil) _))
    (qss_one (setf z.o_Text (v 0) q_bl)))))
theorem ok_Text_begin (z : Fx K mg Z w) (F_Text_sign : FnOk P w K mg base (L2.CX P w) 2 Z.f_Text_sign Z.e_Text_sign ["self"] (toSp K 1 (sp_Text_sign Z))) (F_Frame_init : FnOk P w K mg base (L2.CX P w) 2 Z.f_Frame_init Z.e_Frame_init ["self"] (toSp K 1 (sp_Frame_init Z))) (F_Frame_add : FnOk P w K mg base (L2.CX P w) 3 Z.f_Frame_add Z.e_Frame_add ["self", "thing"] (toSp K 2 (sp_Frame_add Z))) (F_Text_atom : FnOk P w K mg base (L2.CX P w) 8 Z.f_Text_atom Z.e_Text_atom ["self"] (toSp K 1 (sp_Text_atom Z))) (pure : ∀ xs M R Px, xs.length = 1 → sp_Text_begin Z xs M R Px → t_Text_begin Z { nx := fun _ M' => R (.d .none) M', rt := R, ex := Px } (startX N_Text_begin xs) M) :
    FnOk P w K mg base (L2.CX P w) 9 Z.f_Text_begin Z.e_Text_begin ["self"] (toSp K 1 (sp_Text_begin Z)) := fn_x z.F_Text_begin sc_Text_begin rfl (t_Text_begin Z) (fun cdv A outer s H E hr => b_Text_begin z F_Text_sign F_Frame_init F_Frame_add F_Text_atom hr) pure
end
abbrev N_Text_times : List Str := ["self", "least", "most", "frame"]
theorem sc_Text_times : FnScope N_Text_times ["self"] (defScope s_Text_times) := ⟨rfl, rfl, rfl, by decide +kernel, rfl, by decide +kernel, by decide +kernel⟩
def t_Text_times (Z : Ad) : DS :=
  (dSeq (dDrop (dMeth Z.c_Text "take" 2 (sp_Text_take Z) (dVar 0) (dCons (dC (.d (.str "{"))) dNil)))
    (dSeq (dSet 1 (dApp cInt (dCons (dMeth Z.c_Text "take" 2 (sp_Text_take Z) (dVar 0) (dCons (dC (.d (.str "0123456789"))) dNil)) dNil)))
    (dSeq (dDrop (dMeth Z.c_Text "take" 2 (sp_Text_take Z) (dVar 0) (dCons (dC (.d (.str ","))) dNil)))
    (dSeq (dSet 2 (dApp cInt (dCons (dMeth Z.c_Text "take" 2 (sp_Text_take Z) (dVar 0) (dCons (dC (.d (.str "0123456789"))) dNil)) dNil)))
    (dSeq (dIfS (dAnd (dB (dOp dEq (dMeth Z.c_Text "sign" 1 (sp_Text_sign Z) (dVar 0) dNil) (dC (.d (.str "}"))))) (dNot (dB (dChain dLe dLe (dApp cMax (dCons (dC (.d (.int 1))) (dCons (dVar 1) dNil))) (dVar 2) (dC (.d (.int 9))))))) (dDrop (dMeth Z.c_Text "fail" 1 (sp_Text_fail Z) (dVar 0) dNil))
    dNext)
    (dSeq (dDrop (dMeth Z.c_Text "take" 2 (sp_Text_take Z) (dVar 0) (dCons (dC (.d (.str "}"))) dNil)))
    (dSeq (dSet 3 (dOp dIx (dFld Z.c_Text "kept_frames" (dVar 0)) (dNeg (dC (.d (.int 1))))))
    (dSetF Z.c_Frame "kept_last" (dVar 3) (dTup (dCons (dC (.d (.str "times"))) (dCons (dVar 1) (dCons (dVar 2) (dCons (dFld Z.c_Frame "kept_last" (dVar 3)) dNil)))))))))))))
section
variable {P : Program} {w : World} {K : PySem.W.Frag} {mg : Str → Option Value} {base : Heap} {Z : Ad}
theorem b_Text_times (z : Fx K mg Z w) (F_Text_take : FnOk P w K mg base (L2.CX P w) 5 Z.f_Text_take Z.e_Text_take ["self", "signs"] (toSp K 2 (sp_Text_take Z))) (F_Text_sign : FnOk P w K mg base (L2.CX P w) 2 Z.f_Text_sign Z.e_Text_sign ["self"] (toSp K 1 (sp_Text_sign Z))) (F_Text_fail : FnOk P w K mg base (L2.CX P w) 3 Z.f_Text_fail Z.e_Text_fail ["self"] (toSp K 1 (sp_Text_fail Z))) {cdv : Value} {A : Around} {outer : List Env} {s : Shared} {H : Hp} {E : XK} (hr : Room 8 (A.deeper (envOfC "Text.times" (defScope s_Text_times) s.heap.objs.size Z.f_Text_times cdv))) :
    QSs (cxOf (L2.CX P w) P w K mg base N_Text_times "Text.times" (defScope s_Text_times) Z.f_Text_times cdv A outer s H E) E (defBody s_Text_times) (t_Text_times Z) :=
  (qss_cons (exps (meth z.o_Text z.m_Text_take F_Text_take (by first | decide | omega) hr pass_x (bd_Text_take z) (v 0) (qa_cons q_str qa_nil) _))
    (qss_cons (set1 1 sc_Text_times.nd (blty b_int z.n_int bt_int (qa_cons (meth z.o_Text z.m_Text_take F_Text_take (by first | decide | omega) hr pass_x (bd_Text_take z) (v 0) (qa_cons (gs z.g_FIGURES) qa_nil) _) qa_nil)))
    (qss_cons (exps (meth z.o_Text z.m_Text_take F_Text_take (by first | decide | omega) hr pass_x (bd_Text_take z) (v 0) (qa_cons q_str qa_nil) _))
    (qss_cons (set1 2 sc_Text_times.nd (blty b_int z.n_int bt_int (qa_cons (meth z.o_Text z.m_Text_take F_Text_take (by first | decide | omega) hr pass_x (bd_Text_take z) (v 0) (qa_cons (gs z.g_FIGURES) qa_nil) _) qa_nil)))
    (qss_cons (qs_if (QW.qt (qw_and (tcmp (o_eq hr.units) (meth0 z.o_Text z.m_Text_sign F_Text_sign (by first | decide | omega) hr pass_x (bd_Text_sign z) (v 0) _) q_str) (qw_and1 (qt_not (qt_chain o_le o_le (blt (b_max rfl) z.n_max bt_max (qa_cons q_int (qa_cons (v 1) qa_nil))) (v 2) (gi z.g_MOST_TIMES)))))) (qss_one (exps (meth0 z.o_Text z.m_Text_fail F_Text_fail (by first | decide | omega) hr pass_x (bd_Text_fail z) (v 0) _)))
    qss_nil)
    (qss_cons (exps (meth z.o_Text z.m_Text_take F_Text_take (by first | decide | omega) hr pass_x (bd_Text_take z) (v 0) (qa_cons q_str qa_nil) _))
    (qss_cons (set1 3 sc_Text_times.nd (ix i_seq (fld z.o_Text (v 0)) (q_neg q_int)))
    (qss_one (setf z.o_Frame (v 3) (q_tup (qa_cons q_str (qa_cons (v 1) (qa_cons (v 2) (qa_cons (fld z.o_Frame (v 3)) qa_nil))))))))))))))
theorem ok_Text_times (z : Fx K mg Z w) (F_Text_take : FnOk P w K mg base (L2.CX P w) 5 Z.f_Text_take Z.e_Text_take ["self", "signs"] (toSp K 2 (sp_Text_take Z))) (F_Text_sign : FnOk P w K mg base (L2.CX P w) 2 Z.f_Text_sign Z.e_Text_sign ["self"] (toSp K 1 (sp_Text_sign Z))) (F_Text_fail : FnOk P w K mg base (L2.CX P w) 3 Z.f_Text_fail Z.e_Text_fail ["self"] (toSp K 1 (sp_Text_fail Z))) (pure : ∀ xs M R Px, xs.length = 1 → sp_Text_times Z xs M R Px → t_Text_times Z { nx := fun _ M' => R (.d .none) M', rt := R, ex := Px } (startX N_Text_times xs) M) :
    FnOk P w K mg base (L2.CX P w) 9 Z.f_Text_times Z.e_Text_times ["self"] (toSp K 1 (sp_Text_times Z)) := fn_x z.F_Text_times sc_Text_times rfl (t_Text_times Z) (fun cdv A outer s H E hr => b_Text_times z F_Text_take F_Text_sign F_Text_fail hr) pure
end
abbrev N_Text_go_on : List Str := ["self", "frame", "sign"]
theorem sc_Text_go_on : FnScope N_Text_go_on ["self"] (defScope s_Text_go_on) := ⟨rfl, rfl, rfl, by decide +kernel, rfl, by decide +kernel, by decide +kernel⟩
def t_Text_go_on (Z : Ad) : DS :=
  (dSeq (dSet 1 (dOp dIx (dFld Z.c_Text "kept_frames" (dVar 0)) (dNeg (dC (.d (.int 1))))))
    (dSeq (dSet 2 (dMeth Z.c_Text "sign" 1 (sp_Text_sign Z) (dVar 0) dNil))
    (dIfS (dB (dOp (dInK Z.c_KIND_OF kv_KIND_OF) (dVar 2) (dC (.r (.ref Z.c_KIND_OF))))) (dSeq (dAugF Z.c_Text "kept_at" (dVar 0) (dC (.d (.int 1))))
    (dSetF Z.c_Frame "kept_last" (dVar 1) (dTup (dCons (dOp (dIxK Z.c_KIND_OF kv_KIND_OF) (dC (.r (.ref Z.c_KIND_OF))) (dVar 2)) (dCons (dFld Z.c_Frame "kept_last" (dVar 1)) dNil)))))
    (dIfS (dB (dOp dEq (dVar 2) (dC (.d (.str "{"))))) (dDrop (dMeth Z.c_Text "times" 1 (sp_Text_times Z) (dVar 0) dNil))
    (dIfS (dB (dOp dEq (dVar 2) (dC (.d (.str "|"))))) (dSeq (dAugF Z.c_Text "kept_at" (dVar 0) (dC (.d (.int 1))))
    (dSeq (dDrop (dMeth Z.c_Frame "part" 1 (sp_Frame_part Z) (dVar 1) dNil))
    (dSetF Z.c_Text "kept_wanted" (dVar 0) (dC (.d (.bool true))))))
    (dIfS (dAnd (dB (dOp dEq (dVar 2) (dC (.d (.str ")"))))) (dB (dOp dGt (dApp cLen (dCons (dFld Z.c_Text "kept_frames" (dVar 0)) dNil)) (dC (.d (.int 1)))))) (dSeq (dAugF Z.c_Text "kept_at" (dVar 0) (dC (.d (.int 1))))
    (dSeq (dDrop (dBM "list" mPop (dFld Z.c_Text "kept_frames" (dVar 0)) dNil))
    (dDrop (dMeth Z.c_Frame "add" 2 (sp_Frame_add Z) (dOp dIx (dFld Z.c_Text "kept_frames" (dVar 0)) (dNeg (dC (.d (.int 1))))) (dCons (dMeth Z.c_Frame "whole" 1 (sp_Frame_whole Z) (dVar 1) dNil) dNil)))))
    (dDrop (dMeth Z.c_Text "begin" 1 (sp_Text_begin Z) (dVar 0) dNil))))))))
section
variable {P : Program} {w : World} {K : PySem.W.Frag} {mg : Str → Option Value} {base : Heap} {Z : Ad}
theorem b_Text_go_on (z : Fx K mg Z w) (F_Text_sign : FnOk P w K mg base (L2.CX P w) 2 Z.f_Text_sign Z.e_Text_sign ["self"] (toSp K 1 (sp_Text_sign Z))) (F_Text_times : FnOk P w K mg base (L2.CX P w) 9 Z.f_Text_times Z.e_Text_times ["self"] (toSp K 1 (sp_Text_times Z))) (F_Frame_part : FnOk P w K mg base (L2.CX P w) 3 Z.f_Frame_part Z.e_Frame_part ["self"] (toSp K 1 (sp_Frame_part Z))) (F_Frame_add : FnOk P w K mg base (L2.CX P w) 3 Z.f_Frame_add Z.e_Frame_add ["self", "thing"] (toSp K 2 (sp_Frame_add Z))) (F_Frame_whole : FnOk P w K mg base (L2.CX P w) 4 Z.f_Frame_whole Z.e_Frame_whole ["self"] (toSp K 1 (sp_Frame_whole Z))) (F_Text_begin : FnOk P w K mg base (L2.CX P w) 9 Z.f_Text_begin Z.e_Text_begin ["self"] (toSp K 1 (sp_Text_begin Z))) {cdv : Value} {A : Around} {outer : List Env} {s : Shared} {H : Hp} {E : XK} (hr : Room 10 (A.deeper (envOfC "Text.go_on" (defScope s_Text_go_on) s.heap.objs.size Z.f_Text_go_on cdv))) :
    QSs (cxOf (L2.CX P w) P w K mg base N_Text_go_on "Text.go_on" (defScope s_Text_go_on) Z.f_Text_go_on cdv A outer s H E) E (defBody s_Text_go_on) (t_Text_go_on Z) :=
  (qss_cons (set1 1 sc_Text_go_on.nd (ix i_seq (fld z.o_Text (v 0)) (q_neg q_int)))
    (qss_cons (set1 2 sc_Text_go_on.nd (meth0 z.o_Text z.m_Text_sign F_Text_sign (by first | decide | omega) hr pass_x (bd_Text_sign z) (v 0) _))
    (qss_one (qs_if (tcmp (o_inK z.t_KIND_OF) (v 2) (gr z.g_KIND_OF)) (qss_cons (augf z.o_Text (v 0) q_int)
    (qss_one (setf z.o_Frame (v 1) (q_tup (qa_cons (ix (i_K z.t_KIND_OF) (gr z.g_KIND_OF) (v 2)) (qa_cons (fld z.o_Frame (v 1)) qa_nil))))))
    (qss_one (qs_if (tcmp (o_eq hr.units) (v 2) q_str) (qss_one (exps (meth0 z.o_Text z.m_Text_times F_Text_times (by first | decide | omega) hr pass_x (bd_Text_times z) (v 0) _)))
    (qss_one (qs_if (tcmp (o_eq hr.units) (v 2) q_str) (qss_cons (augf z.o_Text (v 0) q_int)
    (qss_cons (exps (meth0 z.o_Frame z.m_Frame_part F_Frame_part (by first | decide | omega) hr pass_x (bd_Frame_part z) (v 1) _))
    (qss_one (setf z.o_Text (v 0) q_bl))))
    (qss_one (qs_if (QW.qt (qw_and (tcmp (o_eq hr.units) (v 2) q_str) (qw_and1 (tcmp o_gt (blt b_len z.n_len bt_len (qa_cons (fld z.o_Text (v 0)) qa_nil)) q_int)))) (qss_cons (augf z.o_Text (v 0) q_int)
    (qss_cons (exps (q_bm0 m_pop (fld z.o_Text (v 0)) fun _ _ h1 h2 => pe_bm0 PySem.F.plainAttrs_list PySem.F.slot_list_pop PySem.F.type_list_pop h1 h2))
    (qss_one (exps (meth z.o_Frame z.m_Frame_add F_Frame_add (by first | decide | omega) hr pass_x (bd_Frame_add z) (ix i_seq (fld z.o_Text (v 0)) (q_neg q_int)) (qa_cons (meth0 z.o_Frame z.m_Frame_whole F_Frame_whole (by first | decide | omega) hr pass_x (bd_Frame_whole z) (v 1) _) qa_nil) _)))))
    (qss_one (exps (meth0 z.o_Text z.m_Text_begin F_Text_begin (by first | decide | omega) hr pass_x (bd_Text_begin z) (v 0) _)))))))))))))
theorem ok_Text_go_on (z : Fx K mg Z w) (F_Text_sign : FnOk P w K mg base (L2.CX P w) 2 Z.f_Text_sign Z.e_Text_sign ["self"] (toSp K 1 (sp_Text_sign Z))) (F_Text_times : FnOk P w K mg base (L2.CX P w) 9 Z.f_Text_times Z.e_Text_times ["self"] (toSp K 1 (sp_Text_times Z))) (F_Frame_part : FnOk P w K mg base (L2.CX P w) 3 Z.f_Frame_part Z.e_Frame_part ["self"] (toSp K 1 (sp_Frame_part Z))) (F_Frame_add : FnOk P w K mg base (L2.CX P w) 3 Z.f_Frame_add Z.e_Frame_add ["self", "thing"] (toSp K 2 (sp_Frame_add Z))) (F_Frame_whole : FnOk P w K mg base (L2.CX P w) 4 Z.f_Frame_whole Z.e_Frame_whole ["self"] (toSp K 1 (sp_Frame_whole Z))) (F_Text_begin : FnOk P w K mg base (L2.CX P w) 9 Z.f_Text_begin Z.e_Text_begin ["self"] (toSp K 1 (sp_Text_begin Z))) (pure : ∀ xs M R Px, xs.length = 1 → sp_Text_go_on Z xs M R Px → t_Text_go_on Z { nx := fun _ M' => R (.d .none) M', rt := R, ex := Px } (startX N_Text_go_on xs) M) :
    FnOk P w K mg base (L2.CX P w) 11 Z.f_Text_go_on Z.e_Text_go_on ["self"] (toSp K 1 (sp_Text_go_on Z)) := fn_x z.F_Text_go_on sc_Text_go_on rfl (t_Text_go_on Z) (fun cdv A outer s H E hr => b_Text_go_on z F_Text_sign F_Text_times F_Frame_part F_Frame_add F_Frame_whole F_Text_begin hr) pure
end
abbrev N_Text_read : List Str := ["self"]
theorem sc_Text_read : FnScope N_Text_read ["self"] (defScope s_Text_read) := ⟨rfl, rfl, rfl, by decide +kernel, rfl, by decide +kernel, by decide +kernel⟩
def t_Text_read (Z : Ad) : DS :=
  (dSeq (dWhile (dB (dOp dLt (dFld Z.c_Text "kept_at" (dVar 0)) (dApp cLen (dCons (dFld Z.c_Text "kept_text" (dVar 0)) dNil))))
    (dIfS (dB (dOp dEq (dMeth Z.c_Text "sign" 1 (sp_Text_sign Z) (dVar 0) dNil) (dC (.d (.str " "))))) (dAugF Z.c_Text "kept_at" (dVar 0) (dC (.d (.int 1))))
    (dIfS (dB (dFld Z.c_Text "kept_wanted" (dVar 0))) (dDrop (dMeth Z.c_Text "begin" 1 (sp_Text_begin Z) (dVar 0) dNil))
    (dDrop (dMeth Z.c_Text "go_on" 1 (sp_Text_go_on Z) (dVar 0) dNil)))))
    (dSeq (dIfS (dOr (dB (dFld Z.c_Text "kept_wanted" (dVar 0))) (dB (dOp dGt (dApp cLen (dCons (dFld Z.c_Text "kept_frames" (dVar 0)) dNil)) (dC (.d (.int 1)))))) (dDrop (dMeth Z.c_Text "fail" 1 (sp_Text_fail Z) (dVar 0) dNil))
    dNext)
    (dRet (dMeth Z.c_Frame "whole" 1 (sp_Frame_whole Z) (dOp dIx (dFld Z.c_Text "kept_frames" (dVar 0)) (dC (.d (.int 0)))) dNil))))
section
variable {P : Program} {w : World} {K : PySem.W.Frag} {mg : Str → Option Value} {base : Heap} {Z : Ad}
theorem b_Text_read (z : Fx K mg Z w) (F_Text_sign : FnOk P w K mg base (L2.CX P w) 2 Z.f_Text_sign Z.e_Text_sign ["self"] (toSp K 1 (sp_Text_sign Z))) (F_Text_begin : FnOk P w K mg base (L2.CX P w) 9 Z.f_Text_begin Z.e_Text_begin ["self"] (toSp K 1 (sp_Text_begin Z))) (F_Text_go_on : FnOk P w K mg base (L2.CX P w) 11 Z.f_Text_go_on Z.e_Text_go_on ["self"] (toSp K 1 (sp_Text_go_on Z))) (F_Text_fail : FnOk P w K mg base (L2.CX P w) 3 Z.f_Text_fail Z.e_Text_fail ["self"] (toSp K 1 (sp_Text_fail Z))) (F_Frame_whole : FnOk P w K mg base (L2.CX P w) 4 Z.f_Frame_whole Z.e_Frame_whole ["self"] (toSp K 1 (sp_Frame_whole Z))) {cdv : Value} {A : Around} {outer : List Env} {s : Shared} {H : Hp} {E : XK} (hr : Room 12 (A.deeper (envOfC "Text.read" (defScope s_Text_read) s.heap.objs.size Z.f_Text_read cdv))) :
    QSs (cxOf (L2.CX P w) P w K mg base N_Text_read "Text.read" (defScope s_Text_read) Z.f_Text_read cdv A outer s H E) E (defBody s_Text_read) (t_Text_read Z) :=
  (qss_cons (whil (passes_of rfl) (tcmp o_lt (fld z.o_Text (v 0)) (blt b_len z.n_len bt_len (qa_cons (fld z.o_Text (v 0)) qa_nil)))
    (qss_one (qs_if (tcmp (o_eq hr.units) (meth0 z.o_Text z.m_Text_sign F_Text_sign (by first | decide | omega) hr pass_x (bd_Text_sign z) (v 0) _) q_str) (qss_one (augf z.o_Text (v 0) q_int))
    (qss_one (qs_if (tval (fld z.o_Text (v 0))) (qss_one (exps (meth0 z.o_Text z.m_Text_begin F_Text_begin (by first | decide | omega) hr pass_x (bd_Text_begin z) (v 0) _)))
    (qss_one (exps (meth0 z.o_Text z.m_Text_go_on F_Text_go_on (by first | decide | omega) hr pass_x (bd_Text_go_on z) (v 0) _))))))))
    (qss_cons (qs_if (QW.qt (qw_or (tval (fld z.o_Text (v 0))) (qw_or1 (tcmp o_gt (blt b_len z.n_len bt_len (qa_cons (fld z.o_Text (v 0)) qa_nil)) q_int)))) (qss_one (exps (meth0 z.o_Text z.m_Text_fail F_Text_fail (by first | decide | omega) hr pass_x (bd_Text_fail z) (v 0) _)))
    qss_nil)
    (qss_one (retn (meth0 z.o_Frame z.m_Frame_whole F_Frame_whole (by first | decide | omega) hr pass_x (bd_Frame_whole z) (ix i_seq (fld z.o_Text (v 0)) q_int) _)))))
theorem ok_Text_read (z : Fx K mg Z w) (F_Text_sign : FnOk P w K mg base (L2.CX P w) 2 Z.f_Text_sign Z.e_Text_sign ["self"] (toSp K 1 (sp_Text_sign Z))) (F_Text_begin : FnOk P w K mg base (L2.CX P w) 9 Z.f_Text_begin Z.e_Text_begin ["self"] (toSp K 1 (sp_Text_begin Z))) (F_Text_go_on : FnOk P w K mg base (L2.CX P w) 11 Z.f_Text_go_on Z.e_Text_go_on ["self"] (toSp K 1 (sp_Text_go_on Z))) (F_Text_fail : FnOk P w K mg base (L2.CX P w) 3 Z.f_Text_fail Z.e_Text_fail ["self"] (toSp K 1 (sp_Text_fail Z))) (F_Frame_whole : FnOk P w K mg base (L2.CX P w) 4 Z.f_Frame_whole Z.e_Frame_whole ["self"] (toSp K 1 (sp_Frame_whole Z))) (pure : ∀ xs M R Px, xs.length = 1 → sp_Text_read Z xs M R Px → t_Text_read Z { nx := fun _ M' => R (.d .none) M', rt := R, ex := Px } (startX N_Text_read xs) M) :
    FnOk P w K mg base (L2.CX P w) 13 Z.f_Text_read Z.e_Text_read ["self"] (toSp K 1 (sp_Text_read Z)) := fn_x z.F_Text_read sc_Text_read rfl (t_Text_read Z) (fun cdv A outer s H E hr => b_Text_read z F_Text_sign F_Text_begin F_Text_go_on F_Text_fail F_Frame_whole hr) pure
end
abbrev N_read_expression : List Str := ["text", "found"]
theorem sc_read_expression : FnScope N_read_expression ["text"] (defScope s_read_expression) := ⟨rfl, rfl, rfl, by decide +kernel, rfl, by decide +kernel, by decide +kernel⟩
def t_read_expression (Z : Ad) : DS :=
  (dSeq (dIfS (dNot (dB (dApp cIsi (dCons (dVar 0) (dCons (dC (.r (.ty "str"))) dNil))))) (dRaise (mkC1 Z.c_BadSigns "at" (dCons (dNeg (dC (.d (.int 1)))) dNil)))
    dNext)
    (dSeq (dIfS (dB (dOp dGt (dApp cLen (dCons (dVar 0) dNil)) (dC (.d (.int 100000))))) (dRaise (mkC0 Z.c_NoExpression))
    dNext)
    (dSeq (dSet 1 (dMeth Z.c_Text "read" 1 (sp_Text_read Z) (dMake Z.c_Text 2 (sp_Text_init Z) (dCons (dVar 0) dNil)) dNil))
    (dSeq (dIfS (dNot (dB (dCall 1 (sp_is_expression Z) (dCons (dVar 1) dNil)))) (dRaise (mkC0 Z.c_NoExpression))
    dNext)
    (dRet (dVar 1))))))
section
variable {P : Program} {w : World} {K : PySem.W.Frag} {mg : Str → Option Value} {base : Heap} {Z : Ad}
theorem b_read_expression (z : Fx K mg Z w) (F_Text_read : FnOk P w K mg base (L2.CX P w) 13 Z.f_Text_read Z.e_Text_read ["self"] (toSp K 1 (sp_Text_read Z))) (F_Text_init : FnOk P w K mg base (L2.CX P w) 5 Z.f_Text_init Z.e_Text_init ["self", "text"] (toSp K 2 (sp_Text_init Z))) (F_is_expression : FnOk P w K mg base (L2.CX P w) 61 Z.f_is_expression Z.e_is_expression ["thing"] (toSp K 1 (sp_is_expression Z))) (F_BadSigns_init : FnOk P w K mg base (L2.CX P w) 1 Z.f_BadSigns_init Z.e_BadSigns_init ["self", "at"] (spInit Z.c_BadSigns "at")) {cdv : Value} {A : Around} {outer : List Env} {s : Shared} {H : Hp} {E : XK} (hr : Room 62 (A.deeper (envOfC "read_expression" (defScope s_read_expression) s.heap.objs.size Z.f_read_expression cdv))) :
    QSs (cxOf (L2.CX P w) P w K mg base N_read_expression "read_expression" (defScope s_read_expression) Z.f_read_expression cdv A outer s H E) E (defBody s_read_expression) (t_read_expression Z) :=
  (qss_cons (qs_if (qt_not (tval (blt b_isi z.n_isinstance bt_isinstance (qa_cons (v 0) (qa_cons (gt z.n_str bt_str) qa_nil))))) (qss_one (qs_raise rfl (takes_of rfl rfl rfl rfl) (q_mk1 (qa_cons (q_neg q_int) qa_nil) fun _ h => pmk_oex z.oe_BadSigns z.in_BadSigns z.ti_BadSigns F_BadSigns_init (hr.mono (by first | decide | omega)) (bd_BadSigns_init z) .nil passX_no rfl z.g_BadSigns h)))
    qss_nil)
    (qss_cons (qs_if (tcmp o_gt (blt b_len z.n_len bt_len (qa_cons (v 0) qa_nil)) (gi z.g_MOST_SIGNS)) (qss_one (qs_raise rfl (takes_of rfl rfl rfl rfl) (q_mk0 z.ei_NoExpression z.g_NoExpression z.ke_NoExpression z.ra_NoExpression rfl)))
    qss_nil)
    (qss_cons (set1 1 sc_read_expression.nd (meth0 z.o_Text z.m_Text_read F_Text_read (by first | decide | omega) hr pass_x (bd_Text_read z) (make z.m_Text F_Text_init (by first | decide | omega) hr pass_x z.g_Text (bd_Text_init z) (qa_cons (v 0) qa_nil)) _))
    (qss_cons (qs_if (qt_not (tval (call F_is_expression (by first | decide | omega) hr pass_x z.g_is_expression z.k_is_expression (bd_is_expression z) (qa_cons (v 1) qa_nil)))) (qss_one (qs_raise rfl (takes_of rfl rfl rfl rfl) (q_mk0 z.ei_NoExpression z.g_NoExpression z.ke_NoExpression z.ra_NoExpression rfl)))
    qss_nil)
    (qss_one (retn (v 1)))))))
theorem ok_read_expression (z : Fx K mg Z w) (F_Text_read : FnOk P w K mg base (L2.CX P w) 13 Z.f_Text_read Z.e_Text_read ["self"] (toSp K 1 (sp_Text_read Z))) (F_Text_init : FnOk P w K mg base (L2.CX P w) 5 Z.f_Text_init Z.e_Text_init ["self", "text"] (toSp K 2 (sp_Text_init Z))) (F_is_expression : FnOk P w K mg base (L2.CX P w) 61 Z.f_is_expression Z.e_is_expression ["thing"] (toSp K 1 (sp_is_expression Z))) (F_BadSigns_init : FnOk P w K mg base (L2.CX P w) 1 Z.f_BadSigns_init Z.e_BadSigns_init ["self", "at"] (spInit Z.c_BadSigns "at")) (pure : ∀ xs M R Px, xs.length = 1 → sp_read_expression Z xs M R Px → t_read_expression Z { nx := fun _ M' => R (.d .none) M', rt := R, ex := Px } (startX N_read_expression xs) M) :
    FnOk P w K mg base (L2.CX P w) 63 Z.f_read_expression Z.e_read_expression ["text"] (toSp K 1 (sp_read_expression Z)) := fn_x z.F_read_expression sc_read_expression rfl (t_read_expression Z) (fun cdv A outer s H E hr => b_read_expression z F_Text_read F_Text_init F_is_expression F_BadSigns_init hr) pure
end
end Y
set_option maxHeartbeats 4000000
namespace Y
open PySem PySem.Spec PyProof.Rows L2
theorem noneX_d (d : PyData) : noneX (.d d) = noneD d := by cases d <;> rfl
theorem dIsN_d {d : PyData} {M : MH} {R : DR} {P : PX} : dIsN (.d d) (.d .none) M R P = R (.d (.bool (noneD d))) M := by
  show R (.d (.bool (noneX (.d d)))) M = _
  rw [noneX_d]
theorem dNotN_d {d : PyData} {M : MH} {R : DR} {P : PX} : dNotN (.d d) (.d .none) M R P = R (.d (.bool (!noneD d))) M := by
  show R (.d (.bool (!noneX (.d d)))) M = _
  rw [noneX_d]
/-- a field of the object at p -/
theorem dFld_at {C p : Addr} {f : Str} {fs : List (Str × Xv)} {y : Xv} {da : DX} {r : DEnv} {M : MH} {R : DR} {P : PX} (hd : ∀ R P, da r M R P = R (.r (.ref p)) M) (e : M p = some (.ins C fs)) (l : fs.lookup f = some y) : dFld C f da r M R P = R y M := by
  unfold dFld
  rw [hd]
  dsimp only
  rw [e]
  dsimp only
  rw [l]
  exact propext ⟨fun h => h.2, fun h => ⟨rfl, h⟩⟩
theorem var0 {x : Xv} {r : DEnv} {M : MH} (R : DR) (P : PX) : dVar 0 (some x :: r) M R P = R x M := rfl
theorem var1 {x : Xv} {a : Option Xv} {r : DEnv} {M : MH} (R : DR) (P : PX) : dVar 1 (a :: some x :: r) M R P = R x M := rfl
theorem var2 {x : Xv} {a b : Option Xv} {r : DEnv} {M : MH} (R : DR) (P : PX) : dVar 2 (a :: b :: some x :: r) M R P = R x M := rfl
theorem var3 {x : Xv} {a b c : Option Xv} {r : DEnv} {M : MH} (R : DR) (P : PX) : dVar 3 (a :: b :: c :: some x :: r) M R P = R x M := rfl
theorem var4 {x : Xv} {a b c d : Option Xv} {r : DEnv} {M : MH} (R : DR) (P : PX) : dVar 4 (a :: b :: c :: d :: some x :: r) M R P = R x M := rfl
/-- a store at a field of the object at p -/
theorem dSetF_at {C p : Addr} {f : Str} {fs : List (Str × Xv)} {dobj dv : DX} {D : DEnds} {r : DEnv} {M : MH} (y : Xv) (hd : ∀ R P, dobj r M R P = R (.r (.ref p)) M) (e : M p = some (.ins C fs)) (hv : ∀ (R : DR) P, R y M → dv r M R P) (hl : fs.length < 1000) (h : D.nx r (mset M p (.ins C (putX f y fs)))) :
    dSetF C f dobj dv D r M := by
  unfold dSetF
  refine hv _ _ ?_
  rw [hd]
  dsimp only
  rw [e]
  exact ⟨rfl, hl, h⟩
theorem pure_Frame_init {Z : Ad} (xs : List Xv) (M : MH) (R : DR) (P : PX) (hl : xs.length = 1) (h : sp_Frame_init Z xs M R P) : t_Frame_init Z { nx := fun _ M' => R (.d .none) M', rt := R, ex := P } (startX N_Frame_init xs) M := by
  obtain ⟨p, rfl, e, h⟩ := h
  show dSeq _ _ _ [some (.r (.ref p))] M
  try dsimp only
  refine dSetF_at (.d .none) (var0 (r := [])) e (fun R P q => q) (by first | (simp; done) | (simp [putX]; done) | (simp only [putX]; (repeat' split) <;> (simp; done))) ?_
  try dsimp only
  refine dSetF_at (.d .none) (var0 (r := [])) mset_same (fun R P q => q) (by first | (simp; done) | (simp [putX]; done) | (simp only [putX]; (repeat' split) <;> (simp; done))) ?_
  rw [mset_mset]
  try dsimp only
  refine dSetF_at (.d .none) (var0 (r := [])) mset_same (fun R P q => q) (by first | (simp; done) | (simp [putX]; done) | (simp only [putX]; (repeat' split) <;> (simp; done))) ?_
  rw [mset_mset]
  exact h
theorem pure_Frame_join {Z : Ad} (xs : List Xv) (M : MH) (R : DR) (P : PX) (hl : xs.length = 1) (h : sp_Frame_join Z xs M R P) : t_Frame_join Z { nx := fun _ M' => R (.d .none) M', rt := R, ex := P } (startX N_Frame_join xs) M := by
  obtain ⟨p, f, rfl, e, h⟩ := h
  show dSeq _ _ _ [some (.r (.ref p))] M
  have v0 := fun (M : MH) => var0 (x := .r (.ref p)) (r := []) (M := M)
  simp only [dSeq, dIfS, dB, dOp, dC, dNext, dFld_at (v0 M) e (f := "kept_last") (y := .d f.l) rfl, dNotN_d]
  have fin : ∀ (t : PyData), f.join.t = t → M p = some (frO Z f) → ∀ M1 : MH, M1 = mset M p (.ins Z.c_Frame [("kept_or", .d f.o), ("kept_then", .d t), ("kept_last", .d f.l)]) → dSetF Z.c_Frame "kept_last" (dVar 0) (dC (.d .none)) { nx := fun _ M' => R (.d .none) M', rt := R, ex := P } [some (.r (.ref p))] M1 := by
    intro t ht _ M1 e1
    subst e1
    try dsimp only
    refine dSetF_at (.d .none) (v0 _) mset_same (fun R P q => q) (by first | (simp; done) | (simp [putX]; done) | (simp only [putX]; (repeat' split) <;> (simp; done))) ?_
    rw [mset_mset, ← ht]
    exact h
  by_cases q : noneD f.l = true
  · rw [q]
    simp only [Bool.not_true, Bool.false_eq_true, if_false]
    refine fin f.t (by unfold Fr.join; rw [if_pos q]) e M ?_
    rw [← mset_id e]
    rw [mset_mset]
    rfl
  · have q' : noneD f.l = false := by simpa using q
    rw [q']
    simp only [Bool.not_false, if_true]
    by_cases q2 : noneD f.t = true
    · refine dSetF_at (.d f.l) (v0 M) e (fun R P q3 => ?_) (by first | (simp; done) | (simp [putX]; done) | (simp only [putX]; (repeat' split) <;> (simp; done))) (fin f.l (by unfold Fr.join; simp [q', q2]) e _ rfl)
      unfold dIf
      simp only [dB, dOp, dC, dFld_at (v0 M) e (f := "kept_then") (y := .d f.t) rfl, dFld_at (v0 M) e (f := "kept_last") (y := .d f.l) rfl, dIsN_d, q2, if_true]
      exact q3
    · have q2' : noneD f.t = false := by simpa using q2
      try dsimp only
      refine dSetF_at (.d (.tuple [.str "then", f.t, f.l])) (v0 M) e (fun R P q3 => ?_) (by first | (simp; done) | (simp [putX]; done) | (simp only [putX]; (repeat' split) <;> (simp; done))) (fin _ (by unfold Fr.join; simp [q', q2']) e _ rfl)
      unfold dIf
      simp only [dB, dOp, dC, dFld_at (v0 M) e (f := "kept_then") (y := .d f.t) rfl, dFld_at (v0 M) e (f := "kept_last") (y := .d f.l) rfl, dIsN_d, q2', if_false, Bool.false_eq_true]
      unfold dTup dCons dNil
      simp only [dC, dCons, dNil, dFld_at (v0 M) e (f := "kept_then") (y := .d f.t) rfl, dFld_at (v0 M) e (f := "kept_last") (y := .d f.l) rfl]
      exact ⟨by rw [sizeLine_eq]; simp, q3⟩
theorem meth_at {C p : Addr} {m : Str} {n : Nat} {spx : SpX} {fs : List (Str × Xv)} {da : DX} {ta : DA} {r : DEnv} {M : MH} {R : DR} {P : PX} (hd : ∀ R P, da r M R P = R (.r (.ref p)) M) (e : M p = some (.ins C fs)) (l : fs.lookup m = none)
    (h : ta r M (fun xs M2 => xs.length + 1 = n ∧ spx (.r (.ref p) :: xs) M2 R P) P) : dMeth C m n spx da ta r M R P := by
  unfold dMeth
  rw [hd]
  dsimp only
  rw [e]
  exact ⟨rfl, l, h⟩
theorem pure_Frame_add {Z : Ad} (xs : List Xv) (M : MH) (R : DR) (P : PX) (hl : xs.length = 2) (h : sp_Frame_add Z xs M R P) : t_Frame_add Z { nx := fun _ M' => R (.d .none) M', rt := R, ex := P } (startX N_Frame_add xs) M := by
  obtain ⟨p, f, d, rfl, e, h⟩ := h
  show dSeq _ _ _ [some (.r (.ref p)), some (.d d)] M
  have v0 := fun (M : MH) => var0 (x := .r (.ref p)) (r := [some (.d d)]) (M := M)
  unfold dSeq dDrop
  try dsimp only
  refine meth_at (v0 M) e rfl ⟨rfl, p, f, rfl, e, ?_⟩
  try dsimp only
  refine dSetF_at (.d d) (v0 _) mset_same (fun R P q => q) (by first | (simp; done) | (simp [putX]; done) | (simp only [putX]; (repeat' split) <;> (simp; done))) ?_
  rw [mset_mset]
  exact h
theorem pure_Frame_part {Z : Ad} (xs : List Xv) (M : MH) (R : DR) (P : PX) (hl : xs.length = 1) (h : sp_Frame_part Z xs M R P) : t_Frame_part Z { nx := fun _ M' => R (.d .none) M', rt := R, ex := P } (startX N_Frame_part xs) M := by
  obtain ⟨p, f, rfl, e, h⟩ := h
  show dSeq _ _ _ [some (.r (.ref p))] M
  have v0 := fun (M : MH) => var0 (x := .r (.ref p)) (r := []) (M := M)
  unfold dSeq dDrop
  try dsimp only
  refine meth_at (v0 M) e rfl ⟨rfl, p, f, rfl, e, ?_⟩
  have e1 : mset M p (frO Z f.join) p = some (frO Z f.join) := mset_same
  try dsimp only
  refine dSetF_at (.d f.part.o) (v0 _) e1 (fun R P q3 => ?_) (by first | (simp; done) | (simp [putX]; done) | (simp only [putX]; (repeat' split) <;> (simp; done))) ?_
  · unfold dIf
    simp only [dB, dOp, dC, dFld_at (v0 _) e1 (f := "kept_or") (y := .d f.join.o) rfl, dFld_at (v0 _) e1 (f := "kept_then") (y := .d f.join.t) rfl, dIsN_d]
    by_cases q : noneD f.join.o = true
    · rw [q]
      simp only [if_true]
      have : f.part.o = f.join.t := by unfold Fr.part; rw [if_pos q]
      rw [this] at q3
      exact q3
    · have q' : noneD f.join.o = false := by simpa using q
      rw [q']
      simp only [if_false, Bool.false_eq_true]
      have : f.part.o = .tuple [.str "or", f.join.o, f.join.t] := by unfold Fr.part; rw [if_neg q]
      rw [this] at q3
      unfold dTup dCons dNil
      simp only [dC, dCons, dNil, dFld_at (v0 _) e1 (f := "kept_or") (y := .d f.join.o) rfl, dFld_at (v0 _) e1 (f := "kept_then") (y := .d f.join.t) rfl]
      exact ⟨by rw [sizeLine_eq]; simp, q3⟩
  · rw [mset_mset]
    try dsimp only
    refine dSetF_at (.d .none) (v0 _) mset_same (fun R P q => q) (by first | (simp; done) | (simp [putX]; done) | (simp only [putX]; (repeat' split) <;> (simp; done))) ?_
    rw [mset_mset]
    exact h
theorem pure_Frame_whole {Z : Ad} (xs : List Xv) (M : MH) (R : DR) (P : PX) (hl : xs.length = 1) (h : sp_Frame_whole Z xs M R P) : t_Frame_whole Z { nx := fun _ M' => R (.d .none) M', rt := R, ex := P } (startX N_Frame_whole xs) M := by
  obtain ⟨p, f, rfl, e, h⟩ := h
  show dSeq _ _ _ [some (.r (.ref p))] M
  have v0 := fun (M : MH) => var0 (x := .r (.ref p)) (r := []) (M := M)
  unfold dSeq dDrop
  try dsimp only
  refine meth_at (v0 M) e rfl ⟨rfl, p, f, rfl, e, ?_⟩
  try dsimp only
  unfold dRet
  try dsimp only
  show dFld _ _ _ [some (.r (.ref p))] (mset M p (frO Z f.part)) _ _
  rw [dFld_at (v0 _) (show mset M p (frO Z f.part) p = some (.ins Z.c_Frame [("kept_or", .d f.part.o), ("kept_then", .d f.part.t), ("kept_last", .d f.part.l)]) from mset_same) (f := "kept_or") (y := .d f.part.o) rfl]
  exact h
end Y
set_option maxHeartbeats 4000000
namespace Y
open PySem PySem.Spec PyProof.Rows L2
theorem str_eq {a b : Str} : (a == b) = decide (a = b) := by
  rw [Bool.eq_iff_iff]
  simp
theorem one_inj {c d : Nat} (h : one c = one d) : c = d := by
  have : (one c).cps.toList = (one d).cps.toList := by rw [h]
  simpa [one] using this
theorem one_nil (c : Nat) : (one c == ("" : Str)) = false := by
  rw [str_eq]
  refine decide_eq_false fun h => ?_
  have h1 : (one c).cps.size = ("" : Str).cps.size := by rw [h]
  have h0 : ("" : Str).cps.size = 0 := by decide +kernel
  rw [h0] at h1
  cases h1
theorem one_eq (c d : Nat) : (one c == one d) = decide (c = d) := by
  rw [str_eq]
  by_cases h : c = d
  · subst h
    simp
  · rw [decide_eq_false h, decide_eq_false fun q => h (one_inj q)]
theorem line_ok {z : Str} (h : z.length ≤ 100000) : z.length ≤ sizeLine := by rw [sizeLine_eq]; omega
theorem dInS_c {c : Nat} {s : Str} {neg : Bool} {M : MH} {R : DR} {P : PX} : dInS neg (.d (.str (one c))) (.d (.str s)) M R P = R (.d (.bool (if neg then !inS s c else inS s c))) M := by
  refine propext ⟨?_, fun h => ⟨c, rfl, h⟩⟩
  rintro ⟨d, e, h⟩
  have : c = d := one_inj e
  subst this
  exact h
theorem dAug_at {C p : Addr} {f : Str} {fs : List (Str × Xv)} {i j : Int} {D : DEnds} {r : DEnv} {M : MH} (hd : ∀ R P, dVar 0 r M R P = R (.r (.ref p)) M) (e : M p = some (.ins C fs)) (l : fs.lookup f = some (.d (.int i))) (hl : fs.length < 1000) (h : D.nx r (mset M p (.ins C (putX f (.d (.int (i + j))) fs)))) :
    dAugF C f (dVar 0) (dC (.d (.int j))) D r M := by
  unfold dAugF
  rw [hd]
  dsimp only
  rw [e]
  dsimp only
  rw [l]
  refine ⟨rfl, ?_⟩
  show match M p with
    | some (.ins C2 fs2) => C2 = C ∧ fs2.length < 1000 ∧ D.nx r (mset M p (.ins C (putX f (.d (.int (i + j))) fs2)))
    | _ => False
  rw [e]
  exact ⟨rfl, hl, h⟩
/-- what stays while the place moves -/
structure Tb (Z : Ad) (M0 M : MH) (p : Addr) (z : Str) : Prop where
  np : M0 p = none
  ext : Ext M0 M
  len : z.length ≤ 100000
def curM (Z : Ad) (M : MH) (p : Addr) (z : Str) (fl : Addr) (w : Bool) (i : Nat) : MH := mset M p (txO Z z i fl w)
section
variable {Z : Ad} {M0 M : MH} {p fl : Addr} {z : Str} {w : Bool} {i : Nat} {r : DEnv} {R : DR} {P : PX}
theorem cur_at : curM Z M p z fl w i p = some (txO Z z i fl w) := mset_same
theorem cur_set {j : Nat} : mset (curM Z M p z fl w i) p (txO Z z j fl w) = curM Z M p z fl w j := mset_mset
theorem cur_start (e : M p = some (txO Z z i fl w)) : M = curM Z M p z fl w i := (mset_id e).symm
theorem Tb.extC (T : Tb Z M0 M p z) : Ext M0 (curM Z M p z fl w i) := T.ext.mset T.np
/-- how a result is taken -/
def tkR (Z : Ad) (M0 M : MH) (p : Addr) (z : Str) (fl : Addr) (w : Bool) (R : DR) (P : PX) : RR PyData → Prop
  | .ok (d, j) => R (.d d) (curM Z M p z fl w j)
  | .error e => failQ Z M0 e P
theorem low_call {ys : List Xv} {F : Str → Nat → RR PyData} {m : Str} {n : Nat} {ta : DA} (T : Tb Z M0 M p z) (hm : List.lookup m [(("kept_text" : Str), Xv.d (.str z)), ("kept_at", .d (.int (i : Nat))), ("kept_frames", .r (.ref fl)), ("kept_wanted", .d (.bool w))] = none)
    (ha : ∀ R P, R ys (curM Z M p z fl w i) → ta (some (.r (.ref p)) :: r) (curM Z M p z fl w i) R P) (hn : ys.length + 1 = n) (spx : SpX) (hsp : ∀ M R P, lowSp Z ys F (.r (.ref p) :: ys) M R P → spx (.r (.ref p) :: ys) M R P) (h : tkR Z M0 M p z fl w R P (F z i)) :
    dMeth Z.c_Text m n spx (dVar 0) ta (some (.r (.ref p)) :: r) (curM Z M p z fl w i) R P := by
  refine meth_at (var0 (r := r)) cur_at hm ?_
  refine ha _ _ ⟨hn, hsp _ _ _ ?_⟩
  refine ⟨p, z, i, fl, w, M0, rfl, cur_at, T.np, T.extC, T.len, ?_⟩
  cases e : F z i with
  | error e1 =>
    rw [e] at h
    exact h
  | ok q =>
    obtain ⟨d, j⟩ := q
    rw [e] at h
    dsimp only
    rw [cur_set]
    exact h
theorem take_call (T : Tb Z M0 M p z) (s : Str) (h : tkR Z M0 M p z fl w R P (mapR (fun c => .str (one c)) (takeF (inS s) z i))) : dMeth Z.c_Text "take" 2 (sp_Text_take Z) (dVar 0) (dCons (dC (.d (.str s))) dNil) (some (.r (.ref p)) :: r) (curM Z M p z fl w i) R P :=
  low_call (ys := [.d (.str s)]) (n := 2) (F := fun z i => mapR (fun c => .str (one c)) (takeF (inS s) z i)) T rfl (fun _ _ q => q) rfl _ (fun _ _ _ q => ⟨s, q⟩) h
theorem word_call (T : Tb Z M0 M p z) (h : tkR Z M0 M p z fl w R P (mapR .str (wordF z i))) : dMeth Z.c_Text "word" 1 (sp_Text_word Z) (dVar 0) dNil (some (.r (.ref p)) :: r) (curM Z M p z fl w i) R P :=
  low_call (ys := []) (F := fun z i => mapR .str (wordF z i)) T rfl (fun _ _ q => q) rfl _ (fun _ _ _ q => q) h
theorem worth_call (T : Tb Z M0 M p z) (h : tkR Z M0 M p z fl w R P (mapR .int (worthF z i))) : dMeth Z.c_Text "worth" 1 (sp_Text_worth Z) (dVar 0) dNil (some (.r (.ref p)) :: r) (curM Z M p z fl w i) R P :=
  low_call (ys := []) (F := fun z i => mapR .int (worthF z i)) T rfl (fun _ _ q => q) rfl _ (fun _ _ _ q => q) h
theorem sign_call (T : Tb Z M0 M p z) (h : R (.d (.str (sgnS z i))) (curM Z M p z fl w i)) : dMeth Z.c_Text "sign" 1 (sp_Text_sign Z) (dVar 0) dNil (some (.r (.ref p)) :: r) (curM Z M p z fl w i) R P := by
  refine meth_at (var0 (r := r)) cur_at rfl ⟨rfl, p, z, i, fl, w, rfl, cur_at, T.len, h⟩
theorem fail_call (T : Tb Z M0 M p z) (h : failQ Z M0 i P) : dMeth Z.c_Text "fail" 1 (sp_Text_fail Z) (dVar 0) dNil (some (.r (.ref p)) :: r) (curM Z M p z fl w i) R P := by
  refine meth_at (var0 (r := r)) cur_at rfl ⟨rfl, p, z, i, fl, w, M0, rfl, cur_at, T.extC, h⟩
theorem at_fld (R : DR) (P : PX) : dFld Z.c_Text "kept_at" (dVar 0) (some (.r (.ref p)) :: r) (curM Z M p z fl w i) R P = R (.d (.int (i : Nat))) (curM Z M p z fl w i) := dFld_at (var0 (r := r)) cur_at rfl
theorem at_aug {D : DEnds} (h : D.nx (some (.r (.ref p)) :: r) (curM Z M p z fl w (i + 1))) : dAugF Z.c_Text "kept_at" (dVar 0) (dC (.d (.int 1))) D (some (.r (.ref p)) :: r) (curM Z M p z fl w i) := by
  refine dAug_at (var0 (r := r)) (cur_at (i := i)) rfl (by first | (simp; done) | (simp [putX]; done) | (simp only [putX]; (repeat' split) <;> (simp; done))) ?_
  show D.nx _ (mset (curM Z M p z fl w i) p (txO Z z (i + 1) fl w))
  rw [cur_set]
  exact h
end
theorem sgn_cut {z : Str} {i : Nat} : cutS z (some (i : Int)) (some ((i : Int) + 1)) = sgnS z i := by
  have hs : ∀ n d : Nat, HT.sIx n d (some (i : Int)) = min i n := fun n d => by
    show (if (i : Int) < 0 then ((i : Int) + (n : Int)).toNat else min (i : Int).toNat n) = _
    rw [if_neg (by omega)]
    rfl
  have hs1 : ∀ n d : Nat, HT.sIx n d (some ((i : Int) + 1)) = min (i + 1) n := fun n d => by
    show (if (i : Int) + 1 < 0 then ((i : Int) + 1 + (n : Int)).toNat else min ((i : Int) + 1).toNat n) = _
    rw [if_neg (by omega)]
    have : ((i : Int) + 1).toNat = i + 1 := by omega
    rw [this]
  unfold cutS sgnS at?
  rw [hs, hs1]
  have hl : z.cps.toList.length = z.length := rfl
  by_cases h : i < z.length
  · have e1 : min i z.length = i := by omega
    have e2 : min (i + 1) z.length = i + 1 := by omega
    rw [e1, e2]
    have e3 : z.cps.toList[i]? = some (z.cps.toList[i]'(by omega)) := List.getElem?_eq_getElem _
    rw [e3]
    have e4 : i + 1 - i = 1 := by omega
    rw [e4, List.drop_eq_getElem_cons (by omega)]
    rfl
  · have e1 : min i z.length = z.length := by omega
    have e2 : min (i + 1) z.length = z.length := by omega
    rw [e1, e2]
    have e3 : z.cps.toList[i]? = none := List.getElem?_eq_none (by omega)
    rw [e3]
    simp
    rfl
theorem pure_Text_sign {Z : Ad} (xs : List Xv) (M : MH) (R : DR) (P : PX) (hl : xs.length = 1) (h : sp_Text_sign Z xs M R P) : t_Text_sign Z { nx := fun _ M' => R (.d .none) M', rt := R, ex := P } (startX N_Text_sign xs) M := by
  obtain ⟨p, z, i, fl, w, rfl, e, hz, h⟩ := h
  show dRet _ _ [some (.r (.ref p))] M
  have v0 := fun (M : MH) => var0 (x := .r (.ref p)) (r := []) (M := M)
  have fa := fun (R : DR) (P : PX) => dFld_at (R := R) (P := P) (v0 M) e (f := "kept_at") (y := .d (.int i)) rfl
  have ft := fun (R : DR) (P : PX) => dFld_at (R := R) (P := P) (v0 M) e (f := "kept_text") (y := .d (.str z)) rfl
  unfold dRet dSl dP dOp
  simp only [ft, fa, dC, dAdd]
  refine ⟨line_ok hz, ?_⟩
  rw [sgn_cut]
  exact h
theorem pure_Text_fail {Z : Ad} (xs : List Xv) (M : MH) (R : DR) (P : PX) (hl : xs.length = 1) (h : sp_Text_fail Z xs M R P) : t_Text_fail Z { nx := fun _ M' => R (.d .none) M', rt := R, ex := P } (startX N_Text_fail xs) M := by
  obtain ⟨p, z, i, fl, w, M0, rfl, e, ext, h⟩ := h
  show dRaise _ _ [some (.r (.ref p))] M
  have v0 := fun (M : MH) => var0 (x := .r (.ref p)) (r := []) (M := M)
  have fa := fun (R : DR) (P : PX) => dFld_at (R := R) (P := P) (v0 M) e (f := "kept_at") (y := .d (.int i)) rfl
  unfold dRaise mkC1 dCons dNil
  simp only [fa]
  intro d hd
  exact h _ _ (ext.mset (ext.none hd)) (ext.none hd) mset_same
theorem pure_Text_take {Z : Ad} (xs : List Xv) (M : MH) (R : DR) (P : PX) (hl : xs.length = 2) (h : sp_Text_take Z xs M R P) : t_Text_take Z { nx := fun _ M' => R (.d .none) M', rt := R, ex := P } (startX N_Text_take xs) M := by
  obtain ⟨s, p, z, i, fl, w, M0, rfl, e, np, ext, hz, h⟩ := h
  have T : Tb Z M0 M p z := ⟨np, ext, hz⟩
  have eM := cur_start e
  show dSeq _ _ _ [some (.r (.ref p)), some (.d (.str s)), none] M
  unfold dSeq dSet dIfS dOr dB dOp
  rw [eM]
  refine sign_call T ?_
  simp only [dRet, dSet, dSeq, dIfS, dNext, dDrop, dVar, dC, dOp, dB, dAnd, dOr, dNot, dAndV, dOrV, dNotV, dIf, dNil, dCons, dCall, dApp, dChain, dSub, dLt, dLe, dGt, dGe, dI, List.getElem?_cons_zero, List.getElem?_cons_succ, List.set_cons_zero, List.set_cons_succ]
  dsimp only at h
  unfold takeF at h
  cases hc : at? z i with
  | none =>
    rw [hc] at h
    have e1 : sgnS z i = "" := by unfold sgnS; rw [hc]
    rw [e1, dEq_ss]
    simp only [beq_self_eq_true, if_true]
    exact fail_call T h
  | some c =>
    rw [hc] at h
    have e1 : sgnS z i = one c := by unfold sgnS; rw [hc]
    simp only [e1, dEq_ss, one_nil, Bool.false_eq_true, if_false, dInS_c]
    dsimp only at h
    by_cases q : inS s c = true
    · rw [if_pos q] at h
      rw [q]
      simp only [if_true, Bool.not_true, Bool.false_eq_true, if_false]
      refine at_aug ?_
      exact h
    · rw [if_neg q] at h
      have q' : inS s c = false := by simpa using q
      rw [q']
      simp only [if_true, Bool.not_false]
      exact fail_call T h
end Y
set_option maxHeartbeats 4000000
namespace Y
open PySem PySem.Spec PyProof.Rows L2
theorem takeF_ok {p : Nat → Bool} {z : Str} {i c j : Nat} (h : takeF p z i = .ok (c, j)) : j = i + 1 ∧ at? z i = some c ∧ p c = true := by
  unfold takeF at h
  cases e : at? z i with
  | none => rw [e] at h; cases h
  | some d =>
    rw [e] at h
    dsimp only at h
    by_cases q : p d = true
    · rw [if_pos q] at h
      cases h
      exact ⟨rfl, rfl, q⟩
    · rw [if_neg q] at h
      cases h
theorem sgn_some {z : Str} {i c : Nat} (h : at? z i = some c) : sgnS z i = one c := by unfold sgnS; rw [h]
theorem sgn_none {z : Str} {i : Nat} (h : at? z i = none) : sgnS z i = "" := by unfold sgnS; rw [h]
theorem one_app (c d : Nat) : one c ++ one d = (⟨#[c, d]⟩ : Str) := rfl
theorem dAdd_ss {a b : Str} {M : MH} {R : DR} {P : PX} (h : a.length + b.length ≤ sizeLine) : dAdd (.d (.str a)) (.d (.str b)) M R P = R (.d (.str (a ++ b))) M := propext ⟨fun q => q.2, fun q => ⟨h, q⟩⟩
theorem dAdd_ii {a b : Int} {M : MH} {R : DR} {P : PX} : dAdd (.d (.int a)) (.d (.int b)) M R P = R (.d (.int (a + b))) M := rfl
theorem pure_Text_word {Z : Ad} (xs : List Xv) (M : MH) (R : DR) (P : PX) (hl : xs.length = 1) (h : sp_Text_word Z xs M R P) : t_Text_word Z { nx := fun _ M' => R (.d .none) M', rt := R, ex := P } (startX N_Text_word xs) M := by
  obtain ⟨p, z, i, fl, w, M0, e0, e, np, ext, hz, h⟩ := h
  cases e0
  have T : Tb Z M0 M p z := ⟨np, ext, hz⟩
  have eM := cur_start e
  show dSeq _ _ _ [some (.r (.ref p)), none] M
  unfold dSeq dSet dIfS dAnd dB dOp
  rw [eM]
  refine take_call T _ ?_
  dsimp only at h
  unfold wordF at h
  have el : inS "abcdefghijklmnopqrstuvwxyz" = letterC := rfl
  rw [el]
  cases e1 : takeF letterC z i with
  | error x =>
    rw [e1] at h
    exact h
  | ok q =>
    obtain ⟨c, j⟩ := q
    obtain ⟨rfl, hc, _⟩ := takeF_ok e1
    rw [e1] at h
    dsimp only at h
    simp only [mapR, tkR]
    refine take_call T _ ?_
    rw [el]
    cases e2 : takeF letterC z (i + 1) with
    | error x =>
      rw [e2] at h
      exact h
    | ok q =>
      obtain ⟨d, j⟩ := q
      obtain ⟨rfl, hd, _⟩ := takeF_ok e2
      rw [e2] at h
      dsimp only at h
      simp only [mapR, tkR]
      rw [dAdd_ss (by rw [sizeLine_eq]; show 1 + 1 ≤ 16777216; omega)]
      refine sign_call T ?_
      cases hx : at? z (i + 2) with
      | none =>
        rw [hx] at h
        simp only [dRet, dSet, dSeq, dIfS, dNext, dDrop, dVar, dC, dOp, dB, dAnd, dOr, dNot, dAndV, dOrV, dNotV, dIf, dNil, dCons, dCall, dApp, dChain, dSub, dLt, dLe, dGt, dGe, dI, List.getElem?_cons_zero, List.getElem?_cons_succ, List.set_cons_zero, List.set_cons_succ, sgn_none hx, dNe_ss, beq_self_eq_true, Bool.not_true, Bool.false_eq_true, if_false]
        exact h
      | some x =>
        rw [hx] at h
        dsimp only at h
        simp only [dRet, dSet, dSeq, dIfS, dNext, dDrop, dVar, dC, dOp, dB, dAnd, dOr, dNot, dAndV, dOrV, dNotV, dIf, dNil, dCons, dCall, dApp, dChain, dSub, dLt, dLe, dGt, dGe, dI, List.getElem?_cons_zero, List.getElem?_cons_succ, List.set_cons_zero, List.set_cons_succ, sgn_some hx, dNe_ss, one_nil, Bool.not_false, if_true]
        refine sign_call T ?_
        simp only [sgn_some hx, dInS_c, el, Bool.false_eq_true, if_false]
        by_cases q : letterC x = true
        · rw [q] at h ⊢
          simp only [if_true] at h ⊢
          exact fail_call T h
        · have q' : letterC x = false := by simpa using q
          rw [q'] at h ⊢
          simp only [Bool.false_eq_true, if_false] at h ⊢
          exact h
theorem strL_one (c : Nat) : strL [c] = one c := rfl
theorem strL_app (f : List Nat) (c : Nat) : strL f ++ one c = strL (f ++ [c]) := by
  show (⟨f.toArray ++ #[c]⟩ : Str) = ⟨(f ++ [c]).toArray⟩
  simp
theorem strL_len (f : List Nat) : (strL f).length = f.length := by
  show f.toArray.size = f.length
  simp
theorem strL_cps (f : List Nat) : (strL f).cps.toList = f := rfl
theorem strL_inj {f g : List Nat} (h : strL f = strL g) : f = g := by
  have : (strL f).cps.toList = (strL g).cps.toList := by rw [h]
  exact this
theorem zero_eq (f : List Nat) : (strL f == ("0" : Str)) = decide (f = [48]) := by
  have e : ("0" : Str) = strL [48] := by decide +kernel
  rw [e, str_eq]
  by_cases h : f = [48]
  · subst h
    simp
  · rw [decide_eq_false h, decide_eq_false fun q => h (strL_inj q)]
theorem figC_iff (c : Nat) : figC c = true ↔ 48 ≤ c ∧ c ≤ 57 := by
  have e : ("0123456789" : Str).cps.toList = [48, 49, 50, 51, 52, 53, 54, 55, 56, 57] := by decide +kernel
  unfold figC inS
  rw [e]
  simp
  omega
theorem fig1C_fig {c : Nat} (h : fig1C c = true) : figC c = true := by
  have e : ("123456789" : Str).cps.toList = [49, 50, 51, 52, 53, 54, 55, 56, 57] := by decide +kernel
  rw [figC_iff]
  unfold fig1C inS at h
  rw [e] at h
  simp at h
  omega
theorem figs_some {z : Str} {a c : Nat} (h : at? z a = some c) (q : figC c = true) : figs z a = c :: figs z (a + 1) := by
  unfold at? at h
  obtain ⟨hl, e⟩ := List.getElem?_eq_some_iff.mp h
  unfold figs
  rw [List.drop_eq_getElem_cons hl, e, List.takeWhile_cons, if_pos q]
theorem figs_no {z : Str} {a : Nat} (h : ∀ c, at? z a = some c → figC c = false) : figs z a = [] := by
  unfold figs
  by_cases hl : a < z.cps.toList.length
  · rw [List.drop_eq_getElem_cons hl, List.takeWhile_cons]
    have := h (z.cps.toList[a]) (List.getElem?_eq_getElem hl)
    rw [this]
    rfl
  · rw [List.drop_eq_nil_of_le (by omega)]
    rfl
theorem finF_step {z : Str} {f : List Nat} {a c : Nat} (h0 : f ≠ [48]) (h1 : f ≠ []) (h : at? z a = some c) (q : figC c = true) : finF z (f ++ [c]) (a + 1) = finF z f a := by
  have h2 : f ++ [c] ≠ [48] := fun e => by
    have : (f ++ [c]).length = 1 := by rw [e]; rfl
    rw [List.length_append] at this
    have : f.length = 0 := by simpa using this
    exact h1 (List.length_eq_zero_iff.mp this)
  unfold finF
  rw [if_neg h0, if_neg h2, figs_some h q, List.append_assoc]
  simp
  omega
theorem finF_done {z : Str} {f : List Nat} {a : Nat} (h : f = [48] ∨ ∀ c, at? z a = some c → figC c = false) : finF z f a = (f, a) := by
  unfold finF
  rcases h with h | h
  · rw [if_pos h]
  · split
    · rfl
    · rw [figs_no h]
      simp
/-- the signs of a number -/
def NumL (f : List Nat) : Prop := ∃ ds : List Nat, ds ≠ [] ∧ PySem.NumText.AllDigits ds ∧ (f = ds ∨ f = 45 :: ds)
theorem NumL.ne {f : List Nat} (h : NumL f) : f ≠ [] := by
  obtain ⟨ds, h1, _, h2⟩ := h
  rcases h2 with rfl | rfl
  · exact h1
  · simp
theorem NumL.app {f : List Nat} {c : Nat} (h : NumL f) (q : figC c = true) : NumL (f ++ [c]) := by
  obtain ⟨ds, h1, h2, h3⟩ := h
  have hd : PySem.NumText.AllDigits (ds ++ [c]) := fun d m => by
    rcases List.mem_append.mp m with m | m
    · exact h2 d m
    · obtain rfl : d = c := by simpa using m
      exact (figC_iff d).mp q
  refine ⟨ds ++ [c], by simp, hd, ?_⟩
  rcases h3 with rfl | rfl
  · exact Or.inl rfl
  · exact Or.inr rfl
theorem NumL.val {f : List Nat} (h : NumL f) (hl : f.length ≤ 20) : ∃ n, PySem.intText? (strL f) = some n := by
  obtain ⟨ds, h1, h2, h3⟩ := h
  rcases h3 with rfl | rfl
  · exact ⟨_, PySem.intText_digits (x := strL f) h2 h1 (by rw [strL_len]; omega)⟩
  · exact ⟨_, PySem.intText_neg (x := strL (45 :: ds)) rfl h2 h1 (by rw [strL_len]; omega)⟩
end Y
set_option maxHeartbeats 4000000
namespace Y
open PySem PySem.Spec PyProof.Rows L2
theorem low_callA {Z : Ad} {M0 M : MH} {p fl : Addr} {z : Str} {w : Bool} {i : Nat} {r : DEnv} {R : DR} {P : PX} {ta : DA} (T : Tb Z M0 M p z) (s : Str) (ha : ∀ R P, R [.d (.str s)] (curM Z M p z fl w i) → ta (some (.r (.ref p)) :: r) (curM Z M p z fl w i) R P)
    (h : tkR Z M0 M p z fl w R P (mapR (fun c => .str (one c)) (takeF (inS s) z i))) : dMeth Z.c_Text "take" 2 (sp_Text_take Z) (dVar 0) ta (some (.r (.ref p)) :: r) (curM Z M p z fl w i) R P :=
  low_call (ys := [.d (.str s)]) (n := 2) (F := fun z i => mapR (fun c => .str (one c)) (takeF (inS s) z i)) T rfl ha rfl _ (fun _ _ _ q => ⟨s, q⟩) h
theorem cInt_s {s : Str} {n : Int} {M : MH} {R : DR} {P : PX} (h1 : s.length ≤ 640) (h2 : PySem.intText? s = some n) : cInt [.d (.str s)] M R P = R (.d (.int n)) M := by
  refine propext ⟨fun q => ?_, fun q => ⟨h1, ?_⟩⟩
  · obtain ⟨_, q⟩ := (show s.length ≤ 640 ∧ (match PySem.intText? s with
      | some n => R (.d (.int n)) M
      | none => False) from q)
    rw [h2] at q
    exact q
  · show match PySem.intText? s with
      | some n => R (.d (.int n)) M
      | none => False
    rw [h2]
    exact q
theorem minus_one : ("-" : Str) = one 45 := by decide +kernel
theorem empty_strL : ("" : Str) = strL [] := by decide +kernel
theorem fig1_cut : cutS "0123456789" (some 1) none = "123456789" := by decide +kernel
/-- the end of worth: the figures are f, the place a -/
theorem worth_end {Z : Ad} {M0 M : MH} {p fl : Addr} {z : Str} {w : Bool} {i a : Nat} {R : DR} {P : PX} {f : List Nat} (T : Tb Z M0 M p z) (hf : NumL f) (hlen : f.length ≤ 200000)
    (h : match valF f with
      | some n => R (.d (.int n)) (curM Z M p z fl w a)
      | none => failQ Z M0 i P) :
    dSeq (dIfS (dOr (dB (dOp dGt (dApp cLen (dCons (dVar 2) dNil)) (dC (.d (.int 20))))) (dNot (dB (dCall 1 (sp_is_worth Z) (dCons (dApp cInt (dCons (dVar 2) dNil)) dNil))))) (dRaise (mkC1 Z.c_BadSigns "at" (dCons (dVar 1) dNil)))
    dNext) (dRet (dApp cInt (dCons (dVar 2) dNil))) { nx := fun _ M' => R (.d .none) M', rt := R, ex := P } [some (.r (.ref p)), some (.d (.int i)), some (.d (.str (strL f)))] (curM Z M p z fl w a) := by
  have fail : failQ Z M0 i P → dRaise (mkC1 Z.c_BadSigns "at" (dCons (dVar 1) dNil)) { nx := dRet (dApp cInt (dCons (dVar 2) dNil)) { nx := fun _ M' => R (.d .none) M', rt := R, ex := P }, rt := R, ex := P } [some (.r (.ref p)), some (.d (.int i)), some (.d (.str (strL f)))] (curM Z M p z fl w a) := by
    intro q d hd
    have e1 := Ext.none (T.extC (i := a)) hd
    exact q _ _ ((T.extC (i := a)).mset e1) e1 mset_same
  simp only [dRet, dSet, dSeq, dIfS, dNext, dDrop, dVar, dC, dOp, dB, dAnd, dOr, dNot, dAndV, dOrV, dNotV, dIf, dNil, dCons, dCall, dApp, dChain, dSub, dLt, dLe, dGt, dGe, dI, List.getElem?_cons_zero, List.getElem?_cons_succ, List.set_cons_zero, List.set_cons_succ]
  rw [cLen_s (by rw [strL_len, sizeLine_eq]; omega), strL_len]
  unfold valF at h
  refine ⟨trivial, ?_⟩
  by_cases q : f.length > 20
  · rw [if_pos q] at h
    have q' : (20 : Int) < (f.length : Int) := by omega
    simp only [q', decide_true, if_true]
    exact fail h
  · rw [if_neg q] at h
    have q' : ¬ (20 : Int) < (f.length : Int) := by omega
    simp only [q', decide_false, Bool.false_eq_true, if_false]
    obtain ⟨n, hn⟩ := hf.val (by omega)
    rw [hn] at h
    rw [cInt_s (by rw [strL_len]; omega) hn]
    refine ⟨rfl, .int n, rfl, ?_⟩
    by_cases qw : worthD (.int n) = true
    · have h2 : R (.d (.int n)) (curM Z M p z fl w a) := by
        have e : (some n).bind (fun n => if worthD (.int n) = true then some n else none) = some n := by
          show (if worthD (.int n) = true then some n else none) = some n
          rw [if_pos qw]
        rw [e] at h
        exact h
      rw [qw]
      simp only [Bool.not_true, Bool.false_eq_true, if_false]
      rw [cInt_s (by rw [strL_len]; omega) hn]
      exact h2
    · have qw' : worthD (.int n) = false := by simpa using qw
      have h2 : failQ Z M0 i P := by
        have e : (some n).bind (fun n => if worthD (.int n) = true then some n else none) = none := by
          show (if worthD (.int n) = true then some n else none) = none
          rw [if_neg qw]
        rw [e] at h
        exact h
      rw [qw']
      simp only [Bool.not_false, if_true]
      exact fail h2
/-- the figures behind the first one -/
theorem worth_loop {Z : Ad} {M0 M : MH} {p fl : Addr} {z : Str} {w : Bool} {i a : Nat} {P : PX} {f : List Nat} (T : Tb Z M0 M p z) (hf : NumL f) (hlen : f.length ≤ a) (ha : a ≤ z.length) (t2 : DS) (D : DEnds)
    (h : ∀ g b, NumL g → g.length ≤ b → b ≤ z.length → finF z f a = (g, b) → t2 D [some (.r (.ref p)), some (.d (.int i)), some (.d (.str (strL g)))] (curM Z M p z fl w b)) (hex : D.ex = P) :
    dSeq (dWhile (dAnd (dB (dOp dNe (dVar 2) (dC (.d (.str "0"))))) (dAnd (dB (dOp dNe (dMeth Z.c_Text "sign" 1 (sp_Text_sign Z) (dVar 0) dNil) (dC (.d (.str ""))))) (dB (dOp (dInS false) (dMeth Z.c_Text "sign" 1 (sp_Text_sign Z) (dVar 0) dNil) (dC (.d (.str "0123456789")))))))
    (dSet 2 (dOp dAdd (dVar 2) (dMeth Z.c_Text "take" 2 (sp_Text_take Z) (dVar 0) (dCons (dC (.d (.str "0123456789"))) dNil))))) t2 D [some (.r (.ref p)), some (.d (.int i)), some (.d (.str (strL f)))] (curM Z M p z fl w a) := by
  refine ⟨fun r M1 => ∃ g b, NumL g ∧ g.length ≤ b ∧ b ≤ z.length ∧ finF z g b = finF z f a ∧ r = [some (.r (.ref p)), some (.d (.int i)), some (.d (.str (strL g)))] ∧ M1 = curM Z M p z fl w b,
    fun (r : DEnv) _ => (match (r[2]? : Option (Option Xv)) with
      | some (some (Xv.d (PyData.str s))) => 200001 - s.length
      | _ => 0), ⟨f, a, hf, hlen, ha, rfl, rfl, rfl⟩, ?_⟩
  rintro r M1 ⟨g, b, hg, hgl, hb, hfin, rfl, rfl⟩
  simp only [dRet, dSet, dSeq, dIfS, dNext, dDrop, dVar, dC, dOp, dB, dAnd, dOr, dNot, dAndV, dOrV, dNotV, dIf, dNil, dCons, dCall, dApp, dChain, dSub, dLt, dLe, dGt, dGe, dI, List.getElem?_cons_zero, List.getElem?_cons_succ, List.set_cons_zero, List.set_cons_succ, dNe_ss, zero_eq]
  have done : (g = [48] ∨ ∀ c, at? z b = some c → figC c = false) → t2 D [some (.r (.ref p)), some (.d (.int i)), some (.d (.str (strL g)))] (curM Z M p z fl w b) := fun q => by
    refine h g b hg hgl hb ?_
    rw [← hfin]
    exact finF_done q
  by_cases q0 : g = [48]
  · rw [decide_eq_true q0]
    simp only [Bool.not_true, Bool.false_eq_true, if_false]
    exact done (Or.inl q0)
  · rw [decide_eq_false q0]
    simp only [Bool.not_false, if_true]
    refine sign_call T ?_
    cases hc : at? z b with
    | none =>
      simp only [sgn_none hc, dNe_ss, beq_self_eq_true, Bool.not_true, Bool.false_eq_true, if_false]
      exact done (Or.inr fun c e => by rw [hc] at e; cases e)
    | some c =>
      simp only [sgn_some hc, dNe_ss, one_nil, Bool.not_false, if_true]
      refine sign_call T ?_
      simp only [sgn_some hc, dInS_c, Bool.false_eq_true, if_false]
      have ef : inS "0123456789" c = figC c := rfl
      rw [ef]
      by_cases qf : figC c = true
      · rw [qf]
        simp only [if_true]
        have hbl : b < z.length := by
          unfold at? at hc
          exact (List.getElem?_eq_some_iff.mp hc).1
        have hz := T.len
        refine take_call T _ ?_
        have et : takeF (inS "0123456789") z b = .ok (c, b + 1) := by
          unfold takeF
          rw [hc]
          dsimp only
          rw [ef, if_pos qf]
        rw [et]
        simp only [mapR, tkR]
        rw [dAdd_ss (by rw [strL_len, sizeLine_eq]; show g.length + 1 ≤ 16777216; omega), strL_app]
        refine ⟨⟨g ++ [c], b + 1, hg.app qf, by simp; omega, by omega, ?_, rfl, rfl⟩, ?_⟩
        · rw [finF_step q0 hg.ne hc qf, hfin]
        · show 200001 - (strL (g ++ [c])).length < 200001 - (strL g).length
          rw [strL_len, strL_len, List.length_append]
          show 200001 - (g.length + 1) < 200001 - g.length
          omega
      · have qf' : figC c = false := by simpa using qf
        rw [qf']
        simp only [Bool.false_eq_true, if_false]
        exact done (Or.inr fun d e => by rw [hc] at e; cases e; exact qf')
theorem pure_Text_worth {Z : Ad} (xs : List Xv) (M : MH) (R : DR) (P : PX) (hl : xs.length = 1) (h : sp_Text_worth Z xs M R P) : t_Text_worth Z { nx := fun _ M' => R (.d .none) M', rt := R, ex := P } (startX N_Text_worth xs) M := by
  obtain ⟨p, z, i, fl, w, M0, e0, e, np, ext, hz, h⟩ := h
  cases e0
  have T : Tb Z M0 M p z := ⟨np, ext, hz⟩
  have eM := cur_start e
  show dSeq _ _ _ [some (.r (.ref p)), none, none] M
  rw [eM]
  unfold dSeq dSet
  rw [at_fld]
  dsimp only at h
  unfold worthF at h
  have tail : ∀ (f : List Nat) (a : Nat), NumL f → f.length ≤ a → a ≤ z.length → (match valF (finF z f a).1 with
      | some n => R (.d (.int n)) (curM Z M p z fl w (finF z f a).2)
      | none => failQ Z M0 i P) → dSeq (dWhile (dAnd (dB (dOp dNe (dVar 2) (dC (.d (.str "0"))))) (dAnd (dB (dOp dNe (dMeth Z.c_Text "sign" 1 (sp_Text_sign Z) (dVar 0) dNil) (dC (.d (.str ""))))) (dB (dOp (dInS false) (dMeth Z.c_Text "sign" 1 (sp_Text_sign Z) (dVar 0) dNil) (dC (.d (.str "0123456789")))))))
    (dSet 2 (dOp dAdd (dVar 2) (dMeth Z.c_Text "take" 2 (sp_Text_take Z) (dVar 0) (dCons (dC (.d (.str "0123456789"))) dNil)))))
      (dSeq (dIfS (dOr (dB (dOp dGt (dApp cLen (dCons (dVar 2) dNil)) (dC (.d (.int 20))))) (dNot (dB (dCall 1 (sp_is_worth Z) (dCons (dApp cInt (dCons (dVar 2) dNil)) dNil))))) (dRaise (mkC1 Z.c_BadSigns "at" (dCons (dVar 1) dNil)))
    dNext) (dRet (dApp cInt (dCons (dVar 2) dNil)))) { nx := fun _ M' => R (.d .none) M', rt := R, ex := P } [some (.r (.ref p)), some (.d (.int i)), some (.d (.str (strL f)))] (curM Z M p z fl w a) := fun f a hf h1 h2 h3 =>
    worth_loop (P := P) T hf h1 h2 _ _ (fun g b hg hgl hb hfin => worth_end T hg (by omega) (by rw [hfin] at h3; exact h3)) rfl
  by_cases neg : at? z i = some 45
  · rw [decide_eq_true neg] at h
    simp only [if_true] at h
    unfold dIf dB dOp
    simp only [dRet, dSet, dSeq, dIfS, dNext, dDrop, dVar, dC, dOp, dB, dAnd, dOr, dNot, dAndV, dOrV, dNotV, dIf, dNil, dCons, dCall, dApp, dChain, dSub, dLt, dLe, dGt, dGe, dI, List.getElem?_cons_zero, List.getElem?_cons_succ, List.set_cons_zero, List.set_cons_succ]
    refine sign_call T ?_
    have e45 : ((one 45 : Str) == ("-" : Str)) = true := by rw [minus_one]; simp
    simp only [sgn_some neg, dEq_ss, e45, if_true]
    refine take_call T _ ?_
    have et : takeF (inS "-") z i = .ok (45, i + 1) := by
      unfold takeF
      rw [neg]
      dsimp only
      have : inS "-" 45 = true := by decide +kernel
      rw [if_pos this]
    rw [et]
    simp only [mapR, tkR]
    refine low_callA T "123456789" (fun R P q => ?_) ?_
    · have e1 : ((one 45 : Str) == ("" : Str)) = false := one_nil 45
      simp only [dRet, dSet, dSeq, dIfS, dNext, dDrop, dVar, dC, dOp, dB, dAnd, dOr, dNot, dAndV, dOrV, dNotV, dIf, dNil, dCons, dCall, dApp, dChain, dSub, dLt, dLe, dGt, dGe, dI, List.getElem?_cons_zero, List.getElem?_cons_succ, List.set_cons_zero, List.set_cons_succ, dEq_ss, e1, Bool.false_eq_true, if_false]
      unfold dSl dP dNoP dCut
      simp only [dC]
      rw [fig1_cut]
      exact ⟨by rw [sizeLine_eq]; decide +kernel, q⟩
    have e2 : inS "123456789" = fig1C := rfl
    rw [e2]
    cases et2 : takeF fig1C z (i + 1) with
    | error x =>
      rw [et2] at h
      exact h
    | ok q =>
      obtain ⟨c, j⟩ := q
      obtain ⟨rfl, hc, hfc⟩ := takeF_ok et2
      rw [et2] at h
      simp only [mapR, tkR]
      rw [dAdd_ss (by rw [sizeLine_eq]; show 1 + 1 ≤ 16777216; omega)]
      have hil : i + 1 < z.length := by
        unfold at? at hc
        exact (List.getElem?_eq_some_iff.mp hc).1
      refine tail [45, c] (i + 1 + 1) ⟨[c], by simp, fun d m => ?_, Or.inr rfl⟩ (by simp) (by omega) ?_
      · obtain rfl : d = c := by simpa using m
        exact (figC_iff d).mp (fig1C_fig hfc)
      · dsimp only at h
        cases ev : valF (finF z [45, c] (i + 1 + 1)).1 with
        | none =>
          rw [ev] at h
          exact h
        | some n =>
          rw [ev] at h
          exact h
  · rw [decide_eq_false neg] at h
    simp only [Bool.false_eq_true, if_false] at h
    unfold dIf dB dOp
    simp only [dRet, dSet, dSeq, dIfS, dNext, dDrop, dVar, dC, dOp, dB, dAnd, dOr, dNot, dAndV, dOrV, dNotV, dIf, dNil, dCons, dCall, dApp, dChain, dSub, dLt, dLe, dGt, dGe, dI, List.getElem?_cons_zero, List.getElem?_cons_succ, List.set_cons_zero, List.set_cons_succ]
    refine sign_call T ?_
    have e45 : (sgnS z i == ("-" : Str)) = false := by
      cases hc : at? z i with
      | none =>
        rw [sgn_none hc]
        decide +kernel
      | some c =>
        rw [sgn_some hc, minus_one, one_eq]
        exact decide_eq_false fun q => neg (by rw [hc, q])
    simp only [dEq_ss, e45, Bool.false_eq_true, if_false]
    refine low_callA T "0123456789" (fun R P q => ?_) ?_
    · simp only [dRet, dSet, dSeq, dIfS, dNext, dDrop, dVar, dC, dOp, dB, dAnd, dOr, dNot, dAndV, dOrV, dNotV, dIf, dNil, dCons, dCall, dApp, dChain, dSub, dLt, dLe, dGt, dGe, dI, List.getElem?_cons_zero, List.getElem?_cons_succ, List.set_cons_zero, List.set_cons_succ, dEq_ss, beq_self_eq_true, if_true]
      exact q
    have e2 : inS "0123456789" = figC := rfl
    rw [e2]
    cases et2 : takeF figC z i with
    | error x =>
      rw [et2] at h
      exact h
    | ok q =>
      obtain ⟨c, j⟩ := q
      obtain ⟨rfl, hc, hfc⟩ := takeF_ok et2
      rw [et2] at h
      simp only [mapR, tkR]
      rw [dAdd_ss (by rw [sizeLine_eq]; show 0 + 1 ≤ 16777216; omega)]
      have hil : i < z.length := by
        unfold at? at hc
        exact (List.getElem?_eq_some_iff.mp hc).1
      have e3 : (("" : Str) ++ one c) = strL [c] := by rw [empty_strL, strL_app]; rfl
      rw [e3]
      refine tail [c] (i + 1) ⟨[c], by simp, fun d m => ?_, Or.inl rfl⟩ (by simp) (by omega) ?_
      · obtain rfl : d = c := by simpa using m
        exact (figC_iff d).mp hfc
      · dsimp only at h
        cases ev : valF (finF z [c] (i + 1)).1 with
        | none =>
          rw [ev] at h
          exact h
        | some n =>
          rw [ev] at h
          exact h
end Y
set_option maxHeartbeats 4000000
namespace Y
open PySem PySem.Spec PyProof.Rows L2
theorem dTup_2 {a b : PyData} {M : MH} {R : DR} {P : PX} (h : R (.d (.tuple [a, b])) M) : [Xv.d a, .d b].length ≤ sizeLine ∧ (match allD [Xv.d a, .d b] with
  | some ds => R (.d (.tuple ds)) M
  | none => False) := ⟨by rw [sizeLine_eq]; simp, h⟩
theorem dTup_3 {a b c : PyData} {M : MH} {R : DR} {P : PX} (h : R (.d (.tuple [a, b, c])) M) : [Xv.d a, .d b, .d c].length ≤ sizeLine ∧ (match allD [Xv.d a, .d b, .d c] with
  | some ds => R (.d (.tuple ds)) M
  | none => False) := ⟨by rw [sizeLine_eq]; simp, h⟩
theorem dTup_4 {a b c d : PyData} {M : MH} {R : DR} {P : PX} (h : R (.d (.tuple [a, b, c, d])) M) : [Xv.d a, .d b, .d c, .d d].length ≤ sizeLine ∧ (match allD [Xv.d a, .d b, .d c, .d d] with
  | some ds => R (.d (.tuple ds)) M
  | none => False) := ⟨by rw [sizeLine_eq]; simp, h⟩
theorem dTup_1 {a : PyData} {M : MH} {R : DR} {P : PX} (h : R (.d (.tuple [a])) M) : [Xv.d a].length ≤ sizeLine ∧ (match allD [Xv.d a] with
  | some ds => R (.d (.tuple ds)) M
  | none => False) := ⟨by rw [sizeLine_eq]; simp, h⟩
theorem tilde : ("~" : Str) = one 126 := by decide +kernel
theorem dot_ : ("." : Str) = one 46 := by decide +kernel
theorem lbr : ("[" : Str) = one 91 := by decide +kernel
theorem heads (c : Nat) : inS "~._[" c = decide (c = 126 ∨ c = 46 ∨ c = 95 ∨ c = 91) := by
  have e : ("~._[" : Str).cps.toList = [126, 46, 95, 91] := by decide +kernel
  unfold inS
  rw [e]
  simp
theorem pure_Text_atom {Z : Ad} (xs : List Xv) (M : MH) (R : DR) (P : PX) (hl : xs.length = 1) (h : sp_Text_atom Z xs M R P) : t_Text_atom Z { nx := fun _ M' => R (.d .none) M', rt := R, ex := P } (startX N_Text_atom xs) M := by
  obtain ⟨p, z, i, fl, w, M0, e0, e, np, ext, hz, h⟩ := h
  cases e0
  have T : Tb Z M0 M p z := ⟨np, ext, hz⟩
  have eM := cur_start e
  show dSeq _ _ _ [some (.r (.ref p)), none, none, none] M
  rw [eM]
  unfold dSeq dSet
  refine sign_call T ?_
  unfold atomF at h
  cases hc : at? z i with
  | none =>
    rw [hc] at h
    simp only [dRet, dSet, dSeq, dIfS, dNext, dDrop, dVar, dC, dOp, dB, dAnd, dOr, dNot, dAndV, dOrV, dNotV, dIf, dNil, dCons, dCall, dApp, dChain, dSub, dLt, dLe, dGt, dGe, dI, List.getElem?_cons_zero, List.getElem?_cons_succ, List.set_cons_zero, List.set_cons_succ, sgn_none hc, dNe_ss, beq_self_eq_true, Bool.not_true, Bool.false_eq_true, if_false]
    refine take_call T _ ?_
    have et : takeF (inS "~._[") z i = .error i := by
      unfold takeF
      rw [hc]
    rw [et]
    exact h
  | some c =>
    rw [hc] at h
    dsimp only at h
    simp only [dRet, dSet, dSeq, dIfS, dNext, dDrop, dVar, dC, dOp, dB, dAnd, dOr, dNot, dAndV, dOrV, dNotV, dIf, dNil, dCons, dCall, dApp, dChain, dSub, dLt, dLe, dGt, dGe, dI, List.getElem?_cons_zero, List.getElem?_cons_succ, List.set_cons_zero, List.set_cons_succ, sgn_some hc, dNe_ss, one_nil, Bool.not_false, if_true, dInS_c, Bool.false_eq_true, if_false]
    have el : inS "abcdefghijklmnopqrstuvwxyz" c = letterC c := rfl
    rw [el]
    by_cases q1 : letterC c = true
    · rw [if_pos q1] at h
      rw [q1]
      simp only [if_true, dTup, dRet, dSet, dSeq, dIfS, dNext, dDrop, dVar, dC, dOp, dB, dAnd, dOr, dNot, dAndV, dOrV, dNotV, dIf, dNil, dCons, dCall, dApp, dChain, dSub, dLt, dLe, dGt, dGe, dI, List.getElem?_cons_zero, List.getElem?_cons_succ, List.set_cons_zero, List.set_cons_succ]
      refine word_call T ?_
      cases ew : wordF z i with
      | error x =>
        rw [ew] at h
        exact h
      | ok q =>
        obtain ⟨u, a⟩ := q
        rw [ew] at h
        exact dTup_2 (P := P) h
    · rw [if_neg q1] at h
      have q1' : letterC c = false := by simpa using q1
      rw [q1']
      simp only [Bool.false_eq_true, if_false]
      refine take_call T _ ?_
      by_cases q2 : c = 126 ∨ c = 46 ∨ c = 95 ∨ c = 91
      · have et : takeF (inS "~._[") z i = .ok (c, i + 1) := by
          unfold takeF
          rw [hc]
          dsimp only
          rw [heads, decide_eq_true q2, if_pos rfl]
        rw [et]
        simp only [mapR, tkR]
        rw [tilde, dEq_ss, one_eq]
        by_cases q3 : c = 126
        · rw [if_pos q3] at h
          rw [decide_eq_true q3]
          simp only [if_true, dTup, dRet, dSet, dSeq, dIfS, dNext, dDrop, dVar, dC, dOp, dB, dAnd, dOr, dNot, dAndV, dOrV, dNotV, dIf, dNil, dCons, dCall, dApp, dChain, dSub, dLt, dLe, dGt, dGe, dI, List.getElem?_cons_zero, List.getElem?_cons_succ, List.set_cons_zero, List.set_cons_succ]
          refine word_call T ?_
          cases ew : wordF z (i + 1) with
          | error x =>
            rw [ew] at h
            exact h
          | ok q =>
            obtain ⟨u, a⟩ := q
            rw [ew] at h
            exact dTup_2 (P := P) h
        · rw [if_neg q3] at h
          rw [decide_eq_false q3]
          simp only [Bool.false_eq_true, if_false]
          rw [lbr, one_eq]
          by_cases q4 : c = 91
          · have n46 : ¬ c = 46 := by omega
            have n95 : ¬ c = 95 := by omega
            rw [if_neg n46, if_neg n95, if_pos q4] at h
            rw [decide_eq_true q4]
            simp only [Bool.not_true, Bool.false_eq_true, if_false]
            unfold nodeF at h
            refine take_call T _ ?_
            cases e1 : takeF (inS "<=>") z (i + 1) with
            | error x =>
              rw [e1] at h
              exact h
            | ok q =>
              obtain ⟨t, j⟩ := q
              obtain ⟨rfl, _, _⟩ := takeF_ok e1
              rw [e1] at h
              dsimp only at h
              simp only [mapR, tkR, dTup, dRet, dSet, dSeq, dIfS, dNext, dDrop, dVar, dC, dOp, dB, dAnd, dOr, dNot, dAndV, dOrV, dNotV, dIf, dNil, dCons, dCall, dApp, dChain, dSub, dLt, dLe, dGt, dGe, dI, List.getElem?_cons_zero, List.getElem?_cons_succ, List.set_cons_zero, List.set_cons_succ]
              refine worth_call T ?_
              cases e2 : worthF z (i + 1 + 1) with
              | error x =>
                rw [e2] at h
                exact h
              | ok q =>
                obtain ⟨n, a⟩ := q
                rw [e2] at h
                dsimp only at h
                simp only [mapR, tkR]
                refine ⟨by rw [sizeLine_eq]; simp, ?_⟩
                simp only [allD, Option.map_some]
                refine take_call T _ ?_
                cases e3 : takeF (inS "]") z a with
                | error x =>
                  rw [e3] at h
                  exact h
                | ok q =>
                  obtain ⟨t2, j2⟩ := q
                  rw [e3] at h
                  exact h
          · rw [decide_eq_false q4]
            simp only [Bool.not_false, if_true]
            rw [dot_, dEq_ss, one_eq]
            by_cases q5 : c = 46
            · rw [if_pos q5] at h
              rw [decide_eq_true q5]
              simp only [if_true, dTup, dRet, dSet, dSeq, dIfS, dNext, dDrop, dVar, dC, dOp, dB, dAnd, dOr, dNot, dAndV, dOrV, dNotV, dIf, dNil, dCons, dCall, dApp, dChain, dSub, dLt, dLe, dGt, dGe, dI, List.getElem?_cons_zero, List.getElem?_cons_succ, List.set_cons_zero, List.set_cons_succ]
              exact dTup_1 (P := P) h
            · rw [if_neg q5] at h
              rw [decide_eq_false q5]
              simp only [Bool.false_eq_true, if_false, dTup, dRet, dSet, dSeq, dIfS, dNext, dDrop, dVar, dC, dOp, dB, dAnd, dOr, dNot, dAndV, dOrV, dNotV, dIf, dNil, dCons, dCall, dApp, dChain, dSub, dLt, dLe, dGt, dGe, dI, List.getElem?_cons_zero, List.getElem?_cons_succ, List.set_cons_zero, List.set_cons_succ]
              have q6 : c = 95 := by omega
              rw [if_pos q6] at h
              exact dTup_1 (P := P) h
      · have et : takeF (inS "~._[") z i = .error i := by
          unfold takeF
          rw [hc]
          dsimp only
          rw [heads, decide_eq_false q2, if_neg Bool.false_ne_true]
        rw [et]
        have n1 : ¬ c = 126 := fun q => q2 (Or.inl q)
        have n2 : ¬ c = 46 := fun q => q2 (Or.inr (Or.inl q))
        have n3 : ¬ c = 95 := fun q => q2 (Or.inr (Or.inr (Or.inl q)))
        have n4 : ¬ c = 91 := fun q => q2 (Or.inr (Or.inr (Or.inr q)))
        rw [if_neg n1, if_neg n2, if_neg n3, if_neg n4] at h
        exact h
/-! ### the reader's objects, step by step -/
section
variable {Z : Ad} {M0 M M' : MH} {p fl fc : Addr} {fb : List Addr} {s : RS}
theorem Frs.congr : ∀ {as : List Addr} {fs : List Fr}, (∀ a ∈ as, M' a = M a) → Frs Z M as fs → Frs Z M' as fs
  | _, _, _, .nil => .nil
  | _, _, h, .cons e t => .cons ((h _ List.mem_cons_self).trans e) (Frs.congr (fun a q => h a (List.mem_cons_of_mem _ q)) t)
theorem Frs.mem : ∀ {as : List Addr} {fs : List Fr}, Frs Z M as fs → ∀ a ∈ as, ∃ f, M a = some (frO Z f)
  | _, _, .cons e t, a, h => by
    rcases List.mem_cons.mp h with rfl | h
    · exact ⟨_, e⟩
    · exact Frs.mem t a h
theorem Frs.len : ∀ {as : List Addr} {fs : List Fr}, Frs Z M as fs → as.length = fs.length
  | _, _, .nil => rfl
  | _, _, .cons _ t => by rw [List.length_cons, List.length_cons, Frs.len t]
theorem fr_tx {f : Fr} {z : Str} {i : Nat} {l : Addr} {w : Bool} : frO Z f ≠ txO Z z i l w := fun h => by
  unfold frO txO at h
  injection h with _ h2
  have := congrArg List.length h2
  simp at this
theorem TxAt.pl (t : TxAt Z M0 M p fl fc fb s) : fl ≠ p := fun q => by
  have h := t.obj
  rw [← q, t.lst] at h
  unfold txO at h
  cases h
theorem TxAt.pf (t : TxAt Z M0 M p fl fc fb s) : ∀ a ∈ fc :: fb, a ≠ p := fun a ha q => by
  obtain ⟨f, e⟩ := t.frs.mem a ha
  rw [q, t.obj] at e
  exact fr_tx (Option.some.inj e).symm
theorem TxAt.lf (t : TxAt Z M0 M p fl fc fb s) : ∀ a ∈ fc :: fb, a ≠ fl := fun a ha q => by
  obtain ⟨f, e⟩ := t.frs.mem a ha
  rw [q, t.lst] at e
  unfold frO at e
  cases e
theorem TxAt.cur (t : TxAt Z M0 M p fl fc fb s) (i : Nat) (w : Bool) : TxAt Z M0 (curM Z M p s.txt fl w i) p fl fc fb ⟨s.txt, i, w, s.below, s.cur⟩ where
  ext := t.ext.mset t.np
  np := t.np
  nl := t.nl
  nf := t.nf
  obj := mset_same
  lst := (mset_ne t.pl).trans t.lst
  nd := t.nd
  frs := t.frs.congr fun a ha => mset_ne (t.pf a ha)
theorem TxAt.frame (t : TxAt Z M0 M p fl fc fb s) (f : Fr) : TxAt Z M0 (mset M fc (frO Z f)) p fl fc fb ⟨s.txt, s.at_, s.want, s.below, f⟩ where
  ext := t.ext.mset (t.nf fc List.mem_cons_self)
  np := t.np
  nl := t.nl
  nf := t.nf
  obj := (mset_ne (Ne.symm (t.pf fc List.mem_cons_self))).trans t.obj
  lst := (mset_ne (Ne.symm (t.lf fc List.mem_cons_self))).trans t.lst
  nd := t.nd
  frs := by
    cases t.frs with
    | cons e r => exact .cons mset_same (r.congr fun a ha => mset_ne fun q => (List.nodup_cons.mp t.nd).1 (q ▸ ha))
theorem TxAt.push (t : TxAt Z M0 M p fl fc fb s) (n : Addr) (hn : M n = none) (f : Fr) : TxAt Z M0 (mset (mset M n (frO Z f)) fl (.lst (((fc :: fb).reverse ++ [n]).map fun a => .r (.ref a)))) p fl n (fc :: fb) ⟨s.txt, s.at_, s.want, s.cur :: s.below, f⟩ := by
  have nn := t.ext.none hn
  have np_ : p ≠ n := fun q => by rw [← q, t.obj] at hn; cases hn
  have nl_ : fl ≠ n := fun q => by rw [← q, t.lst] at hn; cases hn
  have nf_ : ∀ a ∈ fc :: fb, a ≠ n := fun a ha q => by
    obtain ⟨g, e⟩ := t.frs.mem a ha
    rw [q, hn] at e
    cases e
  refine ⟨(t.ext.mset nn).mset t.nl, t.np, t.nl, fun a ha => ?_, ?_, mset_same, List.nodup_cons.mpr ⟨fun q => nf_ n q rfl, t.nd⟩, .cons ?_ (t.frs.congr fun a ha => ?_)⟩
  · rcases List.mem_cons.mp ha with rfl | ha
    · exact nn
    · exact t.nf a ha
  · exact (mset_ne (Ne.symm t.pl)).trans ((mset_ne np_).trans t.obj)
  · exact (mset_ne (Ne.symm nl_)).trans mset_same
  · exact (mset_ne (t.lf a ha)).trans (mset_ne (nf_ a ha))
theorem TxAt.pop {fc' : Addr} {fb' : List Addr} {f' : Fr} {b' : List Fr} {z : Str} {i : Nat} {w : Bool} {c : Fr} (t : TxAt Z M0 M p fl fc (fc' :: fb') ⟨z, i, w, f' :: b', c⟩) : TxAt Z M0 (mset M fl (.lst ((fb'.reverse ++ [fc']).map fun a => .r (.ref a)))) p fl fc' fb' ⟨z, i, w, b', f'⟩ where
  ext := t.ext.mset t.nl
  np := t.np
  nl := t.nl
  nf := fun a ha => t.nf a (List.mem_cons_of_mem _ ha)
  obj := (mset_ne (Ne.symm t.pl)).trans t.obj
  lst := mset_same
  nd := (List.nodup_cons.mp t.nd).2
  frs := by
    have h := t.frs
    cases h with
    | cons e r => exact r.congr fun a ha => mset_ne (t.lf a (List.mem_cons_of_mem _ ha))
theorem TxAt.tb (t : TxAt Z M0 M p fl fc fb s) (h : s.txt.length ≤ 100000) : Tb Z M0 M p s.txt := ⟨t.np, t.ext, h⟩
theorem atI_last {α : Type} (l : List α) (x : α) : atI (l ++ [x]) (-1) = some x := by
  unfold atI ixN
  rw [if_neg (by decide), if_pos (by rw [List.length_append]; simp only [List.length_cons, List.length_nil]; omega)]
  show (l ++ [x])[((-1 : Int) + ((l ++ [x]).length : Int)).toNat]? = some x
  have e : ((-1 : Int) + ((l ++ [x]).length : Int)).toNat = l.length := by rw [List.length_append]; simp only [List.length_cons, List.length_nil]; omega
  rw [e]
  simp
end
end Y
set_option maxHeartbeats 4000000
namespace Y
open PySem PySem.Spec PyProof.Rows L2
theorem lpar : ("(" : Str) = one 40 := by decide +kernel
theorem sgn_eq {z : Str} {i c : Nat} {s : Str} (hs : s = one c) : (sgnS z i == s) = decide (at? z i = some c) := by
  subst hs
  cases hc : at? z i with
  | none =>
    rw [sgn_none hc, str_eq]
    have : ("" : Str) ≠ one c := fun q => by
      have h := one_nil c
      rw [← q] at h
      simp at h
    rw [decide_eq_false this]
    rfl
  | some d =>
    rw [sgn_some hc, one_eq]
    by_cases q : d = c
    · subst q
      simp
    · rw [decide_eq_false q, decide_eq_false (by simpa using q)]
theorem at_lt {z : Str} {i c : Nat} (h : at? z i = some c) : i < z.length := by
  unfold at? at h
  exact (List.getElem?_eq_some_iff.mp h).1
theorem op_i {t : D2} {da db : DX} {r : DEnv} {M : MH} {R : DR} {P : PX} (h : da r M (fun x M1 => db r M1 (fun y M2 => t x y M2 R P) P) P) : dOp t da db r M R P := h
section
variable {Z : Ad} {M0 M : MH} {p fl fc : Addr} {fb : List Addr} {s : RS}
theorem TxAt.st (t : TxAt Z M0 M p fl fc fb s) : TextSt Z M0 M p s := ⟨fl, fc, fb, t⟩
theorem TxAt.start (t : TxAt Z M0 M p fl fc fb s) : M = curM Z M p s.txt fl s.want s.at_ := cur_start t.obj
theorem TxAt.few (t : TxAt Z M0 M p fl fc fb s) (ok : OkS s) : fb.length ≤ 100000 := by
  have h := t.frs.len
  simp only [List.length_cons] at h
  have h1 := ok.few
  have h2 := ok.at_
  have h3 := ok.len
  omega
/-- the frame on top -/
theorem top_frame (t : TxAt Z M0 M p fl fc fb s) {r : DEnv} (R : DR) (P : PX) : dOp dIx (dFld Z.c_Text "kept_frames" (dVar 0)) (dNeg (dC (.d (.int 1)))) (some (.r (.ref p)) :: r) M R P = R (.r (.ref fc)) M := by
  unfold dOp
  rw [dFld_at (var0 (r := r)) t.obj (f := "kept_frames") (y := .r (.ref fl)) rfl]
  show dIx (.r (.ref fl)) (.d (.int (-1))) M R P = _
  unfold dIx
  dsimp only
  rw [t.lst]
  dsimp only
  rw [List.map_append, List.map_cons, List.map_nil, atI_last]
theorem TxAt.curf (t : TxAt Z M0 M p fl fc fb s) : M fc = some (frO Z s.cur) := by
  cases t.frs with
  | cons e _ => exact e
end
theorem cur_want {Z : Ad} {M0 M : MH} {p fl fc : Addr} {fb : List Addr} {s : RS} (t : TxAt Z M0 M p fl fc fb s) (w : Bool) : mset M p (txO Z s.txt s.at_ fl w) = curM Z M p s.txt fl w s.at_ := rfl
theorem set_want {Z : Ad} {M0 M : MH} {p fl fc : Addr} {fb : List Addr} {s : RS} (t : TxAt Z M0 M p fl fc fb s) {r : DEnv} (w : Bool) {D : DEnds} (h : ∀ M', TextSt Z M0 M' p ⟨s.txt, s.at_, w, s.below, s.cur⟩ → D.nx (some (.r (.ref p)) :: r) M') :
    dSetF Z.c_Text "kept_wanted" (dVar 0) (dC (.d (.bool w))) D (some (.r (.ref p)) :: r) M := by
  refine dSetF_at (.d (.bool w)) (var0 (r := r)) t.obj (fun R P q => q) (by first | (simp; done) | (simp [putX]; done) | (simp only [putX]; (repeat' split) <;> (simp; done))) ?_
  exact h _ (t.cur s.at_ w).st
theorem aug_at {Z : Ad} {M0 M : MH} {p fl fc : Addr} {fb : List Addr} {s : RS} (t : TxAt Z M0 M p fl fc fb s) {r : DEnv} {D : DEnds} (h : ∀ M', TxAt Z M0 M' p fl fc fb ⟨s.txt, s.at_ + 1, s.want, s.below, s.cur⟩ → D.nx (some (.r (.ref p)) :: r) M') :
    dAugF Z.c_Text "kept_at" (dVar 0) (dC (.d (.int 1))) D (some (.r (.ref p)) :: r) M := by
  have e := t.start
  rw [e]
  refine at_aug ?_
  exact h _ (t.cur (s.at_ + 1) s.want)
theorem pure_Text_begin {Z : Ad} (xs : List Xv) (M : MH) (R : DR) (P : PX) (hl : xs.length = 1) (h : sp_Text_begin Z xs M R P) : t_Text_begin Z { nx := fun _ M' => R (.d .none) M', rt := R, ex := P } (startX N_Text_begin xs) M := by
  obtain ⟨p, s, M0, rfl, ⟨fl, fc, fb, t⟩, ok, h⟩ := h
  show dIfS _ _ _ _ [some (.r (.ref p))] M
  have T := t.tb ok.len
  have few := t.few ok
  unfold dIfS dB
  refine op_i ?_
  rw [t.start]
  refine sign_call T ?_
  rw [← t.start]
  simp only [dC, dEq_ss, sgn_eq lpar]
  unfold beginF at h
  by_cases q : at? s.txt s.at_ = some 40
  · rw [if_pos q] at h
    rw [decide_eq_true q]
    simp only [if_true]
    unfold dSeq
    refine aug_at t fun M1 t1 => ?_
    dsimp only
    unfold dDrop dBM
    rw [dFld_at (var0 (r := [])) t1.obj (f := "kept_frames") (y := .r (.ref fl)) rfl]
    refine ⟨by unfold recT; dsimp only; rw [t1.lst]; rfl, ?_⟩
    refine ⟨rfl, fun n hn => ⟨n, rfl, mset_same, rfl, ?_⟩⟩
    rw [mset_mset]
    simp only [dNil]
    have nfl : fl ≠ n := fun q => by rw [← q, t1.lst] at hn; cases hn
    unfold mApp
    dsimp only
    rw [mset_ne nfl, t1.lst]
    dsimp only
    refine ⟨by rw [List.length_map, List.length_append, List.length_reverse, sizeLine_eq]; show fb.length + 1 < 16777216; omega, ?_⟩
    have t2 := t1.push n hn Fr.new
    have e2 : ((fc :: fb).reverse ++ [n]).map (fun a => Xv.r (V.ref a)) = (fb.reverse ++ [fc]).map (fun a => Xv.r (V.ref a)) ++ [Xv.r (V.ref n)] := by simp
    rw [← e2]
    exact set_want t2 true fun M' st => h M' st
  · rw [if_neg q] at h
    rw [decide_eq_false q]
    simp only [Bool.false_eq_true, if_false]
    unfold dSeq dDrop
    refine meth_at (top_frame t) t.curf rfl ?_
    simp only [dCons, dNil]
    rw [t.start]
    refine low_call (ys := []) (F := atomF) T rfl (fun _ _ q => q) rfl _ (fun _ _ _ q => q) ?_
    cases ea : atomF s.txt s.at_ with
    | error e =>
      rw [ea] at h
      exact h
    | ok x =>
      obtain ⟨d, a⟩ := x
      rw [ea] at h
      dsimp only at h
      have t1 := t.cur a s.want
      have c1 := t1.curf
      refine ⟨rfl, fc, s.cur, d, rfl, c1, ?_⟩
      have t2 := t1.frame (s.cur.add d)
      exact set_want t2 false fun M' st => h M' st
theorem fig_val {c : Nat} (h : figC c = true) : PySem.intText? (one c) = some ((c : Int) - 48) := by
  have hd := (figC_iff c).mp h
  have e := PySem.intText_digits (x := one c) (fun d m => by
    obtain rfl : d = c := by simpa [one] using m
    exact hd) (by simp [one]) (by show 1 ≤ 4300; decide)
  rw [e]
  have : PySem.NumText.digitsVal (one c).cps.toList = c - 48 := by
    show (0 * 10 + (c - 48)) = c - 48
    omega
  rw [this]
  congr 1
  omega
theorem rbrace : ("}" : Str) = one 125 := by decide +kernel
theorem maxI (a : Int) : (if a > 1 then a else 1) = max 1 a := by
  by_cases h : a > 1
  · rw [if_pos h]
    omega
  · rw [if_neg h]
    omega
theorem cMax_i {a b : Int} {M : MH} {R : DR} {P : PX} : cMax [.d (.int a), .d (.int b)] M R P = R (.d (.int (if b > a then b else a))) M := rfl
theorem pure_Text_times {Z : Ad} (xs : List Xv) (M : MH) (R : DR) (P : PX) (hl : xs.length = 1) (h : sp_Text_times Z xs M R P) : t_Text_times Z { nx := fun _ M' => R (.d .none) M', rt := R, ex := P } (startX N_Text_times xs) M := by
  obtain ⟨p, s, M0, rfl, ⟨fl, fc, fb, t⟩, ok, h⟩ := h
  show dSeq _ _ _ [some (.r (.ref p)), none, none, none] M
  have T := t.tb ok.len
  unfold dSeq dDrop dSet
  rw [t.start]
  refine take_call T _ ?_
  unfold timesF at h
  dsimp only at h
  cases e1 : takeF (inS "{") s.txt s.at_ with
  | error e =>
    rw [e1] at h
    exact h
  | ok x =>
    obtain ⟨c1, j⟩ := x
    obtain ⟨rfl, _, _⟩ := takeF_ok e1
    rw [e1] at h
    dsimp only at h
    simp only [mapR, tkR, dApp, dCons, dNil]
    refine take_call T _ ?_
    have ef : inS "0123456789" = figC := rfl
    rw [ef]
    cases e2 : takeF figC s.txt (s.at_ + 1) with
    | error e =>
      rw [e2] at h
      exact h
    | ok x =>
      obtain ⟨l, j⟩ := x
      obtain ⟨rfl, _, hl⟩ := takeF_ok e2
      rw [e2] at h
      dsimp only at h
      simp only [mapR, tkR]
      rw [cInt_s (by show 1 ≤ 640; decide) (fig_val hl)]
      simp only [List.set_cons_zero, List.set_cons_succ]
      refine take_call T _ ?_
      cases e3 : takeF (inS ",") s.txt (s.at_ + 2) with
      | error e =>
        rw [e3] at h
        exact h
      | ok x =>
        obtain ⟨c3, j⟩ := x
        obtain ⟨rfl, _, _⟩ := takeF_ok e3
        rw [e3] at h
        dsimp only at h
        simp only [mapR, tkR]
        refine take_call T _ ?_
        rw [ef]
        have p3 : s.at_ + 2 + 1 = s.at_ + 3 := rfl
        cases e4 : takeF figC s.txt (s.at_ + 3) with
        | error e =>
          rw [e4] at h
          (try rw [p3]); (try rw [e4])
          exact h
        | ok x =>
          obtain ⟨m, j⟩ := x
          obtain ⟨rfl, _, hm⟩ := takeF_ok e4
          rw [e4] at h
          (try rw [p3]); (try rw [e4])
          dsimp only at h
          simp only [mapR, tkR]
          rw [cInt_s (by show 1 ≤ 640; decide) (fig_val hm)]
          unfold dIfS dAnd dB dOp
          refine sign_call T ?_
          simp only [dC, dEq_ss, sgn_eq rbrace]
          have p4 : s.at_ + 3 + 1 = s.at_ + 4 := rfl
          have last : (match (match (match takeF (inS "}") s.txt (s.at_ + 4) with
              | .error e => (.error e : RR (Int × Int))
              | .ok _ => .ok (((l : Int) - 48, (m : Int) - 48), s.at_ + 5)) with
            | .error e => (.error e : Except Nat RS)
            | .ok ((l, m), a) => .ok (s.last (.tuple [.str "times", .int l, .int m, s.cur.l]) a)) with
            | .ok s' => ∀ M', TextSt Z M0 M' p s' → R (.d .none) M'
            | .error e => failQ Z M0 e P) →
            dMeth Z.c_Text "take" 2 (sp_Text_take Z) (dVar 0) (dCons (dC (.d (.str "}"))) dNil) [some (.r (.ref p)), some (.d (.int ((l : Int) - 48))), some (.d (.int ((m : Int) - 48))), none] (curM Z M p s.txt fl s.want (s.at_ + 4)) (fun _ M1 => dOp dIx (dFld Z.c_Text "kept_frames" (dVar 0)) (dNeg (dC (.d (.int 1)))) [some (.r (.ref p)), some (.d (.int ((l : Int) - 48))), some (.d (.int ((m : Int) - 48))), none] M1 (fun x M2 => dSetF Z.c_Frame "kept_last" (dVar 3) (dTup (dCons (dC (.d (.str "times"))) (dCons (dVar 1) (dCons (dVar 2) (dCons (dFld Z.c_Frame "kept_last" (dVar 3)) dNil))))) { nx := fun _ M' => R (.d .none) M', rt := R, ex := P } [some (.r (.ref p)), some (.d (.int ((l : Int) - 48))), some (.d (.int ((m : Int) - 48))), some x] M2) P) P := by
            intro h
            refine take_call T _ ?_
            cases e5 : takeF (inS "}") s.txt (s.at_ + 4) with
            | error e =>
              rw [e5] at h
              exact h
            | ok x =>
              obtain ⟨c5, j⟩ := x
              obtain ⟨rfl, _, _⟩ := takeF_ok e5
              rw [e5] at h
              dsimp only at h
              simp only [mapR, tkR]
              have t1 := t.cur (s.at_ + 5) s.want
              have p5 : s.at_ + 4 + 1 = s.at_ + 5 := rfl
              (try rw [p5]); rw [top_frame t1]
              have c1 := t1.curf
              refine dSetF_at (.d (.tuple [.str "times", .int ((l : Int) - 48), .int ((m : Int) - 48), s.cur.l])) (var3 (r := [])) c1 (fun R P q => ?_) (by first | (simp; done) | (simp [putX]; done) | (simp only [putX]; (repeat' split) <;> (simp; done))) ?_
              · simp only [dTup, dCons, dNil, dC, var1, var2, dFld_at (var3 (r := [])) c1 (f := "kept_last") (y := .d s.cur.l) rfl]
                exact dTup_4 (P := P) q
              · exact h _ (t1.frame ⟨s.cur.o, s.cur.t, .tuple [.str "times", .int ((l : Int) - 48), .int ((m : Int) - 48), s.cur.l]⟩).st
          by_cases q : at? s.txt (s.at_ + 4) = some 125
          · (try rw [p4]); rw [decide_eq_true q]
            simp only [if_true, dNot, dB, dChain, dApp, dCons, dNil, dC, var1, var2, cMax_i, maxI, dLe, dI]
            simp only [q, true_and] at h
            refine ⟨trivial, ?_⟩
            by_cases q1 : max 1 ((l : Int) - 48) ≤ (m : Int) - 48
            · rw [decide_eq_true q1]
              simp only [if_true]
              refine ⟨trivial, ?_⟩
              by_cases q2 : (m : Int) - 48 ≤ 9
              · rw [decide_eq_true q2]
                simp only [Bool.not_true, Bool.false_eq_true, if_false]
                simp only [q1, q2, and_self, not_true, if_false] at h
                exact last h
              · rw [decide_eq_false q2]
                simp only [Bool.not_false, if_true]
                have q3 : ¬ (max 1 ((l : Int) - 48) ≤ (m : Int) - 48 ∧ (m : Int) - 48 ≤ 9) := fun z => q2 z.2
                rw [if_pos q3] at h
                exact fail_call T h
            · rw [decide_eq_false q1]
              simp only [Bool.false_eq_true, if_false, Bool.not_false, if_true]
              have q3 : ¬ (max 1 ((l : Int) - 48) ≤ (m : Int) - 48 ∧ (m : Int) - 48 ≤ 9) := fun z => q1 z.1
              rw [if_pos q3] at h
              exact fail_call T h
          · (try rw [p4]); rw [decide_eq_false q]
            simp only [Bool.false_eq_true, if_false]
            rw [if_neg (fun z => q z.1)] at h
            exact last h
end Y
set_option maxHeartbeats 4000000
namespace Y
open PySem PySem.Spec PyProof.Rows L2
theorem kind_look (c : Nat) : kv_KIND_OF.lookup (one c) = (kindC c).map .str := by
  have e1 : ("*" : Str) = one 42 := by decide +kernel
  have e2 : ("+" : Str) = one 43 := by decide +kernel
  have e3 : ("?" : Str) = one 63 := by decide +kernel
  unfold kv_KIND_OF
  rw [e1, e2, e3]
  simp only [List.lookup_cons, one_eq]
  by_cases q1 : c = 42
  · subst q1; rfl
  · by_cases q2 : c = 43
    · subst q2; rfl
    · by_cases q3 : c = 63
      · subst q3; rfl
      · rw [decide_eq_false q1, decide_eq_false q2, decide_eq_false q3]
        have : kindC c = none := by
          unfold kindC
          split <;> first | rfl | omega
        rw [this]
        rfl
theorem kind_look0 : List.lookup ("" : Str) kv_KIND_OF = none := by decide +kernel
theorem kind_sgn (z : Str) (i : Nat) : kv_KIND_OF.lookup (sgnS z i) = ((at? z i).bind kindC).map .str := by
  cases h : at? z i with
  | none => rw [sgn_none h, kind_look0]; rfl
  | some c => rw [sgn_some h, kind_look]; rfl
section
variable {Z : Ad} {M0 M : MH} {p fl fc : Addr} {fb : List Addr} {s : RS}
theorem hi_call {F : RS → Except Nat RS} {m : Str} {spx : SpX} {r : DEnv} {R : DR} {P : PX} (t : TxAt Z M0 M p fl fc fb s) (ok : OkS s) (hm : List.lookup m [(("kept_text" : Str), Xv.d (.str s.txt)), ("kept_at", .d (.int (s.at_ : Nat))), ("kept_frames", .r (.ref fl)), ("kept_wanted", .d (.bool s.want))] = none) (he : spx = hiSp Z F)
    (h : match F s with
    | .ok s' => ∀ M', TextSt Z M0 M' p s' → R (.d .none) M'
    | .error e => failQ Z M0 e P) : dMeth Z.c_Text m 1 spx (dVar 0) dNil (some (.r (.ref p)) :: r) M R P := by
  refine meth_at (var0 (r := r)) t.obj hm ⟨rfl, ?_⟩
  rw [he]
  exact ⟨p, s, M0, rfl, t.st, ok, h⟩
theorem TxAt.other (t : TxAt Z M0 M p fl fc fb s) {a : Addr} {o : MO} (h0 : M0 a = none) (hp : a ≠ p) (hl : a ≠ fl) (hf : a ∉ fc :: fb) : TxAt Z M0 (mset M a o) p fl fc fb s where
  ext := t.ext.mset h0
  np := t.np
  nl := t.nl
  nf := t.nf
  obj := (mset_ne (Ne.symm hp)).trans t.obj
  lst := (mset_ne (Ne.symm hl)).trans t.lst
  nd := t.nd
  frs := t.frs.congr fun b hb => mset_ne fun q => hf (q ▸ hb)
theorem frames_len (t : TxAt Z M0 M p fl fc fb s) {r : DEnv} (R : DR) (P : PX) : dApp cLen (dCons (dFld Z.c_Text "kept_frames" (dVar 0)) dNil) (some (.r (.ref p)) :: r) M R P = R (.d (.int ((s.below.length + 1 : Nat) : Int))) M := by
  unfold dApp dCons
  rw [dFld_at (var0 (r := r)) t.obj (f := "kept_frames") (y := .r (.ref fl)) rfl]
  show cLen [.r (.ref fl)] M R P = _
  unfold cLen lenX
  dsimp only
  rw [t.lst]
  dsimp only
  have h := t.frs.len
  simp only [List.length_cons] at h
  have e : ((fb.reverse ++ [fc]).map fun a => Xv.r (V.ref a)).length = s.below.length + 1 := by
    rw [List.length_map, List.length_append, List.length_reverse]
    simp only [List.length_cons, List.length_nil]
    omega
  rw [e]
end
theorem bar_ : ("|" : Str) = one 124 := by decide +kernel
theorem lcb : ("{" : Str) = one 123 := by decide +kernel
theorem rpar : (")" : Str) = one 41 := by decide +kernel
theorem pure_Text_go_on {Z : Ad} (xs : List Xv) (M : MH) (R : DR) (P : PX) (hl : xs.length = 1) (h : sp_Text_go_on Z xs M R P) : t_Text_go_on Z { nx := fun _ M' => R (.d .none) M', rt := R, ex := P } (startX N_Text_go_on xs) M := by
  obtain ⟨p, s, M0, rfl, ⟨fl, fc, fb, t⟩, ok, h⟩ := h
  show dSeq _ _ _ [some (.r (.ref p)), none, none] M
  have T := t.tb ok.len
  unfold dSeq dSet
  rw [top_frame t, t.start]
  refine sign_call T ?_
  rw [← t.start]
  simp only [List.set_cons_zero, List.set_cons_succ]
  unfold goF at h
  have toBegin : (match beginF s with
    | .ok s' => ∀ M', TextSt Z M0 M' p s' → R (.d .none) M'
    | .error e => failQ Z M0 e P) → dDrop (dMeth Z.c_Text "begin" 1 (sp_Text_begin Z) (dVar 0) dNil) { nx := fun _ M' => R (.d .none) M', rt := R, ex := P } [some (.r (.ref p)), some (.r (.ref fc)), some (.d (.str (sgnS s.txt s.at_)))] M := fun q => hi_call t ok rfl rfl q
  have inK : ∀ (R : DR) (P : PX), dOp (dInK Z.c_KIND_OF kv_KIND_OF) (dVar 2) (dC (.r (.ref Z.c_KIND_OF))) [some (.r (.ref p)), some (.r (.ref fc)), some (.d (.str (sgnS s.txt s.at_)))] M R P = R (.d (.bool ((at? s.txt s.at_).bind kindC).isSome)) M := fun R P => by
    show (Z.c_KIND_OF = Z.c_KIND_OF ∧ R (.d (.bool ((kv_KIND_OF.lookup (sgnS s.txt s.at_)).isSome))) M) = _
    rw [kind_sgn, Option.isSome_map]
    simp
  cases hk : (at? s.txt s.at_).bind kindC with
  | some k =>
    rw [hk] at h
    unfold dIfS dB
    rw [inK, hk]
    simp only [Option.isSome_some, if_true]
    refine aug_at t fun M1 t1 => ?_
    have c1 := t1.curf
    dsimp only
    refine dSetF_at (.d (.tuple [.str k, s.cur.l])) (var1 (r := [some (.d (.str (sgnS s.txt s.at_)))])) c1 (fun R P q => ?_) (by first | (simp; done) | (simp [putX]; done) | (simp only [putX]; (repeat' split) <;> (simp; done))) ?_
    · simp only [dTup, dCons, dNil, dC, dOp, var2]
      show Z.c_KIND_OF = Z.c_KIND_OF ∧ (match kv_KIND_OF.lookup (sgnS s.txt s.at_) with
        | some d => _
        | none => False)
      rw [kind_sgn, hk]
      simp only [Option.map_some]
      refine ⟨trivial, ?_⟩
      rw [dFld_at (var1 (r := [some (.d (.str (sgnS s.txt s.at_)))])) c1 (f := "kept_last") (y := .d s.cur.l) rfl]
      exact dTup_2 (P := P) q
    · exact h _ (t1.frame ⟨s.cur.o, s.cur.t, .tuple [.str k, s.cur.l]⟩).st
  | none =>
    rw [hk] at h
    dsimp only at h
    unfold dIfS dB
    rw [inK, hk]
    simp only [Option.isSome_none, Bool.false_eq_true, if_false]
    refine op_i ?_
    simp only [var2, dC, dEq_ss, sgn_eq lcb]
    by_cases q1 : at? s.txt s.at_ = some 123
    · rw [if_pos q1] at h
      rw [decide_eq_true q1]
      simp only [if_true]
      unfold dDrop
      exact hi_call t ok rfl rfl h
    · rw [if_neg q1] at h
      rw [decide_eq_false q1]
      simp only [Bool.false_eq_true, if_false]
      refine op_i ?_
      simp only [var2, dC, dEq_ss, sgn_eq bar_]
      by_cases q2 : at? s.txt s.at_ = some 124
      · rw [if_pos q2] at h
        rw [decide_eq_true q2]
        simp only [if_true]
        refine aug_at t fun M1 t1 => ?_
        unfold dDrop
        refine meth_at (var1 (r := [some (.d (.str (sgnS s.txt s.at_)))])) t1.curf rfl ⟨rfl, fc, s.cur, rfl, t1.curf, ?_⟩
        exact set_want (t1.frame s.cur.part) true fun M' st => h M' st
      · rw [if_neg q2] at h
        rw [decide_eq_false q2]
        simp only [Bool.false_eq_true, if_false]
        unfold dAnd
        refine op_i ?_
        simp only [var2, dC, dEq_ss, sgn_eq rpar]
        by_cases q3 : at? s.txt s.at_ = some 41
        · rw [if_pos q3] at h
          rw [decide_eq_true q3]
          simp only [if_true]
          refine op_i ?_
          rw [frames_len t]
          simp only [dC, dGt, dI]
          refine ⟨trivial, ?_⟩
          obtain ⟨z, i, w, below, cur⟩ := s
          cases below with
          | nil =>
            dsimp only at h
            have : decide ((1 : Int) < ((([] : List Fr).length + 1 : Nat) : Int)) = false := by decide
            rw [this]
            simp only [Bool.false_eq_true, if_false]
            exact toBegin h
          | cons f b =>
            dsimp only at h
            have : decide ((1 : Int) < (((f :: b).length + 1 : Nat) : Int)) = true := decide_eq_true (by simp only [List.length_cons]; omega)
            rw [this]
            simp only [if_true]
            refine aug_at t fun M1 t1 => ?_
            obtain ⟨fc', fb', rfl⟩ : ∃ fc' fb', fb = fc' :: fb' := by
              have hh := t.frs.len
              cases fb with
              | nil => simp at hh
              | cons a l => exact ⟨a, l, rfl⟩
            unfold dDrop dBM
            dsimp only
            rw [dFld_at (var0 (r := _)) t1.obj (f := "kept_frames") (y := .r (.ref fl)) rfl]
            refine ⟨by unfold recT; dsimp only; rw [t1.lst]; rfl, ?_⟩
            simp only [dNil]
            unfold mPop
            dsimp only
            rw [t1.lst]
            dsimp only
            have el : ((fc' :: fb').reverse ++ [fc]).map (fun a => Xv.r (V.ref a)) = (fb'.reverse ++ [fc']).map (fun a => Xv.r (V.ref a)) ++ [Xv.r (V.ref fc)] := by simp
            rw [el]
            have eg : ((fb'.reverse ++ [fc']).map (fun a => Xv.r (V.ref a)) ++ [Xv.r (V.ref fc)])[((fb'.reverse ++ [fc']).map (fun a => Xv.r (V.ref a)) ++ [Xv.r (V.ref fc)]).length - 1]? = some (Xv.r (V.ref fc)) := by
              rw [List.length_append]
              simp only [List.length_cons, List.length_nil]
              rw [show ((fb'.reverse ++ [fc']).map (fun a => Xv.r (V.ref a))).length + (0 + 1) - 1 = ((fb'.reverse ++ [fc']).map (fun a => Xv.r (V.ref a))).length by omega]
              simp
            rw [eg]
            dsimp only
            rw [List.dropLast_concat]
            have t2 := t1.pop
            have nfp : fc ≠ p := t1.pf fc List.mem_cons_self
            have nfl : fc ≠ fl := t1.lf fc List.mem_cons_self
            have nff : fc ∉ fc' :: fb' := (List.nodup_cons.mp t1.nd).1
            have c2 : mset M1 fl (.lst ((fb'.reverse ++ [fc']).map fun a => .r (.ref a))) fc = some (frO Z cur) := (mset_ne nfl).trans t1.curf
            refine meth_at (top_frame t2) t2.curf rfl ?_
            simp only [dCons, dNil]
            refine meth_at (var1 (r := _)) c2 rfl ⟨rfl, fc, cur, rfl, c2, ?_⟩
            have t3 := t2.other (o := frO Z cur.part) (t1.nf fc List.mem_cons_self) nfp nfl nff
            refine ⟨rfl, fc', f, cur.part.o, rfl, t3.curf, ?_⟩
            exact h _ (t3.frame (f.add cur.part.o)).st
        · rw [if_neg q3] at h
          rw [decide_eq_false q3]
          simp only [Bool.false_eq_true, if_false]
          exact toBegin h
end Y
set_option maxHeartbeats 4000000
namespace Y
open PySem PySem.Spec PyProof.Rows L2
/-! ### each step goes on -/
theorem takeF_lt {p : Nat → Bool} {z : Str} {i c j : Nat} (h : takeF p z i = .ok (c, j)) : j = i + 1 ∧ j ≤ z.length := by
  obtain ⟨rfl, e, _⟩ := takeF_ok h
  exact ⟨rfl, at_lt e⟩
theorem wordF_lt {z : Str} {i a : Nat} {u : Str} (h : wordF z i = .ok (u, a)) : i < a ∧ a ≤ z.length := by
  unfold wordF at h
  cases e1 : takeF letterC z i with
  | error x => rw [e1] at h; cases h
  | ok q =>
    rw [e1] at h
    dsimp only at h
    cases e2 : takeF letterC z (i + 1) with
    | error x => rw [e2] at h; cases h
    | ok q2 =>
      obtain ⟨d, j⟩ := q2
      have l2 := takeF_lt e2
      rw [e2] at h
      dsimp only at h
      split at h
      · split at h
        · cases h
        · cases h
          omega
      · cases h
        omega
theorem figs_len (z : Str) (i : Nat) (h : i ≤ z.length) : i + (figs z i).length ≤ z.length := by
  have h1 : (figs z i).length ≤ (z.cps.toList.drop i).length := (List.takeWhile_sublist _).length_le
  rw [List.length_drop] at h1
  have h2 : z.cps.toList.length = z.length := rfl
  omega
theorem finF_lt (z : Str) (f : List Nat) (i : Nat) (h : i ≤ z.length) : i ≤ (finF z f i).2 ∧ (finF z f i).2 ≤ z.length := by
  unfold finF
  split
  · exact ⟨Nat.le_refl _, h⟩
  · exact ⟨Nat.le_add_right _ _, figs_len z i h⟩
theorem worthF_lt {z : Str} {i a : Nat} {n : Int} (h : worthF z i = .ok (n, a)) : i < a ∧ a ≤ z.length := by
  unfold worthF at h
  dsimp only at h
  split at h
  · cases h
  · rename_i c j e
    have l := takeF_lt e
    split at h
    · rename_i m em
      cases h
      have q := finF_lt z (if decide (at? z i = some 45) = true then [45, c] else [c]) j l.2
      have : i < j := by
        rw [l.1]
        split <;> omega
      omega
    · cases h
theorem nodeF_lt {z : Str} {i a : Nat} {d : PyData} (h : nodeF z i = .ok (d, a)) : i < a ∧ a ≤ z.length := by
  unfold nodeF at h
  split at h
  · cases h
  · rename_i t j e1
    split at h
    · cases h
    · rename_i n b e2
      have l2 := worthF_lt e2
      split at h
      · cases h
      · rename_i t2 j2 e3
        have l3 := takeF_lt e3
        cases h
        omega
theorem atomF_lt {z : Str} {i a : Nat} {d : PyData} (h : atomF z i = .ok (d, a)) : i < a ∧ a ≤ z.length := by
  unfold atomF at h
  cases hc : at? z i with
  | none => rw [hc] at h; cases h
  | some c =>
    have l := at_lt hc
    rw [hc] at h
    dsimp only at h
    split at h
    · split at h
      · cases h
      · rename_i w b e
        have := wordF_lt e
        cases h
        omega
    · split at h
      · split at h
        · cases h
        · rename_i w b e
          have := wordF_lt e
          cases h
          omega
      · split at h
        · cases h; omega
        · split at h
          · cases h; omega
          · split at h
            · have := nodeF_lt h
              omega
            · cases h
theorem timesF_lt {z : Str} {i a : Nat} {q : Int × Int} (h : timesF z i = .ok (q, a)) : i < a ∧ a ≤ z.length := by
  unfold timesF at h
  split at h
  · cases h
  · split at h
    · cases h
    · split at h
      · cases h
      · split at h
        · cases h
        · split at h
          · cases h
          · split at h
            · cases h
            · rename_i x e
              obtain ⟨c, j⟩ := x
              have := takeF_lt e
              cases h
              omega
structure Goes (s s' : RS) : Prop where
  txt : s'.txt = s.txt
  more : s.at_ < s'.at_
  ok : OkS s'
theorem beginF_goes {s s' : RS} (ok : OkS s) (h : beginF s = .ok s') : Goes s s' := by
  unfold beginF at h
  split at h
  · rename_i q
    have l := at_lt q
    cases h
    exact ⟨rfl, Nat.lt_succ_self _, ⟨ok.len, l, by have := ok.few; simp only [List.length_cons]; omega⟩⟩
  · split at h
    · cases h
    · rename_i d a e
      have l := atomF_lt e
      cases h
      exact ⟨rfl, l.1, ⟨ok.len, l.2, by have := ok.few; simp only; omega⟩⟩
theorem goF_goes {s s' : RS} (ok : OkS s) (h : goF s = .ok s') : Goes s s' := by
  unfold goF at h
  split at h
  · rename_i k hk
    obtain ⟨c, hc, _⟩ := Option.bind_eq_some_iff.mp hk
    have l := at_lt hc
    cases h
    exact ⟨rfl, Nat.lt_succ_self _, ⟨ok.len, l, by have := ok.few; show s.below.length ≤ s.at_ + 1; omega⟩⟩
  · split at h
    · split at h
      · cases h
      · rename_i e
        have l := timesF_lt e
        cases h
        exact ⟨rfl, l.1, ⟨ok.len, l.2, Nat.le_trans ok.few (Nat.le_of_lt l.1)⟩⟩
    · split at h
      · rename_i q
        have l := at_lt q
        cases h
        exact ⟨rfl, Nat.lt_succ_self _, ⟨ok.len, l, by have := ok.few; simp only; omega⟩⟩
      · split at h
        · rename_i q
          have l := at_lt q
          split at h
          · exact beginF_goes ok h
          · rename_i f b e
            cases h
            have := ok.few
            rw [e] at this
            simp only [List.length_cons] at this
            exact ⟨rfl, Nat.lt_succ_self _, ⟨ok.len, l, by simp only; omega⟩⟩
        · exact beginF_goes ok h
theorem stepF_goes {s s' : RS} (ok : OkS s) (h : stepF s = .ok s') : Goes s s' := by
  unfold stepF at h
  split at h
  · rename_i q
    have l := at_lt q
    cases h
    exact ⟨rfl, Nat.lt_succ_self _, ⟨ok.len, l, by have := ok.few; simp only; omega⟩⟩
  · split at h
    · exact beginF_goes ok h
    · exact goF_goes ok h
theorem blank_ : (" " : Str) = one 32 := by decide +kernel
def atM (M : MH) (p : Addr) : Nat := match M p with
  | some (.ins _ fs) => (match List.lookup ("kept_at" : Str) fs with
    | some (Xv.d (PyData.int a)) => a.toNat
    | _ => 0)
  | _ => 0
theorem atM_of {Z : Ad} {M0 M : MH} {p : Addr} {s : RS} (t : TextSt Z M0 M p s) : atM M p = s.at_ := by
  obtain ⟨fl, fc, fb, t⟩ := t
  unfold atM
  rw [t.obj]
  rfl
theorem text_len {Z : Ad} {M0 M : MH} {p fl fc : Addr} {fb : List Addr} {s : RS} (t : TxAt Z M0 M p fl fc fb s) (hz : s.txt.length ≤ 100000) {r : DEnv} (R : DR) (P : PX) : dApp cLen (dCons (dFld Z.c_Text "kept_text" (dVar 0)) dNil) (some (.r (.ref p)) :: r) M R P = R (.d (.int (s.txt.length : Nat))) M := by
  unfold dApp dCons
  rw [dFld_at (var0 (r := r)) t.obj (f := "kept_text") (y := .d (.str s.txt)) rfl]
  simp only [dNil]
  rw [cLen_s (line_ok hz)]
theorem loopF_end {n : Nat} {s : RS} (h : ¬ s.at_ < s.txt.length) : loopF n s = .ok s := by
  cases n with
  | zero => rfl
  | succ n =>
    unfold loopF
    rw [if_neg h]
theorem pure_Text_read {Z : Ad} (xs : List Xv) (M : MH) (R : DR) (P : PX) (hl : xs.length = 1) (h : sp_Text_read Z xs M R P) : t_Text_read Z { nx := fun _ M' => R (.d .none) M', rt := R, ex := P } (startX N_Text_read xs) M := by
  obtain ⟨p, z, M0, rfl, st, hz, h⟩ := h
  show dSeq _ _ _ [some (.r (.ref p))] M
  unfold dSeq
  unfold readF at h
  refine ⟨fun r M1 => r = [some (.r (.ref p))] ∧ ∃ s n, TextSt Z M0 M1 p s ∧ OkS s ∧ s.txt = z ∧ z.length ≤ s.at_ + n ∧ loopF n s = loopF z.length (RS.new z), fun _ M1 => z.length - atM M1 p,
    ⟨rfl, RS.new z, z.length, st, ⟨hz, Nat.zero_le _, Nat.zero_le _⟩, rfl, by show z.length ≤ 0 + z.length; omega, rfl⟩, ?_⟩
  rintro r M1 ⟨rfl, s, n, ts, ok, hs, hn, hlo⟩
  obtain ⟨fl, fc, fb, t⟩ := ts
  have T := t.tb ok.len
  unfold dB
  refine op_i ?_
  rw [dFld_at (var0 (r := [])) t.obj (f := "kept_at") (y := .d (.int s.at_)) rfl]
  rw [text_len t ok.len]
  refine ⟨trivial, ?_⟩
  dsimp only
  by_cases q : s.at_ < s.txt.length
  · have q' : (s.at_ : Int) < (s.txt.length : Int) := by omega
    rw [decide_eq_true q']
    simp only [if_true]
    -- one step
    have one_step : ∀ s', stepF s = .ok s' → ∀ M', TextSt Z M0 M' p s' → (∃ s n, TextSt Z M0 M' p s ∧ OkS s ∧ s.txt = z ∧ z.length ≤ s.at_ + n ∧ loopF n s = loopF z.length (RS.new z)) ∧ z.length - atM M' p < z.length - atM M1 p := by
      intro s' es M' ts'
      have go := stepF_goes ok es
      have hm := go.more
      obtain ⟨m, rfl⟩ : ∃ m, n = m + 1 := by
        cases n with
        | zero => rw [hs] at q; omega
        | succ m => exact ⟨m, rfl⟩
      refine ⟨⟨s', m, ts', go.ok, go.txt.trans hs, by omega, ?_⟩, ?_⟩
      · rw [← hlo]
        conv => rhs; unfold loopF
        rw [if_pos q, es]
      · rw [atM_of ts', atM_of t.st]
        rw [hs] at q
        omega
    have one_fail : ∀ e, stepF s = .error e → failQ Z M0 e P := by
      intro e es
      obtain ⟨m, rfl⟩ : ∃ m, n = m + 1 := by
        cases n with
        | zero => rw [hs] at q; omega
        | succ m => exact ⟨m, rfl⟩
      have : loopF z.length (RS.new z) = .error e := by
        rw [← hlo]
        unfold loopF
        rw [if_pos q, es]
      rw [this] at h
      exact h
    unfold stepF at one_step one_fail
    unfold dIfS
    refine op_i ?_
    rw [t.start]
    refine sign_call T ?_
    rw [← t.start]
    simp only [dC, dEq_ss, sgn_eq blank_]
    by_cases q1 : at? s.txt s.at_ = some 32
    · rw [decide_eq_true q1]
      simp only [if_true]
      rw [if_pos q1] at one_step
      refine aug_at t fun M' t' => ?_
      exact ⟨⟨rfl, (one_step _ rfl M' t'.st).1⟩, (one_step _ rfl M' t'.st).2⟩
    · rw [decide_eq_false q1]
      simp only [Bool.false_eq_true, if_false]
      rw [if_neg q1] at one_step one_fail
      rw [dFld_at (var0 (r := [])) t.obj (f := "kept_wanted") (y := .d (.bool s.want)) rfl]
      dsimp only
      by_cases q2 : s.want = true
      · rw [if_pos q2] at one_step one_fail ⊢
        unfold dDrop
        refine hi_call t ok rfl rfl ?_
        cases e : beginF s with
        | error x => exact one_fail x e
        | ok s' => exact fun M' ts' => ⟨⟨rfl, (one_step s' e M' ts').1⟩, (one_step s' e M' ts').2⟩
      · rw [if_neg q2] at one_step one_fail ⊢
        unfold dDrop
        refine hi_call t ok rfl rfl ?_
        cases e : goF s with
        | error x => exact one_fail x e
        | ok s' => exact fun M' ts' => ⟨⟨rfl, (one_step s' e M' ts').1⟩, (one_step s' e M' ts').2⟩
  · have q' : ¬ (s.at_ : Int) < (s.txt.length : Int) := by omega
    rw [decide_eq_false q']
    simp only [Bool.false_eq_true, if_false]
    rw [← hlo, loopF_end q] at h
    dsimp only at h
    unfold endF at h
    unfold dIfS dOr
    dsimp only
    rw [dFld_at (var0 (r := [])) t.obj (f := "kept_wanted") (y := .d (.bool s.want)) rfl]
    dsimp only
    have fail : failQ Z M0 s.at_ P → ∀ (R2 : DR), dMeth Z.c_Text "fail" 1 (sp_Text_fail Z) (dVar 0) dNil [some (.r (.ref p))] M1 R2 P := fun hf R2 => by
      rw [t.start]
      exact fail_call T hf
    by_cases q2 : s.want = true
    · rw [if_pos q2]
      rw [if_pos (Or.inl q2)] at h
      exact fail h _
    · rw [if_neg q2]
      refine op_i ?_
      rw [frames_len t]
      simp only [dC, dGt, dI]
      refine ⟨trivial, ?_⟩
      cases hb : s.below with
      | cons f b =>
        have : decide ((1 : Int) < (((f :: b).length + 1 : Nat) : Int)) = true := decide_eq_true (by simp only [List.length_cons]; omega)
        rw [this]
        simp only [if_true]
        rw [if_pos (Or.inr (by rw [hb]; simp))] at h
        exact fail h _
      | nil =>
        have : decide ((1 : Int) < ((([] : List Fr).length + 1 : Nat) : Int)) = false := by decide
        rw [this]
        simp only [Bool.false_eq_true, if_false]
        rw [if_neg (by rw [hb]; simp [q2])] at h
        dsimp only at h
        unfold dNext
        dsimp only
        unfold dRet
        have hfb : fb = [] := by
          have hh := t.frs.len
          rw [hb] at hh
          simp only [List.length_cons, List.length_nil] at hh
          exact List.length_eq_zero_iff.mp (by omega)
        have fr0 : ∀ (R : DR) (P : PX), dOp dIx (dFld Z.c_Text "kept_frames" (dVar 0)) (dC (.d (.int 0))) [some (.r (.ref p))] M1 R P = R (.r (.ref fc)) M1 := fun R P => by
          unfold dOp
          rw [dFld_at (var0 (r := [])) t.obj (f := "kept_frames") (y := .r (.ref fl)) rfl]
          show dIx (.r (.ref fl)) (.d (.int 0)) M1 R P = _
          unfold dIx
          dsimp only
          rw [t.lst, hfb]
          rfl
        refine meth_at fr0 t.curf rfl ⟨rfl, fc, s.cur, rfl, t.curf, ?_⟩
        exact h _ (t.frame s.cur.part).ext
theorem setF_i {C : Addr} {f : Str} {dobj dv : DX} {D : DEnds} {r : DEnv} {M : MH} (h : dv r M (fun y M1 => dobj r M1 (fun x M2 => match x with
  | .r (.ref p) => (match M2 p with
    | some (.ins C' fs) => C' = C ∧ fs.length < 1000 ∧ D.nx r (mset M2 p (.ins C (putX f y fs)))
    | _ => False)
  | _ => False) D.ex) D.ex) : dSetF C f dobj dv D r M := h
theorem pure_Text_init {Z : Ad} (xs : List Xv) (M : MH) (R : DR) (P : PX) (hl : xs.length = 2) (h : sp_Text_init Z xs M R P) : t_Text_init Z { nx := fun _ M' => R (.d .none) M', rt := R, ex := P } (startX N_Text_init xs) M := by
  obtain ⟨p, z, M0, rfl, e, ext, np, h⟩ := h
  show dSeq _ _ _ [some (.r (.ref p)), some (.d (.str z))] M
  have v0 := fun (M : MH) => var0 (x := .r (.ref p)) (r := [some (.d (.str z))]) (M := M)
  unfold dSeq
  refine dSetF_at (.d (.str z)) (v0 _) e (fun R P q => q) (by first | (simp; done) | (simp [putX]; done) | (simp only [putX]; (repeat' split) <;> (simp; done))) ?_
  dsimp only
  refine dSetF_at (.d (.int 0)) (v0 _) mset_same (fun R P q => q) (by first | (simp; done) | (simp [putX]; done) | (simp only [putX]; (repeat' split) <;> (simp; done))) ?_
  dsimp only
  rw [mset_mset]
  have f1 : putX "kept_at" (.d (.int 0)) (putX "kept_text" (.d (.str z)) []) = [(("kept_text" : Str), Xv.d (.str z)), ("kept_at", .d (.int 0))] := rfl
  rw [f1]
  refine setF_i ?_
  refine ⟨rfl, fun n hn => ?_⟩
  have npn : p ≠ n := fun q => by rw [← q, mset_same] at hn; cases hn
  have hn0 : M n = none := by rw [mset_ne (Ne.symm npn)] at hn; exact hn
  refine ⟨n, rfl, mset_same, rfl, ?_⟩
  simp only [dNil]
  refine ⟨by rw [sizeLine_eq]; simp, fun m hm => ?_⟩
  rw [mset_mset] at hm ⊢
  have pm : p ≠ m := fun q => by rw [← q, mset_ne npn, mset_same] at hm; cases hm
  have nm : n ≠ m := fun q => by rw [← q, mset_same] at hm; cases hm
  have hm0 : M m = none := by
    rw [mset_ne (Ne.symm nm), mset_ne (Ne.symm pm)] at hm
    exact hm
  rw [v0]
  dsimp only
  rw [mset_ne pm, mset_ne npn, mset_same]
  refine ⟨rfl, by simp, ?_⟩
  refine dSetF_at (.d (.bool true)) (v0 _) mset_same (fun R P q => q) (by first | (simp; done) | (simp [putX]; done) | (simp only [putX]; (repeat' split) <;> (simp; done))) ?_
  dsimp only
  rw [mset_mset]
  refine h _ ⟨m, n, [], ?_⟩
  have n0 := ext.none hn0
  have m0 := ext.none hm0
  refine ⟨(((ext.mset np).mset n0).mset m0).mset np, np, m0, fun a ha => ?_, mset_same, ?_, by simp, .cons ?_ .nil⟩
  · obtain rfl : a = n := by simpa using ha
    exact n0
  · rw [mset_ne (Ne.symm pm), mset_same]
    rfl
  · rw [mset_ne (Ne.symm npn), mset_ne nm, mset_same]
    rfl
theorem judge_call {Z : Ad} {r : DEnv} {x : Option Xv} {d : PyData} {M : MH} {R : DR} {P : PX} (hs : strsOk d = true) (h : R (.d (.bool (judged d))) M) : dCall 1 (sp_is_expression Z) (dCons (dVar 1) dNil) (x :: some (.d d) :: r) M R P := ⟨rfl, _, d, rfl, Or.inl rfl, hs, h⟩
theorem pure_read_expression {Z : Ad} (xs : List Xv) (M : MH) (R : DR) (P : PX) (hl : xs.length = 1) (h : sp_read_expression Z xs M R P) : t_read_expression Z { nx := fun _ M' => R (.d .none) M', rt := R, ex := P } (startX N_read_expression xs) M := by
  obtain ⟨x, rfl, h⟩ := h
  show dSeq _ _ _ [some x, none] M
  unfold dSeq
  have bad : (∀ M' d, Ext M M' → M d = none → M' d = some (.exd [("at", .d (.int (-1)))]) → P (.ref Z.c_BadSigns) (some d) M') → ∀ (D : DEnds), D.ex = P → dRaise (mkC1 Z.c_BadSigns "at" (dCons (dNeg (dC (.d (.int 1)))) dNil)) D [some x, none] M := fun q D hD d hd => by
    rw [hD]
    exact q _ d (Ext.refl.mset hd) hd mset_same
  have kd : ∀ d : PyData, x = .d d → dIfS (dNot (dB (dApp cIsi (dCons (dVar 0) (dCons (dC (.r (.ty "str"))) dNil))))) = dIfS (dNot (dB (dApp cIsi (dCons (dVar 0) (dCons (dC (.r (.ty "str"))) dNil))))) := fun _ _ => rfl
  cases x with
  | clo _ _ _ _ _ => exact h.elim
  | r v =>
    cases v with
    | ref n =>
      obtain ⟨hd, h⟩ := h
      unfold dIfS dNot dB
      simp only [dRet, dSet, dSeq, dIfS, dNext, dDrop, dVar, dC, dOp, dB, dAnd, dOr, dNot, dAndV, dOrV, dNotV, dIf, dNil, dCons, dCall, dApp, dChain, dSub, dLt, dLe, dGt, dGe, dI, List.getElem?_cons_zero, List.getElem?_cons_succ, List.set_cons_zero, List.set_cons_succ, cIsi]
      rw [hd]
      dsimp only
      have : kitB "dict" "str" = some false := by kernel_rfl
      rw [this]
      dsimp only
      simp only [Bool.not_false, if_true]
      exact bad h _ rfl
    | _ => exact h.elim
  | d d =>
    unfold dIfS dNot dB
    simp only [dApp, dCons, dNil, dVar, dC, List.getElem?_cons_zero, cIsi_d (kb_str d)]
    cases d with
    | str z =>
      simp only [Bool.not_true, Bool.false_eq_true, if_false]
      unfold dNext
      dsimp only
      obtain ⟨hz1, h⟩ := h
      refine op_i ?_
      simp only [dApp, dCons, dNil, dVar, dC, List.getElem?_cons_zero]
      rw [cLen_s (by rw [sizeLine_eq]; omega)]
      simp only [dGt, dI]
      refine ⟨trivial, ?_⟩
      by_cases q : z.length > 100000
      · rw [if_pos q] at h
        have q' : (100000 : Int) < (z.length : Int) := by omega
        rw [decide_eq_true q']
        simp only [if_true]
        exact h
      · rw [if_neg q] at h
        have q' : ¬ (100000 : Int) < (z.length : Int) := by omega
        rw [decide_eq_false q']
        simp only [Bool.false_eq_true, if_false]
        unfold dSet dMeth
        refine ⟨rfl, fun p hp => ?_⟩
        have ext : Ext M (mset M p (.ins Z.c_Text [])) := Ext.refl.mset hp
        refine ⟨p, z, M, rfl, mset_same, ext, hp, fun M1 ts => ⟨rfl, ?_⟩⟩
        dsimp only
        have ts0 := ts
        obtain ⟨fl, fc, fb, t⟩ := ts
        rw [t.obj]
        refine ⟨rfl, rfl, rfl, p, z, M, rfl, ts0, by omega, ?_⟩
        cases hr : readF z with
        | error e =>
          rw [hr] at h
          exact h
        | ok d =>
          rw [hr] at h
          obtain ⟨hs, h⟩ := h
          intro M2 ext2
          refine judge_call (r := []) hs ?_
          by_cases qj : judged d = true
          · rw [if_pos qj] at h
            rw [qj]
            simp only [Bool.not_true, Bool.false_eq_true, if_false]
            exact h M2 ext2
          · rw [if_neg qj] at h
            have qj' : judged d = false := by simpa using qj
            rw [qj']
            simp only [Bool.not_false, if_true]
            exact h M2 ext2
    | none => exact bad h _ rfl
    | bool b => exact bad h _ rfl
    | int i => exact bad h _ rfl
    | list ds => exact bad h _ rfl
    | tuple ds => exact bad h _ rfl
    | dict kvs => exact h.elim
/-! ### the promises -/
section
variable {P : Program} {w : World} {K : PySem.W.Frag} {mg : Str → Option Value} {base : Heap} {Z : Ad}
theorem sc_BadSigns_init : FnScope ["self", "at"] ["self", "at"] (defScope s_BadSigns_init) := ⟨rfl, rfl, rfl, by decide +kernel, rfl, by decide +kernel, by decide +kernel⟩
theorem g_BadSigns_init (z : Fx K mg Z w) : FnOk P w K mg base (L2.CX P w) 1 Z.f_BadSigns_init Z.e_BadSigns_init ["self", "at"] (spInit Z.c_BadSigns "at") := by
  refine z.F_BadSigns_init.ok sc_BadSigns_init (fun vs H Q E q => ?_) fun cdv A outer s H vs Q E hr q => ⟨_, pss_one (ps_ost (pv 0) (pv 1)), ?_⟩
  · obtain ⟨a, y, rfl, _⟩ := q
    rfl
  · obtain ⟨a, y, rfl, e, q⟩ := q
    refine ⟨y, rfl, .ref a, rfl, a, Z.c_BadSigns, rfl, z.oe_BadSigns, z.xn_BadSigns, Or.inl ⟨e, fun dx h1 h2 => q dx h1 h2⟩⟩
theorem g_Frame_init (z : Fx K mg Z w) : FnOk P w K mg base (L2.CX P w) 2 Z.f_Frame_init Z.e_Frame_init ["self"] (toSp K 1 (sp_Frame_init Z)) := ok_Frame_init z pure_Frame_init
theorem g_Frame_join (z : Fx K mg Z w) : FnOk P w K mg base (L2.CX P w) 2 Z.f_Frame_join Z.e_Frame_join ["self"] (toSp K 1 (sp_Frame_join Z)) := ok_Frame_join z pure_Frame_join
theorem g_Frame_add (z : Fx K mg Z w) : FnOk P w K mg base (L2.CX P w) 3 Z.f_Frame_add Z.e_Frame_add ["self", "thing"] (toSp K 2 (sp_Frame_add Z)) := ok_Frame_add z (g_Frame_join z) pure_Frame_add
theorem g_Frame_part (z : Fx K mg Z w) : FnOk P w K mg base (L2.CX P w) 3 Z.f_Frame_part Z.e_Frame_part ["self"] (toSp K 1 (sp_Frame_part Z)) := ok_Frame_part z (g_Frame_join z) pure_Frame_part
theorem g_Frame_whole (z : Fx K mg Z w) : FnOk P w K mg base (L2.CX P w) 4 Z.f_Frame_whole Z.e_Frame_whole ["self"] (toSp K 1 (sp_Frame_whole Z)) := ok_Frame_whole z (g_Frame_part z) pure_Frame_whole
theorem g_Text_init (z : Fx K mg Z w) : FnOk P w K mg base (L2.CX P w) 5 Z.f_Text_init Z.e_Text_init ["self", "text"] (toSp K 2 (sp_Text_init Z)) := ok_Text_init z (g_Frame_init z) pure_Text_init
theorem g_Text_sign (z : Fx K mg Z w) : FnOk P w K mg base (L2.CX P w) 2 Z.f_Text_sign Z.e_Text_sign ["self"] (toSp K 1 (sp_Text_sign Z)) := ok_Text_sign z pure_Text_sign
theorem g_Text_fail (z : Fx K mg Z w) : FnOk P w K mg base (L2.CX P w) 3 Z.f_Text_fail Z.e_Text_fail ["self"] (toSp K 1 (sp_Text_fail Z)) := ok_Text_fail z (g_BadSigns_init z) pure_Text_fail
theorem g_Text_take (z : Fx K mg Z w) : FnOk P w K mg base (L2.CX P w) 5 Z.f_Text_take Z.e_Text_take ["self", "signs"] (toSp K 2 (sp_Text_take Z)) := ok_Text_take z (g_Text_sign z) (g_Text_fail z) pure_Text_take
theorem g_Text_word (z : Fx K mg Z w) : FnOk P w K mg base (L2.CX P w) 6 Z.f_Text_word Z.e_Text_word ["self"] (toSp K 1 (sp_Text_word Z)) := ok_Text_word z (g_Text_take z) (g_Text_sign z) (g_Text_fail z) pure_Text_word
theorem g_Text_worth (z : Fx K mg Z w) : FnOk P w K mg base (L2.CX P w) 7 Z.f_Text_worth Z.e_Text_worth ["self"] (toSp K 1 (sp_Text_worth Z)) := ok_Text_worth z (g_Text_sign z) (g_Text_take z) (g_is_worth z) (g_BadSigns_init z) pure_Text_worth
theorem g_Text_atom (z : Fx K mg Z w) : FnOk P w K mg base (L2.CX P w) 8 Z.f_Text_atom Z.e_Text_atom ["self"] (toSp K 1 (sp_Text_atom Z)) := ok_Text_atom z (g_Text_sign z) (g_Text_word z) (g_Text_take z) (g_Text_worth z) pure_Text_atom
theorem g_Text_begin (z : Fx K mg Z w) : FnOk P w K mg base (L2.CX P w) 9 Z.f_Text_begin Z.e_Text_begin ["self"] (toSp K 1 (sp_Text_begin Z)) := ok_Text_begin z (g_Text_sign z) (g_Frame_init z) (g_Frame_add z) (g_Text_atom z) pure_Text_begin
theorem g_Text_times (z : Fx K mg Z w) : FnOk P w K mg base (L2.CX P w) 9 Z.f_Text_times Z.e_Text_times ["self"] (toSp K 1 (sp_Text_times Z)) := ok_Text_times z (g_Text_take z) (g_Text_sign z) (g_Text_fail z) pure_Text_times
theorem g_Text_go_on (z : Fx K mg Z w) : FnOk P w K mg base (L2.CX P w) 11 Z.f_Text_go_on Z.e_Text_go_on ["self"] (toSp K 1 (sp_Text_go_on Z)) := ok_Text_go_on z (g_Text_sign z) (g_Text_times z) (g_Frame_part z) (g_Frame_add z) (g_Frame_whole z) (g_Text_begin z) pure_Text_go_on
theorem g_Text_read (z : Fx K mg Z w) : FnOk P w K mg base (L2.CX P w) 13 Z.f_Text_read Z.e_Text_read ["self"] (toSp K 1 (sp_Text_read Z)) := ok_Text_read z (g_Text_sign z) (g_Text_begin z) (g_Text_go_on z) (g_Text_fail z) (g_Frame_whole z) pure_Text_read
theorem g_read_expression (z : Fx K mg Z w) : FnOk P w K mg base (L2.CX P w) 63 Z.f_read_expression Z.e_read_expression ["text"] (toSp K 1 (sp_read_expression Z)) := ok_read_expression z (g_Text_read z) (g_Text_init z) (g_is_expression z) (g_BadSigns_init z) pure_read_expression
end
end Y
set_option maxHeartbeats 4000000
/-! what the law draws -/
namespace Y
open PySem PySem.Spec PyProof.Rows L2
def handO (cells : List Int) (a d c : Nat) : MO := .lst [.d (.list (cells.map .int)), .d (.int (a : Nat)), .d (.int (d : Nat)), .d (.int (c : Nat))]
def isHand (o : MO) : Prop := ∃ cells a d c, o = handO cells a d c
/-- a def that draws from the hand: what it asks of its other arguments, what it tells of its result -/
def handSp (pre : List Xv → Prop) (res : List Xv → PyData → Prop) : SpX := fun xs M R P => ∃ p o ys, xs = .r (.ref p) :: ys ∧ M p = some o ∧ isHand o ∧ pre ys ∧ ∀ o' d, isHand o' → res ys d → R (.d d) (mset M p o')
def sp_L_mixed (Z : Ad) : SpX := fun xs M R P => ∃ c t : Int, xs = [.d (.int c), .d (.int t)] ∧ ∀ i : Int, R (.d (.int i)) M
def sp_L_hand (Z : Ad) : SpX := fun xs M R P => ∃ ns : List Int, xs = [.d (.list (ns.map .int))] ∧ ∀ p o, M p = none → isHand o → R (.r (.ref p)) (mset M p o)
def sp_L_draw (Z : Ad) : SpX := handSp (fun ys => ∃ n : Int, ys = [.d (.int n)] ∧ 1 ≤ n ∧ n < 1073741824) (fun ys d => ∃ n r : Int, ys = [.d (.int n)] ∧ d = .int r ∧ 0 ≤ r ∧ r < n)
def allLet (s : Str) : Bool := s.cps.toList.all letterC
def sp_L_letters (Z : Ad) : SpX := handSp (fun ys => ∃ n : Nat, ys = [.d (.int n)] ∧ n ≤ 100) (fun ys d => ∃ (n : Nat) (s : Str), ys = [.d (.int n)] ∧ d = .str s ∧ s.length = n ∧ allLet s = true)
def goodWord (s : Str) : Prop := s.length = 2 ∧ allLet s = true
def goodWords (d : PyData) : Prop := ∃ ws : List Str, d = .list (ws.map .str) ∧ ws ≠ [] ∧ ws.length ≤ 100 ∧ ∀ s ∈ ws, goodWord s
def goodWorth (n : Int) : Prop := -1000000000000000000 ≤ n ∧ n ≤ 1000000000000000000
def goodWorths (d : PyData) : Prop := ∃ ns : List Int, d = .list (ns.map .int) ∧ ns ≠ [] ∧ ns.length ≤ 100 ∧ ∀ n ∈ ns, goodWorth n
def sp_L_words (Z : Ad) : SpX := handSp (fun ys => ys = []) (fun _ d => goodWords d)
def sp_L_worths (Z : Ad) : SpX := handSp (fun ys => ys = []) (fun _ d => goodWorths d)
/-- expressions, as the law draws them -/
inductive Ex where
  | word (s : Str) | back (s : Str) | any | here | node (t : Nat) (v : Int)
  | two (isOr : Bool) (a b : Ex)
  | lone (k : Nat) (a : Ex)
  | times (l m : Nat) (a : Ex)
def loneW : Nat → Str
  | 0 => "star"
  | 1 => "plus"
  | _ => "maybe"
def Ex.d : Ex → PyData
  | .word s => .tuple [.str "word", .str s]
  | .back s => .tuple [.str "back", .str s]
  | .any => .tuple [.str "any"]
  | .here => .tuple [.str "here"]
  | .node t v => .tuple [.str "node", .str (one t), .int v]
  | .two o a b => .tuple [.str (if o then "or" else "then"), a.d, b.d]
  | .lone k a => .tuple [.str (loneW k), a.d]
  | .times l m a => .tuple [.str "times", .int (l : Nat), .int (m : Nat), a.d]
def Ex.ok : Ex → Prop
  | .word s => goodWord s
  | .back s => goodWord s
  | .any => True
  | .here => True
  | .node t v => (t = 60 ∨ t = 61 ∨ t = 62) ∧ goodWorth v
  | .two _ a b => a.ok ∧ b.ok
  | .lone k a => k ≤ 2 ∧ a.ok
  | .times l m a => l ≤ m ∧ 1 ≤ m ∧ m ≤ 9 ∧ a.ok
def Ex.deep : Ex → Nat
  | .two _ a b => max a.deep b.deep + 1
  | .lone _ a => a.deep + 1
  | .times _ _ a => a.deep + 1
  | _ => 1
def Ex.size : Ex → Nat
  | .two _ a b => a.size + b.size
  | .lone _ a => a.size
  | .times _ m a => a.size * m
  | _ => 1
def Ex.atom : Ex → Prop
  | .two _ _ _ | .lone _ _ | .times _ _ _ => False
  | _ => True
def sp_L_atom (Z : Ad) : SpX := handSp (fun ys => ∃ a b, ys = [.d a, .d b] ∧ goodWords a ∧ goodWorths b) (fun _ d => ∃ e : Ex, d = e.d ∧ e.ok ∧ e.atom)
def sp_L_expression (Z : Ad) (k : Nat) : SpX := handSp (fun ys => ∃ a b, ∃ n m : Nat, ys = [.d a, .d b, .d (.int n), .d (.int m)] ∧ goodWords a ∧ goodWorths b ∧ 1 ≤ n ∧ n ≤ 1000 ∧ 1 ≤ m ∧ m ≤ k)
  (fun ys d => ∃ (e : Ex) (a b : PyData) (n m : Nat), ys = [.d a, .d b, .d (.int n), .d (.int m)] ∧ d = e.d ∧ e.ok ∧ e.deep ≤ m ∧ e.size ≤ n)
def sp_L_is_letter (Z : Ad) : SpX := fun xs M R P => ∃ s : Str, xs = [.d (.str s)] ∧ s.length ≤ 1 ∧ R (.d (.bool (match s.cps.toList with
  | [c] => letterC c
  | _ => false))) M
/-- the text of an atom -/
def numT (v : Int) : List Nat := (toString v : Str).cps.toList
def Ex.atomT : Ex → List Nat
  | .word s => s.cps.toList
  | .back s => 126 :: s.cps.toList
  | .any => [46]
  | .here => [95]
  | .node t v => 91 :: t :: (numT v ++ [93])
  | _ => []
def sp_L_lone_text (Z : Ad) : SpX := fun xs M R P => ∃ e : Ex, xs = [.d e.d] ∧ e.ok ∧ e.atom ∧ R (.d (.str (strL e.atomT))) M
/-- the sign behind a part -/
def Ex.signT : Ex → List Nat
  | .lone k _ => [if k = 0 then 42 else if k = 1 then 43 else 63]
  | .times l m _ => [123, 48 + l, 44, 48 + m, 125]
  | _ => []
def Ex.unary : Ex → Prop
  | .lone _ _ | .times _ _ _ => True
  | _ => False
def sp_L_sign_text (Z : Ad) : SpX := fun xs M R P => ∃ e : Ex, xs = [.d e.d] ∧ e.ok ∧ e.unary ∧ R (.d (.str (strL e.signT))) M
def bl (n : Nat) : List Nat := List.replicate n 32
def sp_L_blanks (Z : Ad) : SpX := handSp (fun ys => ys = []) (fun _ d => ∃ n : Nat, n ≤ 5 ∧ d = .str (strL (bl n)))
def lastLet (l : List Nat) : Bool := match l.getLast? with
  | some c => letterC c
  | none => false
def firstLet (l : List Nat) : Bool := match l.head? with
  | some c => letterC c
  | none => false
def Ex.bareOk : Ex → Nat → Prop
  | .two true _ _, t => t = 0
  | .two false _ _, t => t ≤ 1
  | _, _ => True
mutual
/-- s is a loose text of e that may stand where the signs are so tight -/
inductive Loo : Ex → Nat → List Nat → Prop
  | bare {e : Ex} {t : Nat} {s : List Nat} : e.bareOk t → Core e s → Loo e t s
  | wrap {e : Ex} {t i j : Nat} {s : List Nat} : Core e s → Loo e t (40 :: (bl i ++ s ++ bl j ++ [41]))
inductive Core : Ex → List Nat → Prop
  | atom {e : Ex} : e.atom → Core e e.atomT
  | thn {a b : Ex} {s u : List Nat} {i : Nat} : Loo a 1 s → Loo b 2 u → (lastLet s = true → firstLet u = true → 1 ≤ i) → Core (.two false a b) (s ++ bl i ++ u)
  | or {a b : Ex} {s u : List Nat} {i j : Nat} : Loo a 0 s → Loo b 1 u → Core (.two true a b) (s ++ bl i ++ 124 :: (bl j ++ u))
  | lone {k i : Nat} {a : Ex} {s : List Nat} : Loo a 2 s → Core (.lone k a) (s ++ bl i ++ (Ex.lone k a).signT)
  | times {l m i : Nat} {a : Ex} {s : List Nat} : Loo a 2 s → Core (.times l m a) (s ++ bl i ++ (Ex.times l m a).signT)
end
/-- how many parts -/
def Ex.nodes : Ex → Nat
  | .two _ a b => a.nodes + b.nodes + 1
  | .lone _ a => a.nodes + 1
  | .times _ _ a => a.nodes + 1
  | _ => 1
def sp_L_loose (Z : Ad) (k : Nat) : SpX := fun xs M R P => ∃ (p : Addr) (o : MO) (e : Ex) (t : Nat), xs = [.r (.ref p), .d e.d, .d (.int (t : Nat))] ∧ M p = some o ∧ isHand o ∧ e.ok ∧ e.deep ≤ k ∧ e.nodes ≤ 2000 ∧
  ∀ (o' : MO) (s : List Nat), isHand o' → Loo e t s → s.length ≤ 40 * e.nodes → R (.d (.str (strL s))) (mset M p o')
def sp_L_sign (Z : Ad) : SpX := handSp (fun ys => ys = []) (fun _ d => ∃ c : Nat, d = .str (one c))
def sp_L_bent (Z : Ad) : SpX := handSp (fun ys => ∃ s : Str, ys = [.d (.str s)] ∧ s.length ≤ 50000) (fun ys d => ∃ s u : Str, ys = [.d (.str s)] ∧ d = .str u ∧ u.length ≤ 2 * s.length + 1)
def sp_L_number_text (Z : Ad) : SpX := handSp (fun ys => ys = []) (fun _ d => ∃ s : Str, d = .str s ∧ s.length ≤ 10000)
def sp_L_long_text (Z : Ad) : SpX := handSp (fun ys => ys = []) (fun _ d => ∃ s : Str, d = .str s ∧ s.length ≤ 200000)
end Y
set_option maxHeartbeats 4000000
namespace Y
open PySem PySem.Spec PyProof.Rows L2
abbrev N_L_mixed : List Str := ["_law_cell", "_law_turn", "_law_number"]
theorem sc_L_mixed : FnScope N_L_mixed ["_law_cell", "_law_turn"] (defScope s_L_mixed) := ⟨rfl, rfl, rfl, by decide +kernel, rfl, by decide +kernel, by decide +kernel⟩
def t_L_mixed (Z : Ad) : DS :=
  (dSeq (dSet 2 (dOp dMod (dApp cInt (dCons (dOp dMul (dOp dAdd (dOp dAdd (dOp dMod (dApp cInt (dCons (dVar 0) dNil)) (dC (.d (.int 2147483647)))) (dOp dMul (dC (.d (.int 7919))) (dVar 1))) (dC (.d (.int 1)))) (dC (.d (.int 48271)))) dNil)) (dC (.d (.int 2147483647)))))
    (dSeq (dSet 2 (dOp dMod (dApp cInt (dCons (dOp dMul (dVar 2) (dOp dAdd (dOp dDiv (dVar 2) (dC (.d (.int 1009)))) (dC (.d (.int 69621))))) dNil)) (dC (.d (.int 2147483647)))))
    (dRet (dOp dDiv (dOp dMod (dApp cInt (dCons (dOp dMul (dVar 2) (dOp dAdd (dOp dDiv (dVar 2) (dC (.d (.int 2003)))) (dC (.d (.int 40692))))) dNil)) (dC (.d (.int 2147483399)))) (dC (.d (.int 16)))))))
section
variable {P : Program} {w : World} {K : PySem.W.Frag} {mg : Str → Option Value} {base : Heap} {Z : Ad}
theorem b_L_mixed (z : Fx K mg Z w)  {cdv : Value} {A : Around} {outer : List Env} {s : Shared} {H : Hp} {E : XK} (hr : Room 1 (A.deeper (envOfC "_law_mixed" (defScope s_L_mixed) s.heap.objs.size Z.f_L_mixed cdv))) :
    QSs (cxOf (L2.CX P w) P w K mg base N_L_mixed "_law_mixed" (defScope s_L_mixed) Z.f_L_mixed cdv A outer s H E) E (defBody s_L_mixed) (t_L_mixed Z) :=
  (qss_cons (set1 2 sc_L_mixed.nd (q_op o_mod (blty b_int z.n_int bt_int (qa_cons (q_op o_mul (q_op o_add (q_op o_add (q_op o_mod (blty b_int z.n_int bt_int (qa_cons (v 0) qa_nil)) q_int) (q_op o_mul q_int (v 1))) q_int) q_int) qa_nil)) q_int))
    (qss_cons (set1 2 sc_L_mixed.nd (q_op o_mod (blty b_int z.n_int bt_int (qa_cons (q_op o_mul (v 2) (q_op o_add (q_op o_div (v 2) q_int) q_int)) qa_nil)) q_int))
    (qss_one (retn (q_op o_div (q_op o_mod (blty b_int z.n_int bt_int (qa_cons (q_op o_mul (v 2) (q_op o_add (q_op o_div (v 2) q_int) q_int)) qa_nil)) q_int) q_int)))))
theorem ok_L_mixed (z : Fx K mg Z w)  (pure : ∀ xs M R Px, xs.length = 2 → sp_L_mixed Z xs M R Px → t_L_mixed Z { nx := fun _ M' => R (.d .none) M', rt := R, ex := Px } (startX N_L_mixed xs) M) :
    FnOk P w K mg base (L2.CX P w) 2 Z.f_L_mixed Z.e_L_mixed ["_law_cell", "_law_turn"] (toSp K 2 (sp_L_mixed Z)) := fn_x z.F_L_mixed sc_L_mixed rfl (t_L_mixed Z) (fun cdv A outer s H E hr => b_L_mixed z  hr) pure
end
abbrev N_L_hand : List Str := ["_law_script", "_law_cell"]
theorem sc_L_hand : FnScope N_L_hand ["_law_script"] (defScope s_L_hand) := ⟨rfl, rfl, rfl, by decide +kernel, rfl, by decide +kernel, by decide +kernel⟩
def t_L_hand (Z : Ad) : DS :=
  (dRet (dLstM (dCons (dLcD (dSl (dVar 0) dNoP (dP (dC (.d (.int 63))))) 1 [1] (dApp cInt (dCons (dVar 1) dNil))) (dCons (dC (.d (.int 0))) (dCons (dC (.d (.int 0))) (dCons (dC (.d (.int 0))) dNil))))))
section
variable {P : Program} {w : World} {K : PySem.W.Frag} {mg : Str → Option Value} {base : Heap} {Z : Ad}
theorem b_L_hand (z : Fx K mg Z w)  {cdv : Value} {A : Around} {outer : List Env} {s : Shared} {H : Hp} {E : XK} (hr : Room 1 (A.deeper (envOfC "_law_hand" (defScope s_L_hand) s.heap.objs.size Z.f_L_hand cdv))) :
    QSs (cxOf (L2.CX P w) P w K mg base N_L_hand "_law_hand" (defScope s_L_hand) Z.f_L_hand cdv A outer s H E) E (defBody s_L_hand) (t_L_hand Z) :=
  (qss_one (retn (q_lstM (qa_cons (lcD 1 [("_law_cell", 1)] sc_L_hand.nd rfl (slc (v 0) qp_no (qp_some q_int)) (blkOk_by (by kernel_rfl)) (fun _ _ _ _ _ => (blty b_int z.n_int bt_int (qa_cons (v 1) qa_nil)))) (qa_cons q_int (qa_cons q_int (qa_cons q_int qa_nil)))))))
theorem ok_L_hand (z : Fx K mg Z w)  (pure : ∀ xs M R Px, xs.length = 1 → sp_L_hand Z xs M R Px → t_L_hand Z { nx := fun _ M' => R (.d .none) M', rt := R, ex := Px } (startX N_L_hand xs) M) :
    FnOk P w K mg base (L2.CX P w) 2 Z.f_L_hand Z.e_L_hand ["_law_script"] (toSp K 1 (sp_L_hand Z)) := fn_x z.F_L_hand sc_L_hand rfl (t_L_hand Z) (fun cdv A outer s H E hr => b_L_hand z  hr) pure
end
abbrev N_L_draw : List Str := ["_law_hand_here", "_law_many", "_law_found", "_law_cells", "_law_at", "_law_cell"]
theorem sc_L_draw : FnScope N_L_draw ["_law_hand_here", "_law_many"] (defScope s_L_draw) := ⟨rfl, rfl, rfl, by decide +kernel, rfl, by decide +kernel, by decide +kernel⟩
def t_L_draw (Z : Ad) : DS :=
  (dSeq (dPut (dOp dAdd (dOp dIx (dVar 0) (dC (.d (.int 3)))) (dC (.d (.int 1)))) (dVar 0) (dC (.d (.int 3))))
    (dSeq (dIfS (dB (dOp dGt (dOp dIx (dVar 0) (dC (.d (.int 2)))) (dC (.d (.int 0))))) (dSeq (dSet 2 (dOp dMod (dApp cInt (dCons (dOp dIx (dVar 0) (dC (.d (.int 2)))) dNil)) (dVar 1)))
    (dSeq (dPut (dOp dDiv (dOp dIx (dVar 0) (dC (.d (.int 2)))) (dVar 1)) (dVar 0) (dC (.d (.int 2))))
    (dRet (dVar 2))))
    dNext)
    (dSeq (dPar 3 4 (dCons (dOp dIx (dVar 0) (dC (.d (.int 0)))) (dCons (dOp dIx (dVar 0) (dC (.d (.int 1)))) dNil)))
    (dSeq (dPut (dOp dAdd (dVar 4) (dC (.d (.int 1)))) (dVar 0) (dC (.d (.int 1))))
    (dSeq (dIfS (dB (dOp dEq (dApp cLen (dCons (dVar 3) dNil)) (dC (.d (.int 0))))) (dRet (dOp dMod (dApp cInt (dCons (dCall 2 (sp_L_mixed Z) (dCons (dC (.d (.int 0))) (dCons (dOp dIx (dVar 0) (dC (.d (.int 3)))) dNil))) dNil)) (dVar 1)))
    dNext)
    (dSeq (dSet 5 (dOp dIx (dVar 3) (dOp dMod (dApp cInt (dCons (dVar 4) dNil)) (dApp cLen (dCons (dVar 3) dNil)))))
    (dSeq (dIfS (dAnd (dB (dOp dLt (dVar 4) (dApp cLen (dCons (dVar 3) dNil)))) (dB (dOp dGe (dApp cAbs (dCons (dVar 5) dNil)) (dOp dPow (dC (.d (.int 10))) (dC (.d (.int 18))))))) (dSeq (dPut (dOp dDiv (dApp cAbs (dCons (dVar 5) dNil)) (dVar 1)) (dVar 0) (dC (.d (.int 2))))
    (dRet (dOp dMod (dApp cInt (dCons (dApp cAbs (dCons (dVar 5) dNil)) dNil)) (dVar 1))))
    dNext)
    (dRet (dOp dMod (dApp cInt (dCons (dCall 2 (sp_L_mixed Z) (dCons (dVar 5) (dCons (dOp dIx (dVar 0) (dC (.d (.int 3)))) dNil))) dNil)) (dVar 1))))))))))
section
variable {P : Program} {w : World} {K : PySem.W.Frag} {mg : Str → Option Value} {base : Heap} {Z : Ad}
theorem b_L_draw (z : Fx K mg Z w) (F_L_mixed : FnOk P w K mg base (L2.CX P w) 2 Z.f_L_mixed Z.e_L_mixed ["_law_cell", "_law_turn"] (toSp K 2 (sp_L_mixed Z))) {cdv : Value} {A : Around} {outer : List Env} {s : Shared} {H : Hp} {E : XK} (hr : Room 2 (A.deeper (envOfC "_law_draw" (defScope s_L_draw) s.heap.objs.size Z.f_L_draw cdv))) :
    QSs (cxOf (L2.CX P w) P w K mg base N_L_draw "_law_draw" (defScope s_L_draw) Z.f_L_draw cdv A outer s H E) E (defBody s_L_draw) (t_L_draw Z) :=
  (qss_cons (put (q_op o_add (ix i_seq (v 0) q_int) q_int) (v 0) q_int fun _ _ _ h1 h2 h3 => ps_asg h1 (pg_sub h2 h3 set_list))
    (qss_cons (qs_if (tcmp o_gt (ix i_seq (v 0) q_int) q_int) (qss_cons (set1 2 sc_L_draw.nd (q_op o_mod (blty b_int z.n_int bt_int (qa_cons (ix i_seq (v 0) q_int) qa_nil)) (v 1)))
    (qss_cons (put (q_op o_div (ix i_seq (v 0) q_int) (v 1)) (v 0) q_int fun _ _ _ h1 h2 h3 => ps_asg h1 (pg_sub h2 h3 set_list))
    (qss_one (retn (v 2)))))
    qss_nil)
    (qss_cons (par2 3 4 sc_L_draw.nd rfl (qa_cons (ix i_seq (v 0) q_int) (qa_cons (ix i_seq (v 0) q_int) qa_nil)))
    (qss_cons (put (q_op o_add (v 4) q_int) (v 0) q_int fun _ _ _ h1 h2 h3 => ps_asg h1 (pg_sub h2 h3 set_list))
    (qss_cons (qs_if (tcmp (o_eq hr.units) (blt b_len z.n_len bt_len (qa_cons (v 3) qa_nil)) q_int) (qss_one (retn (q_op o_mod (blty b_int z.n_int bt_int (qa_cons (call F_L_mixed (by first | decide | omega) hr pass_x z.g_L_mixed z.k_L_mixed (bd_L_mixed z) (qa_cons q_int (qa_cons (ix i_seq (v 0) q_int) qa_nil))) qa_nil)) (v 1))))
    qss_nil)
    (qss_cons (set1 5 sc_L_draw.nd (ix i_seq (v 3) (q_op o_mod (blty b_int z.n_int bt_int (qa_cons (v 4) qa_nil)) (blt b_len z.n_len bt_len (qa_cons (v 3) qa_nil)))))
    (qss_cons (qs_if (QW.qt (qw_and (tcmp o_lt (v 4) (blt b_len z.n_len bt_len (qa_cons (v 3) qa_nil))) (qw_and1 (tcmp o_ge (blt b_abs z.n_abs bt_abs (qa_cons (v 5) qa_nil)) (q_op o_pow q_int q_int))))) (qss_cons (put (q_op o_div (blt b_abs z.n_abs bt_abs (qa_cons (v 5) qa_nil)) (v 1)) (v 0) q_int fun _ _ _ h1 h2 h3 => ps_asg h1 (pg_sub h2 h3 set_list))
    (qss_one (retn (q_op o_mod (blty b_int z.n_int bt_int (qa_cons (blt b_abs z.n_abs bt_abs (qa_cons (v 5) qa_nil)) qa_nil)) (v 1)))))
    qss_nil)
    (qss_one (retn (q_op o_mod (blty b_int z.n_int bt_int (qa_cons (call F_L_mixed (by first | decide | omega) hr pass_x z.g_L_mixed z.k_L_mixed (bd_L_mixed z) (qa_cons (v 5) (qa_cons (ix i_seq (v 0) q_int) qa_nil))) qa_nil)) (v 1)))))))))))
theorem ok_L_draw (z : Fx K mg Z w) (F_L_mixed : FnOk P w K mg base (L2.CX P w) 2 Z.f_L_mixed Z.e_L_mixed ["_law_cell", "_law_turn"] (toSp K 2 (sp_L_mixed Z))) (pure : ∀ xs M R Px, xs.length = 2 → sp_L_draw Z xs M R Px → t_L_draw Z { nx := fun _ M' => R (.d .none) M', rt := R, ex := Px } (startX N_L_draw xs) M) :
    FnOk P w K mg base (L2.CX P w) 3 Z.f_L_draw Z.e_L_draw ["_law_hand_here", "_law_many"] (toSp K 2 (sp_L_draw Z)) := fn_x z.F_L_draw sc_L_draw rfl (t_L_draw Z) (fun cdv A outer s H E hr => b_L_draw z F_L_mixed hr) pure
end
abbrev N_L_letters : List Str := ["_law_hand_here", "_law_many", "_law_letters_here", "_law_found", "_law_k"]
theorem sc_L_letters : FnScope N_L_letters ["_law_hand_here", "_law_many"] (defScope s_L_letters) := ⟨rfl, rfl, rfl, by decide +kernel, rfl, by decide +kernel, by decide +kernel⟩
def t_L_letters (Z : Ad) : DS :=
  (dSeq (dSet 2 (dC (.d (.str "abcdefghijklmnopqrstuvwxyz"))))
    (dSeq (dSet 3 (dC (.d (.str ""))))
    (dSeq (dForR1 (dVar 1) 4
    (dSet 3 (dOp dAdd (dVar 3) (dOp dIx (dVar 2) (dCall 2 (sp_L_draw Z) (dCons (dVar 0) (dCons (dC (.d (.int 26))) dNil)))))))
    (dRet (dVar 3)))))
section
variable {P : Program} {w : World} {K : PySem.W.Frag} {mg : Str → Option Value} {base : Heap} {Z : Ad}
theorem b_L_letters (z : Fx K mg Z w) (F_L_draw : FnOk P w K mg base (L2.CX P w) 3 Z.f_L_draw Z.e_L_draw ["_law_hand_here", "_law_many"] (toSp K 2 (sp_L_draw Z))) {cdv : Value} {A : Around} {outer : List Env} {s : Shared} {H : Hp} {E : XK} (hr : Room 3 (A.deeper (envOfC "_law_letters" (defScope s_L_letters) s.heap.objs.size Z.f_L_letters cdv))) :
    QSs (cxOf (L2.CX P w) P w K mg base N_L_letters "_law_letters" (defScope s_L_letters) Z.f_L_letters cdv A outer s H E) E (defBody s_L_letters) (t_L_letters Z) :=
  (qss_cons (set1 2 sc_L_letters.nd q_str)
    (qss_cons (set1 3 sc_L_letters.nd q_str)
    (qss_cons (forR1 4 sc_L_letters.nd rfl (passes_of rfl) z.n_range (v 1)
    (qss_one (set1 3 sc_L_letters.nd (q_op o_add (v 3) (ix i_seq (v 2) (call F_L_draw (by first | decide | omega) hr pass_x z.g_L_draw z.k_L_draw (bd_L_draw z) (qa_cons (v 0) (qa_cons q_int qa_nil))))))))
    (qss_one (retn (v 3))))))
theorem ok_L_letters (z : Fx K mg Z w) (F_L_draw : FnOk P w K mg base (L2.CX P w) 3 Z.f_L_draw Z.e_L_draw ["_law_hand_here", "_law_many"] (toSp K 2 (sp_L_draw Z))) (pure : ∀ xs M R Px, xs.length = 2 → sp_L_letters Z xs M R Px → t_L_letters Z { nx := fun _ M' => R (.d .none) M', rt := R, ex := Px } (startX N_L_letters xs) M) :
    FnOk P w K mg base (L2.CX P w) 4 Z.f_L_letters Z.e_L_letters ["_law_hand_here", "_law_many"] (toSp K 2 (sp_L_letters Z)) := fn_x z.F_L_letters sc_L_letters rfl (t_L_letters Z) (fun cdv A outer s H E hr => b_L_letters z F_L_draw hr) pure
end
abbrev N_L_words : List Str := ["_law_hand_here", "_law_found", "_law_k", "_law_word"]
theorem sc_L_words : FnScope N_L_words ["_law_hand_here"] (defScope s_L_words) := ⟨rfl, rfl, rfl, by decide +kernel, rfl, by decide +kernel, by decide +kernel⟩
def t_L_words (Z : Ad) : DS :=
  (dSeq (dSet 1 (dLstM (dCons (dCall 2 (sp_L_letters Z) (dCons (dVar 0) (dCons (dC (.d (.int 2))) dNil))) dNil)))
    (dSeq (dForR1 (dOp dAdd (dC (.d (.int 1))) (dCall 2 (sp_L_draw Z) (dCons (dVar 0) (dCons (dC (.d (.int 2))) dNil)))) 2
    (dSeq (dSet 3 (dCall 2 (sp_L_letters Z) (dCons (dVar 0) (dCons (dC (.d (.int 2))) dNil))))
    (dSeq (dIfS (dB (dOp dEq (dCall 2 (sp_L_draw Z) (dCons (dVar 0) (dCons (dC (.d (.int 2))) dNil))) (dC (.d (.int 0))))) (dSet 3 (dOp dAdd (dSl (dOp dIx (dVar 1) (dC (.d (.int 0)))) dNoP (dP (dC (.d (.int 1))))) (dSl (dVar 3) (dP (dC (.d (.int 1)))) dNoP)))
    dNext)
    (dIfS (dB (dOp (dInS true) (dVar 3) (dVar 1))) (dDrop (dBM "list" mApp (dVar 1) (dCons (dVar 3) dNil)))
    dNext))))
    (dRet (dGho (dVar 1)))))
section
variable {P : Program} {w : World} {K : PySem.W.Frag} {mg : Str → Option Value} {base : Heap} {Z : Ad}
theorem b_L_words (z : Fx K mg Z w) (F_L_letters : FnOk P w K mg base (L2.CX P w) 4 Z.f_L_letters Z.e_L_letters ["_law_hand_here", "_law_many"] (toSp K 2 (sp_L_letters Z))) (F_L_draw : FnOk P w K mg base (L2.CX P w) 3 Z.f_L_draw Z.e_L_draw ["_law_hand_here", "_law_many"] (toSp K 2 (sp_L_draw Z))) {cdv : Value} {A : Around} {outer : List Env} {s : Shared} {H : Hp} {E : XK} (hr : Room 4 (A.deeper (envOfC "_law_words" (defScope s_L_words) s.heap.objs.size Z.f_L_words cdv))) :
    QSs (cxOf (L2.CX P w) P w K mg base N_L_words "_law_words" (defScope s_L_words) Z.f_L_words cdv A outer s H E) E (defBody s_L_words) (t_L_words Z) :=
  (qss_cons (set1 1 sc_L_words.nd (q_lstM (qa_cons (call F_L_letters (by first | decide | omega) hr pass_x z.g_L_letters z.k_L_letters (bd_L_letters z) (qa_cons (v 0) (qa_cons q_int qa_nil))) qa_nil)))
    (qss_cons (forR1 2 sc_L_words.nd rfl (passes_of rfl) z.n_range (q_op o_add q_int (call F_L_draw (by first | decide | omega) hr pass_x z.g_L_draw z.k_L_draw (bd_L_draw z) (qa_cons (v 0) (qa_cons q_int qa_nil))))
    (qss_cons (set1 3 sc_L_words.nd (call F_L_letters (by first | decide | omega) hr pass_x z.g_L_letters z.k_L_letters (bd_L_letters z) (qa_cons (v 0) (qa_cons q_int qa_nil))))
    (qss_cons (qs_if (tcmp (o_eq hr.units) (call F_L_draw (by first | decide | omega) hr pass_x z.g_L_draw z.k_L_draw (bd_L_draw z) (qa_cons (v 0) (qa_cons q_int qa_nil))) q_int) (qss_one (set1 3 sc_L_words.nd (q_op o_add (slc (ix i_seq (v 1) q_int) qp_no (qp_some q_int)) (slc (v 3) (qp_some q_int) qp_no))))
    qss_nil)
    (qss_one (qs_if (tcmp o_notIn (v 3) (v 1)) (qss_one (exps (q_bm m_append (v 1) (qa_cons (v 3) qa_nil) fun _ _ _ h1 h2 h3 => pe_bm PySem.F.plainAttrs_list PySem.F.slot_list_append PySem.F.type_list_append h1 h2 h3)))
    qss_nil)))))
    (qss_one (retn (q_gho (v 1))))))
theorem ok_L_words (z : Fx K mg Z w) (F_L_letters : FnOk P w K mg base (L2.CX P w) 4 Z.f_L_letters Z.e_L_letters ["_law_hand_here", "_law_many"] (toSp K 2 (sp_L_letters Z))) (F_L_draw : FnOk P w K mg base (L2.CX P w) 3 Z.f_L_draw Z.e_L_draw ["_law_hand_here", "_law_many"] (toSp K 2 (sp_L_draw Z))) (pure : ∀ xs M R Px, xs.length = 1 → sp_L_words Z xs M R Px → t_L_words Z { nx := fun _ M' => R (.d .none) M', rt := R, ex := Px } (startX N_L_words xs) M) :
    FnOk P w K mg base (L2.CX P w) 5 Z.f_L_words Z.e_L_words ["_law_hand_here"] (toSp K 1 (sp_L_words Z)) := fn_x z.F_L_words sc_L_words rfl (t_L_words Z) (fun cdv A outer s H E hr => b_L_words z F_L_letters F_L_draw hr) pure
end
abbrev N_L_worths : List Str := ["_law_hand_here", "_law_some", "_law_base", "_law_found", "_law_k", "_law_worth"]
theorem sc_L_worths : FnScope N_L_worths ["_law_hand_here"] (defScope s_L_worths) := ⟨rfl, rfl, rfl, by decide +kernel, rfl, by decide +kernel, by decide +kernel⟩
def t_L_worths (Z : Ad) : DS :=
  (dSeq (dSet 1 (dLst (dCons (dC (.d (.int 0))) (dCons (dC (.d (.int 1))) (dCons (dC (.d (.int 7))) (dCons (dNeg (dC (.d (.int 5)))) (dCons (dOp dPow (dC (.d (.int 10))) (dC (.d (.int 18)))) (dCons (dNeg (dOp dPow (dC (.d (.int 10))) (dC (.d (.int 18))))) (dCons (dCall 2 (sp_L_draw Z) (dCons (dVar 0) (dCons (dOp dPow (dC (.d (.int 10))) (dC (.d (.int 8)))) dNil))) (dCons (dOp dSub (dNeg (dC (.d (.int 1)))) (dCall 2 (sp_L_draw Z) (dCons (dVar 0) (dCons (dOp dPow (dC (.d (.int 10))) (dC (.d (.int 8)))) dNil)))) dNil))))))))))
    (dSeq (dSet 2 (dOp dIx (dVar 1) (dCall 2 (sp_L_draw Z) (dCons (dVar 0) (dCons (dC (.d (.int 8))) dNil)))))
    (dSeq (dSet 3 (dLstM (dCons (dVar 2) dNil)))
    (dSeq (dForR1 (dCall 2 (sp_L_draw Z) (dCons (dVar 0) (dCons (dC (.d (.int 4))) dNil))) 4
    (dSeq (dSet 5 (dApp cMin (dCons (dOp dPow (dC (.d (.int 10))) (dC (.d (.int 18)))) (dCons (dApp cMax (dCons (dNeg (dOp dPow (dC (.d (.int 10))) (dC (.d (.int 18))))) (dCons (dOp dSub (dOp dAdd (dVar 2) (dCall 2 (sp_L_draw Z) (dCons (dVar 0) (dCons (dC (.d (.int 7))) dNil)))) (dC (.d (.int 3)))) dNil))) dNil))))
    (dSeq (dIfS (dB (dOp dEq (dCall 2 (sp_L_draw Z) (dCons (dVar 0) (dCons (dC (.d (.int 8))) dNil))) (dC (.d (.int 0))))) (dSet 5 (dOp dIx (dLst (dCons (dOp dPow (dC (.d (.int 10))) (dC (.d (.int 18)))) (dCons (dNeg (dOp dPow (dC (.d (.int 10))) (dC (.d (.int 18))))) (dCons (dOp dSub (dOp dPow (dC (.d (.int 10))) (dC (.d (.int 18)))) (dC (.d (.int 1)))) (dCons (dOp dSub (dC (.d (.int 1))) (dOp dPow (dC (.d (.int 10))) (dC (.d (.int 18))))) dNil))))) (dCall 2 (sp_L_draw Z) (dCons (dVar 0) (dCons (dC (.d (.int 4))) dNil)))))
    dNext)
    (dIfS (dB (dOp (dInS true) (dVar 5) (dVar 3))) (dDrop (dBM "list" mApp (dVar 3) (dCons (dVar 5) dNil)))
    dNext))))
    (dRet (dGho (dVar 3)))))))
section
variable {P : Program} {w : World} {K : PySem.W.Frag} {mg : Str → Option Value} {base : Heap} {Z : Ad}
theorem b_L_worths (z : Fx K mg Z w) (F_L_draw : FnOk P w K mg base (L2.CX P w) 3 Z.f_L_draw Z.e_L_draw ["_law_hand_here", "_law_many"] (toSp K 2 (sp_L_draw Z))) {cdv : Value} {A : Around} {outer : List Env} {s : Shared} {H : Hp} {E : XK} (hr : Room 3 (A.deeper (envOfC "_law_worths" (defScope s_L_worths) s.heap.objs.size Z.f_L_worths cdv))) :
    QSs (cxOf (L2.CX P w) P w K mg base N_L_worths "_law_worths" (defScope s_L_worths) Z.f_L_worths cdv A outer s H E) E (defBody s_L_worths) (t_L_worths Z) :=
  (qss_cons (set1 1 sc_L_worths.nd (q_lst (qa_cons q_int (qa_cons q_int (qa_cons q_int (qa_cons (q_neg q_int) (qa_cons (q_op o_pow q_int q_int) (qa_cons (q_neg (q_op o_pow q_int q_int)) (qa_cons (call F_L_draw (by first | decide | omega) hr pass_x z.g_L_draw z.k_L_draw (bd_L_draw z) (qa_cons (v 0) (qa_cons (q_op o_pow q_int q_int) qa_nil))) (qa_cons (q_op o_sub (q_neg q_int) (call F_L_draw (by first | decide | omega) hr pass_x z.g_L_draw z.k_L_draw (bd_L_draw z) (qa_cons (v 0) (qa_cons (q_op o_pow q_int q_int) qa_nil)))) qa_nil))))))))))
    (qss_cons (set1 2 sc_L_worths.nd (ix i_seq (v 1) (call F_L_draw (by first | decide | omega) hr pass_x z.g_L_draw z.k_L_draw (bd_L_draw z) (qa_cons (v 0) (qa_cons q_int qa_nil)))))
    (qss_cons (set1 3 sc_L_worths.nd (q_lstM (qa_cons (v 2) qa_nil)))
    (qss_cons (forR1 4 sc_L_worths.nd rfl (passes_of rfl) z.n_range (call F_L_draw (by first | decide | omega) hr pass_x z.g_L_draw z.k_L_draw (bd_L_draw z) (qa_cons (v 0) (qa_cons q_int qa_nil)))
    (qss_cons (set1 5 sc_L_worths.nd (blt (b_min rfl) z.n_min bt_min (qa_cons (q_op o_pow q_int q_int) (qa_cons (blt (b_max rfl) z.n_max bt_max (qa_cons (q_neg (q_op o_pow q_int q_int)) (qa_cons (q_op o_sub (q_op o_add (v 2) (call F_L_draw (by first | decide | omega) hr pass_x z.g_L_draw z.k_L_draw (bd_L_draw z) (qa_cons (v 0) (qa_cons q_int qa_nil)))) q_int) qa_nil))) qa_nil))))
    (qss_cons (qs_if (tcmp (o_eq hr.units) (call F_L_draw (by first | decide | omega) hr pass_x z.g_L_draw z.k_L_draw (bd_L_draw z) (qa_cons (v 0) (qa_cons q_int qa_nil))) q_int) (qss_one (set1 5 sc_L_worths.nd (ix i_seq (q_lst (qa_cons (q_op o_pow q_int q_int) (qa_cons (q_neg (q_op o_pow q_int q_int)) (qa_cons (q_op o_sub (q_op o_pow q_int q_int) q_int) (qa_cons (q_op o_sub q_int (q_op o_pow q_int q_int)) qa_nil))))) (call F_L_draw (by first | decide | omega) hr pass_x z.g_L_draw z.k_L_draw (bd_L_draw z) (qa_cons (v 0) (qa_cons q_int qa_nil))))))
    qss_nil)
    (qss_one (qs_if (tcmp o_notIn (v 5) (v 3)) (qss_one (exps (q_bm m_append (v 3) (qa_cons (v 5) qa_nil) fun _ _ _ h1 h2 h3 => pe_bm PySem.F.plainAttrs_list PySem.F.slot_list_append PySem.F.type_list_append h1 h2 h3)))
    qss_nil)))))
    (qss_one (retn (q_gho (v 3))))))))
theorem ok_L_worths (z : Fx K mg Z w) (F_L_draw : FnOk P w K mg base (L2.CX P w) 3 Z.f_L_draw Z.e_L_draw ["_law_hand_here", "_law_many"] (toSp K 2 (sp_L_draw Z))) (pure : ∀ xs M R Px, xs.length = 1 → sp_L_worths Z xs M R Px → t_L_worths Z { nx := fun _ M' => R (.d .none) M', rt := R, ex := Px } (startX N_L_worths xs) M) :
    FnOk P w K mg base (L2.CX P w) 4 Z.f_L_worths Z.e_L_worths ["_law_hand_here"] (toSp K 1 (sp_L_worths Z)) := fn_x z.F_L_worths sc_L_worths rfl (t_L_worths Z) (fun cdv A outer s H E hr => b_L_worths z F_L_draw hr) pure
end
abbrev N_L_atom : List Str := ["_law_hand_here", "_law_words_here", "_law_worths_here", "_law_kind"]
theorem sc_L_atom : FnScope N_L_atom ["_law_hand_here", "_law_words_here", "_law_worths_here"] (defScope s_L_atom) := ⟨rfl, rfl, rfl, by decide +kernel, rfl, by decide +kernel, by decide +kernel⟩
def t_L_atom (Z : Ad) : DS :=
  (dSeq (dSet 3 (dCall 2 (sp_L_draw Z) (dCons (dVar 0) (dCons (dC (.d (.int 12))) dNil))))
    (dSeq (dIfS (dB (dOp dLt (dVar 3) (dC (.d (.int 5))))) (dRet (dTup (dCons (dC (.d (.str "word"))) (dCons (dOp dIx (dVar 1) (dCall 2 (sp_L_draw Z) (dCons (dVar 0) (dCons (dApp cLen (dCons (dVar 1) dNil)) dNil)))) dNil))))
    dNext)
    (dSeq (dIfS (dB (dOp dLt (dVar 3) (dC (.d (.int 7))))) (dRet (dTup (dCons (dC (.d (.str "back"))) (dCons (dOp dIx (dVar 1) (dCall 2 (sp_L_draw Z) (dCons (dVar 0) (dCons (dApp cLen (dCons (dVar 1) dNil)) dNil)))) dNil))))
    dNext)
    (dSeq (dIfS (dB (dOp dLt (dVar 3) (dC (.d (.int 10))))) (dRet (dTup (dCons (dC (.d (.str "node"))) (dCons (dOp dIx (dC (.d (.str "<=>"))) (dCall 2 (sp_L_draw Z) (dCons (dVar 0) (dCons (dC (.d (.int 3))) dNil)))) (dCons (dOp dIx (dVar 2) (dCall 2 (sp_L_draw Z) (dCons (dVar 0) (dCons (dApp cLen (dCons (dVar 2) dNil)) dNil)))) dNil)))))
    dNext)
    (dRet (dOp dIx (dLst (dCons (dTup (dCons (dC (.d (.str "any"))) dNil)) (dCons (dTup (dCons (dC (.d (.str "here"))) dNil)) dNil))) (dOp dSub (dVar 3) (dC (.d (.int 10))))))))))
section
variable {P : Program} {w : World} {K : PySem.W.Frag} {mg : Str → Option Value} {base : Heap} {Z : Ad}
theorem b_L_atom (z : Fx K mg Z w) (F_L_draw : FnOk P w K mg base (L2.CX P w) 3 Z.f_L_draw Z.e_L_draw ["_law_hand_here", "_law_many"] (toSp K 2 (sp_L_draw Z))) {cdv : Value} {A : Around} {outer : List Env} {s : Shared} {H : Hp} {E : XK} (hr : Room 3 (A.deeper (envOfC "_law_atom" (defScope s_L_atom) s.heap.objs.size Z.f_L_atom cdv))) :
    QSs (cxOf (L2.CX P w) P w K mg base N_L_atom "_law_atom" (defScope s_L_atom) Z.f_L_atom cdv A outer s H E) E (defBody s_L_atom) (t_L_atom Z) :=
  (qss_cons (set1 3 sc_L_atom.nd (call F_L_draw (by first | decide | omega) hr pass_x z.g_L_draw z.k_L_draw (bd_L_draw z) (qa_cons (v 0) (qa_cons q_int qa_nil))))
    (qss_cons (qs_if (tcmp o_lt (v 3) q_int) (qss_one (retn (q_tup (qa_cons q_str (qa_cons (ix i_seq (v 1) (call F_L_draw (by first | decide | omega) hr pass_x z.g_L_draw z.k_L_draw (bd_L_draw z) (qa_cons (v 0) (qa_cons (blt b_len z.n_len bt_len (qa_cons (v 1) qa_nil)) qa_nil)))) qa_nil)))))
    qss_nil)
    (qss_cons (qs_if (tcmp o_lt (v 3) q_int) (qss_one (retn (q_tup (qa_cons q_str (qa_cons (ix i_seq (v 1) (call F_L_draw (by first | decide | omega) hr pass_x z.g_L_draw z.k_L_draw (bd_L_draw z) (qa_cons (v 0) (qa_cons (blt b_len z.n_len bt_len (qa_cons (v 1) qa_nil)) qa_nil)))) qa_nil)))))
    qss_nil)
    (qss_cons (qs_if (tcmp o_lt (v 3) q_int) (qss_one (retn (q_tup (qa_cons q_str (qa_cons (ix i_seq q_str (call F_L_draw (by first | decide | omega) hr pass_x z.g_L_draw z.k_L_draw (bd_L_draw z) (qa_cons (v 0) (qa_cons q_int qa_nil)))) (qa_cons (ix i_seq (v 2) (call F_L_draw (by first | decide | omega) hr pass_x z.g_L_draw z.k_L_draw (bd_L_draw z) (qa_cons (v 0) (qa_cons (blt b_len z.n_len bt_len (qa_cons (v 2) qa_nil)) qa_nil)))) qa_nil))))))
    qss_nil)
    (qss_one (retn (ix i_seq (q_lst (qa_cons (q_tup (qa_cons q_str qa_nil)) (qa_cons (q_tup (qa_cons q_str qa_nil)) qa_nil))) (q_op o_sub (v 3) q_int))))))))
theorem ok_L_atom (z : Fx K mg Z w) (F_L_draw : FnOk P w K mg base (L2.CX P w) 3 Z.f_L_draw Z.e_L_draw ["_law_hand_here", "_law_many"] (toSp K 2 (sp_L_draw Z))) (pure : ∀ xs M R Px, xs.length = 3 → sp_L_atom Z xs M R Px → t_L_atom Z { nx := fun _ M' => R (.d .none) M', rt := R, ex := Px } (startX N_L_atom xs) M) :
    FnOk P w K mg base (L2.CX P w) 4 Z.f_L_atom Z.e_L_atom ["_law_hand_here", "_law_words_here", "_law_worths_here"] (toSp K 3 (sp_L_atom Z)) := fn_x z.F_L_atom sc_L_atom rfl (t_L_atom Z) (fun cdv A outer s H E hr => b_L_atom z F_L_draw hr) pure
end
abbrev N_L_expression : List Str := ["_law_hand_here", "_law_words_here", "_law_worths_here", "_law_room", "_law_deep", "_law_kind", "_law_left", "_law_one", "_law_other", "_law_word", "_law_most", "_law_least"]
theorem sc_L_expression : FnScope N_L_expression ["_law_hand_here", "_law_words_here", "_law_worths_here", "_law_room", "_law_deep"] (defScope s_L_expression) := ⟨rfl, rfl, rfl, by decide +kernel, rfl, by decide +kernel, by decide +kernel⟩
def t_L_expression (spr : SpX) (Z : Ad) : DS :=
  (dSeq (dIfS (dOr (dB (dOp dLe (dVar 4) (dC (.d (.int 1))))) (dAnd (dB (dOp dLe (dVar 3) (dC (.d (.int 1))))) (dB (dOp dGt (dCall 2 (sp_L_draw Z) (dCons (dVar 0) (dCons (dC (.d (.int 3))) dNil))) (dC (.d (.int 0))))))) (dRet (dCall 3 (sp_L_atom Z) (dCons (dVar 0) (dCons (dVar 1) (dCons (dVar 2) dNil)))))
    dNext)
    (dSeq (dSet 5 (dCall 2 (sp_L_draw Z) (dCons (dVar 0) (dCons (dC (.d (.int 12))) dNil))))
    (dSeq (dIfS (dAnd (dB (dOp dGt (dVar 3) (dC (.d (.int 1))))) (dB (dOp dLt (dVar 5) (dC (.d (.int 7)))))) (dSeq (dSet 6 (dOp dAdd (dC (.d (.int 1))) (dCall 2 (sp_L_draw Z) (dCons (dVar 0) (dCons (dOp dSub (dVar 3) (dC (.d (.int 1)))) dNil)))))
    (dSeq (dSet 7 (dCall 5 spr (dCons (dVar 0) (dCons (dVar 1) (dCons (dVar 2) (dCons (dVar 6) (dCons (dOp dSub (dVar 4) (dC (.d (.int 1)))) dNil)))))))
    (dSeq (dSet 8 (dCall 5 spr (dCons (dVar 0) (dCons (dVar 1) (dCons (dVar 2) (dCons (dOp dSub (dVar 3) (dVar 6)) (dCons (dOp dSub (dVar 4) (dC (.d (.int 1)))) dNil)))))))
    (dRet (dTup (dCons (dOp dIx (dLst (dCons (dC (.d (.str "then"))) (dCons (dC (.d (.str "or"))) dNil))) (dApp cInt (dCons (dOp dGt (dVar 5) (dC (.d (.int 3)))) dNil))) (dCons (dVar 7) (dCons (dVar 8) dNil))))))))
    dNext)
    (dSeq (dIfS (dB (dOp dLt (dVar 5) (dC (.d (.int 10))))) (dSeq (dSet 9 (dOp dIx (dLst (dCons (dC (.d (.str "star"))) (dCons (dC (.d (.str "plus"))) (dCons (dC (.d (.str "maybe"))) dNil)))) (dCall 2 (sp_L_draw Z) (dCons (dVar 0) (dCons (dC (.d (.int 3))) dNil)))))
    (dRet (dTup (dCons (dVar 9) (dCons (dCall 5 spr (dCons (dVar 0) (dCons (dVar 1) (dCons (dVar 2) (dCons (dVar 3) (dCons (dOp dSub (dVar 4) (dC (.d (.int 1)))) dNil)))))) dNil)))))
    dNext)
    (dSeq (dSet 10 (dOp dAdd (dC (.d (.int 1))) (dCall 2 (sp_L_draw Z) (dCons (dVar 0) (dCons (dApp cMin (dCons (dC (.d (.int 9))) (dCons (dVar 3) dNil))) dNil)))))
    (dSeq (dSet 11 (dCall 2 (sp_L_draw Z) (dCons (dVar 0) (dCons (dOp dAdd (dVar 10) (dC (.d (.int 1)))) dNil))))
    (dRet (dTup (dCons (dC (.d (.str "times"))) (dCons (dVar 11) (dCons (dVar 10) (dCons (dCall 5 spr (dCons (dVar 0) (dCons (dVar 1) (dCons (dVar 2) (dCons (dOp dDiv (dVar 3) (dVar 10)) (dCons (dOp dSub (dVar 4) (dC (.d (.int 1)))) dNil)))))) dNil))))))))))))
section
variable {P : Program} {w : World} {K : PySem.W.Frag} {mg : Str → Option Value} {base : Heap} {Z : Ad}
theorem b_L_expression (z : Fx K mg Z w) (F_L_draw : FnOk P w K mg base (L2.CX P w) 3 Z.f_L_draw Z.e_L_draw ["_law_hand_here", "_law_many"] (toSp K 2 (sp_L_draw Z))) (F_L_atom : FnOk P w K mg base (L2.CX P w) 4 Z.f_L_atom Z.e_L_atom ["_law_hand_here", "_law_words_here", "_law_worths_here"] (toSp K 3 (sp_L_atom Z))) {kk : Nat} (hk : 6 ≤ kk) {spr : SpX} (F_L_expression : FnOk P w K mg base (L2.CX P w) kk Z.f_L_expression Z.e_L_expression ["_law_hand_here", "_law_words_here", "_law_worths_here", "_law_room", "_law_deep"] (toSp K 5 spr)) {cdv : Value} {A : Around} {outer : List Env} {s : Shared} {H : Hp} {E : XK} (hr : Room kk (A.deeper (envOfC "_law_expression" (defScope s_L_expression) s.heap.objs.size Z.f_L_expression cdv))) :
    QSs (cxOf (L2.CX P w) P w K mg base N_L_expression "_law_expression" (defScope s_L_expression) Z.f_L_expression cdv A outer s H E) E (defBody s_L_expression) (t_L_expression spr Z) :=
  (qss_cons (qs_if (QW.qt (qw_or (tcmp o_le (v 4) q_int) (qw_or1 (QW.qt (qw_and (tcmp o_le (v 3) q_int) (qw_and1 (tcmp o_gt (call F_L_draw (by first | decide | omega) hr pass_x z.g_L_draw z.k_L_draw (bd_L_draw z) (qa_cons (v 0) (qa_cons q_int qa_nil))) q_int))))))) (qss_one (retn (call F_L_atom (by first | decide | omega) hr pass_x z.g_L_atom z.k_L_atom (bd_L_atom z) (qa_cons (v 0) (qa_cons (v 1) (qa_cons (v 2) qa_nil))))))
    qss_nil)
    (qss_cons (set1 5 sc_L_expression.nd (call F_L_draw (by first | decide | omega) hr pass_x z.g_L_draw z.k_L_draw (bd_L_draw z) (qa_cons (v 0) (qa_cons q_int qa_nil))))
    (qss_cons (qs_if (QW.qt (qw_and (tcmp o_gt (v 3) q_int) (qw_and1 (tcmp o_lt (v 5) q_int)))) (qss_cons (set1 6 sc_L_expression.nd (q_op o_add q_int (call F_L_draw (by first | decide | omega) hr pass_x z.g_L_draw z.k_L_draw (bd_L_draw z) (qa_cons (v 0) (qa_cons (q_op o_sub (v 3) q_int) qa_nil)))))
    (qss_cons (set1 7 sc_L_expression.nd (call F_L_expression (by first | decide | omega) hr pass_x z.g_L_expression z.k_L_expression (bd_L_expression z) (qa_cons (v 0) (qa_cons (v 1) (qa_cons (v 2) (qa_cons (v 6) (qa_cons (q_op o_sub (v 4) q_int) qa_nil)))))))
    (qss_cons (set1 8 sc_L_expression.nd (call F_L_expression (by first | decide | omega) hr pass_x z.g_L_expression z.k_L_expression (bd_L_expression z) (qa_cons (v 0) (qa_cons (v 1) (qa_cons (v 2) (qa_cons (q_op o_sub (v 3) (v 6)) (qa_cons (q_op o_sub (v 4) q_int) qa_nil)))))))
    (qss_one (retn (q_tup (qa_cons (ix i_seq (q_lst (qa_cons q_str (qa_cons q_str qa_nil))) (blty b_int z.n_int bt_int (qa_cons (cmp o_gt (v 5) q_int) qa_nil))) (qa_cons (v 7) (qa_cons (v 8) qa_nil)))))))))
    qss_nil)
    (qss_cons (qs_if (tcmp o_lt (v 5) q_int) (qss_cons (set1 9 sc_L_expression.nd (ix i_seq (q_lst (qa_cons q_str (qa_cons q_str (qa_cons q_str qa_nil)))) (call F_L_draw (by first | decide | omega) hr pass_x z.g_L_draw z.k_L_draw (bd_L_draw z) (qa_cons (v 0) (qa_cons q_int qa_nil)))))
    (qss_one (retn (q_tup (qa_cons (v 9) (qa_cons (call F_L_expression (by first | decide | omega) hr pass_x z.g_L_expression z.k_L_expression (bd_L_expression z) (qa_cons (v 0) (qa_cons (v 1) (qa_cons (v 2) (qa_cons (v 3) (qa_cons (q_op o_sub (v 4) q_int) qa_nil)))))) qa_nil))))))
    qss_nil)
    (qss_cons (set1 10 sc_L_expression.nd (q_op o_add q_int (call F_L_draw (by first | decide | omega) hr pass_x z.g_L_draw z.k_L_draw (bd_L_draw z) (qa_cons (v 0) (qa_cons (blt (b_min rfl) z.n_min bt_min (qa_cons q_int (qa_cons (v 3) qa_nil))) qa_nil)))))
    (qss_cons (set1 11 sc_L_expression.nd (call F_L_draw (by first | decide | omega) hr pass_x z.g_L_draw z.k_L_draw (bd_L_draw z) (qa_cons (v 0) (qa_cons (q_op o_add (v 10) q_int) qa_nil))))
    (qss_one (retn (q_tup (qa_cons q_str (qa_cons (v 11) (qa_cons (v 10) (qa_cons (call F_L_expression (by first | decide | omega) hr pass_x z.g_L_expression z.k_L_expression (bd_L_expression z) (qa_cons (v 0) (qa_cons (v 1) (qa_cons (v 2) (qa_cons (q_op o_div (v 3) (v 10)) (qa_cons (q_op o_sub (v 4) q_int) qa_nil)))))) qa_nil)))))))))))))
theorem ok_L_expression (z : Fx K mg Z w) (F_L_draw : FnOk P w K mg base (L2.CX P w) 3 Z.f_L_draw Z.e_L_draw ["_law_hand_here", "_law_many"] (toSp K 2 (sp_L_draw Z))) (F_L_atom : FnOk P w K mg base (L2.CX P w) 4 Z.f_L_atom Z.e_L_atom ["_law_hand_here", "_law_words_here", "_law_worths_here"] (toSp K 3 (sp_L_atom Z))) {kk : Nat} (hk : 6 ≤ kk) {spr : SpX} (F_L_expression : FnOk P w K mg base (L2.CX P w) kk Z.f_L_expression Z.e_L_expression ["_law_hand_here", "_law_words_here", "_law_worths_here", "_law_room", "_law_deep"] (toSp K 5 spr)) {sps : SpX} (pure : ∀ xs M R Px, xs.length = 5 → sps xs M R Px → t_L_expression spr Z { nx := fun _ M' => R (.d .none) M', rt := R, ex := Px } (startX N_L_expression xs) M) :
    FnOk P w K mg base (L2.CX P w) (kk + 1) Z.f_L_expression Z.e_L_expression ["_law_hand_here", "_law_words_here", "_law_worths_here", "_law_room", "_law_deep"] (toSp K 5 (sps)) := fn_x z.F_L_expression sc_L_expression rfl (t_L_expression spr Z) (fun cdv A outer s H E hr => b_L_expression z F_L_draw F_L_atom hk F_L_expression hr) pure
end
abbrev N_L_is_letter : List Str := ["_law_sign"]
theorem sc_L_is_letter : FnScope N_L_is_letter ["_law_sign"] (defScope s_L_is_letter) := ⟨rfl, rfl, rfl, by decide +kernel, rfl, by decide +kernel, by decide +kernel⟩
def t_L_is_letter (Z : Ad) : DS :=
  (dRet (dAndV (dOp dEq (dApp cLen (dCons (dVar 0) dNil)) (dC (.d (.int 1)))) (dOp (dInS false) (dVar 0) (dC (.d (.str "abcdefghijklmnopqrstuvwxyz"))))))
section
variable {P : Program} {w : World} {K : PySem.W.Frag} {mg : Str → Option Value} {base : Heap} {Z : Ad}
theorem b_L_is_letter (z : Fx K mg Z w)  {cdv : Value} {A : Around} {outer : List Env} {s : Shared} {H : Hp} {E : XK} (hr : Room 1 (A.deeper (envOfC "_law_is_letter" (defScope s_L_is_letter) s.heap.objs.size Z.f_L_is_letter cdv))) :
    QSs (cxOf (L2.CX P w) P w K mg base N_L_is_letter "_law_is_letter" (defScope s_L_is_letter) Z.f_L_is_letter cdv A outer s H E) E (defBody s_L_is_letter) (t_L_is_letter Z) :=
  (qss_one (retn (q_and (cmp (o_eq hr.units) (blt b_len z.n_len bt_len (qa_cons (v 0) qa_nil)) q_int) (q_one (cmp o_in (v 0) q_str)))))
theorem ok_L_is_letter (z : Fx K mg Z w)  (pure : ∀ xs M R Px, xs.length = 1 → sp_L_is_letter Z xs M R Px → t_L_is_letter Z { nx := fun _ M' => R (.d .none) M', rt := R, ex := Px } (startX N_L_is_letter xs) M) :
    FnOk P w K mg base (L2.CX P w) 2 Z.f_L_is_letter Z.e_L_is_letter ["_law_sign"] (toSp K 1 (sp_L_is_letter Z)) := fn_x z.F_L_is_letter sc_L_is_letter rfl (t_L_is_letter Z) (fun cdv A outer s H E hr => b_L_is_letter z  hr) pure
end
abbrev N_L_lone_text : List Str := ["_law_thing"]
theorem sc_L_lone_text : FnScope N_L_lone_text ["_law_thing"] (defScope s_L_lone_text) := ⟨rfl, rfl, rfl, by decide +kernel, rfl, by decide +kernel, by decide +kernel⟩
def t_L_lone_text (Z : Ad) : DS :=
  (dSeq (dIfS (dB (dOp dEq (dOp dIx (dVar 0) (dC (.d (.int 0)))) (dC (.d (.str "any"))))) (dRet (dC (.d (.str "."))))
    dNext)
    (dSeq (dIfS (dB (dOp dEq (dOp dIx (dVar 0) (dC (.d (.int 0)))) (dC (.d (.str "here"))))) (dRet (dC (.d (.str "_"))))
    dNext)
    (dSeq (dIfS (dB (dOp dEq (dOp dIx (dVar 0) (dC (.d (.int 0)))) (dC (.d (.str "node"))))) (dRet (dOp dAdd (dOp dAdd (dOp dAdd (dC (.d (.str "["))) (dOp dIx (dVar 0) (dC (.d (.int 1))))) (dApp cStr (dCons (dOp dIx (dVar 0) (dC (.d (.int 2)))) dNil))) (dC (.d (.str "]")))))
    dNext)
    (dRet (dOp dAdd (dOp dIx (dLst (dCons (dC (.d (.str "~"))) (dCons (dC (.d (.str ""))) dNil))) (dApp cInt (dCons (dOp dEq (dOp dIx (dVar 0) (dC (.d (.int 0)))) (dC (.d (.str "word")))) dNil))) (dOp dIx (dVar 0) (dC (.d (.int 1)))))))))
section
variable {P : Program} {w : World} {K : PySem.W.Frag} {mg : Str → Option Value} {base : Heap} {Z : Ad}
theorem b_L_lone_text (z : Fx K mg Z w)  {cdv : Value} {A : Around} {outer : List Env} {s : Shared} {H : Hp} {E : XK} (hr : Room 1 (A.deeper (envOfC "_law_lone_text" (defScope s_L_lone_text) s.heap.objs.size Z.f_L_lone_text cdv))) :
    QSs (cxOf (L2.CX P w) P w K mg base N_L_lone_text "_law_lone_text" (defScope s_L_lone_text) Z.f_L_lone_text cdv A outer s H E) E (defBody s_L_lone_text) (t_L_lone_text Z) :=
  (qss_cons (qs_if (tcmp (o_eq hr.units) (ix i_seq (v 0) q_int) q_str) (qss_one (retn q_str))
    qss_nil)
    (qss_cons (qs_if (tcmp (o_eq hr.units) (ix i_seq (v 0) q_int) q_str) (qss_one (retn q_str))
    qss_nil)
    (qss_cons (qs_if (tcmp (o_eq hr.units) (ix i_seq (v 0) q_int) q_str) (qss_one (retn (q_op o_add (q_op o_add (q_op o_add q_str (ix i_seq (v 0) q_int)) (blty b_str z.n_str bt_str (qa_cons (ix i_seq (v 0) q_int) qa_nil))) q_str)))
    qss_nil)
    (qss_one (retn (q_op o_add (ix i_seq (q_lst (qa_cons q_str (qa_cons q_str qa_nil))) (blty b_int z.n_int bt_int (qa_cons (cmp (o_eq hr.units) (ix i_seq (v 0) q_int) q_str) qa_nil))) (ix i_seq (v 0) q_int)))))))
theorem ok_L_lone_text (z : Fx K mg Z w)  (pure : ∀ xs M R Px, xs.length = 1 → sp_L_lone_text Z xs M R Px → t_L_lone_text Z { nx := fun _ M' => R (.d .none) M', rt := R, ex := Px } (startX N_L_lone_text xs) M) :
    FnOk P w K mg base (L2.CX P w) 2 Z.f_L_lone_text Z.e_L_lone_text ["_law_thing"] (toSp K 1 (sp_L_lone_text Z)) := fn_x z.F_L_lone_text sc_L_lone_text rfl (t_L_lone_text Z) (fun cdv A outer s H E hr => b_L_lone_text z  hr) pure
end
abbrev N_L_sign_text : List Str := ["_law_thing"]
theorem sc_L_sign_text : FnScope N_L_sign_text ["_law_thing"] (defScope s_L_sign_text) := ⟨rfl, rfl, rfl, by decide +kernel, rfl, by decide +kernel, by decide +kernel⟩
def t_L_sign_text (Z : Ad) : DS :=
  (dSeq (dIfS (dB (dOp dEq (dOp dIx (dVar 0) (dC (.d (.int 0)))) (dC (.d (.str "times"))))) (dRet (dOp dAdd (dOp dAdd (dOp dAdd (dOp dAdd (dC (.d (.str "{"))) (dApp cStr (dCons (dOp dIx (dVar 0) (dC (.d (.int 1)))) dNil))) (dC (.d (.str ",")))) (dApp cStr (dCons (dOp dIx (dVar 0) (dC (.d (.int 2)))) dNil))) (dC (.d (.str "}")))))
    dNext)
    (dRet (dOp dIx (dC (.d (.str "*+?"))) (dBM "list" mIdx (dLst (dCons (dC (.d (.str "star"))) (dCons (dC (.d (.str "plus"))) (dCons (dC (.d (.str "maybe"))) dNil)))) (dCons (dOp dIx (dVar 0) (dC (.d (.int 0)))) dNil)))))
section
variable {P : Program} {w : World} {K : PySem.W.Frag} {mg : Str → Option Value} {base : Heap} {Z : Ad}
theorem b_L_sign_text (z : Fx K mg Z w)  {cdv : Value} {A : Around} {outer : List Env} {s : Shared} {H : Hp} {E : XK} (hr : Room 1 (A.deeper (envOfC "_law_sign_text" (defScope s_L_sign_text) s.heap.objs.size Z.f_L_sign_text cdv))) :
    QSs (cxOf (L2.CX P w) P w K mg base N_L_sign_text "_law_sign_text" (defScope s_L_sign_text) Z.f_L_sign_text cdv A outer s H E) E (defBody s_L_sign_text) (t_L_sign_text Z) :=
  (qss_cons (qs_if (tcmp (o_eq hr.units) (ix i_seq (v 0) q_int) q_str) (qss_one (retn (q_op o_add (q_op o_add (q_op o_add (q_op o_add q_str (blty b_str z.n_str bt_str (qa_cons (ix i_seq (v 0) q_int) qa_nil))) q_str) (blty b_str z.n_str bt_str (qa_cons (ix i_seq (v 0) q_int) qa_nil))) q_str)))
    qss_nil)
    (qss_one (retn (ix i_seq q_str (q_bm m_index (q_lst (qa_cons q_str (qa_cons q_str (qa_cons q_str qa_nil)))) (qa_cons (ix i_seq (v 0) q_int) qa_nil) fun _ _ _ h1 h2 h3 => pe_bm PySem.F.plainAttrs_list PySem.F.slot_list_index PySem.F.type_list_index h1 h2 h3)))))
theorem ok_L_sign_text (z : Fx K mg Z w)  (pure : ∀ xs M R Px, xs.length = 1 → sp_L_sign_text Z xs M R Px → t_L_sign_text Z { nx := fun _ M' => R (.d .none) M', rt := R, ex := Px } (startX N_L_sign_text xs) M) :
    FnOk P w K mg base (L2.CX P w) 2 Z.f_L_sign_text Z.e_L_sign_text ["_law_thing"] (toSp K 1 (sp_L_sign_text Z)) := fn_x z.F_L_sign_text sc_L_sign_text rfl (t_L_sign_text Z) (fun cdv A outer s H E hr => b_L_sign_text z  hr) pure
end
abbrev N_L_blanks : List Str := ["_law_hand_here"]
theorem sc_L_blanks : FnScope N_L_blanks ["_law_hand_here"] (defScope s_L_blanks) := ⟨rfl, rfl, rfl, by decide +kernel, rfl, by decide +kernel, by decide +kernel⟩
def t_L_blanks (Z : Ad) : DS :=
  (dRet (dOp dMul (dC (.d (.str " "))) (dOp dIx (dLst (dCons (dC (.d (.int 0))) (dCons (dC (.d (.int 0))) (dCons (dC (.d (.int 0))) (dCons (dC (.d (.int 0))) (dCons (dC (.d (.int 1))) (dCons (dC (.d (.int 1))) (dCons (dC (.d (.int 2))) (dCons (dC (.d (.int 5))) dNil))))))))) (dCall 2 (sp_L_draw Z) (dCons (dVar 0) (dCons (dC (.d (.int 8))) dNil))))))
section
variable {P : Program} {w : World} {K : PySem.W.Frag} {mg : Str → Option Value} {base : Heap} {Z : Ad}
theorem b_L_blanks (z : Fx K mg Z w) (F_L_draw : FnOk P w K mg base (L2.CX P w) 3 Z.f_L_draw Z.e_L_draw ["_law_hand_here", "_law_many"] (toSp K 2 (sp_L_draw Z))) {cdv : Value} {A : Around} {outer : List Env} {s : Shared} {H : Hp} {E : XK} (hr : Room 3 (A.deeper (envOfC "_law_blanks" (defScope s_L_blanks) s.heap.objs.size Z.f_L_blanks cdv))) :
    QSs (cxOf (L2.CX P w) P w K mg base N_L_blanks "_law_blanks" (defScope s_L_blanks) Z.f_L_blanks cdv A outer s H E) E (defBody s_L_blanks) (t_L_blanks Z) :=
  (qss_one (retn (q_op o_mul q_str (ix i_seq (q_lst (qa_cons q_int (qa_cons q_int (qa_cons q_int (qa_cons q_int (qa_cons q_int (qa_cons q_int (qa_cons q_int (qa_cons q_int qa_nil))))))))) (call F_L_draw (by first | decide | omega) hr pass_x z.g_L_draw z.k_L_draw (bd_L_draw z) (qa_cons (v 0) (qa_cons q_int qa_nil)))))))
theorem ok_L_blanks (z : Fx K mg Z w) (F_L_draw : FnOk P w K mg base (L2.CX P w) 3 Z.f_L_draw Z.e_L_draw ["_law_hand_here", "_law_many"] (toSp K 2 (sp_L_draw Z))) (pure : ∀ xs M R Px, xs.length = 1 → sp_L_blanks Z xs M R Px → t_L_blanks Z { nx := fun _ M' => R (.d .none) M', rt := R, ex := Px } (startX N_L_blanks xs) M) :
    FnOk P w K mg base (L2.CX P w) 4 Z.f_L_blanks Z.e_L_blanks ["_law_hand_here"] (toSp K 1 (sp_L_blanks Z)) := fn_x z.F_L_blanks sc_L_blanks rfl (t_L_blanks Z) (fun cdv A outer s H E hr => b_L_blanks z F_L_draw hr) pure
end
abbrev N_L_loose : List Str := ["_law_hand_here", "_law_thing", "_law_tight", "_law_word", "_law_text", "_law_one", "_law_other", "_law_middle"]
theorem sc_L_loose : FnScope N_L_loose ["_law_hand_here", "_law_thing", "_law_tight"] (defScope s_L_loose) := ⟨rfl, rfl, rfl, by decide +kernel, rfl, by decide +kernel, by decide +kernel⟩
def t_L_loose (spr : SpX) (Z : Ad) : DS :=
  (dSeq (dSet 3 (dOp dIx (dVar 1) (dC (.d (.int 0)))))
    (dSeq (dIfS (dB (dOp (dInS false) (dVar 3) (dLst (dCons (dC (.d (.str "word"))) (dCons (dC (.d (.str "back"))) (dCons (dC (.d (.str "any"))) (dCons (dC (.d (.str "here"))) (dCons (dC (.d (.str "node"))) dNil)))))))) (dSet 4 (dCall 1 (sp_L_lone_text Z) (dCons (dVar 1) dNil)))
    (dIfS (dB (dOp (dInS false) (dVar 3) (dLst (dCons (dC (.d (.str "then"))) (dCons (dC (.d (.str "or"))) dNil))))) (dSeq (dSet 5 (dCall 3 spr (dCons (dVar 0) (dCons (dOp dIx (dVar 1) (dC (.d (.int 1)))) (dCons (dApp cInt (dCons (dOp dEq (dVar 3) (dC (.d (.str "then")))) dNil)) dNil)))))
    (dSeq (dSet 6 (dCall 3 spr (dCons (dVar 0) (dCons (dOp dIx (dVar 1) (dC (.d (.int 2)))) (dCons (dOp dAdd (dC (.d (.int 1))) (dApp cInt (dCons (dOp dEq (dVar 3) (dC (.d (.str "then")))) dNil))) dNil)))))
    (dSeq (dSet 7 (dCall 1 (sp_L_blanks Z) (dCons (dVar 0) dNil)))
    (dSeq (dIfS (dB (dOp dEq (dVar 3) (dC (.d (.str "or"))))) (dSet 7 (dOp dAdd (dOp dAdd (dVar 7) (dC (.d (.str "|")))) (dCall 1 (sp_L_blanks Z) (dCons (dVar 0) dNil))))
    (dIfS (dAnd (dB (dCall 1 (sp_L_is_letter Z) (dCons (dSl (dVar 5) (dP (dNeg (dC (.d (.int 1))))) dNoP) dNil))) (dB (dCall 1 (sp_L_is_letter Z) (dCons (dSl (dVar 6) dNoP (dP (dC (.d (.int 1))))) dNil)))) (dSet 7 (dOp dAdd (dC (.d (.str " "))) (dVar 7)))
    dNext))
    (dSet 4 (dOp dAdd (dOp dAdd (dVar 5) (dVar 7)) (dVar 6)))))))
    (dSet 4 (dOp dAdd (dOp dAdd (dCall 3 spr (dCons (dVar 0) (dCons (dOp dIx (dVar 1) (dNeg (dC (.d (.int 1))))) (dCons (dC (.d (.int 2))) dNil)))) (dCall 1 (sp_L_blanks Z) (dCons (dVar 0) dNil))) (dCall 1 (sp_L_sign_text Z) (dCons (dVar 1) dNil))))))
    (dSeq (dIfS (dOr (dAnd (dB (dOp dEq (dVar 3) (dC (.d (.str "or"))))) (dB (dOp dGt (dVar 2) (dC (.d (.int 0)))))) (dOr (dAnd (dB (dOp dEq (dVar 3) (dC (.d (.str "then"))))) (dB (dOp dGt (dVar 2) (dC (.d (.int 1)))))) (dB (dOp dEq (dCall 2 (sp_L_draw Z) (dCons (dVar 0) (dCons (dC (.d (.int 12))) dNil))) (dC (.d (.int 0))))))) (dSet 4 (dOp dAdd (dOp dAdd (dOp dAdd (dOp dAdd (dC (.d (.str "("))) (dCall 1 (sp_L_blanks Z) (dCons (dVar 0) dNil))) (dVar 4)) (dCall 1 (sp_L_blanks Z) (dCons (dVar 0) dNil))) (dC (.d (.str ")")))))
    dNext)
    (dRet (dVar 4)))))
section
variable {P : Program} {w : World} {K : PySem.W.Frag} {mg : Str → Option Value} {base : Heap} {Z : Ad}
theorem b_L_loose (z : Fx K mg Z w) (F_L_lone_text : FnOk P w K mg base (L2.CX P w) 2 Z.f_L_lone_text Z.e_L_lone_text ["_law_thing"] (toSp K 1 (sp_L_lone_text Z))) (F_L_blanks : FnOk P w K mg base (L2.CX P w) 4 Z.f_L_blanks Z.e_L_blanks ["_law_hand_here"] (toSp K 1 (sp_L_blanks Z))) (F_L_is_letter : FnOk P w K mg base (L2.CX P w) 2 Z.f_L_is_letter Z.e_L_is_letter ["_law_sign"] (toSp K 1 (sp_L_is_letter Z))) (F_L_sign_text : FnOk P w K mg base (L2.CX P w) 2 Z.f_L_sign_text Z.e_L_sign_text ["_law_thing"] (toSp K 1 (sp_L_sign_text Z))) (F_L_draw : FnOk P w K mg base (L2.CX P w) 3 Z.f_L_draw Z.e_L_draw ["_law_hand_here", "_law_many"] (toSp K 2 (sp_L_draw Z))) {kk : Nat} (hk : 6 ≤ kk) {spr : SpX} (F_L_loose : FnOk P w K mg base (L2.CX P w) kk Z.f_L_loose Z.e_L_loose ["_law_hand_here", "_law_thing", "_law_tight"] (toSp K 3 spr)) {cdv : Value} {A : Around} {outer : List Env} {s : Shared} {H : Hp} {E : XK} (hr : Room kk (A.deeper (envOfC "_law_loose" (defScope s_L_loose) s.heap.objs.size Z.f_L_loose cdv))) :
    QSs (cxOf (L2.CX P w) P w K mg base N_L_loose "_law_loose" (defScope s_L_loose) Z.f_L_loose cdv A outer s H E) E (defBody s_L_loose) (t_L_loose spr Z) :=
  (qss_cons (set1 3 sc_L_loose.nd (ix i_seq (v 1) q_int))
    (qss_cons (qs_if (tcmp o_in (v 3) (q_lst (qa_cons q_str (qa_cons q_str (qa_cons q_str (qa_cons q_str (qa_cons q_str qa_nil))))))) (qss_one (set1 4 sc_L_loose.nd (call F_L_lone_text (by first | decide | omega) hr pass_x z.g_L_lone_text z.k_L_lone_text (bd_L_lone_text z) (qa_cons (v 1) qa_nil))))
    (qss_one (qs_if (tcmp o_in (v 3) (q_lst (qa_cons q_str (qa_cons q_str qa_nil)))) (qss_cons (set1 5 sc_L_loose.nd (call F_L_loose (by first | decide | omega) hr pass_x z.g_L_loose z.k_L_loose (bd_L_loose z) (qa_cons (v 0) (qa_cons (ix i_seq (v 1) q_int) (qa_cons (blty b_int z.n_int bt_int (qa_cons (cmp (o_eq hr.units) (v 3) q_str) qa_nil)) qa_nil)))))
    (qss_cons (set1 6 sc_L_loose.nd (call F_L_loose (by first | decide | omega) hr pass_x z.g_L_loose z.k_L_loose (bd_L_loose z) (qa_cons (v 0) (qa_cons (ix i_seq (v 1) q_int) (qa_cons (q_op o_add q_int (blty b_int z.n_int bt_int (qa_cons (cmp (o_eq hr.units) (v 3) q_str) qa_nil))) qa_nil)))))
    (qss_cons (set1 7 sc_L_loose.nd (call F_L_blanks (by first | decide | omega) hr pass_x z.g_L_blanks z.k_L_blanks (bd_L_blanks z) (qa_cons (v 0) qa_nil)))
    (qss_cons (qs_if (tcmp (o_eq hr.units) (v 3) q_str) (qss_one (set1 7 sc_L_loose.nd (q_op o_add (q_op o_add (v 7) q_str) (call F_L_blanks (by first | decide | omega) hr pass_x z.g_L_blanks z.k_L_blanks (bd_L_blanks z) (qa_cons (v 0) qa_nil)))))
    (qss_one (qs_if (QW.qt (qw_and (tval (call F_L_is_letter (by first | decide | omega) hr pass_x z.g_L_is_letter z.k_L_is_letter (bd_L_is_letter z) (qa_cons (slc (v 5) (qp_some (q_neg q_int)) qp_no) qa_nil))) (qw_and1 (tval (call F_L_is_letter (by first | decide | omega) hr pass_x z.g_L_is_letter z.k_L_is_letter (bd_L_is_letter z) (qa_cons (slc (v 6) qp_no (qp_some q_int)) qa_nil)))))) (qss_one (set1 7 sc_L_loose.nd (q_op o_add q_str (v 7))))
    qss_nil)))
    (qss_one (set1 4 sc_L_loose.nd (q_op o_add (q_op o_add (v 5) (v 7)) (v 6))))))))
    (qss_one (set1 4 sc_L_loose.nd (q_op o_add (q_op o_add (call F_L_loose (by first | decide | omega) hr pass_x z.g_L_loose z.k_L_loose (bd_L_loose z) (qa_cons (v 0) (qa_cons (ix i_seq (v 1) (q_neg q_int)) (qa_cons q_int qa_nil)))) (call F_L_blanks (by first | decide | omega) hr pass_x z.g_L_blanks z.k_L_blanks (bd_L_blanks z) (qa_cons (v 0) qa_nil))) (call F_L_sign_text (by first | decide | omega) hr pass_x z.g_L_sign_text z.k_L_sign_text (bd_L_sign_text z) (qa_cons (v 1) qa_nil))))))))
    (qss_cons (qs_if (QW.qt (qw_or (QW.qt (qw_and (tcmp (o_eq hr.units) (v 3) q_str) (qw_and1 (tcmp o_gt (v 2) q_int)))) (qw_or (QW.qt (qw_and (tcmp (o_eq hr.units) (v 3) q_str) (qw_and1 (tcmp o_gt (v 2) q_int)))) (qw_or1 (tcmp (o_eq hr.units) (call F_L_draw (by first | decide | omega) hr pass_x z.g_L_draw z.k_L_draw (bd_L_draw z) (qa_cons (v 0) (qa_cons q_int qa_nil))) q_int))))) (qss_one (set1 4 sc_L_loose.nd (q_op o_add (q_op o_add (q_op o_add (q_op o_add q_str (call F_L_blanks (by first | decide | omega) hr pass_x z.g_L_blanks z.k_L_blanks (bd_L_blanks z) (qa_cons (v 0) qa_nil))) (v 4)) (call F_L_blanks (by first | decide | omega) hr pass_x z.g_L_blanks z.k_L_blanks (bd_L_blanks z) (qa_cons (v 0) qa_nil))) q_str)))
    qss_nil)
    (qss_one (retn (v 4))))))
theorem ok_L_loose (z : Fx K mg Z w) (F_L_lone_text : FnOk P w K mg base (L2.CX P w) 2 Z.f_L_lone_text Z.e_L_lone_text ["_law_thing"] (toSp K 1 (sp_L_lone_text Z))) (F_L_blanks : FnOk P w K mg base (L2.CX P w) 4 Z.f_L_blanks Z.e_L_blanks ["_law_hand_here"] (toSp K 1 (sp_L_blanks Z))) (F_L_is_letter : FnOk P w K mg base (L2.CX P w) 2 Z.f_L_is_letter Z.e_L_is_letter ["_law_sign"] (toSp K 1 (sp_L_is_letter Z))) (F_L_sign_text : FnOk P w K mg base (L2.CX P w) 2 Z.f_L_sign_text Z.e_L_sign_text ["_law_thing"] (toSp K 1 (sp_L_sign_text Z))) (F_L_draw : FnOk P w K mg base (L2.CX P w) 3 Z.f_L_draw Z.e_L_draw ["_law_hand_here", "_law_many"] (toSp K 2 (sp_L_draw Z))) {kk : Nat} (hk : 6 ≤ kk) {spr : SpX} (F_L_loose : FnOk P w K mg base (L2.CX P w) kk Z.f_L_loose Z.e_L_loose ["_law_hand_here", "_law_thing", "_law_tight"] (toSp K 3 spr)) {sps : SpX} (pure : ∀ xs M R Px, xs.length = 3 → sps xs M R Px → t_L_loose spr Z { nx := fun _ M' => R (.d .none) M', rt := R, ex := Px } (startX N_L_loose xs) M) :
    FnOk P w K mg base (L2.CX P w) (kk + 1) Z.f_L_loose Z.e_L_loose ["_law_hand_here", "_law_thing", "_law_tight"] (toSp K 3 (sps)) := fn_x z.F_L_loose sc_L_loose rfl (t_L_loose spr Z) (fun cdv A outer s H E hr => b_L_loose z F_L_lone_text F_L_blanks F_L_is_letter F_L_sign_text F_L_draw hk F_L_loose hr) pure
end
end Y
set_option maxHeartbeats 4000000
namespace Y
open PySem PySem.Spec PyProof.Rows L2
theorem cInt_i {i : Int} {M : MH} {R : DR} {P : PX} : cInt [.d (.int i)] M R P = R (.d (.int i)) M := rfl
theorem cInt_b {b : Bool} {M : MH} {R : DR} {P : PX} : cInt [.d (.bool b)] M R P = R (.d (.int (if b then 1 else 0))) M := rfl
theorem dMul_i {a b : Int} {M : MH} {R : DR} {P : PX} (h : (-(2 ^ 64) < b ∧ b < 2 ^ 64) ∨ (-(2 ^ 64) < a ∧ a < 2 ^ 64)) : dMul (.d (.int a)) (.d (.int b)) M R P = R (.d (.int (a * b))) M := propext ⟨fun q => q.2, fun q => ⟨h.symm, q⟩⟩
theorem pure_L_mixed {Z : Ad} (xs : List Xv) (M : MH) (R : DR) (P : PX) (hl : xs.length = 2) (h : sp_L_mixed Z xs M R P) : t_L_mixed Z { nx := fun _ M' => R (.d .none) M', rt := R, ex := P } (startX N_L_mixed xs) M := by
  obtain ⟨c, t, rfl, h⟩ := h
  show dSeq _ _ _ [some (.d (.int c)), some (.d (.int t)), none] M
  simp only [dRet, dSet, dSeq, dIfS, dNext, dDrop, dVar, dC, dOp, dB, dAnd, dOr, dNot, dAndV, dOrV, dNotV, dIf, dNil, dCons, dApp, dChain, dSub, dMod, dDiv, dPow, dLt, dLe, dGt, dGe, dI, dNeg, List.getElem?_cons_zero, List.getElem?_cons_succ, List.set_cons_zero, List.set_cons_succ, cInt_i, dAdd_ii]
  refine ⟨by omega, ?_⟩
  rw [dMul_i (Or.inr ⟨by omega, by omega⟩)]
  simp only [dAdd_ii]
  rw [dMul_i (Or.inl ⟨by omega, by omega⟩)]
  simp only [cInt_i]
  refine ⟨by omega, ?_⟩
  generalize hn : (c % 2147483647 + 7919 * t + 1) * 48271 % 2147483647 = n
  have n0 : 0 ≤ n := by rw [← hn]; exact Int.emod_nonneg _ (by omega)
  have n1 : n < 2147483647 := by rw [← hn]; exact Int.emod_lt_of_pos _ (by omega)
  refine ⟨⟨by omega, by omega⟩, ?_⟩
  rw [dMul_i (Or.inr ⟨by omega, by omega⟩)]
  simp only [cInt_i]
  refine ⟨by omega, ?_⟩
  generalize hm : n * (n / 1009 + 69621) % 2147483647 = m
  have m0 : 0 ≤ m := by rw [← hm]; exact Int.emod_nonneg _ (by omega)
  have m1 : m < 2147483647 := by rw [← hm]; exact Int.emod_lt_of_pos _ (by omega)
  refine ⟨⟨by omega, by omega⟩, ?_⟩
  rw [dMul_i (Or.inr ⟨by omega, by omega⟩)]
  simp only [cInt_i]
  exact ⟨by omega, ⟨by omega, by omega⟩, h _⟩
theorem pure_L_hand {Z : Ad} (xs : List Xv) (M : MH) (R : DR) (P : PX) (hl : xs.length = 1) (h : sp_L_hand Z xs M R P) : t_L_hand Z { nx := fun _ M' => R (.d .none) M', rt := R, ex := P } (startX N_L_hand xs) M := by
  obtain ⟨ns, rfl, h⟩ := h
  show dRet _ _ [some (.d (.list (ns.map .int))), none] M
  simp only [dRet, dLstM, dCons, dLcD, dSl, dNoP, dP, dVar, dC, List.getElem?_cons_zero, dCut]
  have e63 : cutD (ns.map PyData.int) none (some 63) = (ns.take 63).map PyData.int := by
    unfold cutD
    show ((ns.map PyData.int).drop 0).take (HT.sIx (ns.map PyData.int).length (ns.map PyData.int).length (some 63) - 0) = _
    have : HT.sIx (ns.map PyData.int).length (ns.map PyData.int).length (some 63) = min 63 ns.length := by
      show (if (63 : Int) < 0 then ((63 : Int) + ((ns.map PyData.int).length : Int)).toNat else min (63 : Int).toNat (ns.map PyData.int).length) = _
      rw [if_neg (by decide), List.length_map]
      rfl
    rw [this, List.drop_zero, Nat.sub_zero, ← List.map_take]
    congr 1
    by_cases q : ns.length ≤ 63
    · rw [Nat.min_eq_right q, List.take_of_length_le (Nat.le_refl _), List.take_of_length_le q]
    · rw [Nat.min_eq_left (by omega)]
  rw [e63]
  refine dComp_of (fun k => .int ((ns.take 63).getD k 0)) (by rw [List.length_map, List.length_take, sizeLine_eq]; omega) (fun k hk M' _ => ?_) ?_
  · rw [List.length_map] at hk
    show dApp cInt (dCons (dVar 1) dNil) [some (.d (.list (ns.map .int))), some (.d (((ns.take 63).map PyData.int).getD k .none))] M' _ _
    have e : ((ns.take 63).map PyData.int).getD k .none = .int ((ns.take 63).getD k 0) := by
      rw [List.getD_eq_getElem?_getD, List.getD_eq_getElem?_getD, List.getElem?_map, List.getElem?_eq_getElem hk]
      rfl
    rw [e]
    exact ⟨rfl, rfl⟩
  · have e := range_getD PyData.int 0 (ns.take 63)
    rw [List.length_map, e]
    refine ⟨by rw [sizeLine_eq]; simp, fun p hp => h p _ hp ⟨ns.take 63, 0, 0, 0, rfl⟩⟩
section
variable {Z : Ad} {p : Addr} {M : MH} {o : MO} {r : DEnv} {R : DR} {P : PX}
theorem hand_i {spx : SpX} {pre : List Xv → Prop} {res : List Xv → PyData → Prop} {n : Nat} {ta : DA} (hs : spx = handSp pre res) (ys : List Xv) (hta : ∀ R P, R (.r (.ref p) :: ys) (mset M p o) → ta r (mset M p o) R P) (hn : ys.length + 1 = n) (ho : isHand o) (hpre : pre ys)
    (h : ∀ o' d, isHand o' → res ys d → R (.d d) (mset M p o')) : dCall n spx ta r (mset M p o) R P := by
  refine hta _ _ ⟨hn, ?_⟩
  rw [hs]
  refine ⟨p, o, ys, rfl, mset_same, ho, hpre, fun o' d h1 h2 => ?_⟩
  rw [mset_mset]
  exact h o' d h1 h2
theorem draw_h {i : Nat} {dn : DX} (n : Int) (hv : r[i]? = some (some (.r (.ref p)))) (hn : ∀ R P, R (.d (.int n)) (mset M p o) → dn r (mset M p o) R P) (ho : isHand o) (h1 : 1 ≤ n) (h2 : n < 1073741824) (h : ∀ o' m, isHand o' → 0 ≤ m → m < n → R (.d (.int m)) (mset M p o')) :
    dCall 2 (sp_L_draw Z) (dCons (dVar i) (dCons dn dNil)) r (mset M p o) R P := by
  refine hand_i rfl [.d (.int n)] (fun R P q => ?_) rfl ho ⟨n, rfl, h1, h2⟩ fun o' d ho' hd => ?_
  · unfold dCons dVar
    rw [hv]
    exact hn _ _ q
  · obtain ⟨n', m, e, rfl, m0, m1⟩ := hd
    cases e
    exact h o' m ho' m0 m1
end
theorem dIx_m {p : Addr} {xs : List Xv} {i : Int} {x : Xv} {M : MH} {R : DR} {P : PX} (e : M p = some (.lst xs)) (l : atI xs i = some x) : dIx (.r (.ref p)) (.d (.int i)) M R P = R x M := by
  show (match M p with
    | some (.lst xs) => (match atI xs i with
      | some x => R x M
      | none => False)
    | _ => False) = _
  rw [e]
  dsimp only
  rw [l]
theorem cMin_i {a b : Int} {M : MH} {R : DR} {P : PX} : cMin [.d (.int a), .d (.int b)] M R P = R (.d (.int (if b < a then b else a))) M := rfl
theorem cAbs_i {a : Int} {M : MH} {R : DR} {P : PX} : cAbs [.d (.int a)] M R P = R (.d (.int (if a < 0 then -a else a))) M := rfl
theorem dMod_i {a b : Int} {M : MH} {R : DR} {P : PX} (h : 0 < b) : dMod (.d (.int a)) (.d (.int b)) M R P = R (.d (.int (a % b))) M := propext ⟨fun q => q.2, fun q => ⟨h, q⟩⟩
theorem dDiv_i {a b : Int} {M : MH} {R : DR} {P : PX} (h : 0 < b ∧ b < 1073741824) : dDiv (.d (.int a)) (.d (.int b)) M R P = R (.d (.int (a / b))) M := propext ⟨fun q => q.2, fun q => ⟨h, q⟩⟩
theorem dSub_i {a b : Int} {M : MH} {R : DR} {P : PX} : dSub (.d (.int a)) (.d (.int b)) M R P = R (.d (.int (a - b))) M := propext ⟨fun q => q.2, fun q => ⟨trivial, q⟩⟩
theorem dLt_i {a b : Int} {M : MH} {R : DR} {P : PX} : dLt (.d (.int a)) (.d (.int b)) M R P = R (.d (.bool (decide (a < b)))) M := propext ⟨fun q => q.2, fun q => ⟨trivial, q⟩⟩
theorem dLe_i {a b : Int} {M : MH} {R : DR} {P : PX} : dLe (.d (.int a)) (.d (.int b)) M R P = R (.d (.bool (decide (a ≤ b)))) M := propext ⟨fun q => q.2, fun q => ⟨trivial, q⟩⟩
theorem dGt_i {a b : Int} {M : MH} {R : DR} {P : PX} : dGt (.d (.int a)) (.d (.int b)) M R P = R (.d (.bool (decide (b < a)))) M := propext ⟨fun q => q.2, fun q => ⟨trivial, q⟩⟩
theorem dGe_i {a b : Int} {M : MH} {R : DR} {P : PX} : dGe (.d (.int a)) (.d (.int b)) M R P = R (.d (.bool (decide (b ≤ a)))) M := propext ⟨fun q => q.2, fun q => ⟨trivial, q⟩⟩
theorem dPow_i {a b : Int} {M : MH} {R : DR} {P : PX} (h : 0 ≤ b ∧ b ≤ 1000000 ∧ a.natAbs < 2 ^ 64) : dPow (.d (.int a)) (.d (.int b)) M R P = R (.d (.int (a ^ b.toNat))) M := propext ⟨fun q => q.2, fun q => ⟨h, q⟩⟩
theorem put_i {p : Addr} {xs : List Xv} {i : Int} {j : Nat} {y : Xv} {dv dobj di : DX} {D : DEnds} {r : DEnv} {M : MH} (hv : ∀ R P, R y M → dv r M R P) (ho : ∀ R P, R (.r (.ref p)) M → dobj r M R P) (hi : ∀ R P, R (.d (.int i)) M → di r M R P) (e : M p = some (.lst xs)) (hj : ixN xs.length i = some j)
    (h : D.nx r (mset M p (.lst (xs.set j y)))) : dPut dv dobj di D r M := by
  refine hv _ _ (ho _ _ (hi _ _ ?_))
  dsimp only
  rw [e]
  dsimp only
  rw [hj]
  exact h
/-! ### expressions that only look -/
def Ev (da : DX) (r : DEnv) (M : MH) (x : Xv) : Prop := ∀ (R : DR) (P : PX), R x M → da r M R P
def EvT (t : DT) (r : DEnv) (M : MH) (b : Bool) : Prop := ∀ (R : Bool → MH → Prop) (P : PX), R b M → t r M R P
section
variable {da db dc : DX} {r : DEnv} {M : MH} {x y z : Xv} {i j : Int} {t u : DT} {b c : Bool} {D : DEnds} {tb te : DS}
theorem ev_var {n : Nat} (h : r[n]? = some (some x)) : Ev (dVar n) r M x := fun R P q => by
  unfold dVar
  rw [h]
  exact q
theorem ev_c : Ev (dC x) r M x := fun R P q => q
theorem ev_op {o : D2} (ha : Ev da r M x) (hb : Ev db r M y) (ho : ∀ (R : DR) (P : PX), R z M → o x y M R P) : Ev (dOp o da db) r M z := fun R P q => ha _ _ (hb _ _ (ho _ _ q))
theorem ev_add (ha : Ev da r M (.d (.int i))) (hb : Ev db r M (.d (.int j))) : Ev (dOp dAdd da db) r M (.d (.int (i + j))) := ev_op ha hb fun _ _ q => q
theorem ev_adds {a b : Str} (ha : Ev da r M (.d (.str a))) (hb : Ev db r M (.d (.str b))) (h : a.length + b.length ≤ sizeLine) : Ev (dOp dAdd da db) r M (.d (.str (a ++ b))) := ev_op ha hb fun _ _ q => ⟨h, q⟩
theorem ev_sub (ha : Ev da r M (.d (.int i))) (hb : Ev db r M (.d (.int j))) : Ev (dOp dSub da db) r M (.d (.int (i - j))) := ev_op ha hb fun _ _ q => ⟨trivial, q⟩
theorem ev_mod (ha : Ev da r M (.d (.int i))) (hb : Ev db r M (.d (.int j))) (h : 0 < j) : Ev (dOp dMod da db) r M (.d (.int (i % j))) := ev_op ha hb fun _ _ q => ⟨h, q⟩
theorem ev_div (ha : Ev da r M (.d (.int i))) (hb : Ev db r M (.d (.int j))) (h : 0 < j ∧ j < 1073741824) : Ev (dOp dDiv da db) r M (.d (.int (i / j))) := ev_op ha hb fun _ _ q => ⟨h, q⟩
theorem ev_pow (ha : Ev da r M (.d (.int i))) (hb : Ev db r M (.d (.int j))) (h : 0 ≤ j ∧ j ≤ 1000000 ∧ i.natAbs < 2 ^ 64) : Ev (dOp dPow da db) r M (.d (.int (i ^ j.toNat))) := ev_op ha hb fun _ _ q => ⟨h, q⟩
theorem ev_p18 : Ev (dOp dPow (dC (.d (.int 10))) (dC (.d (.int 18)))) r M (.d (.int 1000000000000000000)) := ev_pow (i := 10) (j := 18) ev_c ev_c ⟨by decide, by decide, by decide⟩
theorem ev_p8 : Ev (dOp dPow (dC (.d (.int 10))) (dC (.d (.int 8)))) r M (.d (.int 100000000)) := ev_pow (i := 10) (j := 8) ev_c ev_c ⟨by decide, by decide, by decide⟩
theorem ev_neg (ha : Ev da r M (.d (.int i))) : Ev (dNeg da) r M (.d (.int (-i))) := fun R P q => ha _ _ q
theorem ev_app1 {f : DC} (ha : Ev da r M x) (h : ∀ (R : DR) (P : PX), R z M → f [x] M R P) : Ev (dApp f (dCons da dNil)) r M z := fun R P q => ha _ _ (h _ _ q)
theorem ev_app2 {f : DC} (ha : Ev da r M x) (hb : Ev db r M y) (h : ∀ (R : DR) (P : PX), R z M → f [x, y] M R P) : Ev (dApp f (dCons da (dCons db dNil))) r M z := fun R P q => ha _ _ (hb _ _ (h _ _ q))
theorem ev_int (ha : Ev da r M (.d (.int i))) : Ev (dApp cInt (dCons da dNil)) r M (.d (.int i)) := ev_app1 ha fun _ _ q => q
theorem ev_intb (ha : Ev da r M (.d (.bool b))) : Ev (dApp cInt (dCons da dNil)) r M (.d (.int (if b then 1 else 0))) := ev_app1 ha fun _ _ q => q
theorem ev_abs (ha : Ev da r M (.d (.int i))) : Ev (dApp cAbs (dCons da dNil)) r M (.d (.int (if i < 0 then -i else i))) := ev_app1 ha fun _ _ q => q
theorem ev_min (ha : Ev da r M (.d (.int i))) (hb : Ev db r M (.d (.int j))) : Ev (dApp cMin (dCons da (dCons db dNil))) r M (.d (.int (if j < i then j else i))) := ev_app2 ha hb fun _ _ q => q
theorem ev_max (ha : Ev da r M (.d (.int i))) (hb : Ev db r M (.d (.int j))) : Ev (dApp cMax (dCons da (dCons db dNil))) r M (.d (.int (if j > i then j else i))) := ev_app2 ha hb fun _ _ q => q
theorem ev_len {n : Nat} (ha : Ev da r M x) (h : lenX M x = some n) : Ev (dApp cLen (dCons da dNil)) r M (.d (.int (n : Nat))) := ev_app1 ha fun R P q => by
  unfold cLen
  dsimp only
  rw [h]
  exact q
theorem ev_lens {s : Str} (ha : Ev da r M (.d (.str s))) (h : s.length ≤ sizeLine) : Ev (dApp cLen (dCons da dNil)) r M (.d (.int (s.length : Nat))) := ev_len ha (by show (if s.length ≤ sizeLine then some s.length else none) = _; rw [if_pos h])
theorem ev_ixl {ds : List PyData} {d : PyData} (ha : Ev da r M (.d (.list ds))) (hb : Ev db r M (.d (.int i))) (h : atI ds i = some d) : Ev (dOp dIx da db) r M (.d d) := ev_op ha hb fun R P q => by rw [dIx_l h]; exact q
theorem ev_ixt {ds : List PyData} {d : PyData} (ha : Ev da r M (.d (.tuple ds))) (hb : Ev db r M (.d (.int i))) (h : atI ds i = some d) : Ev (dOp dIx da db) r M (.d d) := ev_op ha hb fun R P q => by rw [dIx_t h]; exact q
theorem ev_ixm {p : Addr} {xs : List Xv} (ha : Ev da r M (.r (.ref p))) (hb : Ev db r M (.d (.int i))) (e : M p = some (.lst xs)) (h : atI xs i = some x) : Ev (dOp dIx da db) r M x := ev_op ha hb fun R P q => by rw [dIx_m e h]; exact q
theorem ev_ixs {s : Str} {n : Nat} (ha : Ev da r M (.d (.str s))) (hb : Ev db r M (.d (.int i))) (hl : s.length ≤ sizeLine) (h : atI s.cps.toList i = some n) : Ev (dOp dIx da db) r M (.d (.str (one n))) := ev_op ha hb fun R P q => by
  refine ⟨hl, ?_⟩
  rw [h]
  exact q
theorem ev_lst {ta : DA} {ds : List PyData} (h : ∀ (R : List Xv → MH → Prop) (P : PX), R (ds.map .d) M → ta r M R P) (hl : ds.length ≤ sizeLine) : Ev (dLst ta) r M (.d (.list ds)) := fun R P q => by
  refine h _ _ ⟨by rw [List.length_map]; exact hl, ?_⟩
  rw [allD_map]
  exact q
theorem ev_tup {ta : DA} {ds : List PyData} (h : ∀ (R : List Xv → MH → Prop) (P : PX), R (ds.map .d) M → ta r M R P) (hl : ds.length ≤ sizeLine) : Ev (dTup ta) r M (.d (.tuple ds)) := fun R P q => by
  refine h _ _ ⟨by rw [List.length_map]; exact hl, ?_⟩
  rw [allD_map]
  exact q
theorem ev_lt (ha : Ev da r M (.d (.int i))) (hb : Ev db r M (.d (.int j))) : Ev (dOp dLt da db) r M (.d (.bool (decide (i < j)))) := ev_op ha hb fun _ _ q => ⟨trivial, q⟩
theorem ev_le (ha : Ev da r M (.d (.int i))) (hb : Ev db r M (.d (.int j))) : Ev (dOp dLe da db) r M (.d (.bool (decide (i ≤ j)))) := ev_op ha hb fun _ _ q => ⟨trivial, q⟩
theorem ev_gt (ha : Ev da r M (.d (.int i))) (hb : Ev db r M (.d (.int j))) : Ev (dOp dGt da db) r M (.d (.bool (decide (j < i)))) := ev_op ha hb fun _ _ q => ⟨trivial, q⟩
theorem ev_ge (ha : Ev da r M (.d (.int i))) (hb : Ev db r M (.d (.int j))) : Ev (dOp dGe da db) r M (.d (.bool (decide (j ≤ i)))) := ev_op ha hb fun _ _ q => ⟨trivial, q⟩
theorem ev_eqi (ha : Ev da r M (.d (.int i))) (hb : Ev db r M (.d (.int j))) : Ev (dOp dEq da db) r M (.d (.bool (i == j))) := ev_op ha hb fun R P q => by rw [dEq_ii]; exact q
theorem ev_eqs {a b : Str} (ha : Ev da r M (.d (.str a))) (hb : Ev db r M (.d (.str b))) : Ev (dOp dEq da db) r M (.d (.bool (a == b))) := ev_op ha hb fun R P q => by rw [dEq_ss]; exact q
theorem ev_nes {a b : Str} (ha : Ev da r M (.d (.str a))) (hb : Ev db r M (.d (.str b))) : Ev (dOp dNe da db) r M (.d (.bool (!(a == b)))) := ev_op ha hb fun R P q => by rw [dNe_ss]; exact q
theorem evt (h : Ev da r M (.d (.bool b))) : EvT (dB da) r M b := fun R P q => h _ _ q
theorem evt_and (h : EvT t r M b) (h2 : b = true → EvT u r M c) : EvT (dAnd t u) r M (b && c) := fun R P q => h _ _ (by
  cases b with
  | true => rw [if_pos rfl]; exact h2 rfl _ _ q
  | false => rw [if_neg Bool.false_ne_true]; exact q)
theorem evt_or (h : EvT t r M b) (h2 : b = false → EvT u r M c) : EvT (dOr t u) r M (b || c) := fun R P q => h _ _ (by
  cases b with
  | false => rw [if_neg Bool.false_ne_true]; exact h2 rfl _ _ q
  | true => rw [if_pos rfl]; exact q)
theorem evt_not (h : EvT t r M b) : EvT (dNot t) r M (!b) := fun R P q => h _ _ q
theorem seq_i (h : tb { D with nx := te D } r M) : dSeq tb te D r M := h
theorem set_i {n : Nat} (h : Ev da r M x) (q : D.nx (r.set n (some x)) M) : dSet n da D r M := h _ _ q
theorem ret_i (h : Ev da r M x) (q : D.rt x M) : dRet da D r M := h _ _ q
theorem if_i (h : EvT t r M b) (h1 : b = true → tb D r M) (h2 : b = false → te D r M) : dIfS t tb te D r M := h _ _ (by
  cases b with
  | true => rw [if_pos rfl]; exact h1 rfl
  | false => rw [if_neg Bool.false_ne_true]; exact h2 rfl)
end
section
variable {da db dc : DX} {r : DEnv} {M : MH} {x y z : Xv} {i : Int} {t : DT} {b : Bool} {D : DEnds} {ta te : DS}
theorem sset {n : Nat} (h : Ev da r M x) (q : te D (r.set n (some x)) M) : dSeq (dSet n da) te D r M := h _ _ q
theorem sput {p : Addr} {xs : List Xv} {j : Nat} {dv dobj di : DX} (hv : Ev dv r M y) (ho : Ev dobj r M (.r (.ref p))) (hi : Ev di r M (.d (.int i))) (e : M p = some (.lst xs)) (hj : ixN xs.length i = some j)
    (h : te D r (mset M p (.lst (xs.set j y)))) : dSeq (dPut dv dobj di) te D r M := put_i (D := { D with nx := te D }) hv ho hi e hj h
theorem sif (h : EvT t r M b) (h1 : b = true → ta { D with nx := te D } r M) (h2 : b = false → te D r M) : dSeq (dIfS t ta dNext) te D r M := if_i (D := { D with nx := te D }) h h1 h2
theorem sif2 {tc : DS} (h : EvT t r M b) (h1 : b = true → ta { D with nx := te D } r M) (h2 : b = false → tc { D with nx := te D } r M) : dSeq (dIfS t ta tc) te D r M := if_i (D := { D with nx := te D }) h h1 h2
theorem spar {n m : Nat} (ha : Ev da r M x) (hb : Ev db r M y) (q : te D ((r.set n (some x)).set m (some y)) M) : dSeq (dPar n m (dCons da (dCons db dNil))) te D r M := ha _ _ (hb _ _ q)
end
theorem pure_L_draw {Z : Ad} (xs : List Xv) (M : MH) (R : DR) (P : PX) (hl : xs.length = 2) (h : sp_L_draw Z xs M R P) : t_L_draw Z { nx := fun _ M' => R (.d .none) M', rt := R, ex := P } (startX N_L_draw xs) M := by
  obtain ⟨p, o, ys, rfl, e, ⟨cells, a, d, c, rfl⟩, ⟨n, rfl, n1, n2⟩, h⟩ := h
  have h' : ∀ cells a d c (x : Int), R (.d (.int (x % n))) (mset M p (handO cells a d c)) := fun cells a d c x => h _ _ ⟨cells, a, d, c, rfl⟩ ⟨n, _, rfl, rfl, Int.emod_nonneg _ (by omega), Int.emod_lt_of_pos _ (by omega)⟩
  show dSeq _ _ _ [some (.r (.ref p)), some (.d (.int n)), none, none, none, none] M
  refine sput (y := .d (.int ((c : Int) + 1))) (j := 3) (i := 3) (ev_add (ev_ixm (i := 3) (ev_var rfl) ev_c e rfl) ev_c) (ev_var rfl) ev_c e rfl ?_
  have e1 : mset M p (.lst ([Xv.d (.list (cells.map .int)), .d (.int (a : Nat)), .d (.int (d : Nat)), .d (.int (c : Nat))].set 3 (.d (.int ((c : Int) + 1))))) = mset M p (handO cells a d (c + 1)) := rfl
  rw [e1]
  have e2 : mset M p (handO cells a d (c + 1)) p = some (.lst [.d (.list (cells.map .int)), .d (.int (a : Nat)), .d (.int (d : Nat)), .d (.int ((c + 1 : Nat) : Int))]) := mset_same
  refine sif (evt (ev_gt (ev_ixm (i := 2) (ev_var rfl) ev_c e2 rfl) ev_c)) (fun _ => ?_) (fun _ => ?_)
  · refine sset (ev_mod (ev_int (ev_ixm (i := 2) (ev_var rfl) ev_c e2 rfl)) (ev_var rfl) (by omega)) ?_
    have en : (d : Int) / n = ((d / n.toNat : Nat) : Int) := by
      have en : n = (n.toNat : Int) := by omega
      rw [en]
      simp
    refine sput (y := .d (.int ((d / n.toNat : Nat) : Int))) (j := 2) (i := 2) ?_ (ev_var rfl) ev_c e2 rfl ?_
    · rw [← en]
      exact ev_div (ev_ixm (i := 2) (ev_var rfl) ev_c e2 rfl) (ev_var rfl) ⟨by omega, n2⟩
    · rw [mset_mset]
      exact h' cells a (d / n.toNat) (c + 1) _
  · refine spar (ev_ixm (i := 0) (ev_var rfl) ev_c e2 rfl) (ev_ixm (i := 1) (ev_var rfl) ev_c e2 rfl) ?_
    refine sput (y := .d (.int ((a : Int) + 1))) (j := 1) (i := 1) (ev_add (ev_var rfl) ev_c) (ev_var rfl) ev_c e2 rfl ?_
    rw [mset_mset]
    have e3 : mset M p (.lst ([Xv.d (.list (cells.map .int)), .d (.int (a : Nat)), .d (.int (d : Nat)), .d (.int ((c + 1 : Nat) : Int))].set 1 (.d (.int ((a : Int) + 1))))) = mset M p (handO cells (a + 1) d (c + 1)) := rfl
    rw [e3]
    have e4 : mset M p (handO cells (a + 1) d (c + 1)) p = some (.lst [.d (.list (cells.map .int)), .d (.int ((a + 1 : Nat) : Int)), .d (.int (d : Nat)), .d (.int ((c + 1 : Nat) : Int))]) := mset_same
    have hmix : ∀ (x : Int) (dx : DX) (r : DEnv), r[0]? = some (some (.r (.ref p))) → r[1]? = some (some (.d (.int n))) → Ev dx r (mset M p (handO cells (a + 1) d (c + 1))) (.d (.int x)) →
        dRet (dOp dMod (dApp cInt (dCons (dCall 2 (sp_L_mixed Z) (dCons dx (dCons (dOp dIx (dVar 0) (dC (.d (.int 3)))) dNil))) dNil)) (dVar 1)) { nx := fun _ M' => R (.d .none) M', rt := R, ex := P } r (mset M p (handO cells (a + 1) d (c + 1))) := by
      intro x dx r h0 h1 hx
      refine hx _ _ ?_
      refine (ev_ixm (i := 3) (ev_var h0) ev_c e4 rfl : Ev _ _ _ _) _ _ ?_
      refine ⟨rfl, x, _, rfl, fun i => ?_⟩
      simp only [dNil, cInt_i]
      refine (ev_var h1 : Ev _ _ _ _) _ _ ?_
      exact ⟨by omega, h' _ _ _ _ _⟩
    refine sif (evt (ev_eqi (ev_len (x := .d (.list (cells.map .int))) (n := (cells.map PyData.int).length) (ev_var rfl) rfl) ev_c)) (fun _ => ?_) (fun q0 => ?_)
    · exact hmix 0 _ _ rfl rfl ev_c
    · have hpos : 0 < cells.length := by
        rcases Nat.eq_zero_or_pos cells.length with z | z
        · rw [List.length_map, z] at q0
          cases q0
        · exact z
      have hmod : 0 ≤ (a : Int) % ((cells.map PyData.int).length : Int) ∧ (a : Int) % ((cells.map PyData.int).length : Int) < ((cells.map PyData.int).length : Int) := by
        rw [List.length_map]
        exact ⟨Int.emod_nonneg _ (by omega), Int.emod_lt_of_pos _ (by omega)⟩
      obtain ⟨cell, ecell⟩ : ∃ cell, atI (cells.map PyData.int) ((a : Int) % ((cells.map PyData.int).length : Int)) = some (.int cell) := by
        unfold atI ixN
        rw [if_pos hmod.1, if_pos hmod.2]
        show ∃ cell, (cells.map PyData.int)[((a : Int) % ((cells.map PyData.int).length : Int)).toNat]? = some (.int cell)
        rw [List.getElem?_map, List.getElem?_eq_getElem (by have := hmod; rw [List.length_map] at this ⊢; omega)]
        exact ⟨_, rfl⟩
      refine sset (ev_ixl (ev_var rfl) (ev_mod (ev_int (ev_var rfl)) (ev_len (x := .d (.list (cells.map .int))) (n := (cells.map PyData.int).length) (ev_var rfl) rfl) (by rw [List.length_map]; omega)) ecell) ?_
      refine sif (evt_and (evt (ev_lt (ev_var rfl) (ev_len (x := .d (.list (cells.map .int))) (n := (cells.map PyData.int).length) (ev_var rfl) rfl))) (fun _ => evt (ev_ge (ev_abs (ev_var rfl)) ev_p18))) (fun _ => ?_) (fun _ => ?_)
      · have hnn : 0 ≤ (if cell < 0 then -cell else cell) / n := Int.ediv_nonneg (by split <;> omega) (by omega)
        have en : (((if cell < 0 then -cell else cell) / n).toNat : Int) = (if cell < 0 then -cell else cell) / n := by omega
        refine sput (y := .d (.int (((if cell < 0 then -cell else cell) / n).toNat : Nat))) (j := 2) (i := 2) ?_ (ev_var rfl) ev_c e4 rfl ?_
        · rw [en]
          exact ev_div (ev_abs (ev_var rfl)) (ev_var rfl) ⟨by omega, n2⟩
        · rw [mset_mset]
          refine ret_i (ev_mod (ev_int (ev_abs (ev_var rfl))) (ev_var rfl) (by omega)) ?_
          exact h' cells (a + 1) (((if cell < 0 then -cell else cell) / n).toNat) (c + 1) _
      · exact hmix cell _ _ rfl rfl (ev_var rfl)
end Y
set_option maxHeartbeats 4000000
namespace Y
open PySem PySem.Spec PyProof.Rows L2
theorem atI_mem {α : Type} {l : List α} {i : Int} (h0 : 0 ≤ i) (h1 : i < (l.length : Nat)) : ∃ x, x ∈ l ∧ atI l i = some x := by
  unfold atI ixN
  rw [if_pos h0, if_pos h1]
  have h2 : i.toNat < l.length := by omega
  exact ⟨l[i.toNat], List.getElem_mem h2, List.getElem?_eq_getElem h2⟩
section
variable {da db dc : DX} {r : DEnv} {M : MH} {x y z : Xv} {i : Int} {t : DT} {b : Bool} {D : DEnds} {tb te : DS} {R : DR} {P : PX} {o : D2} {f : DC} {ta : DA}
theorem op_l (h : Ev da r M x) (q : db r M (fun y M2 => o x y M2 R P) P) : dOp o da db r M R P := h _ _ q
theorem op_v (h : da r M (fun x M1 => db r M1 (fun y M2 => o x y M2 R P) P) P) : dOp o da db r M R P := h
theorem set_v {n : Nat} (h : da r M (fun x M1 => te D (r.set n (some x)) M1) D.ex) : dSeq (dSet n da) te D r M := h
theorem app_v (h : da r M (fun x M1 => f [x] M1 R P) P) : dApp f (dCons da dNil) r M R P := h
theorem cons_v {Ra : List Xv → MH → Prop} (h : da r M (fun x M1 => ta r M1 (fun xs M2 => Ra (x :: xs) M2) P) P) : dCons da ta r M Ra P := h
theorem cons_e {Ra : List Xv → MH → Prop} (h : Ev da r M x) (q : ta r M (fun xs M2 => Ra (x :: xs) M2) P) : dCons da ta r M Ra P := h _ _ q
theorem nil_e {Ra : List Xv → MH → Prop} (q : Ra [] M) : dNil r M Ra P := q
theorem drop_v (h : da r M (fun _ M1 => te D r M1) D.ex) : dSeq (dDrop da) te D r M := h
theorem sforR1 {n : Nat} {k0 : Nat} (h : Ev da r M (.d (.int (n : Nat)))) (hn : n < 1000000) (I : Nat → DEnv → MH → Prop) (h0 : I 0 r M) (hs : ∀ k r M, k < n → I k r M → tb { D with nx := I (k + 1), ct := I (k + 1), bk := te D } (r.set k0 (some (.d (.int (k : Nat))))) M)
    (he : ∀ r M, I n r M → te D r M) : dSeq (dForR1 da k0 tb) te D r M := by
  refine h _ _ ⟨by omega, by omega, I, h0, ?_, ?_⟩
  · intro k r M hk
    exact hs k r M (by simpa using hk)
  · intro r M hi
    refine he r M ?_
    simpa using hi
end
theorem ret_gho {da : DX} {r : DEnv} {M M2 : MH} {x y : Xv} {D : DEnds} (h : Ev da r M x) (g : Gho M x M2 y) (q : D.rt y M2) : dRet (dGho da) D r M := h _ _ ⟨y, M2, g, q⟩
theorem sif_v {D : DEnds} {t : DT} {ta te : DS} {r : DEnv} {M : MH} (h : t r M (fun b M1 => if b = true then ta { D with nx := te D } r M1 else te D r M1) D.ex) : dSeq (dIfS t ta dNext) te D r M := h
/-- a test whether a draw is 0 -/
theorem draw0 {Z : Ad} {p : Addr} {M : MH} {o : MO} {r : DEnv} {i : Nat} {R : Bool → MH → Prop} {P : PX} (n : Int) (hv : r[i]? = some (some (.r (.ref p)))) (ho : isHand o) (h1 : 1 ≤ n) (h2 : n < 1073741824) (h : ∀ o' b, isHand o' → R b (mset M p o')) :
    dB (dOp dEq (dCall 2 (sp_L_draw Z) (dCons (dVar i) (dCons (dC (.d (.int n))) dNil))) (dC (.d (.int 0)))) r (mset M p o) R P := by
  unfold dB
  refine op_v (draw_h n hv (fun R P q => q) ho h1 h2 fun o' m ho' _ _ => ?_)
  unfold dC
  dsimp only
  rw [dEq_ii]
  exact h o' _ ho'
theorem gt0 {Z : Ad} {p : Addr} {M : MH} {o : MO} {r : DEnv} {i : Nat} {R : Bool → MH → Prop} {P : PX} (n : Int) (hv : r[i]? = some (some (.r (.ref p)))) (ho : isHand o) (h1 : 1 ≤ n) (h2 : n < 1073741824) (h : ∀ o' b, isHand o' → R b (mset M p o')) :
    dB (dOp dGt (dCall 2 (sp_L_draw Z) (dCons (dVar i) (dCons (dC (.d (.int n))) dNil))) (dC (.d (.int 0)))) r (mset M p o) R P := by
  unfold dB
  refine op_v (draw_h n hv (fun R P q => q) ho h1 h2 fun o' m ho' _ _ => ?_)
  exact ⟨trivial, h o' _ ho'⟩
theorem word_two {s : Str} (h : goodWord s) : ∃ a b, s = strL [a, b] ∧ letterC a = true ∧ letterC b = true := by
  obtain ⟨⟨l⟩⟩ := s
  obtain ⟨h1, h2⟩ := h
  match l, h1, h2 with
  | [a, b], h1, h2 =>
    have h3 : ([a, b].all letterC) = true := h2
    simp only [List.all_cons, List.all_nil, Bool.and_true, Bool.and_eq_true] at h3
    exact ⟨a, b, rfl, h3.1, h3.2⟩
  | [], h1, _ => cases h1
  | [_], h1, _ => cases h1
  | _ :: _ :: _ :: l, h1, _ =>
    have : (l.length + 1 + 1 + 1) = 2 := h1
    omega
theorem word_of {a b : Nat} (h1 : letterC a = true) (h2 : letterC b = true) : goodWord (strL [a, b]) := ⟨rfl, by show ([a, b].all letterC) = true; simp [h1, h2]⟩
theorem let_at {m : Int} (h0 : 0 ≤ m) (h1 : m < 26) : ∃ c, atI ("abcdefghijklmnopqrstuvwxyz" : Str).cps.toList m = some c ∧ letterC c = true := by
  have hl : ("abcdefghijklmnopqrstuvwxyz" : Str).cps.toList.length = 26 := by decide +kernel
  obtain ⟨c, hc, e⟩ := atI_mem (l := ("abcdefghijklmnopqrstuvwxyz" : Str).cps.toList) h0 (by rw [hl]; exact h1)
  exact ⟨c, e, decide_eq_true hc⟩
theorem app_len (s : Str) (c : Nat) : (s ++ one c).length = s.length + 1 := by
  show (s.cps ++ #[c]).size = s.cps.size + 1
  simp
theorem app_let (s : Str) (c : Nat) (h : allLet s = true) (q : letterC c = true) : allLet (s ++ one c) = true := by
  show ((s.cps ++ #[c]).toList.all letterC) = true
  unfold allLet at h
  simp only [Array.toList_append, List.all_append, h, Bool.true_and]
  simp [q]
theorem alph_len : ("abcdefghijklmnopqrstuvwxyz" : Str).length ≤ sizeLine := by
  have : ("abcdefghijklmnopqrstuvwxyz" : Str).length = 26 := by decide +kernel
  rw [this, sizeLine_eq]
  omega
theorem pure_L_letters {Z : Ad} (xs : List Xv) (M : MH) (R : DR) (P : PX) (hl : xs.length = 2) (h : sp_L_letters Z xs M R P) : t_L_letters Z { nx := fun _ M' => R (.d .none) M', rt := R, ex := P } (startX N_L_letters xs) M := by
  obtain ⟨p, o, ys, rfl, e, ho, ⟨n, rfl, hn⟩, h⟩ := h
  show dSeq _ _ _ [some (.r (.ref p)), some (.d (.int n)), none, none, none] M
  refine sset ev_c (sset ev_c ?_)
  refine sforR1 (n := n) (k0 := 4) (ev_var rfl) (by omega) (fun k r M' => ∃ o' s x4, isHand o' ∧ s.length = k ∧ allLet s = true ∧ r = [some (.r (.ref p)), some (.d (.int n)), some (.d (.str "abcdefghijklmnopqrstuvwxyz")), some (.d (.str s)), x4] ∧ M' = mset M p o')
    ⟨o, "", none, ho, by decide +kernel, by decide +kernel, rfl, (mset_id e).symm⟩ ?_ ?_
  · rintro k r M' hk ⟨o', s, x4, ho', hs, hall, rfl, rfl⟩
    refine op_l (ev_var rfl) (op_l (ev_var rfl) ?_)
    refine draw_h 26 rfl (fun R P q => q) ho' (by decide) (by decide) fun o2 m ho2 m0 m1 => ?_
    obtain ⟨c, ec, hc⟩ := let_at m0 m1
    refine ⟨alph_len, ?_⟩
    rw [ec]
    refine ⟨by rw [hs, sizeLine_eq]; show k + 1 ≤ _; omega, ?_⟩
    exact ⟨o2, s ++ one c, some (.d (.int (k : Nat))), ho2, by rw [app_len, hs], app_let s c hall hc, rfl, rfl⟩
  · rintro r M' ⟨o', s, x4, ho', hs, hall, rfl, rfl⟩
    exact ret_i (ev_var rfl) (h o' _ ho' ⟨n, s, rfl, rfl, hs, hall⟩)
/-- letters in a call -/
theorem letters_h {Z : Ad} {p : Addr} {M : MH} {o : MO} {r : DEnv} {R : DR} {P : PX} (hv : r[0]? = some (some (.r (.ref p)))) (ho : isHand o) (h : ∀ o' s, isHand o' → goodWord s → R (.d (.str s)) (mset M p o')) :
    dCall 2 (sp_L_letters Z) (dCons (dVar 0) (dCons (dC (.d (.int 2))) dNil)) r (mset M p o) R P := by
  refine hand_i rfl [.d (.int 2)] (fun R P q => ?_) rfl ho ⟨2, rfl, by decide⟩ fun o' d ho' hd => ?_
  · exact (ev_var hv : Ev _ _ _ _) _ _ q
  · obtain ⟨n, s, e, rfl, hs, ha⟩ := hd
    have : n = 2 := by
      have e' : ((2 : Nat) : Int) = (n : Int) := by
        injection e with e1 _
        injection e1 with e2
        injection e2 with e3
      omega
    exact h o' s ho' ⟨by rw [hs, this], ha⟩
theorem pure_L_words {Z : Ad} (xs : List Xv) (M : MH) (R : DR) (P : PX) (hl : xs.length = 1) (h : sp_L_words Z xs M R P) : t_L_words Z { nx := fun _ M' => R (.d .none) M', rt := R, ex := P } (startX N_L_words xs) M := by
  obtain ⟨p, o, ys, rfl, e, ho, rfl, h⟩ := h
  show dSeq _ _ _ [some (.r (.ref p)), none, none, none] M
  rw [← mset_id e]
  refine set_v ?_
  unfold dLstM
  refine cons_v (letters_h rfl ho fun o1 s1 ho1 hs1 => nil_e ⟨by rw [sizeLine_eq]; simp, fun q hq => ?_⟩)
  have qp : q ≠ p := fun z => by rw [z, mset_same] at hq; cases hq
  have q0 : M q = none := by rw [mset_ne qp] at hq; exact hq
  -- from here on: M with the list at q, the hand at p
  have swap : ∀ o1 ws, mset (mset M p o1) q (.lst ws) = mset (mset M q (.lst ws)) p o1 := fun o1 ws => by
    funext a
    unfold mset
    by_cases a1 : a = q
    · rw [if_pos a1, if_neg (fun z => qp (a1 ▸ z)), if_pos a1]
    · rw [if_neg a1]
      by_cases a2 : a = p
      · rw [if_pos a2, if_pos a2]
      · rw [if_neg a2, if_neg a2, if_neg a1]
  rw [swap]
  show dSeq _ _ _ [some (.r (.ref p)), some (.r (.ref q)), none, none] _
  show dForR1 _ _ _ _ _ _
  refine op_l ev_c (draw_h 2 rfl (fun R P q => q) ho1 (by decide) (by decide) fun o2 m ho2 m0 m1 => ?_)
  refine ⟨by omega, by omega, fun k r M' => ∃ o' ws x2 x3, isHand o' ∧ ws ≠ [] ∧ ws.length ≤ k + 1 ∧ (∀ s ∈ ws, goodWord s) ∧ r = [some (.r (.ref p)), some (.r (.ref q)), x2, x3] ∧ M' = mset (mset M q (.lst (ws.map fun s => .d (.str s)))) p o',
    ⟨o2, [s1], none, none, ho2, by simp, by simp, by simpa using hs1, rfl, rfl⟩, ?_, ?_⟩
  · rintro k r M' hk ⟨o3, ws, x2, x3, ho3, hne, hlen, hgood, rfl, rfl⟩
    have hk2 : k < 2 := by omega
    have tail : ∀ o4 s, isHand o4 → goodWord s → dIfS (dB (dOp (dInS true) (dVar 3) (dVar 1))) (dDrop (dBM "list" mApp (dVar 1) (dCons (dVar 3) dNil))) dNext { nx := fun r M' => ∃ o' ws x2 x3, isHand o' ∧ ws ≠ [] ∧ ws.length ≤ (k + 1) + 1 ∧ (∀ s ∈ ws, goodWord s) ∧ r = [some (.r (.ref p)), some (.r (.ref q)), x2, x3] ∧ M' = mset (mset M q (.lst (ws.map fun s => .d (.str s)))) p o', rt := R, ex := P } [some (.r (.ref p)), some (.r (.ref q)), some (.d (.int (k : Nat))), some (.d (.str s))] (mset (mset M q (.lst (ws.map fun s => .d (.str s)))) p o4) := by
      intro o4 s ho4 hs
      have eq4 : mset (mset M q (.lst (ws.map fun s => .d (.str s)))) p o4 q = some (.lst (ws.map fun s => .d (.str s))) := by rw [mset_ne qp, mset_same]
      have hin : ∀ (R : DR) (P : PX), R (.d (.bool (!(ws.map PyData.str).any fun z => PyData.eqv z (.str s)))) (mset (mset M q (.lst (ws.map fun s => .d (.str s)))) p o4) → dInS true (.d (.str s)) (.r (.ref q)) (mset (mset M q (.lst (ws.map fun s => .d (.str s)))) p o4) R P := fun R P qq => by
        have ei : itemsD (mset (mset M q (.lst (ws.map fun s => .d (.str s)))) p o4) (.r (.ref q)) = some (ws.map .str) := by
          unfold itemsD
          dsimp only
          rw [eq4]
          dsimp only
          have : (ws.map fun s => Xv.d (.str s)) = (ws.map PyData.str).map Xv.d := by rw [List.map_map]; rfl
          rw [this, allD_map]
        show match itemsD _ (.r (.ref q)) with
          | some ds => plainD (.str s) = true ∧ ds.all plainD = true ∧ _
          | none => False
        rw [ei]
        refine ⟨rfl, ?_, qq⟩
        rw [List.all_map]
        exact List.all_eq_true.mpr fun _ _ => rfl
      refine if_i (evt (ev_op (ev_var rfl) (ev_var rfl) hin)) (fun _ => ?_) (fun _ => ⟨o4, ws, _, _, ho4, hne, by omega, hgood, rfl, rfl⟩)
      unfold dDrop dBM
      refine (ev_var rfl : Ev (dVar 1) _ _ (.r (.ref q))) _ _ ⟨by unfold recT; dsimp only; rw [eq4]; rfl, ?_⟩
      refine cons_e (x := .d (.str s)) (ev_var rfl) (nil_e ?_)
      unfold mApp
      dsimp only
      rw [eq4]
      refine ⟨by rw [List.length_map, sizeLine_eq]; omega, ?_⟩
      refine ⟨o4, ws ++ [s], _, _, ho4, by simp, by simp; omega, fun u hu => ?_, rfl, ?_⟩
      · rcases List.mem_append.mp hu with hu | hu
        · exact hgood u hu
        · obtain rfl : u = s := by simpa using hu
          exact hs
      · rw [← swap, mset_mset, swap]
        simp
    refine set_v (letters_h rfl ho3 fun o4 s ho4 hs => ?_)
    refine sif_v (draw0 2 rfl ho4 (by decide) (by decide) fun o5 b5 ho5 => ?_)
    cases b5 with
    | false =>
      rw [if_neg Bool.false_ne_true]
      exact tail o5 s ho5 hs
    | true =>
      rw [if_pos rfl]
      obtain ⟨w0, wr, rfl⟩ : ∃ w0 wr, ws = w0 :: wr := by
        cases ws with
        | nil => exact absurd rfl hne
        | cons a l => exact ⟨a, l, rfl⟩
      obtain ⟨a, b, rfl, ha, hb⟩ := word_two (hgood w0 List.mem_cons_self)
      obtain ⟨c, d, rfl, hc, hd⟩ := word_two hs
      have eq5 : mset (mset M q (.lst ((strL [a, b] :: wr).map fun s => .d (.str s)))) p o5 q = some (.lst ((strL [a, b] :: wr).map fun s => .d (.str s))) := by rw [mset_ne qp, mset_same]
      have c1 : Ev (dSl (dOp dIx (dVar 1) (dC (.d (.int 0)))) dNoP (dP (dC (.d (.int 1))))) [some (.r (.ref p)), some (.r (.ref q)), some (.d (.int (k : Nat))), some (.d (.str (strL [c, d])))] (mset (mset M q (.lst ((strL [a, b] :: wr).map fun s => .d (.str s)))) p o5) (.d (.str (strL [a]))) := fun R P qq => by
        refine (ev_ixm (i := 0) (ev_var rfl) ev_c eq5 (atI_0 _ _) : Ev _ _ _ _) _ _ ?_
        exact ⟨by rw [sizeLine_eq]; show 2 ≤ _; omega, qq⟩
      have c2 : Ev (dSl (dVar 3) (dP (dC (.d (.int 1)))) dNoP) [some (.r (.ref p)), some (.r (.ref q)), some (.d (.int (k : Nat))), some (.d (.str (strL [c, d])))] (mset (mset M q (.lst ((strL [a, b] :: wr).map fun s => .d (.str s)))) p o5) (.d (.str (strL [d]))) := fun R P qq => by
        refine (ev_var rfl : Ev (dVar 3) _ _ (.d (.str (strL [c, d])))) _ _ ?_
        exact ⟨by rw [sizeLine_eq]; show 2 ≤ _; omega, qq⟩
      refine (ev_adds c1 c2 (by rw [sizeLine_eq]; show 1 + 1 ≤ _; omega) : Ev _ _ _ _) _ _ ?_
      exact tail o5 (strL [a, d]) ho5 (word_of ha hd)
  · rintro r M' ⟨o3, ws, x2, x3, ho3, hne, hlen, hgood, rfl, rfl⟩
    have hm2 : (1 + m).toNat ≤ 2 := by omega
    have eq3 : mset (mset M q (.lst (ws.map fun s => .d (.str s)))) p o3 q = some (.lst (ws.map fun s => .d (.str s))) := by rw [mset_ne qp, mset_same]
    dsimp only
    refine ret_gho (x := .r (.ref q)) (y := .d (.list (ws.map .str))) (M2 := mset M p o3) (ev_var rfl) ⟨fun a => ?_, Or.inr ⟨_, rfl, .l eq3 ?_ ?_⟩⟩ ?_
    · by_cases a1 : a = q
      · refine Or.inr ?_
        rw [a1, mset_ne qp]
        exact q0
      · refine Or.inl ?_
        unfold mset
        by_cases a2 : a = p
        · rw [if_pos a2, if_pos a2]
        · rw [if_neg a2, if_neg a2, if_neg a1]
    · rw [mset_ne qp]
      exact q0
    · have : (ws.map fun s => Xv.d (.str s)) = (ws.map PyData.str).map Xv.d := by rw [List.map_map]; rfl
      rw [this]
      exact DenAll.map _
    · exact h o3 _ ho3 ⟨ws, rfl, hne, by omega, hgood⟩
end Y
set_option maxHeartbeats 4000000
namespace Y
open PySem PySem.Spec PyProof.Rows L2
theorem mset_comm {M : MH} {p q : Addr} {a b : MO} (h : q ≠ p) : mset (mset M p a) q b = mset (mset M q b) p a := by
  funext x
  unfold mset
  by_cases a1 : x = q
  · rw [if_pos a1, if_neg (fun z => h (a1 ▸ z)), if_pos a1]
  · rw [if_neg a1]
    by_cases a2 : x = p
    · rw [if_pos a2, if_pos a2]
    · rw [if_neg a2, if_neg a2, if_neg a1]
/-- x is appended where it is not there yet -/
theorem add_new {p q : Addr} {M : MH} {o : MO} {ds : List PyData} {d : PyData} {i j : Nat} {r : DEnv} {D : DEnds} (qp : q ≠ p) (hi : r[i]? = some (some (.d d))) (hj : r[j]? = some (some (.r (.ref q)))) (hd : plainD d = true) (hds : ds.all plainD = true) (hl : ds.length < 1000)
    (h1 : D.nx r (mset (mset M q (.lst ((ds ++ [d]).map .d))) p o)) (h2 : D.nx r (mset (mset M q (.lst (ds.map .d))) p o)) :
    dIfS (dB (dOp (dInS true) (dVar i) (dVar j))) (dDrop (dBM "list" mApp (dVar j) (dCons (dVar i) dNil))) dNext D r (mset (mset M q (.lst (ds.map .d))) p o) := by
  have eq4 : mset (mset M q (.lst (ds.map .d))) p o q = some (.lst (ds.map .d)) := by rw [mset_ne qp, mset_same]
  have hin : ∀ (R : DR) (P : PX), R (.d (.bool (!ds.any fun z => PyData.eqv z d))) (mset (mset M q (.lst (ds.map .d))) p o) → dInS true (.d d) (.r (.ref q)) (mset (mset M q (.lst (ds.map .d))) p o) R P := fun R P qq => by
    have ei : itemsD (mset (mset M q (.lst (ds.map .d))) p o) (.r (.ref q)) = some ds := by
      unfold itemsD
      dsimp only
      rw [eq4]
      dsimp only
      rw [allD_map]
    cases d <;> first
      | (show match itemsD _ (.r (.ref q)) with
          | some ds => plainD _ = true ∧ ds.all plainD = true ∧ _
          | none => False
         rw [ei]
         exact ⟨hd, hds, qq⟩)
  refine if_i (evt (ev_op (ev_var hi) (ev_var hj) hin)) (fun _ => ?_) (fun _ => h2)
  unfold dDrop dBM
  refine (ev_var hj : Ev (dVar j) _ _ (.r (.ref q))) _ _ ⟨by unfold recT; dsimp only; rw [eq4]; rfl, ?_⟩
  refine cons_e (x := .d d) (ev_var hi) (nil_e ?_)
  unfold mApp
  dsimp only
  rw [eq4]
  refine ⟨by rw [List.length_map, sizeLine_eq]; omega, ?_⟩
  rw [← mset_comm qp, mset_mset, mset_comm qp]
  have : (ds ++ [d]).map Xv.d = ds.map Xv.d ++ [Xv.d d] := by simp
  rw [this] at h1
  exact h1
theorem int_plain (ns : List Int) : (ns.map PyData.int).all plainD = true := by
  rw [List.all_map]
  exact List.all_eq_true.mpr fun _ _ => rfl
theorem atI_ints {ns : List Int} {i : Int} (h0 : 0 ≤ i) (h1 : i < (ns.length : Nat)) : ∃ n, n ∈ ns ∧ atI (ns.map PyData.int) i = some (.int n) := by
  obtain ⟨x, hx, e⟩ := atI_mem (l := ns.map PyData.int) h0 (by rw [List.length_map]; exact h1)
  obtain ⟨n, hn, rfl⟩ := List.mem_map.mp hx
  exact ⟨n, hn, e⟩
theorem app2_v {f : DC} {da db : DX} {r : DEnv} {M : MH} {R : DR} {P : PX} (h : da r M (fun x M1 => db r M1 (fun y M2 => f [x, y] M2 R P) P) P) : dApp f (dCons da (dCons db dNil)) r M R P := h
theorem ix_list {ns : List Int} {m : Int} {M : MH} {R : DR} {P : PX} (h0 : 0 ≤ m) (h1 : m < (ns.length : Nat)) (h : ∀ n ∈ ns, R (.d (.int n)) M) : dIx (.d (.list (ns.map .int))) (.d (.int m)) M R P := by
  obtain ⟨n, hn, e⟩ := atI_ints h0 h1
  rw [dIx_l e]
  exact h n hn
theorem lst_v {ta : DA} {r : DEnv} {M : MH} {R : DR} {P : PX} (h : ta r M (fun xs M1 => xs.length ≤ sizeLine ∧ match allD xs with
  | some ds => R (.d (.list ds)) M1
  | none => False) P) : dLst ta r M R P := h
theorem tup_v {ta : DA} {r : DEnv} {M : MH} {R : DR} {P : PX} (h : ta r M (fun xs M1 => xs.length ≤ sizeLine ∧ match allD xs with
  | some ds => R (.d (.tuple ds)) M1
  | none => False) P) : dTup ta r M R P := h
abbrev wEnv (p q : Addr) (base m1 m2 : Int) (x4 x5 : Option Xv) : DEnv := [some (.r (.ref p)), some (.d (.list ([0, 1, 7, -5, 1000000000000000000, -1000000000000000000, m1, -1 - m2].map .int))), some (.d (.int base)), some (.r (.ref q)), x4, x5]
theorem pure_L_worths {Z : Ad} (xs : List Xv) (M : MH) (R : DR) (P : PX) (hl : xs.length = 1) (h : sp_L_worths Z xs M R P) : t_L_worths Z { nx := fun _ M' => R (.d .none) M', rt := R, ex := P } (startX N_L_worths xs) M := by
  obtain ⟨p, o, ys, rfl, e, ho, rfl, h⟩ := h
  show dSeq _ _ _ [some (.r (.ref p)), none, none, none, none, none] M
  rw [← mset_id e]
  refine set_v (lst_v ?_)
  refine cons_e ev_c (cons_e ev_c (cons_e ev_c (cons_e (ev_neg ev_c) (cons_e ev_p18 (cons_e (ev_neg ev_p18) (cons_v ?_))))))
  refine draw_h 100000000 rfl ev_p8 ho (by decide) (by decide) fun o1 m1 ho1 a0 a1 => cons_v (op_l (ev_neg ev_c) ?_)
  refine draw_h 100000000 rfl ev_p8 ho1 (by decide) (by decide) fun o2 m2 ho2 b0 b1 => ⟨trivial, nil_e ⟨by rw [sizeLine_eq]; simp, ?_⟩⟩
  show dSeq _ _ _ [some (.r (.ref p)), some (.d (.list ([0, 1, 7, -5, 1000000000000000000, -1000000000000000000, m1, -1 - m2].map .int))), none, none, none, none] _
  refine set_v (op_l (ev_var rfl) ?_)
  refine draw_h 8 rfl (fun R P q => q) ho2 (by decide) (by decide) fun o3 m3 ho3 c0 c1 => ix_list c0 (by simpa using c1) fun base hbase => ?_
  have gb : goodWorth base := by
    simp only [List.mem_cons, List.not_mem_nil, or_false] at hbase
    unfold goodWorth
    omega
  refine set_v ?_
  unfold dLstM
  refine cons_e (ev_var rfl) (nil_e ⟨by rw [sizeLine_eq]; simp, fun q hq => ?_⟩)
  have qp : q ≠ p := fun z => by rw [z, mset_same] at hq; cases hq
  have q0 : M q = none := by rw [mset_ne qp] at hq; exact hq
  rw [mset_comm qp]
  show dForR1 _ _ _ _ _ _
  refine draw_h 4 rfl (fun R P q => q) ho3 (by decide) (by decide) fun o4 m4 ho4 d0 d1 => ?_
  refine ⟨by omega, by omega, fun k r M' => ∃ o' ns x4 x5, isHand o' ∧ ns ≠ [] ∧ ns.length ≤ k + 1 ∧ (∀ n ∈ ns, goodWorth n) ∧ r = wEnv p q base m1 m2 x4 x5 ∧ M' = mset (mset M q (.lst ((ns.map PyData.int).map .d))) p o',
    ⟨o4, [base], none, none, ho4, by simp, by simp, by simpa using gb, rfl, rfl⟩, ?_, ?_⟩
  · rintro k r M' hk ⟨o5, ns, x4, x5, ho5, hne, hlen, hgood, rfl, rfl⟩
    have hk2 : k < 3 := by omega
    have tail : ∀ o6 n, isHand o6 → goodWorth n → ∀ D : DEnds, (∀ M', (∃ o' ns x4 x5, isHand o' ∧ ns ≠ [] ∧ ns.length ≤ (k + 1) + 1 ∧ (∀ n ∈ ns, goodWorth n) ∧ wEnv p q base m1 m2 (some (.d (.int (k : Nat)))) (some (.d (.int n))) = wEnv p q base m1 m2 x4 x5 ∧ M' = mset (mset M q (.lst ((ns.map PyData.int).map .d))) p o') → D.nx (wEnv p q base m1 m2 (some (.d (.int (k : Nat)))) (some (.d (.int n)))) M') →
        dIfS (dB (dOp (dInS true) (dVar 5) (dVar 3))) (dDrop (dBM "list" mApp (dVar 3) (dCons (dVar 5) dNil))) dNext D (wEnv p q base m1 m2 (some (.d (.int (k : Nat)))) (some (.d (.int n)))) (mset (mset M q (.lst ((ns.map PyData.int).map .d))) p o6) := by
      intro o6 n ho6 hn D hD
      refine add_new qp rfl rfl rfl (int_plain ns) (by rw [List.length_map]; omega) (hD _ ⟨o6, ns ++ [n], _, _, ho6, by simp, by simp; omega, fun u hu => ?_, rfl, by simp⟩) (hD _ ⟨o6, ns, _, _, ho6, hne, by omega, hgood, rfl, rfl⟩)
      rcases List.mem_append.mp hu with hu | hu
      · exact hgood u hu
      · obtain rfl : u = n := by simpa using hu
        exact hn
    refine set_v (app2_v ?_)
    refine (ev_p18 : Ev _ _ _ _) _ _ (app2_v ?_)
    refine (ev_neg ev_p18 : Ev _ _ _ _) _ _ (op_v (op_l (ev_var rfl) ?_))
    refine draw_h 7 rfl (fun R P q => q) ho5 (by decide) (by decide) fun o6 m6 ho6 e0 e1 => ?_
    refine ⟨trivial, ?_⟩
    generalize hv : (if (if base + m6 - 3 > -1000000000000000000 then base + m6 - 3 else -1000000000000000000) < (1000000000000000000 : Int) then (if base + m6 - 3 > -1000000000000000000 then base + m6 - 3 else -1000000000000000000) else 1000000000000000000) = wv
    have gw : goodWorth wv := by
      rw [← hv]
      unfold goodWorth
      split <;> split <;> omega
    simp only [cMax_i, cMin_i, hv]
    refine sif_v (draw0 8 rfl ho6 (by decide) (by decide) fun o7 b7 ho7 => ?_)
    cases b7 with
    | false =>
      rw [if_neg Bool.false_ne_true]
      exact tail o7 wv ho7 gw _ fun M' q => q
    | true =>
      rw [if_pos rfl]
      refine op_v (lst_v (cons_e ev_p18 (cons_e (ev_neg ev_p18) (cons_e (ev_sub ev_p18 ev_c) (cons_e (ev_sub ev_c ev_p18) (nil_e ⟨by rw [sizeLine_eq]; simp, ?_⟩))))))
      refine draw_h 4 rfl (fun R P q => q) ho7 (by decide) (by decide) fun o8 m8 ho8 g0 g1 => ?_
      refine ix_list (ns := [1000000000000000000, -1000000000000000000, 1000000000000000000 - 1, 1 - 1000000000000000000]) g0 (by simpa using g1) fun n hn => ?_
      refine tail o8 n ho8 ?_ _ fun M' q => q
      simp only [List.mem_cons, List.not_mem_nil, or_false] at hn
      unfold goodWorth
      omega
  · rintro r M' ⟨o5, ns, x4, x5, ho5, hne, hlen, hgood, rfl, rfl⟩
    have eq3 : mset (mset M q (.lst ((ns.map PyData.int).map .d))) p o5 q = some (.lst ((ns.map PyData.int).map .d)) := by rw [mset_ne qp, mset_same]
    dsimp only
    refine ret_gho (x := .r (.ref q)) (y := .d (.list (ns.map .int))) (M2 := mset M p o5) (ev_var rfl) ⟨fun a => ?_, Or.inr ⟨_, rfl, .l eq3 ?_ (DenAll.map _)⟩⟩ ?_
    · by_cases a1 : a = q
      · refine Or.inr ?_
        rw [a1, mset_ne qp]
        exact q0
      · refine Or.inl ?_
        unfold mset
        by_cases a2 : a = p
        · rw [if_pos a2, if_pos a2]
        · rw [if_neg a2, if_neg a2, if_neg a1]
    · rw [mset_ne qp]
      exact q0
    · exact h o5 _ ho5 ⟨ns, rfl, hne, by omega, hgood⟩
end Y
set_option maxHeartbeats 4000000
namespace Y
open PySem PySem.Spec PyProof.Rows L2
theorem ix_any {ds : List PyData} {m : Int} {M : MH} {R : DR} {P : PX} (h0 : 0 ≤ m) (h1 : m < (ds.length : Nat)) (h : ∀ d ∈ ds, R (.d d) M) : dIx (.d (.list ds)) (.d (.int m)) M R P := by
  obtain ⟨d, hd, e⟩ := atI_mem h0 h1
  rw [dIx_l e]
  exact h d hd
theorem lenl {ds : List PyData} {i : Nat} {r : DEnv} {M : MH} (h : r[i]? = some (some (.d (.list ds)))) : Ev (dApp cLen (dCons (dVar i) dNil)) r M (.d (.int (ds.length : Nat))) := ev_len (x := .d (.list ds)) (ev_var h) rfl
theorem lt_signs {m : Int} (h0 : 0 ≤ m) (h1 : m < 3) : ∃ t, atI ("<=>" : Str).cps.toList m = some t ∧ (t = 60 ∨ t = 61 ∨ t = 62) := by
  have e : ("<=>" : Str).cps.toList = [60, 61, 62] := by decide +kernel
  rw [e]
  obtain ⟨t, ht, et⟩ := atI_mem (l := [60, 61, 62]) h0 (by simpa using h1)
  exact ⟨t, et, by simpa using ht⟩
theorem str3 {s : Str} (h : s = "<=>") : s.length ≤ sizeLine := by
  subst h
  have : ("<=>" : Str).length = 3 := by decide +kernel
  rw [this, sizeLine_eq]
  omega
theorem pure_L_atom {Z : Ad} (xs : List Xv) (M : MH) (R : DR) (P : PX) (hl : xs.length = 3) (h : sp_L_atom Z xs M R P) : t_L_atom Z { nx := fun _ M' => R (.d .none) M', rt := R, ex := P } (startX N_L_atom xs) M := by
  obtain ⟨p, o, ys, rfl, e, ho, ⟨a, b, rfl, ⟨ws, rfl, wne, wl, wg⟩, ⟨ns, rfl, nne, nl, ng⟩⟩, h⟩ := h
  show dSeq _ _ _ [some (.r (.ref p)), some (.d (.list (ws.map .str))), some (.d (.list (ns.map .int))), none] M
  rw [← mset_id e]
  have wpos : 0 < ws.length := List.length_pos_iff.mpr wne
  have npos : 0 < ns.length := List.length_pos_iff.mpr nne
  refine set_v (draw_h 12 rfl (fun R P q => q) ho (by decide) (by decide) fun o1 k ho1 k0 k1 => ?_)
  have word : ∀ (tag : Str) (mk : Str → Ex), (∀ s, (mk s).d = .tuple [.str tag, .str s]) → (∀ s, goodWord s → (mk s).ok ∧ (mk s).atom) → ∀ (D : DEnds), D.rt = R → dRet (dTup (dCons (dC (.d (.str tag))) (dCons (dOp dIx (dVar 1) (dCall 2 (sp_L_draw Z) (dCons (dVar 0) (dCons (dApp cLen (dCons (dVar 1) dNil)) dNil)))) dNil))) D [some (.r (.ref p)), some (.d (.list (ws.map .str))), some (.d (.list (ns.map .int))), some (.d (.int k))] (mset M p o1) := by
    intro tag mk hd hok D hD
    refine tup_v (cons_e ev_c (cons_v (op_l (ev_var rfl) ?_)))
    refine draw_h ((ws.map PyData.str).length : Nat) rfl (lenl rfl) ho1 (by rw [List.length_map]; omega) (by rw [List.length_map]; omega) fun o2 m ho2 m0 m1 => ?_
    refine ix_any m0 m1 fun d hd' => nil_e ?_
    obtain ⟨s, hs, rfl⟩ := List.mem_map.mp hd'
    refine dTup_2 (P := P) ?_
    rw [hD, ← hd s]
    exact h o2 _ ho2 ⟨mk s, rfl, (hok s (wg s hs)).1, (hok s (wg s hs)).2⟩
  refine sif (evt (ev_lt (ev_var rfl) ev_c)) (fun _ => word "word" .word (fun _ => rfl) (fun s hs => ⟨hs, trivial⟩) _ rfl) (fun _ => ?_)
  refine sif (evt (ev_lt (ev_var rfl) ev_c)) (fun _ => word "back" .back (fun _ => rfl) (fun s hs => ⟨hs, trivial⟩) _ rfl) (fun _ => ?_)
  refine sif (evt (ev_lt (ev_var rfl) ev_c)) (fun _ => ?_) (fun k10 => ?_)
  · refine tup_v (cons_e ev_c (cons_v (op_l ev_c ?_)))
    refine draw_h 3 rfl (fun R P q => q) ho1 (by decide) (by decide) fun o2 m ho2 m0 m1 => ?_
    obtain ⟨t, et, ht⟩ := lt_signs m0 m1
    refine ⟨str3 rfl, ?_⟩
    rw [et]
    refine cons_v (op_l (ev_var rfl) ?_)
    refine draw_h ((ns.map PyData.int).length : Nat) rfl (lenl rfl) ho2 (by rw [List.length_map]; omega) (by rw [List.length_map]; omega) fun o3 m3 ho3 c0 c1 => ?_
    refine ix_any c0 c1 fun d hd' => nil_e ?_
    obtain ⟨n, hn, rfl⟩ := List.mem_map.mp hd'
    exact dTup_3 (P := P) (h o3 _ ho3 ⟨.node t n, rfl, ⟨ht, ng n hn⟩, trivial⟩)
  · have hk : ¬ k < 10 := by simpa using k10
    refine op_v (lst_v (cons_v (tup_v (cons_e ev_c (nil_e ⟨by rw [sizeLine_eq]; simp, ?_⟩)))))
    refine cons_v (tup_v (cons_e ev_c (nil_e ⟨by rw [sizeLine_eq]; simp, nil_e ⟨by rw [sizeLine_eq]; simp, ?_⟩⟩)))
    refine (ev_sub (ev_var rfl) ev_c : Ev _ _ _ (.d (.int (k - 10)))) _ _ ?_
    refine ix_any (ds := [.tuple [.str "any"], .tuple [.str "here"]]) (by omega) (by simp only [List.length_cons, List.length_nil]; omega) fun d hd => ?_
    rcases List.mem_cons.mp hd with rfl | hd
    · exact h o1 _ ho1 ⟨.any, rfl, trivial, trivial⟩
    · obtain rfl : d = .tuple [.str "here"] := by simpa using hd
      exact h o1 _ ho1 ⟨.here, rfl, trivial, trivial⟩
theorem pure_L_is_letter {Z : Ad} (xs : List Xv) (M : MH) (R : DR) (P : PX) (hl : xs.length = 1) (h : sp_L_is_letter Z xs M R P) : t_L_is_letter Z { nx := fun _ M' => R (.d .none) M', rt := R, ex := P } (startX N_L_is_letter xs) M := by
  obtain ⟨s, rfl, hs, h⟩ := h
  show dRet _ _ [some (.d (.str s))] M
  unfold dRet dAndV
  refine (ev_eqi (ev_lens (ev_var rfl) (by rw [sizeLine_eq]; omega)) ev_c : Ev _ _ _ _) _ _ ?_
  obtain ⟨⟨l⟩⟩ := s
  match l, hs, h with
  | [], _, h => exact h
  | [c], _, h => exact ⟨c, rfl, h⟩
  | _ :: _ :: l, hs, _ =>
    have : l.length + 1 + 1 ≤ 1 := hs
    omega
theorem pure_L_blanks {Z : Ad} (xs : List Xv) (M : MH) (R : DR) (P : PX) (hl : xs.length = 1) (h : sp_L_blanks Z xs M R P) : t_L_blanks Z { nx := fun _ M' => R (.d .none) M', rt := R, ex := P } (startX N_L_blanks xs) M := by
  obtain ⟨p, o, ys, rfl, e, ho, rfl, h⟩ := h
  show dRet _ _ [some (.r (.ref p))] M
  rw [← mset_id e]
  unfold dRet
  refine op_l ev_c (op_v (lst_v (cons_e ev_c (cons_e ev_c (cons_e ev_c (cons_e ev_c (cons_e ev_c (cons_e ev_c (cons_e ev_c (cons_e ev_c (nil_e ⟨by rw [sizeLine_eq]; simp, ?_⟩)))))))))))
  refine draw_h 8 rfl (fun R P q => q) ho (by decide) (by decide) fun o1 m ho1 m0 m1 => ?_
  refine ix_list (ns := [0, 0, 0, 0, 1, 1, 2, 5]) m0 (by simpa using m1) fun n hn => ?_
  have hb : ∀ k : Nat, k ≤ 5 → (n : Int) = k → dMul (.d (.str " ")) (.d (.int n)) (mset M p o1) R P := by
    intro k hk hnk
    subst hnk
    refine ⟨?_, ?_⟩
    · have h5 : k = 0 ∨ k = 1 ∨ k = 2 ∨ k = 3 ∨ k = 4 ∨ k = 5 := by omega
      rcases h5 with rfl | rfl | rfl | rfl | rfl | rfl <;> (unfold MulOk; decide +kernel)
    · have e : Txt.mul " " (k : Int) = strL (bl k) := by
        have h5 : k = 0 ∨ k = 1 ∨ k = 2 ∨ k = 3 ∨ k = 4 ∨ k = 5 := by omega
        rcases h5 with rfl | rfl | rfl | rfl | rfl | rfl <;> decide +kernel
      rw [e]
      exact h o1 _ ho1 ⟨k, hk, rfl⟩
  simp only [List.mem_cons, List.not_mem_nil, or_false] at hn
  have : n = 0 ∨ n = 1 ∨ n = 2 ∨ n = 5 := by omega
  rcases this with rfl | rfl | rfl | rfl
  · exact hb 0 (by decide) rfl
  · exact hb 1 (by decide) rfl
  · exact hb 2 (by decide) rfl
  · exact hb 5 (by decide) rfl
end Y
set_option maxHeartbeats 4000000
namespace Y
open PySem PySem.Spec PyProof.Rows L2
theorem Ex.atom_deep {e : Ex} (h : e.atom) : e.deep = 1 ∧ e.size = 1 := by
  cases e <;> first | exact ⟨rfl, rfl⟩ | exact h.elim
section
variable {Z : Ad} {p : Addr} {M : MH} {o : MO} {r : DEnv} {R : DR} {P : PX} {a b : PyData}
theorem exp_call {k n m : Nat} {spr : SpX} {dn dm : DX} (hs : ∀ xs M R P, sp_L_expression Z k xs M R P → spr xs M R P) (h0 : r[0]? = some (some (.r (.ref p)))) (h1 : r[1]? = some (some (.d a))) (h2 : r[2]? = some (some (.d b))) (ha : goodWords a) (hb : goodWorths b)
    (hn : Ev dn r (mset M p o) (.d (.int (n : Nat)))) (hm : Ev dm r (mset M p o) (.d (.int (m : Nat)))) (ho : isHand o) (n0 : 1 ≤ n) (n1 : n ≤ 1000) (m0 : 1 ≤ m) (m1 : m ≤ k)
    (h : ∀ o' (e : Ex), isHand o' → e.ok → e.deep ≤ m → e.size ≤ n → R (.d e.d) (mset M p o')) : dCall 5 spr (dCons (dVar 0) (dCons (dVar 1) (dCons (dVar 2) (dCons dn (dCons dm dNil))))) r (mset M p o) R P := by
  refine cons_e (ev_var h0) (cons_e (ev_var h1) (cons_e (ev_var h2) (cons_e hn (cons_e hm (nil_e ⟨rfl, hs _ _ _ _ ?_⟩)))))
  refine ⟨p, o, [.d a, .d b, .d (.int (n : Nat)), .d (.int (m : Nat))], rfl, mset_same, ho, ⟨a, b, n, m, rfl, ha, hb, n0, n1, m0, m1⟩, fun o' d ho' hd => ?_⟩
  obtain ⟨e, a', b', n', m', eq, rfl, ok, dp, sz⟩ := hd
  injection eq with _ eq
  injection eq with _ eq
  injection eq with en eq
  injection eq with em _
  injection en with en
  injection en with en
  injection em with em
  injection em with em
  rw [mset_mset]
  exact h o' e ho' ok (by omega) (by omega)
theorem atom_call (h0 : r[0]? = some (some (.r (.ref p)))) (h1 : r[1]? = some (some (.d a))) (h2 : r[2]? = some (some (.d b))) (ha : goodWords a) (hb : goodWorths b) (ho : isHand o) (h : ∀ o' (e : Ex), isHand o' → e.ok → e.atom → R (.d e.d) (mset M p o')) :
    dCall 3 (sp_L_atom Z) (dCons (dVar 0) (dCons (dVar 1) (dCons (dVar 2) dNil))) r (mset M p o) R P := by
  refine hand_i rfl [.d a, .d b] (fun R P q => ?_) rfl ho ⟨a, b, rfl, ha, hb⟩ fun o' d ho' hd => ?_
  · exact cons_e (ev_var h0) (cons_e (ev_var h1) (cons_e (ev_var h2) (nil_e q)))
  · obtain ⟨e, rfl, ok, at_⟩ := hd
    exact h o' e ho' ok at_
end
theorem subN {n m : Nat} {r : DEnv} {M : MH} {da : DX} (h : Ev da r M (.d (.int (n : Nat)))) (hm : m + 1 = n) : Ev (dOp dSub da (dC (.d (.int 1)))) r M (.d (.int (m : Nat))) := by
  have e : ((m : Nat) : Int) = (n : Int) - 1 := by omega
  rw [e]
  exact ev_sub h ev_c
theorem pure_expression {Z : Ad} (spr : SpX) (k : Nat) (hk : ∀ m, k = m + 1 → ∀ xs M R P, sp_L_expression Z m xs M R P → spr xs M R P) (xs : List Xv) (M : MH) (R : DR) (P : PX) (hl : xs.length = 5) (h : sp_L_expression Z k xs M R P) :
    t_L_expression spr Z { nx := fun _ M' => R (.d .none) M', rt := R, ex := P } (startX N_L_expression xs) M := by
  obtain ⟨p, o, ys, rfl, e, ho, ⟨a, b, n, m, rfl, ha, hb, n0, n1, m0, m1⟩, h⟩ := h
  have h' : ∀ o' (x : Ex), isHand o' → x.ok → x.deep ≤ m → x.size ≤ n → R (.d x.d) (mset M p o') := fun o' x ho' ok dp sz => h o' _ ho' ⟨x, a, b, n, m, rfl, rfl, ok, dp, sz⟩
  show dSeq _ _ _ [some (.r (.ref p)), some (.d a), some (.d b), some (.d (.int n)), some (.d (.int m)), none, none, none, none, none, none, none] M
  rw [← mset_id e]
  have atom : ∀ o', isHand o' → ∀ D : DEnds, D.rt = R → dRet (dCall 3 (sp_L_atom Z) (dCons (dVar 0) (dCons (dVar 1) (dCons (dVar 2) dNil)))) D [some (.r (.ref p)), some (.d a), some (.d b), some (.d (.int n)), some (.d (.int m)), none, none, none, none, none, none, none] (mset M p o') := fun o' ho' D hD => by
    unfold dRet
    rw [hD]
    exact atom_call rfl rfl rfl ha hb ho' fun o2 x ho2 ok at_ => h' o2 x ho2 ok (by rw [(Ex.atom_deep at_).1]; omega) (by rw [(Ex.atom_deep at_).2]; omega)
  -- the rest, where the depth is at least two
  have rest : ∀ o', isHand o' → 2 ≤ m → dSeq (dSet 5 (dCall 2 (sp_L_draw Z) (dCons (dVar 0) (dCons (dC (.d (.int 12))) dNil))))
    (dSeq (dIfS (dAnd (dB (dOp dGt (dVar 3) (dC (.d (.int 1))))) (dB (dOp dLt (dVar 5) (dC (.d (.int 7)))))) (dSeq (dSet 6 (dOp dAdd (dC (.d (.int 1))) (dCall 2 (sp_L_draw Z) (dCons (dVar 0) (dCons (dOp dSub (dVar 3) (dC (.d (.int 1)))) dNil)))))
    (dSeq (dSet 7 (dCall 5 spr (dCons (dVar 0) (dCons (dVar 1) (dCons (dVar 2) (dCons (dVar 6) (dCons (dOp dSub (dVar 4) (dC (.d (.int 1)))) dNil)))))))
    (dSeq (dSet 8 (dCall 5 spr (dCons (dVar 0) (dCons (dVar 1) (dCons (dVar 2) (dCons (dOp dSub (dVar 3) (dVar 6)) (dCons (dOp dSub (dVar 4) (dC (.d (.int 1)))) dNil)))))))
    (dRet (dTup (dCons (dOp dIx (dLst (dCons (dC (.d (.str "then"))) (dCons (dC (.d (.str "or"))) dNil))) (dApp cInt (dCons (dOp dGt (dVar 5) (dC (.d (.int 3)))) dNil))) (dCons (dVar 7) (dCons (dVar 8) dNil))))))))
    dNext)
    (dSeq (dIfS (dB (dOp dLt (dVar 5) (dC (.d (.int 10))))) (dSeq (dSet 9 (dOp dIx (dLst (dCons (dC (.d (.str "star"))) (dCons (dC (.d (.str "plus"))) (dCons (dC (.d (.str "maybe"))) dNil)))) (dCall 2 (sp_L_draw Z) (dCons (dVar 0) (dCons (dC (.d (.int 3))) dNil)))))
    (dRet (dTup (dCons (dVar 9) (dCons (dCall 5 spr (dCons (dVar 0) (dCons (dVar 1) (dCons (dVar 2) (dCons (dVar 3) (dCons (dOp dSub (dVar 4) (dC (.d (.int 1)))) dNil)))))) dNil)))))
    dNext)
    (dSeq (dSet 10 (dOp dAdd (dC (.d (.int 1))) (dCall 2 (sp_L_draw Z) (dCons (dVar 0) (dCons (dApp cMin (dCons (dC (.d (.int 9))) (dCons (dVar 3) dNil))) dNil)))))
    (dSeq (dSet 11 (dCall 2 (sp_L_draw Z) (dCons (dVar 0) (dCons (dOp dAdd (dVar 10) (dC (.d (.int 1)))) dNil))))
    (dRet (dTup (dCons (dC (.d (.str "times"))) (dCons (dVar 11) (dCons (dVar 10) (dCons (dCall 5 spr (dCons (dVar 0) (dCons (dVar 1) (dCons (dVar 2) (dCons (dOp dDiv (dVar 3) (dVar 10)) (dCons (dOp dSub (dVar 4) (dC (.d (.int 1)))) dNil)))))) dNil)))))))))) { nx := fun _ M' => R (.d .none) M', rt := R, ex := P } [some (.r (.ref p)), some (.d a), some (.d b), some (.d (.int n)), some (.d (.int m)), none, none, none, none, none, none, none] (mset M p o') := by
    intro o1 ho1 hm2
    obtain ⟨k', rfl⟩ : ∃ k', k = k' + 1 := ⟨k - 1, by omega⟩
    obtain ⟨m', rfl⟩ : ∃ m', m = m' + 1 := ⟨m - 1, by omega⟩
    have hs := hk k' rfl
    refine set_v (draw_h 12 rfl (fun R P q => q) ho1 (by decide) (by decide) fun o2 kd ho2 k0 k1 => ?_)
    refine sif (evt_and (evt (ev_gt (ev_var rfl) ev_c)) (fun _ => evt (ev_lt (ev_var rfl) ev_c))) (fun q => ?_) (fun _ => ?_)
    · have hn1 : 1 < n := by
        have := (Bool.and_eq_true_iff.mp q).1
        have := of_decide_eq_true this
        omega
      refine set_v (op_l ev_c ?_)
      refine draw_h ((n : Int) - 1) rfl (ev_sub (ev_var rfl) ev_c) ho2 (by omega) (by omega) fun o3 lf ho3 l0 l1 => ?_
      obtain ⟨lf', rfl⟩ : ∃ x : Nat, lf = (x : Int) := ⟨lf.toNat, by omega⟩
      have e1 : (1 : Int) + (lf' : Int) = ((lf' + 1 : Nat) : Int) := by omega
      rw [dAdd_ii, e1]
      try dsimp only
      refine set_v (exp_call (n := lf' + 1) (m := m') hs rfl rfl rfl ha hb (ev_var rfl) (subN (ev_var rfl) rfl) ho3 (by omega) (by omega) (by omega) (by omega) fun o4 x ho4 xo xd xs => ?_)
      have e2 : (n : Int) - ((lf' + 1 : Nat) : Int) = ((n - (lf' + 1) : Nat) : Int) := by omega
      refine set_v (exp_call (n := n - (lf' + 1)) (m := m') hs rfl rfl rfl ha hb (by rw [← e2]; exact ev_sub (ev_var rfl) (ev_var rfl)) (subN (ev_var rfl) rfl) ho4 (by omega) (by omega) (by omega) (by omega) fun o5 y ho5 yo yd ys => ?_)
      unfold dRet
      refine tup_v (cons_v (op_v (lst_v (cons_e ev_c (cons_e ev_c (nil_e ⟨by rw [sizeLine_eq]; simp, ?_⟩))))))
      refine (ev_intb (ev_gt (ev_var rfl) ev_c) : Ev _ _ _ _) _ _ ?_
      have fin : ∀ t : Bool, dIx (.d (.list [.str "then", .str "or"])) (.d (.int (if t then 1 else 0))) (mset M p o5) (fun z M1 => dCons (dVar 7) (dCons (dVar 8) dNil) [some (.r (.ref p)), some (.d a), some (.d b), some (.d (.int n)), some (.d (.int ((m' + 1 : Nat) : Int))), some (.d (.int kd)), some (.d (.int ((lf' + 1 : Nat) : Int))), some (.d x.d), some (.d y.d), none, none, none] M1 (fun xs M2 => (z :: xs).length ≤ sizeLine ∧ match allD (z :: xs) with
        | some ds => R (.d (.tuple ds)) M2
        | none => False) P) P := by
        intro t
        have e : dIx (.d (.list [.str "then", .str "or"])) (.d (.int (if t then 1 else 0))) = fun M R P => dIx (.d (.list [.str "then", .str "or"])) (.d (.int (if t then 1 else 0))) M R P := rfl
        rw [dIx_l (d := .str (if t then "or" else "then")) (by cases t <;> rfl)]
        refine cons_e (ev_var rfl) (cons_e (ev_var rfl) (nil_e ?_))
        exact dTup_3 (P := P) (h' o5 (.two t x y) ho5 ⟨xo, yo⟩ (by show max x.deep y.deep + 1 ≤ m' + 1; omega) (by show x.size + y.size ≤ n; omega))
      exact fin _
    · refine sif (evt (ev_lt (ev_var rfl) ev_c)) (fun _ => ?_) (fun _ => ?_)
      · refine set_v (op_v (lst_v (cons_e ev_c (cons_e ev_c (cons_e ev_c (nil_e ⟨by rw [sizeLine_eq]; simp, ?_⟩))))))
        refine draw_h 3 rfl (fun R P q => q) ho2 (by decide) (by decide) fun o3 w ho3 w0 w1 => ?_
        obtain ⟨w', rfl⟩ : ∃ x : Nat, w = (x : Int) := ⟨w.toNat, by omega⟩
        have hw : w' = 0 ∨ w' = 1 ∨ w' = 2 := by omega
        have ew : atI [PyData.str "star", .str "plus", .str "maybe"] ((w' : Nat) : Int) = some (.str (loneW w')) := by
          rcases hw with rfl | rfl | rfl <;> rfl
        rw [dIx_l ew]
        unfold dRet
        refine tup_v (cons_e (ev_var rfl) (cons_v ?_))
        refine exp_call (n := n) (m := m') hs rfl rfl rfl ha hb (ev_var rfl) (subN (ev_var rfl) rfl) ho3 n0 n1 (by omega) (by omega) fun o4 x ho4 xo xd xs => nil_e ?_
        exact dTup_2 (P := P) (h' o4 (.lone w' x) ho4 ⟨by omega, xo⟩ (by show x.deep + 1 ≤ m' + 1; omega) xs)
      · refine set_v (op_l ev_c ?_)
        refine draw_h (if (n : Int) < 9 then (n : Int) else 9) rfl (ev_min ev_c (ev_var rfl)) ho2 (by split <;> omega) (by split <;> omega) fun o3 q ho3 q0 q1 => ?_
        obtain ⟨q', rfl⟩ : ∃ x : Nat, q = (x : Int) := ⟨q.toNat, by omega⟩
        have hq : q' < 9 ∧ q' < n := by
          revert q1
          split <;> intro q1 <;> omega
        have e1 : (1 : Int) + (q' : Int) = ((q' + 1 : Nat) : Int) := by omega
        rw [dAdd_ii, e1]
        try dsimp only
        refine set_v (draw_h (((q' + 1 : Nat) : Int) + 1) rfl (ev_add (ev_var rfl) ev_c) ho3 (by omega) (by omega) fun o4 l ho4 l0 l1 => ?_)
        obtain ⟨l', rfl⟩ : ∃ x : Nat, l = (x : Int) := ⟨l.toNat, by omega⟩
        unfold dRet
        refine tup_v (cons_e ev_c (cons_e (ev_var rfl) (cons_e (ev_var rfl) (cons_v ?_))))
        have e2 : (n : Int) / ((q' + 1 : Nat) : Int) = ((n / (q' + 1) : Nat) : Int) := by simp
        have hdiv : 1 ≤ n / (q' + 1) := by
          rw [Nat.le_div_iff_mul_le (by omega)]
          omega
        have hdiv2 : n / (q' + 1) ≤ n := Nat.div_le_self _ _
        refine exp_call (n := n / (q' + 1)) (m := m') hs rfl rfl rfl ha hb (by rw [← e2]; exact ev_div (ev_var rfl) (ev_var rfl) ⟨by omega, by omega⟩) (subN (ev_var rfl) rfl) ho4 hdiv (by omega) (by omega) (by omega) fun o5 x ho5 xo xd xs => nil_e ?_
        refine dTup_4 (P := P) (h' o5 (.times l' (q' + 1) x) ho5 ⟨by omega, by omega, by omega, xo⟩ (by show x.deep + 1 ≤ m' + 1; omega) ?_)
        show x.size * (q' + 1) ≤ n
        exact Nat.le_trans (Nat.mul_le_mul_right _ xs) (Nat.div_mul_le_self n (q' + 1))
  refine sif_v ?_
  unfold dOr
  refine (evt (ev_le (ev_var rfl) ev_c) : EvT _ _ _ (decide ((m : Int) ≤ 1))) _ _ ?_
  by_cases hm1 : (m : Int) ≤ 1
  · rw [decide_eq_true hm1]
    simp only [if_true]
    exact atom o ho _ rfl
  · rw [decide_eq_false hm1]
    simp only [Bool.false_eq_true, if_false]
    unfold dAnd
    refine (evt (ev_le (ev_var rfl) ev_c) : EvT _ _ _ (decide ((n : Int) ≤ 1))) _ _ ?_
    by_cases hn1 : (n : Int) ≤ 1
    · rw [decide_eq_true hn1]
      simp only [if_true]
      refine gt0 3 rfl ho (by decide) (by decide) fun o1 b1 ho1 => ?_
      cases b1 with
      | true => exact atom o1 ho1 _ rfl
      | false => exact rest o1 ho1 (by omega)
    · rw [decide_eq_false hn1]
      simp only [Bool.false_eq_true, if_false]
      exact rest o ho (by omega)
end Y
set_option maxHeartbeats 4000000
namespace Y
open PySem PySem.Spec PyProof.Rows L2
theorem str_of (s : Str) : s = strL s.cps.toList := by
  obtain ⟨⟨l⟩⟩ := s
  rfl
theorem strL_append (a b : List Nat) : strL a ++ strL b = strL (a ++ b) := by
  show (⟨a.toArray ++ b.toArray⟩ : Str) = ⟨(a ++ b).toArray⟩
  simp
theorem numT_len {v : Int} (h : goodWorth v) : (numT v).length ≤ 20 := by
  have e : (numT v).length = (Str.ofString (toString v)).length := rfl
  rw [e]
  obtain ⟨h1, h2⟩ := h
  by_cases q : 0 ≤ v
  · have := toString_length_le q (k := 19) (by decide) (by omega)
    omega
  · rw [len_text_neg (by omega)]
    have := toString_length_le (v := 0 - v) (by omega) (k := 19) (by decide) (by omega)
    omega
theorem log_ok {v : Int} (h : goodWorth v) : v.natAbs.log2 < 1920 := by
  obtain ⟨h1, h2⟩ := h
  by_cases q : v.natAbs = 0
  · rw [q]
    decide
  · rw [Nat.log2_lt q]
    have : v.natAbs < 2 ^ 64 := by omega
    exact Nat.lt_of_lt_of_le this (Nat.pow_le_pow_right (by decide) (by decide))
theorem ev_str {da : DX} {r : DEnv} {M : MH} {v : Int} (ha : Ev da r M (.d (.int v))) (h : v.natAbs.log2 < 1920) : Ev (dApp cStr (dCons da dNil)) r M (.d (.str (strL (numT v)))) := ev_app1 ha fun R P q => ⟨h, by
  have e : ((toString v : String) : Str) = strL (numT v) := str_of _
  rw [e]
  exact q⟩
theorem pure_L_lone_text {Z : Ad} (xs : List Xv) (M : MH) (R : DR) (P : PX) (hl : xs.length = 1) (h : sp_L_lone_text Z xs M R P) : t_L_lone_text Z { nx := fun _ M' => R (.d .none) M', rt := R, ex := P } (startX N_L_lone_text xs) M := by
  obtain ⟨e, rfl, ok, at_, h⟩ := h
  show dSeq _ _ _ [some (.d e.d)] M
  cases e with
  | any =>
    refine sif (evt (ev_eqs (ev_ixt (i := 0) (ev_var rfl) ev_c rfl) ev_c)) (fun _ => ?_) (fun q => absurd q (by decide +kernel))
    have e1 : ("." : Str) = strL [46] := by decide +kernel
    rw [e1]
    exact ret_i ev_c h
  | here =>
    refine sif (evt (ev_eqs (ev_ixt (i := 0) (ev_var rfl) ev_c rfl) ev_c)) (fun q => absurd q (by decide +kernel)) (fun _ => ?_)
    refine sif (evt (ev_eqs (ev_ixt (i := 0) (ev_var rfl) ev_c rfl) ev_c)) (fun _ => ?_) (fun q => absurd q (by decide +kernel))
    have e1 : ("_" : Str) = strL [95] := by decide +kernel
    rw [e1]
    exact ret_i ev_c h
  | node t v =>
    refine sif (evt (ev_eqs (ev_ixt (i := 0) (ev_var rfl) ev_c rfl) ev_c)) (fun q => absurd q (by decide +kernel)) (fun _ => ?_)
    refine sif (evt (ev_eqs (ev_ixt (i := 0) (ev_var rfl) ev_c rfl) ev_c)) (fun q => absurd q (by decide +kernel)) (fun _ => ?_)
    refine sif (evt (ev_eqs (ev_ixt (i := 0) (ev_var rfl) ev_c rfl) ev_c)) (fun _ => ?_) (fun q => absurd q (by decide +kernel))
    have nl := numT_len ok.2
    have a1 : Ev (dOp dAdd (dC (.d (.str "["))) (dOp dIx (dVar 0) (dC (.d (.int 1))))) [some (.d (Ex.node t v).d)] M (.d (.str (strL [91, t]))) := by
      have := ev_adds (r := [some (.d (Ex.node t v).d)]) (M := M) (da := dC (.d (.str "["))) (a := "[") (b := one t) ev_c (ev_ixt (i := 1) (ev_var (n := 0) rfl) ev_c rfl) (by rw [sizeLine_eq, lbr]; show 1 + 1 ≤ _; omega)
      rw [lbr] at this ⊢
      exact this
    have a2 : Ev (dOp dAdd (dOp dAdd (dC (.d (.str "["))) (dOp dIx (dVar 0) (dC (.d (.int 1))))) (dApp cStr (dCons (dOp dIx (dVar 0) (dC (.d (.int 2)))) dNil))) [some (.d (Ex.node t v).d)] M (.d (.str (strL ([91, t] ++ numT v)))) := by
      rw [← strL_append]
      exact ev_adds a1 (ev_str (ev_ixt (i := 2) (ev_var rfl) ev_c rfl) (log_ok ok.2)) (by rw [strL_len, strL_len, sizeLine_eq]; show 2 + _ ≤ _; omega)
    refine ret_i (x := .d (.str (strL (([91, t] ++ numT v) ++ [93])))) ?_ ?_
    · rw [← strL_append]
      have e93 : ("]" : Str) = strL [93] := by decide +kernel
      rw [e93]
      exact ev_adds a2 ev_c (by rw [strL_len, strL_len, sizeLine_eq]; simp only [List.length_append, List.length_cons, List.length_nil]; omega)
    · have : ([91, t] ++ numT v) ++ [93] = (Ex.node t v).atomT := by simp [Ex.atomT]
      rw [this]
      exact h
  | word s =>
    refine sif (evt (ev_eqs (ev_ixt (i := 0) (ev_var rfl) ev_c rfl) ev_c)) (fun q => absurd q (by decide +kernel)) (fun _ => ?_)
    refine sif (evt (ev_eqs (ev_ixt (i := 0) (ev_var rfl) ev_c rfl) ev_c)) (fun q => absurd q (by decide +kernel)) (fun _ => ?_)
    refine sif (evt (ev_eqs (ev_ixt (i := 0) (ev_var rfl) ev_c rfl) ev_c)) (fun q => absurd q (by decide +kernel)) (fun _ => ?_)
    have hs : s.length = 2 := ok.1
    refine ret_i (x := .d (.str ("" ++ s))) (ev_adds ?_ (ev_ixt (i := 1) (ev_var rfl) ev_c rfl) ?_) ?_
    · refine ev_ixl (ds := [.str "~", .str ""]) (i := 1) (ev_lst (ds := [.str "~", .str ""]) (fun R P q => q) (by rw [sizeLine_eq]; simp)) ?_ rfl
      exact ev_intb (b := true) (ev_op (ev_ixt (i := 0) (ev_var rfl) ev_c rfl) ev_c fun R P q => ⟨Or.inl rfl, q⟩)
    · rw [sizeLine_eq, hs]
      decide +kernel
    · have : ("" : Str) ++ s = strL (Ex.word s).atomT := by
        rw [str_of s, empty_strL, strL_append]
        rfl
      rw [this]
      exact h
  | back s =>
    refine sif (evt (ev_eqs (ev_ixt (i := 0) (ev_var rfl) ev_c rfl) ev_c)) (fun q => absurd q (by decide +kernel)) (fun _ => ?_)
    refine sif (evt (ev_eqs (ev_ixt (i := 0) (ev_var rfl) ev_c rfl) ev_c)) (fun q => absurd q (by decide +kernel)) (fun _ => ?_)
    refine sif (evt (ev_eqs (ev_ixt (i := 0) (ev_var rfl) ev_c rfl) ev_c)) (fun q => absurd q (by decide +kernel)) (fun _ => ?_)
    have hs : s.length = 2 := ok.1
    refine ret_i (x := .d (.str ("~" ++ s))) (ev_adds ?_ (ev_ixt (i := 1) (ev_var rfl) ev_c rfl) ?_) ?_
    · refine ev_ixl (ds := [.str "~", .str ""]) (i := 0) (ev_lst (ds := [.str "~", .str ""]) (fun R P q => q) (by rw [sizeLine_eq]; simp)) ?_ rfl
      exact ev_intb (b := false) (ev_op (ev_ixt (i := 0) (ev_var rfl) ev_c rfl) ev_c fun R P q => ⟨Or.inl rfl, q⟩)
    · rw [sizeLine_eq, hs]
      decide +kernel
    · have : ("~" : Str) ++ s = strL (Ex.back s).atomT := by
        have e1 : ("~" : Str) = strL [126] := by decide +kernel
        rw [str_of s, e1, strL_append]
        rfl
      rw [this]
      exact h
  | two o a b => exact at_.elim
  | lone k a => exact at_.elim
  | times l m a => exact at_.elim
theorem dig_T {n : Nat} (h : n ≤ 9) : numT (n : Int) = [48 + n] := by
  have : n = 0 ∨ n = 1 ∨ n = 2 ∨ n = 3 ∨ n = 4 ∨ n = 5 ∨ n = 6 ∨ n = 7 ∨ n = 8 ∨ n = 9 := by omega
  rcases this with rfl | rfl | rfl | rfl | rfl | rfl | rfl | rfl | rfl | rfl <;> decide +kernel
theorem pure_L_sign_text {Z : Ad} (xs : List Xv) (M : MH) (R : DR) (P : PX) (hl : xs.length = 1) (h : sp_L_sign_text Z xs M R P) : t_L_sign_text Z { nx := fun _ M' => R (.d .none) M', rt := R, ex := P } (startX N_L_sign_text xs) M := by
  obtain ⟨e, rfl, ok, un, h⟩ := h
  show dSeq _ _ _ [some (.d e.d)] M
  cases e with
  | times l m a =>
    obtain ⟨ok1, ok2, ok3, _⟩ := ok
    refine sif (evt (ev_eqs (ev_ixt (i := 0) (ev_var rfl) ev_c rfl) ev_c)) (fun _ => ?_) (fun q => absurd q (by decide +kernel))
    have e1 : ("{" : Str) = strL [123] := by decide +kernel
    have e2 : ("," : Str) = strL [44] := by decide +kernel
    have e3 : ("}" : Str) = strL [125] := by decide +kernel
    have gl : goodWorth (l : Int) := by unfold goodWorth; omega
    have gm : goodWorth (m : Int) := by unfold goodWorth; omega
    have nl : numT (l : Int) = [48 + l] := dig_T (by omega)
    have nm : numT (m : Int) = [48 + m] := dig_T ok3
    have b1 : Ev (dApp cStr (dCons (dOp dIx (dVar 0) (dC (.d (.int 1)))) dNil)) [some (.d (Ex.times l m a).d)] M (.d (.str (strL [48 + l]))) := by
      rw [← nl]
      exact ev_str (ev_ixt (i := 1) (ev_var rfl) ev_c rfl) (log_ok gl)
    have b2 : Ev (dApp cStr (dCons (dOp dIx (dVar 0) (dC (.d (.int 2)))) dNil)) [some (.d (Ex.times l m a).d)] M (.d (.str (strL [48 + m]))) := by
      rw [← nm]
      exact ev_str (ev_ixt (i := 2) (ev_var rfl) ev_c rfl) (log_ok gm)
    rw [e1, e2, e3]
    refine ret_i (x := .d (.str ((((strL [123] ++ strL [48 + l]) ++ strL [44]) ++ strL [48 + m]) ++ strL [125]))) (ev_adds (ev_adds (ev_adds (ev_adds ev_c b1 ?_) ev_c ?_) b2 ?_) ev_c ?_) ?_
    · rw [sizeLine_eq]; show 1 + 1 ≤ _; omega
    · rw [sizeLine_eq]; show 2 + 1 ≤ _; omega
    · rw [sizeLine_eq]; show 3 + 1 ≤ _; omega
    · rw [sizeLine_eq]; show 4 + 1 ≤ _; omega
    · exact h
  | lone k a =>
    have hk : k = 0 ∨ k = 1 ∨ k = 2 := by have := ok.1; omega
    have ix : ∀ (c : Nat) (j : Nat), [PyData.str "star", .str "plus", .str "maybe"].findIdx? (fun z => PyData.eqv z (.str (loneW k))) = some j → atI ("*+?" : Str).cps.toList (j : Int) = some c → (Ex.lone k a).signT = [c] →
        dRet (dOp dIx (dC (.d (.str "*+?"))) (dBM "list" mIdx (dLst (dCons (dC (.d (.str "star"))) (dCons (dC (.d (.str "plus"))) (dCons (dC (.d (.str "maybe"))) dNil)))) (dCons (dOp dIx (dVar 0) (dC (.d (.int 0)))) dNil))) { nx := fun _ M' => R (.d .none) M', rt := R, ex := P } [some (.d (Ex.lone k a).d)] M := by
      intro c j ej ec es
      unfold dRet
      refine op_l ev_c ?_
      unfold dBM
      refine lst_v (cons_e ev_c (cons_e ev_c (cons_e ev_c (nil_e ⟨by rw [sizeLine_eq]; simp, rfl, ?_⟩))))
      refine cons_e (ev_ixt (i := 0) (ev_var rfl) ev_c rfl) (nil_e ?_)
      refine ⟨rfl, rfl, ?_⟩
      rw [ej]
      refine ⟨?_, ?_⟩
      · have : ("*+?" : Str).length = 3 := by decide +kernel
        rw [this, sizeLine_eq]
        omega
      · rw [ec]
        rw [es] at h
        exact h
    rcases hk with rfl | rfl | rfl
    · refine sif (evt (ev_eqs (ev_ixt (i := 0) (ev_var rfl) ev_c rfl) ev_c)) (fun q => absurd q (by decide +kernel)) (fun _ => ix 42 0 (by decide +kernel) (by decide +kernel) rfl)
    · refine sif (evt (ev_eqs (ev_ixt (i := 0) (ev_var rfl) ev_c rfl) ev_c)) (fun q => absurd q (by decide +kernel)) (fun _ => ix 43 1 (by decide +kernel) (by decide +kernel) rfl)
    · refine sif (evt (ev_eqs (ev_ixt (i := 0) (ev_var rfl) ev_c rfl) ev_c)) (fun q => absurd q (by decide +kernel)) (fun _ => ix 63 2 (by decide +kernel) (by decide +kernel) rfl)
  | _ => exact un.elim
end Y
set_option maxHeartbeats 4000000
namespace Y
open PySem PySem.Spec PyProof.Rows L2
theorem cut_last (s : List Nat) : (cutS (strL s) (some (-1)) none).length ≤ 1 ∧ (match (cutS (strL s) (some (-1)) none).cps.toList with
  | [c] => letterC c
  | _ => false) = lastLet s := by
  have hl : (strL s).length = s.length := strL_len s
  have h1 : HT.sIx (strL s).length 0 (some (-1)) = s.length - 1 := by
    rw [hl]
    show (if (-1 : Int) < 0 then ((-1 : Int) + (s.length : Int)).toNat else min (-1 : Int).toNat s.length) = _
    rw [if_pos (by decide)]
    omega
  have h2 : HT.sIx (strL s).length (strL s).length none = s.length := by rw [hl]; rfl
  unfold cutS
  rw [h1, h2, strL_cps]
  rcases List.eq_nil_or_concat s with rfl | ⟨l, c, rfl⟩
  · exact ⟨by decide, rfl⟩
  · have e : ((l ++ [c]).drop ((l ++ [c]).length - 1)).take ((l ++ [c]).length - ((l ++ [c]).length - 1)) = [c] := by
      rw [List.length_append]
      simp only [List.length_cons, List.length_nil]
      rw [show l.length + (0 + 1) - 1 = l.length by omega, List.drop_left, show l.length + (0 + 1) - l.length = 1 by omega]
      rfl
    simp only [List.concat_eq_append] at *
    rw [e]
    refine ⟨Nat.le_refl 1, ?_⟩
    unfold lastLet
    rw [List.getLast?_append]
    rfl
theorem cut_first (s : List Nat) : (cutS (strL s) none (some 1)).length ≤ 1 ∧ (match (cutS (strL s) none (some 1)).cps.toList with
  | [c] => letterC c
  | _ => false) = firstLet s := by
  have hl : (strL s).length = s.length := strL_len s
  have h1 : HT.sIx (strL s).length 0 none = 0 := rfl
  have h2 : HT.sIx (strL s).length (strL s).length (some 1) = min 1 s.length := by
    rw [hl]
    rfl
  unfold cutS
  rw [h1, h2, strL_cps]
  cases s with
  | nil => exact ⟨by decide, rfl⟩
  | cons c l =>
    have e : ((c :: l).drop 0).take (min 1 (c :: l).length - 0) = [c] := by
      simp only [List.length_cons]
      rw [show min 1 (l.length + 1) - 0 = 1 by omega]
      rfl
    rw [e]
    exact ⟨Nat.le_refl 1, rfl⟩
section
variable {Z : Ad} {p : Addr} {M : MH} {o : MO} {r : DEnv} {R : DR} {P : PX}
theorem blanks_h (hv : r[0]? = some (some (.r (.ref p)))) (ho : isHand o) (h : ∀ o' n, isHand o' → n ≤ 5 → R (.d (.str (strL (bl n)))) (mset M p o')) : dCall 1 (sp_L_blanks Z) (dCons (dVar 0) dNil) r (mset M p o) R P := by
  refine hand_i rfl [] (fun R P q => cons_e (ev_var hv) (nil_e q)) rfl ho rfl fun o' d ho' hd => ?_
  obtain ⟨n, hn, rfl⟩ := hd
  exact h o' n ho' hn
theorem loose_h {spr : SpX} {k : Nat} {e : Ex} {t : Nat} {dn dm : DX} (hs : ∀ xs M R P, sp_L_loose Z k xs M R P → spr xs M R P) (hv : r[0]? = some (some (.r (.ref p)))) (hn : Ev dn r (mset M p o) (.d e.d)) (hm : Ev dm r (mset M p o) (.d (.int (t : Nat)))) (ho : isHand o) (ok : e.ok) (dp : e.deep ≤ k) (hk : e.nodes ≤ 2000)
    (h : ∀ o' s, isHand o' → Loo e t s → s.length ≤ 40 * e.nodes → R (.d (.str (strL s))) (mset M p o')) : dCall 3 spr (dCons (dVar 0) (dCons dn (dCons dm dNil))) r (mset M p o) R P := by
  refine cons_e (ev_var hv) (cons_e hn (cons_e hm (nil_e ⟨rfl, hs _ _ _ _ ?_⟩)))
  refine ⟨p, o, e, t, rfl, mset_same, ho, ok, dp, hk, fun o' s ho' lo len => ?_⟩
  rw [mset_mset]
  exact h o' s ho' lo len
theorem letter_h {dn : DX} {s : Str} (hn : Ev dn r M (.d (.str s))) (hl : s.length ≤ 1) : EvT (dB (dCall 1 (sp_L_is_letter Z) (dCons dn dNil))) r M (match s.cps.toList with
  | [c] => letterC c
  | _ => false) := fun R P q => by
  unfold dB dCall
  exact cons_e hn (nil_e ⟨rfl, s, rfl, hl, q⟩)
theorem lone_h {e : Ex} {dn : DX} (hn : Ev dn r M (.d e.d)) (ok : e.ok) (at_ : e.atom) : Ev (dCall 1 (sp_L_lone_text Z) (dCons dn dNil)) r M (.d (.str (strL e.atomT))) := fun R P q => cons_e hn (nil_e ⟨rfl, e, rfl, ok, at_, q⟩)
theorem sign_h {e : Ex} {dn : DX} (hn : Ev dn r M (.d e.d)) (ok : e.ok) (un : e.unary) : Ev (dCall 1 (sp_L_sign_text Z) (dCons dn dNil)) r M (.d (.str (strL e.signT))) := fun R P q => cons_e hn (nil_e ⟨rfl, e, rfl, ok, un, q⟩)
theorem ev_adl {da db : DX} {a b : List Nat} (ha : Ev da r M (.d (.str (strL a)))) (hb : Ev db r M (.d (.str (strL b)))) (h : a.length + b.length ≤ 1000000) : Ev (dOp dAdd da db) r M (.d (.str (strL (a ++ b)))) := by
  rw [← strL_append]
  exact ev_adds ha hb (by rw [strL_len, strL_len, sizeLine_eq]; omega)
theorem ev_cl {s : Str} {l : List Nat} (h : s = strL l) : Ev (dC (.d (.str s))) r M (.d (.str (strL l))) := by
  subst h
  exact ev_c
end
theorem loneW_inj {j k : Nat} (hj : j ≤ 2) (hk : k ≤ 2) (h : loneW j = loneW k) : j = k := by
  have h1 : j = 0 ∨ j = 1 ∨ j = 2 := by omega
  have h2 : k = 0 ∨ k = 1 ∨ k = 2 := by omega
  rcases h1 with rfl | rfl | rfl <;> rcases h2 with rfl | rfl | rfl <;> first | rfl | exact absurd h (by decide +kernel)
theorem inS_l {k : Str} {ds : List PyData} {M : MH} {R : DR} {P : PX} (h : ds.all plainD = true) (q : R (.d (.bool (ds.any fun z => PyData.eqv z (.str k)))) M) : dInS false (.d (.str k)) (.d (.list ds)) M R P := ⟨rfl, h, q⟩
def isTwo : Ex → Bool
  | .two _ _ _ => true
  | _ => false
theorem bl_len (n : Nat) : (bl n).length = n := List.length_replicate
theorem atom_len {e : Ex} (ok : e.ok) (at_ : e.atom) : e.atomT.length ≤ 25 := by
  cases e with
  | word s =>
    have : s.cps.toList.length = 2 := ok.1
    show s.cps.toList.length ≤ 25
    omega
  | back s =>
    have : s.cps.toList.length = 2 := ok.1
    show (126 :: s.cps.toList).length ≤ 25
    simp only [List.length_cons]
    omega
  | any => decide
  | here => decide
  | node t v =>
    have := numT_len ok.2
    show (91 :: t :: (numT v ++ [93])).length ≤ 25
    simp only [List.length_cons, List.length_append, List.length_nil]
    omega
  | _ => exact at_.elim
theorem atom_nodes {e : Ex} (h : e.atom) : e.nodes = 1 := by
  cases e <;> first | rfl | exact h.elim
/-- the end of loose: parentheses, or none -/
theorem loose_end {Z : Ad} {p : Addr} {M : MH} {o : MO} {R : DR} {P : PX} {e : Ex} {t : Nat} {tag : Str} {s : List Nat} {x5 x6 x7 : Option Xv} (ho : isHand o) (hc : Core e s) (hl : s.length + 12 ≤ 40 * e.nodes) (hb : s.length ≤ 500000)
    (hm : ((tag == ("or" : Str)) && decide ((0 : Int) < (t : Int))) = false → ((tag == ("then" : Str)) && decide ((1 : Int) < (t : Int))) = false → e.bareOk t)
    (h : ∀ o' u, isHand o' → Loo e t u → u.length ≤ 40 * e.nodes → R (.d (.str (strL u))) (mset M p o')) :
    dSeq (dIfS (dOr (dAnd (dB (dOp dEq (dVar 3) (dC (.d (.str "or"))))) (dB (dOp dGt (dVar 2) (dC (.d (.int 0)))))) (dOr (dAnd (dB (dOp dEq (dVar 3) (dC (.d (.str "then"))))) (dB (dOp dGt (dVar 2) (dC (.d (.int 1)))))) (dB (dOp dEq (dCall 2 (sp_L_draw Z) (dCons (dVar 0) (dCons (dC (.d (.int 12))) dNil))) (dC (.d (.int 0))))))) (dSet 4 (dOp dAdd (dOp dAdd (dOp dAdd (dOp dAdd (dC (.d (.str "("))) (dCall 1 (sp_L_blanks Z) (dCons (dVar 0) dNil))) (dVar 4)) (dCall 1 (sp_L_blanks Z) (dCons (dVar 0) dNil))) (dC (.d (.str ")")))))
    dNext)
    (dRet (dVar 4)) { nx := fun _ M' => R (.d .none) M', rt := R, ex := P } [some (.r (.ref p)), some (.d e.d), some (.d (.int (t : Nat))), some (.d (.str tag)), some (.d (.str (strL s))), x5, x6, x7] (mset M p o) := by
  have wrap : ∀ o1, isHand o1 → dSet 4 (dOp dAdd (dOp dAdd (dOp dAdd (dOp dAdd (dC (.d (.str "("))) (dCall 1 (sp_L_blanks Z) (dCons (dVar 0) dNil))) (dVar 4)) (dCall 1 (sp_L_blanks Z) (dCons (dVar 0) dNil))) (dC (.d (.str ")")))) { nx := dRet (dVar 4) { nx := fun _ M' => R (.d .none) M', rt := R, ex := P }, rt := R, ex := P } [some (.r (.ref p)), some (.d e.d), some (.d (.int (t : Nat))), some (.d (.str tag)), some (.d (.str (strL s))), x5, x6, x7] (mset M p o1) := by
    intro o1 ho1
    unfold dSet
    refine op_v (op_v (op_v (op_v ?_)))
    have e1 : ("(" : Str) = strL [40] := by decide +kernel
    have e2 : (")" : Str) = strL [41] := by decide +kernel
    rw [e1, e2]
    refine blanks_h rfl ho1 fun o2 i ho2 hi => ?_
    rw [dAdd_ss (by rw [strL_len, strL_len, bl_len, sizeLine_eq]; simp only [List.length_cons, List.length_nil]; omega), strL_append]
    refine (ev_var rfl : Ev (dVar 4) _ _ (.d (.str (strL s)))) _ _ ?_
    rw [dAdd_ss (by rw [strL_len, strL_len, List.length_append, bl_len, sizeLine_eq]; simp only [List.length_cons, List.length_nil]; omega), strL_append]
    refine blanks_h rfl ho2 fun o3 j ho3 hj => ?_
    rw [dAdd_ss (by rw [strL_len, strL_len, List.length_append, List.length_append, bl_len, bl_len, sizeLine_eq]; simp only [List.length_cons, List.length_nil]; omega), strL_append]
    unfold dC
    dsimp only
    rw [dAdd_ss (by rw [strL_len, strL_len, List.length_append, List.length_append, List.length_append, bl_len, bl_len, sizeLine_eq]; simp only [List.length_cons, List.length_nil]; omega), strL_append]
    refine ret_i (ev_var rfl) (h o3 _ ho3 ?_ ?_)
    · have : ((([40] ++ bl i) ++ s) ++ bl j) ++ [41] = 40 :: (bl i ++ s ++ bl j ++ [41]) := by simp
      rw [this]
      exact .wrap hc
    · simp only [List.length_append, List.length_cons, List.length_nil, bl_len]
      omega
  refine sif_v ?_
  unfold dOr
  refine (evt_and (evt (ev_eqs (ev_var rfl) ev_c)) (fun _ => evt (ev_gt (ev_var rfl) ev_c)) : EvT _ _ _ ((tag == ("or" : Str)) && decide ((0 : Int) < (t : Int)))) _ _ ?_
  cases b1 : ((tag == ("or" : Str)) && decide ((0 : Int) < (t : Int))) with
  | true => exact wrap o ho
  | false =>
    rw [if_neg Bool.false_ne_true]
    refine (evt_and (evt (ev_eqs (ev_var rfl) ev_c)) (fun _ => evt (ev_gt (ev_var rfl) ev_c)) : EvT _ _ _ ((tag == ("then" : Str)) && decide ((1 : Int) < (t : Int)))) _ _ ?_
    cases b2 : ((tag == ("then" : Str)) && decide ((1 : Int) < (t : Int))) with
    | true => exact wrap o ho
    | false =>
      rw [if_neg Bool.false_ne_true]
      refine draw0 12 rfl ho (by decide) (by decide) fun o1 b3 ho1 => ?_
      cases b3 with
      | true => exact wrap o1 ho1
      | false => exact ret_i (ev_var rfl) (h o1 _ ho1 (.bare (hm b1 b2) hc) (by omega))
theorem pure_loose {Z : Ad} (spr : SpX) (k : Nat) (hk : ∀ m, k = m + 1 → ∀ xs M R P, sp_L_loose Z m xs M R P → spr xs M R P) (xs : List Xv) (M : MH) (R : DR) (P : PX) (hl : xs.length = 3) (h : sp_L_loose Z k xs M R P) :
    t_L_loose spr Z { nx := fun _ M' => R (.d .none) M', rt := R, ex := P } (startX N_L_loose xs) M := by
  obtain ⟨p, o, e, t, rfl, em, ho, ok, dp, k10, h⟩ := h
  obtain ⟨k', rfl⟩ : ∃ k', k = k' + 1 := by
    cases k with
    | zero => cases e <;> (first | (have : (1 : Nat) ≤ 0 := dp; omega) | (exfalso; revert dp; unfold Ex.deep; omega))
    | succ k' => exact ⟨k', rfl⟩
  have hs := hk k' rfl
  show dSeq _ _ _ [some (.r (.ref p)), some (.d e.d), some (.d (.int (t : Nat))), none, none, none, none, none] M
  rw [← mset_id em]
  have tagAny : ∀ (tag : Str) (rest : List PyData), e.d = .tuple (.str tag :: rest) → ∀ te D, te D [some (.r (.ref p)), some (.d e.d), some (.d (.int (t : Nat))), some (.d (.str tag)), none, none, none, none] (mset M p o) → dSeq (dSet 3 (dOp dIx (dVar 1) (dC (.d (.int 0))))) te D [some (.r (.ref p)), some (.d e.d), some (.d (.int (t : Nat))), none, none, none, none, none] (mset M p o) := by
    intro tag rest ed te D q
    refine sset (x := .d (.str tag)) (ev_ixt (ds := .str tag :: rest) (i := 0) ?_ ev_c (atI_0 _ _)) q
    rw [← ed]
    exact ev_var rfl
  have inA : ∀ (tag : Str) (b : Bool) (x5 x6 x7 x4 : Option Xv), ([PyData.str "word", .str "back", .str "any", .str "here", .str "node"].any fun z => PyData.eqv z (.str tag)) = b → EvT (dB (dOp (dInS false) (dVar 3) (dLst (dCons (dC (.d (.str "word"))) (dCons (dC (.d (.str "back"))) (dCons (dC (.d (.str "any"))) (dCons (dC (.d (.str "here"))) (dCons (dC (.d (.str "node"))) dNil)))))))) [some (.r (.ref p)), some (.d e.d), some (.d (.int (t : Nat))), some (.d (.str tag)), x4, x5, x6, x7] (mset M p o) b := by
    intro tag b x5 x6 x7 x4 hb
    refine evt (ev_op (ev_var rfl) (ev_lst (ds := [.str "word", .str "back", .str "any", .str "here", .str "node"]) (fun R P q => q) (by rw [sizeLine_eq]; simp)) fun R P q => inS_l rfl ?_)
    rw [hb]
    exact q
  have inB : ∀ (tag : Str) (b : Bool) (x5 x6 x7 x4 : Option Xv), ([PyData.str "then", .str "or"].any fun z => PyData.eqv z (.str tag)) = b → EvT (dB (dOp (dInS false) (dVar 3) (dLst (dCons (dC (.d (.str "then"))) (dCons (dC (.d (.str "or"))) dNil))))) [some (.r (.ref p)), some (.d e.d), some (.d (.int (t : Nat))), some (.d (.str tag)), x4, x5, x6, x7] (mset M p o) b := by
    intro tag b x5 x6 x7 x4 hb
    refine evt (ev_op (ev_var rfl) (ev_lst (ds := [.str "then", .str "or"]) (fun R P q => q) (by rw [sizeLine_eq]; simp)) fun R P q => inS_l rfl ?_)
    rw [hb]
    exact q
  have atomCase : ∀ (tag : Str) (rest : List PyData), e.d = .tuple (.str tag :: rest) → ([PyData.str "word", .str "back", .str "any", .str "here", .str "node"].any fun z => PyData.eqv z (.str tag)) = true → e.atom → e.bareOk t → t_L_loose spr Z { nx := fun _ M' => R (.d .none) M', rt := R, ex := P } [some (.r (.ref p)), some (.d e.d), some (.d (.int (t : Nat))), none, none, none, none, none] (mset M p o) := by
    intro tag rest ed hin at_ bo
    have al := atom_len ok at_
    have nn := atom_nodes at_
    refine tagAny tag rest ed _ _ ?_
    refine sif2 (inA tag true _ _ _ _ hin) (fun _ => ?_) (fun q => by cases q)
    refine set_i (lone_h (ev_var rfl) ok at_) ?_
    exact loose_end ho (.atom at_) (by omega) (by omega) (fun _ _ => bo) fun o' u ho' lo len => h o' u ho' lo len
  have unaryCase : ∀ (tag : Str) (rest : List PyData) (a : Ex), e.d = .tuple (.str tag :: (rest ++ [a.d])) → e.nodes = a.nodes + 1 → ([PyData.str "word", .str "back", .str "any", .str "here", .str "node"].any fun z => PyData.eqv z (.str tag)) = false → ([PyData.str "then", .str "or"].any fun z => PyData.eqv z (.str tag)) = false → e.unary → e.bareOk t → a.ok → a.deep ≤ k' →
      (∀ s i, Loo a 2 s → Core e (s ++ bl i ++ e.signT)) → e.signT.length ≤ 5 → t_L_loose spr Z { nx := fun _ M' => R (.d .none) M', rt := R, ex := P } [some (.r (.ref p)), some (.d e.d), some (.d (.int (t : Nat))), none, none, none, none, none] (mset M p o) := by
    intro tag rest a ed nn hA hB un bo aok adp core sl
    refine tagAny tag _ ed _ _ ?_
    refine sif2 (inA tag false _ _ _ _ hA) (fun q => by cases q) (fun _ => ?_)
    refine if_i (inB tag false _ _ _ _ hB) (fun q => by cases q) (fun _ => ?_)
    unfold dSet
    refine op_v (op_v ?_)
    refine loose_h (e := a) (t := 2) hs rfl ?_ ev_c ho aok adp (by omega) fun o1 s ho1 lo len => ?_
    · refine ev_ixt (ds := .str tag :: (rest ++ [a.d])) (i := -1) ?_ (ev_neg ev_c) ?_
      · rw [← ed]
        exact ev_var rfl
      · exact atI_last (PyData.str tag :: rest) a.d
    refine blanks_h rfl ho1 fun o2 i ho2 hi => ?_
    rw [dAdd_ss (by rw [strL_len, strL_len, bl_len, sizeLine_eq]; omega), strL_append]
    refine (sign_h (e := e) (ev_var rfl) ok un : Ev _ _ _ _) _ _ ?_
    rw [dAdd_ss (by rw [strL_len, strL_len, List.length_append, bl_len, sizeLine_eq]; omega), strL_append]
    have cl : (s ++ bl i ++ e.signT).length ≤ s.length + 10 := by
      simp only [List.length_append, bl_len]
      omega
    exact loose_end ho2 (core s i lo) (by omega) (by omega) (fun _ _ => bo) fun o' u ho' lo len => h o' u ho' lo len
  cases e with
  | word s => exact atomCase "word" _ rfl (by decide +kernel) trivial trivial
  | back s => exact atomCase "back" _ rfl (by decide +kernel) trivial trivial
  | any => exact atomCase "any" _ rfl (by decide +kernel) trivial trivial
  | here => exact atomCase "here" _ rfl (by decide +kernel) trivial trivial
  | node t v => exact atomCase "node" _ rfl (by decide +kernel) trivial trivial
  | lone j a =>
    have hj : j = 0 ∨ j = 1 ∨ j = 2 := by have := ok.1; omega
    have ad : a.deep ≤ k' := by have : a.deep + 1 ≤ k' + 1 := dp; omega
    refine unaryCase (loneW j) [] a rfl rfl ?_ ?_ trivial trivial ok.2 ad (fun s i lo => .lone lo) (by show 1 ≤ 5; decide)
    · rcases hj with rfl | rfl | rfl <;> decide +kernel
    · rcases hj with rfl | rfl | rfl <;> decide +kernel
  | times l m a =>
    have ad : a.deep ≤ k' := by have : a.deep + 1 ≤ k' + 1 := dp; omega
    exact unaryCase "times" [.int (l : Nat), .int (m : Nat)] a rfl rfl (by decide +kernel) (by decide +kernel) trivial trivial ok.2.2.2 ad (fun s i lo => .times lo) (by show 5 ≤ 5; decide)
  | two b x y =>
    have nn : (Ex.two b x y).nodes = x.nodes + y.nodes + 1 := rfl
    have xd : x.deep ≤ k' := by have : max x.deep y.deep + 1 ≤ k' + 1 := dp; omega
    have yd : y.deep ≤ k' := by have : max x.deep y.deep + 1 ≤ k' + 1 := dp; omega
    refine tagAny (if b then "or" else "then") [x.d, y.d] rfl _ _ ?_
    refine sif2 (inA (if b then "or" else "then") false _ _ _ _ (by cases b <;> decide +kernel)) (fun q => by cases q) (fun _ => ?_)
    refine if_i (inB (if b then "or" else "then") true _ _ _ _ (by cases b <;> decide +kernel)) (fun _ => ?_) (fun q => by cases q)
    have thenT : ∀ (x4 x5 x6 x7 : Option Xv) (M1 : MH), Ev (dApp cInt (dCons (dOp dEq (dVar 3) (dC (.d (.str "then")))) dNil)) [some (.r (.ref p)), some (.d (Ex.two b x y).d), some (.d (.int (t : Nat))), some (.d (.str (if b then "or" else "then"))), x4, x5, x6, x7] M1 (.d (.int ((if b then 0 else 1 : Nat) : Int))) := by
      intro x4 x5 x6 x7 M1
      have := ev_intb (M := M1) (ev_eqs (a := if b then "or" else "then") (b := "then") (ev_var (r := [some (.r (.ref p)), some (.d (Ex.two b x y).d), some (.d (.int (t : Nat))), some (.d (.str (if b then "or" else "then"))), x4, x5, x6, x7]) (n := 3) rfl) (ev_c (x := .d (.str "then"))))
      cases b
      · exact this
      · exact this
    refine set_v (loose_h (e := x) (t := if b then 0 else 1) hs rfl (ev_ixt (ds := [.str (if b then "or" else "then"), x.d, y.d]) (i := 1) (ev_var rfl) ev_c rfl) (thenT _ _ _ _ _) ho ok.1 xd (by omega) fun o1 s1 ho1 lo1 len1 => ?_)
    have t2 : ∀ (x4 x5 x6 x7 : Option Xv) (M1 : MH), Ev (dOp dAdd (dC (.d (.int 1))) (dApp cInt (dCons (dOp dEq (dVar 3) (dC (.d (.str "then")))) dNil))) [some (.r (.ref p)), some (.d (Ex.two b x y).d), some (.d (.int (t : Nat))), some (.d (.str (if b then "or" else "then"))), x4, x5, x6, x7] M1 (.d (.int ((if b then 1 else 2 : Nat) : Int))) := by
      intro x4 x5 x6 x7 M1
      have := ev_add (i := 1) (ev_c) (thenT x4 x5 x6 x7 M1)
      cases b
      · exact this
      · exact this
    refine set_v (loose_h (e := y) (t := if b then 1 else 2) hs rfl (ev_ixt (ds := [.str (if b then "or" else "then"), x.d, y.d]) (i := 2) (ev_var rfl) ev_c rfl) (t2 _ _ _ _ _) ho1 ok.2 yd (by omega) fun o2 s2 ho2 lo2 len2 => ?_)
    refine set_v (blanks_h rfl ho2 fun o3 i ho3 hi => ?_)
    have fin : ∀ o4 mid, isHand o4 → mid.length ≤ 20 → Core (.two b x y) (s1 ++ mid ++ s2) → dSet 4 (dOp dAdd (dOp dAdd (dVar 5) (dVar 7)) (dVar 6)) { nx := dSeq (dIfS (dOr (dAnd (dB (dOp dEq (dVar 3) (dC (.d (.str "or"))))) (dB (dOp dGt (dVar 2) (dC (.d (.int 0)))))) (dOr (dAnd (dB (dOp dEq (dVar 3) (dC (.d (.str "then"))))) (dB (dOp dGt (dVar 2) (dC (.d (.int 1)))))) (dB (dOp dEq (dCall 2 (sp_L_draw Z) (dCons (dVar 0) (dCons (dC (.d (.int 12))) dNil))) (dC (.d (.int 0))))))) (dSet 4 (dOp dAdd (dOp dAdd (dOp dAdd (dOp dAdd (dC (.d (.str "("))) (dCall 1 (sp_L_blanks Z) (dCons (dVar 0) dNil))) (dVar 4)) (dCall 1 (sp_L_blanks Z) (dCons (dVar 0) dNil))) (dC (.d (.str ")"))))) dNext) (dRet (dVar 4)) { nx := fun _ M' => R (.d .none) M', rt := R, ex := P }, rt := R, ex := P } [some (.r (.ref p)), some (.d (Ex.two b x y).d), some (.d (.int (t : Nat))), some (.d (.str (if b then "or" else "then"))), none, some (.d (.str (strL s1))), some (.d (.str (strL s2))), some (.d (.str (strL mid)))] (mset M p o4) := by
      intro o4 mid ho4 ml core
      refine set_i (ev_adl (ev_adl (ev_var rfl) (ev_var rfl) (by omega)) (ev_var rfl) (by rw [List.length_append]; omega)) ?_
      have cl : (s1 ++ mid ++ s2).length ≤ 40 * (x.nodes + y.nodes) + 20 := by
        simp only [List.length_append]
        omega
      refine loose_end ho4 core (by omega) (by omega) (fun q1 q2 => ?_) fun o' u ho' lo len => h o' u ho' lo len
      cases b with
      | true =>
        have : ((("or" : Str) == ("or" : Str)) && decide ((0 : Int) < (t : Int))) = false := q1
        rw [beq_self_eq_true, Bool.true_and] at this
        have := of_decide_eq_false this
        show t = 0
        omega
      | false =>
        have : ((("then" : Str) == ("then" : Str)) && decide ((1 : Int) < (t : Int))) = false := q2
        rw [beq_self_eq_true, Bool.true_and] at this
        have := of_decide_eq_false this
        show t ≤ 1
        omega
    have e124 : ("|" : Str) = strL [124] := by decide +kernel
    have e32 : (" " : Str) = strL [32] := by decide +kernel
    cases b with
    | true =>
      refine sif2 (b := true) (evt (ev_op (ev_var rfl) ev_c fun R P q => ⟨Or.inl rfl, q⟩)) (fun _ => ?_) (fun q => by cases q)
      unfold dSet
      refine op_v (op_v ((ev_var rfl : Ev (dVar 7) _ _ (.d (.str (strL (bl i))))) _ _ ?_))
      rw [e124]
      unfold dC
      dsimp only
      rw [dAdd_ss (by rw [strL_len, strL_len, bl_len, sizeLine_eq]; simp only [List.length_cons, List.length_nil]; omega), strL_append]
      refine blanks_h rfl ho3 fun o4 j ho4 hj => ?_
      rw [dAdd_ss (by rw [strL_len, strL_len, List.length_append, bl_len, bl_len, sizeLine_eq]; simp only [List.length_cons, List.length_nil]; omega), strL_append]
      refine fin o4 (bl i ++ [124] ++ bl j) ho4 (by rw [List.length_append, List.length_append, bl_len, bl_len]; show i + 1 + j ≤ 20; omega) ?_
      have : s1 ++ (bl i ++ [124] ++ bl j) ++ s2 = s1 ++ bl i ++ 124 :: (bl j ++ s2) := by simp
      rw [this]
      exact .or lo1 lo2
    | false =>
      refine sif2 (b := false) (evt (ev_op (ev_var rfl) ev_c fun R P q => ⟨Or.inl rfl, q⟩)) (fun q => by cases q) (fun _ => ?_)
      have cl1 := cut_last s1
      have cl2 := cut_first s2
      refine if_i (evt_and (letter_h (s := cutS (strL s1) (some (-1)) none) (fun R P q => ?_) cl1.1) (fun _ => letter_h (s := cutS (strL s2) none (some 1)) (fun R P q => ?_) cl2.1)) (fun q => ?_) (fun q => ?_)
      · refine (ev_var rfl : Ev (dVar 5) _ _ (.d (.str (strL s1)))) _ _ ?_
        exact ⟨by rw [strL_len, sizeLine_eq]; omega, q⟩
      · refine (ev_var rfl : Ev (dVar 6) _ _ (.d (.str (strL s2)))) _ _ ?_
        exact ⟨by rw [strL_len, sizeLine_eq]; omega, q⟩
      · rw [e32]
        refine set_i (ev_adl (a := [32]) (b := bl i) ev_c (ev_var rfl) (by rw [bl_len]; show 1 + i ≤ 1000000; omega)) ?_
        refine fin o3 ([32] ++ bl i) ho3 (by rw [List.length_append, bl_len]; show 1 + i ≤ 20; omega) ?_
        have : s1 ++ ([32] ++ bl i) ++ s2 = s1 ++ bl (i + 1) ++ s2 := by
          unfold bl
          rw [List.replicate_succ]
          simp
        rw [this]
        exact .thn lo1 lo2 fun _ _ => by omega
      · refine fin o3 (bl i) ho3 (by rw [bl_len]; omega) ?_
        refine .thn lo1 lo2 fun q1 q2 => ?_
        rw [cl1.2, cl2.2, q1, q2] at q
        cases q
end Y
set_option maxHeartbeats 4000000
namespace Y
open PySem PySem.Spec PyProof.Rows L2
section
variable {P : Program} {w : World} {K : PySem.W.Frag} {mg : Str → Option Value} {base : Heap} {Z : Ad}
theorem g_L_mixed (z : Fx K mg Z w) : FnOk P w K mg base (L2.CX P w) 2 Z.f_L_mixed Z.e_L_mixed ["_law_cell", "_law_turn"] (toSp K 2 (sp_L_mixed Z)) := ok_L_mixed z pure_L_mixed
theorem g_L_hand (z : Fx K mg Z w) : FnOk P w K mg base (L2.CX P w) 2 Z.f_L_hand Z.e_L_hand ["_law_script"] (toSp K 1 (sp_L_hand Z)) := ok_L_hand z pure_L_hand
theorem g_L_draw (z : Fx K mg Z w) : FnOk P w K mg base (L2.CX P w) 3 Z.f_L_draw Z.e_L_draw ["_law_hand_here", "_law_many"] (toSp K 2 (sp_L_draw Z)) := ok_L_draw z (g_L_mixed z) pure_L_draw
theorem g_L_letters (z : Fx K mg Z w) : FnOk P w K mg base (L2.CX P w) 4 Z.f_L_letters Z.e_L_letters ["_law_hand_here", "_law_many"] (toSp K 2 (sp_L_letters Z)) := ok_L_letters z (g_L_draw z) pure_L_letters
theorem g_L_words (z : Fx K mg Z w) : FnOk P w K mg base (L2.CX P w) 5 Z.f_L_words Z.e_L_words ["_law_hand_here"] (toSp K 1 (sp_L_words Z)) := ok_L_words z (g_L_letters z) (g_L_draw z) pure_L_words
theorem g_L_worths (z : Fx K mg Z w) : FnOk P w K mg base (L2.CX P w) 4 Z.f_L_worths Z.e_L_worths ["_law_hand_here"] (toSp K 1 (sp_L_worths Z)) := ok_L_worths z (g_L_draw z) pure_L_worths
theorem g_L_atom (z : Fx K mg Z w) : FnOk P w K mg base (L2.CX P w) 4 Z.f_L_atom Z.e_L_atom ["_law_hand_here", "_law_words_here", "_law_worths_here"] (toSp K 3 (sp_L_atom Z)) := ok_L_atom z (g_L_draw z) pure_L_atom
theorem g_L_expression (z : Fx K mg Z w) : ∀ n : Nat, FnOk P w K mg base (L2.CX P w) (7 + n) Z.f_L_expression Z.e_L_expression ["_law_hand_here", "_law_words_here", "_law_worths_here", "_law_room", "_law_deep"] (toSp K 5 (sp_L_expression Z n))
  | 0 => ok_L_expression z (g_L_draw z) (g_L_atom z) (Nat.le_refl 6) (fn_never rfl) (pure_expression _ 0 fun m e => by cases e)
  | n + 1 => ok_L_expression z (g_L_draw z) (g_L_atom z) (by omega : 6 ≤ 7 + n) (g_L_expression z n) (pure_expression _ (n + 1) fun m e xs M R P q => by cases e; exact q)
theorem g_L_is_letter (z : Fx K mg Z w) : FnOk P w K mg base (L2.CX P w) 2 Z.f_L_is_letter Z.e_L_is_letter ["_law_sign"] (toSp K 1 (sp_L_is_letter Z)) := ok_L_is_letter z pure_L_is_letter
theorem g_L_lone_text (z : Fx K mg Z w) : FnOk P w K mg base (L2.CX P w) 2 Z.f_L_lone_text Z.e_L_lone_text ["_law_thing"] (toSp K 1 (sp_L_lone_text Z)) := ok_L_lone_text z pure_L_lone_text
theorem g_L_sign_text (z : Fx K mg Z w) : FnOk P w K mg base (L2.CX P w) 2 Z.f_L_sign_text Z.e_L_sign_text ["_law_thing"] (toSp K 1 (sp_L_sign_text Z)) := ok_L_sign_text z pure_L_sign_text
theorem g_L_blanks (z : Fx K mg Z w) : FnOk P w K mg base (L2.CX P w) 4 Z.f_L_blanks Z.e_L_blanks ["_law_hand_here"] (toSp K 1 (sp_L_blanks Z)) := ok_L_blanks z (g_L_draw z) pure_L_blanks
theorem g_L_loose (z : Fx K mg Z w) : ∀ n : Nat, FnOk P w K mg base (L2.CX P w) (7 + n) Z.f_L_loose Z.e_L_loose ["_law_hand_here", "_law_thing", "_law_tight"] (toSp K 3 (sp_L_loose Z n))
  | 0 => ok_L_loose z (g_L_lone_text z) (g_L_blanks z) (g_L_is_letter z) (g_L_sign_text z) (g_L_draw z) (Nat.le_refl 6) (fn_never rfl) (pure_loose _ 0 fun m e => by cases e)
  | n + 1 => ok_L_loose z (g_L_lone_text z) (g_L_blanks z) (g_L_is_letter z) (g_L_sign_text z) (g_L_draw z) (by omega : 6 ≤ 7 + n) (g_L_loose z n) (pure_loose _ (n + 1) fun m e xs M R P q => by cases e; exact q)
end
end Y
set_option maxHeartbeats 4000000
/-! what the law's own reader of parts tells -/
namespace Y
open PySem PySem.Spec PyProof.Rows L2
def rrD {α : Type} (f : α → PyData) : RR α → PyData
  | .ok (x, a) => .tuple [f x, .int (a : Nat)]
  | .error e => .tuple [.none, .int (e : Nat)]
/-- the figures of a number at a place, and the place behind them -/
def figF (z : Str) (i : Nat) : RR (List Nat) :=
  let neg := decide (at? z i = some 45)
  match takeF (if neg then fig1C else figC) z (if neg then i + 1 else i) with
  | .error e => .error e
  | .ok (c, a) => .ok (finF z (if neg then [45, c] else [c]) a)
theorem worth_fig (z : Str) (i : Nat) : worthF z i = match figF z i with
    | .error e => .error e
    | .ok (l, a) => (match valF l with
      | some n => .ok (n, a)
      | none => .error i) := by
  unfold worthF figF
  dsimp only
  cases takeF (if decide (at? z i = some 45) = true then fig1C else figC) z (if decide (at? z i = some 45) = true then i + 1 else i) with
  | error e => rfl
  | ok q => rfl
def textAt (pre : Str → Nat → Prop) (res : Str → Nat → PyData) : SpX := fun xs M R P => ∃ (z : Str) (i : Nat), xs = [.d (.str z), .d (.int (i : Nat))] ∧ z.length ≤ 1000000 ∧ i ≤ 1000000 ∧ pre z i ∧ R (.d (res z i)) M
def sp_L_word_at (Z : Ad) : SpX := textAt (fun _ _ => True) fun z i => rrD .str (wordF z i)
def sp_L_figures_at (Z : Ad) : SpX := textAt (fun _ _ => True) fun z i => rrD (fun _ => .bool true) (figF z i)
def sp_L_node_at (Z : Ad) : SpX := textAt (fun _ _ => True) fun z i => rrD id (nodeF z (i + 1))
def sp_L_part_at (Z : Ad) : SpX := textAt (fun _ _ => True) fun z i => rrD id (atomF z i)
def sp_L_times_at (Z : Ad) : SpX := textAt (fun z i => at? z i = some 123) fun z i => rrD (fun q => .tuple [.int q.1, .int q.2]) (timesF z i)
end Y
set_option maxHeartbeats 4000000
namespace Y
open PySem PySem.Spec PyProof.Rows L2
/-- a part that was read: its expression, how deep, its size -/
structure Tr where
  d : PyData
  deep : Nat
  many : Int
def Tr.t (x : Tr) : PyData := .tuple [x.d, .int (x.deep : Nat), .int x.many]
def joinT (w : Str) (a : Tr) (l : List Tr) : Tr := l.foldl (fun a b => ⟨.tuple [.str w, a.d, b.d], max a.deep b.deep + 1, a.many + b.many⟩) a
end Y
set_option maxHeartbeats 4000000
namespace Y
open PySem PySem.Spec PyProof.Rows L2
end Y
set_option maxHeartbeats 4000000
/-! parts that were read: their sizes, the program's frames -/
namespace Y
open PySem PySem.Spec PyProof.Rows L2
/-- deep and many are what the program reckons; its texts are short -/
structure Tr.ok (x : Tr) : Prop where
  deep : 1 ≤ x.deep
  size : ∀ f, sizeW f x.d = if x.deep ≤ f then some x.many else none
  txts : strsOk x.d = true
  many : 1 ≤ x.many
  lay : PyData.canLay0 x.d = true
  sho : PyData.intsShort 20 x.d = true
  shw : PyData.showable x.d = true
  dep : PyData.depth x.d ≤ x.deep
  wgt : (PyData.weight x.d : Int) ≤ 70 * ((x.deep : Int) * x.many)
theorem noneD_iff {d : PyData} : noneD d = true ↔ d = .none := by
  cases d <;> simp [noneD]
theorem Tr.ok.some {x : Tr} (h : x.ok) : noneD x.d = false := by
  have e := h.size x.deep
  rw [if_pos (Nat.le_refl _)] at e
  cases q : noneD x.d with
  | false => rfl
  | true =>
    rw [noneD_iff.mp q] at e
    obtain ⟨n, hn⟩ : ∃ n, x.deep = n + 1 := ⟨x.deep - 1, by have := h.deep; omega⟩
    rw [hn] at e
    cases e
/-- an expression of one part -/
theorem ok_one {k : Str} {x : Tr} (h : x.ok) (hk : k = "star" ∨ k = "plus" ∨ k = "maybe") : Tr.ok ⟨.tuple [.str k, x.d], x.deep + 1, x.many⟩ where
  deep := by show 1 ≤ x.deep + 1; omega
  size := fun f => by
    cases f with
    | zero => rfl
    | succ n =>
      have e1 : signD (.tuple [.str k, x.d]) = true := rfl
      have e2 : atomL k [x.d] = false := by
        rcases hk with rfl | rfl | rfl <;> (unfold atomL; rw [if_neg (by decide +kernel), if_neg (by decide +kernel)]; cases x.d <;> rfl)
      have e3 : partsL k [x.d] = some [x.d] := by
        unfold partsL
        dsimp only
        rw [if_pos hk]
      have e4 : mulBy k [x.d] = 1 := by
        unfold mulBy
        rw [if_neg (by rcases hk with rfl | rfl | rfl <;> decide +kernel)]
      unfold sizeW
      rw [e1, if_neg (by decide), e2, if_neg (by decide), e3]
      dsimp only
      rw [e4]
      simp only [List.map_cons, List.map_nil, h.size n, Nat.add_le_add_iff_right]
      split <;> simp [sumO]
  txts := by
    have : k.length ≤ 100000 := by rcases hk with rfl | rfl | rfl <;> decide +kernel
    show strsAll [.str k, x.d] = true
    simp [strsAll, h.txts, strsOk, this]
  many := h.many
  lay := by
    have : PySem.PyData.strOk k = true := by rcases hk with rfl | rfl | rfl <;> decide +kernel
    simp [PyData.canLay0, PyData.canLayAll0, h.lay, this]
  sho := by simp [PyData.intsShort, PyData.intsShortAll, h.sho]
  shw := by simp [PyData.showable, PyData.showableAll, h.shw]
  dep := by
    have := h.dep
    simp [PyData.depth, PyData.depthAll]
    omega
  wgt := by
    have hw := h.wgt
    have hm := h.many
    have : k.cps.size ≤ 5 := by rcases hk with rfl | rfl | rfl <;> decide +kernel
    have e : ((x.deep + 1 : Nat) : Int) * x.many = (x.deep : Int) * x.many + x.many := by
      rw [Int.natCast_add, Int.add_mul]
      simp
    simp only [PyData.weight, PyData.weightAll, e]
    omega
theorem ok_two {k : Str} {x y : Tr} (h : x.ok) (h' : y.ok) (hk : k = "then" ∨ k = "or") : Tr.ok ⟨.tuple [.str k, x.d, y.d], max x.deep y.deep + 1, x.many + y.many⟩ where
  deep := by show 1 ≤ max x.deep y.deep + 1; omega
  size := fun f => by
    cases f with
    | zero => rfl
    | succ n =>
      have hkn : k ≠ "node" := by rcases hk with rfl | rfl <;> decide +kernel
      have e1 : signD (.tuple [.str k, x.d, y.d]) = true := by
        unfold signD
        simp [hkn]
      have e2 : atomL k [x.d, y.d] = false := by
        unfold atomL
        rw [if_neg (by rcases hk with rfl | rfl <;> decide +kernel), if_neg (by rcases hk with rfl | rfl <;> decide +kernel)]
        split
        · simp [hkn]
        · rfl
      have e3 : partsL k [x.d, y.d] = some [x.d, y.d] := by
        unfold partsL
        dsimp only
        rw [if_pos hk]
      have e4 : mulBy k [x.d, y.d] = 1 := by
        unfold mulBy
        rw [if_neg (by rcases hk with rfl | rfl <;> decide +kernel)]
      unfold sizeW
      rw [e1, if_neg (by decide), e2, if_neg (by decide), e3]
      dsimp only
      rw [e4]
      simp only [List.map_cons, List.map_nil, h.size n, h'.size n, Nat.add_le_add_iff_right]
      by_cases a : x.deep ≤ n
      · by_cases b : y.deep ≤ n
        · have hm : max x.deep y.deep ≤ n := by omega
          rw [if_pos a, if_pos b, if_pos hm]
          simp [sumO]
        · have hm : ¬ max x.deep y.deep ≤ n := by omega
          rw [if_pos a, if_neg b, if_neg hm]
          simp [sumO]
      · have hm : ¬ max x.deep y.deep ≤ n := by omega
        rw [if_neg a, if_neg hm]
        rfl
  txts := by
    have : k.length ≤ 100000 := by rcases hk with rfl | rfl <;> decide +kernel
    show strsAll [.str k, x.d, y.d] = true
    simp [strsAll, h.txts, h'.txts, strsOk, this]
  many := by
    have := h.many
    have := h'.many
    show 1 ≤ x.many + y.many
    omega
  lay := by
    have : PySem.PyData.strOk k = true := by rcases hk with rfl | rfl <;> decide +kernel
    simp [PyData.canLay0, PyData.canLayAll0, h.lay, h'.lay, this]
  sho := by simp [PyData.intsShort, PyData.intsShortAll, h.sho, h'.sho]
  shw := by simp [PyData.showable, PyData.showableAll, h.shw, h'.shw]
  dep := by
    have := h.dep
    have := h'.dep
    simp [PyData.depth, PyData.depthAll]
    omega
  wgt := by
    have hw := h.wgt
    have hm := h.many
    have hw' := h'.wgt
    have hm' := h'.many
    have : k.cps.size ≤ 5 := by rcases hk with rfl | rfl <;> decide +kernel
    have a1 : (x.deep : Int) * x.many ≤ ((max x.deep y.deep : Nat) : Int) * x.many := Int.mul_le_mul_of_nonneg_right (by omega) (by omega)
    have a2 : (y.deep : Int) * y.many ≤ ((max x.deep y.deep : Nat) : Int) * y.many := Int.mul_le_mul_of_nonneg_right (by omega) (by omega)
    have e : ((max x.deep y.deep + 1 : Nat) : Int) * (x.many + y.many) = ((max x.deep y.deep : Nat) : Int) * x.many + ((max x.deep y.deep : Nat) : Int) * y.many + (x.many + y.many) := by
      rw [Int.natCast_add, Int.add_mul, Int.mul_add]
      simp
    simp only [PyData.weight, PyData.weightAll, e]
    omega
theorem ok_times {l m : Int} {x : Tr} (h : x.ok) (hl : 0 ≤ l ∧ l ≤ 9) (hm : max 1 l ≤ m ∧ m ≤ 9) : Tr.ok ⟨.tuple [.str "times", .int l, .int m, x.d], x.deep + 1, x.many * m⟩ where
  deep := by show 1 ≤ x.deep + 1; omega
  size := fun f => by
    cases f with
    | zero => rfl
    | succ n =>
      have e1 : signD (.tuple [.str "times", .int l, .int m, x.d]) = true := rfl
      have e2 : atomL "times" [.int l, .int m, x.d] = false := by
        unfold atomL
        rw [if_neg (by decide +kernel), if_neg (by decide +kernel)]
      have e3 : partsL "times" [.int l, .int m, x.d] = some [x.d] := by
        unfold partsL
        dsimp only
        rw [if_pos]
        refine ⟨rfl, ?_, ?_⟩
        · simp [inR, hl.1, hl.2]
        · have : leastOf (.int l) = max 1 l := by
            show (if l > 1 then l else 1) = max 1 l
            split <;> omega
          rw [this]
          simp [inR]
          omega
      have e4 : mulBy "times" [.int l, .int m, x.d] = m := by
        unfold mulBy
        rw [if_pos rfl]
      unfold sizeW
      rw [e1, if_neg (by decide), e2, if_neg (by decide), e3]
      dsimp only
      rw [e4]
      simp only [List.map_cons, List.map_nil, h.size n, Nat.add_le_add_iff_right]
      split <;> simp [sumO]
  txts := by
    have : ("times" : Str).length ≤ 100000 := by decide +kernel
    show strsAll [.str "times", .int l, .int m, x.d] = true
    simp [strsAll, h.txts, strsOk, this]
  many := by
    have := h.many
    have e : x.many * 1 ≤ x.many * m := Int.mul_le_mul_of_nonneg_left (by omega) (by omega)
    show 1 ≤ x.many * m
    omega
  lay := by
    have : PySem.PyData.strOk ("times" : Str) = true := by decide +kernel
    simp [PyData.canLay0, PyData.canLayAll0, h.lay, this]
  sho := by
    have d : ∀ n : Int, 0 ≤ n → n ≤ 9 → PyData.intsShort 20 (.int n) = true := fun n h0 h9 => by
      obtain ⟨k, rfl⟩ := Int.eq_ofNat_of_zero_le h0
      show decide (((toString (k : Int) : Str)).length ≤ 20) = true
      have : (numT (k : Int)).length = 1 := by rw [dig_T (by omega)]; rfl
      have e : (toString (k : Int) : Str).length = (numT (k : Int)).length := rfl
      exact decide_eq_true (by omega)
    simp [PyData.intsShort, PyData.intsShortAll, h.sho]
    exact ⟨by simpa [PyData.intsShort] using d l hl.1 hl.2, by simpa [PyData.intsShort] using d m (by omega) hm.2⟩
  shw := by
    simp [PyData.showable, PyData.showableAll, h.shw]
    exact ⟨log_ok ⟨by omega, by omega⟩, log_ok ⟨by omega, by omega⟩⟩
  dep := by
    have := h.dep
    simp [PyData.depth, PyData.depthAll]
    omega
  wgt := by
    have hw := h.wgt
    have hmx := h.many
    have d : ∀ n : Int, 0 ≤ n → n ≤ 9 → PyData.weight (.int n) ≤ 4 := fun n h0 h9 => by
      obtain ⟨k, rfl⟩ := Int.eq_ofNat_of_zero_le h0
      have : k ≤ 9 := by omega
      have : ∀ k, k ≤ 9 → PyData.weight (.int (k : Nat)) ≤ 4 := by decide +kernel
      exact this k (by omega)
    have d1 := d l hl.1 hl.2
    have d2 := d m (by omega) hm.2
    have : ("times" : Str).cps.size = 5 := by decide +kernel
    have m1 : x.many * 1 ≤ x.many * m := Int.mul_le_mul_of_nonneg_left (by omega) (by omega)
    have m2 : (x.deep : Int) * (x.many * 1) ≤ (x.deep : Int) * (x.many * m) := Int.mul_le_mul_of_nonneg_left m1 (by omega)
    rw [Int.mul_one] at m1 m2
    have e : ((x.deep + 1 : Nat) : Int) * (x.many * m) = (x.deep : Int) * (x.many * m) + x.many * m := by
      rw [Int.natCast_add, Int.add_mul]
      simp
    simp only [PyData.weight, PyData.weightAll, e] at d1 d2 ⊢
    omega
theorem ok_joinT {w : Str} (hw : w = "then" ∨ w = "or") : ∀ {l : List Tr} {a : Tr}, a.ok → (∀ x ∈ l, x.ok) → (joinT w a l).ok
  | [], _, h, _ => h
  | b :: l, a, h, hs => ok_joinT hw (l := l) (ok_two h (hs b List.mem_cons_self) hw) fun x hx => hs x (List.mem_cons_of_mem _ hx)
/-- what is read as an atom -/
theorem let_code {c : Nat} (h : letterC c = true) : c < 0x110000 := by
  have hm : c ∈ ("abcdefghijklmnopqrstuvwxyz" : Str).cps.toList := of_decide_eq_true h
  have : ∀ c ∈ ("abcdefghijklmnopqrstuvwxyz" : Str).cps.toList, c < 0x110000 := by decide +kernel
  exact this c hm
theorem worth_w {n : Int} (h : goodWorth n) : PyData.weight (.int n) ≤ 60 := by
  show (if n == 0 then 0 else n.natAbs.log2 + 1) ≤ 60
  split
  · omega
  · rename_i q
    have h1 : n.natAbs ≠ 0 := by
      simp at q
      omega
    have h2 : n.natAbs.log2 < 60 := (Nat.log2_lt h1).mpr (by
      have := h.1
      have := h.2
      have : (2 : Nat) ^ 60 = 1152921504606846976 := by decide
      omega)
    omega
theorem ok_atom {z : Str} {i j : Nat} {d : PyData} (h : atomF z i = .ok (d, j)) : Tr.ok ⟨d, 1, 1⟩ := by
  have fin : ∀ (k : Str) (rest : List PyData), k.length ≤ 100000 → d = .tuple (.str k :: rest) → signD d = true → atomL k rest = true → strsAll rest = true →
      PySem.PyData.strOk k = true ∧ PyData.canLayAll0 rest = true ∧ PyData.intsShortAll 20 rest = true ∧ PyData.showableAll rest = true ∧ PyData.depthAll rest = 0 ∧ k.cps.size ≤ 4 ∧ PyData.weightAll rest ≤ 65 → Tr.ok ⟨d, 1, 1⟩ := by
    rintro k rest hk rfl h1 h2 h3 ⟨y1, y2, y3, y4, y5, y6, y7⟩
    refine ⟨Nat.le_refl _, fun f => ?_, ?_, Int.le_refl _, by simp [PyData.canLay0, PyData.canLayAll0, y1, y2], by simp [PyData.intsShort, PyData.intsShortAll, y3], by simp [PyData.showable, PyData.showableAll, y4], by simp [PyData.depth, PyData.depthAll, y5], by
      simp only [PyData.weight, PyData.weightAll]
      omega⟩
    · cases f with
      | zero => rfl
      | succ n =>
        unfold sizeW
        rw [h1, if_neg (by decide), h2, if_pos rfl, if_pos (by show 1 ≤ n + 1; omega)]
    · show strsAll (.str k :: rest) = true
      simp [strsAll, h3, strsOk, hk]
  have word : ∀ {a : Nat} {u : Str}, wordF z a = .ok (u, j) → lettersD (.str u) 2 = true ∧ u.length = 2 ∧ PySem.PyData.strOk u = true := by
    intro a u hw
    unfold wordF at hw
    split at hw
    · cases hw
    · rename_i c x e1
      split at hw
      · cases hw
      · rename_i c' x' e2
        have l1 := (takeF_ok e1).2.2
        have l2 := (takeF_ok e2).2.2
        have good : lettersD (.str ⟨#[c, c']⟩) 2 = true := by
          show (decide (((2 : Nat) : Int) = 2) && [c, c'].all letterC) = true
          simp [l1, l2]
        have sok : PySem.PyData.strOk ⟨#[c, c']⟩ = true := by
          simp [PySem.PyData.strOk, let_code l1, let_code l2]
        split at hw
        · split at hw
          · cases hw
          · cases hw
            exact ⟨good, rfl, sok⟩
        · cases hw
          exact ⟨good, rfl, sok⟩
  unfold atomF at h
  split at h
  · cases h
  · rename_i c e
    split at h
    · split at h
      · cases h
      · rename_i u a hw
        cases h
        obtain ⟨g, gl, gk⟩ := word hw; have gl2 : u.cps.size = 2 := gl
        exact fin "word" [.str u] (by decide +kernel) rfl rfl (by unfold atomL; rw [if_neg (by decide +kernel), if_pos (by decide +kernel)]; exact g) (by simp [strsAll, strsOk, gl]) ⟨by decide +kernel, by simp [PyData.canLayAll0, PyData.canLay0, gk], rfl, rfl, rfl, by decide +kernel, by simp [PyData.weightAll, PyData.weight, gl2]⟩
    · split at h
      · split at h
        · cases h
        · rename_i u a hw
          cases h
          obtain ⟨g, gl, gk⟩ := word hw; have gl2 : u.cps.size = 2 := gl
          exact fin "back" [.str u] (by decide +kernel) rfl rfl (by unfold atomL; rw [if_neg (by decide +kernel), if_pos (by decide +kernel)]; exact g) (by simp [strsAll, strsOk, gl]) ⟨by decide +kernel, by simp [PyData.canLayAll0, PyData.canLay0, gk], rfl, rfl, rfl, by decide +kernel, by simp [PyData.weightAll, PyData.weight, gl2]⟩
      · split at h
        · cases h
          exact fin "any" [] (by decide +kernel) rfl rfl (by unfold atomL; rw [if_pos (by decide +kernel)]; rfl) rfl ⟨by decide +kernel, rfl, rfl, rfl, rfl, by decide +kernel, by decide⟩
        · split at h
          · cases h
            exact fin "here" [] (by decide +kernel) rfl rfl (by unfold atomL; rw [if_pos (by decide +kernel)]; rfl) rfl ⟨by decide +kernel, rfl, rfl, rfl, rfl, by decide +kernel, by decide⟩
          · split at h
            · unfold nodeF at h
              split at h
              · cases h
              · rename_i t x e1
                split at h
                · cases h
                · rename_i n a e2
                  split at h
                  · cases h
                  · cases h
                    have t1 := (takeF_ok e1).2.2
                    have w1 : worthD (.int n) = true := by
                      rw [worth_fig] at e2
                      split at e2
                      · cases e2
                      · rename_i l a' _
                        split at e2
                        · rename_i n' ev
                          cases e2
                          unfold valF at ev
                          split at ev
                          · cases ev
                          · cases q : PySem.intText? (strL l) with
                            | none => rw [q] at ev; cases ev
                            | some v =>
                              rw [q] at ev
                              have ev' : (if worthD (.int v) = true then some v else none) = some n := ev
                              split at ev'
                              · rename_i w
                                cases ev'
                                exact w
                              · cases ev'
                        · cases e2
                    have gw : goodWorth n := by
                      have q : (decide (-1000000000000000000 ≤ n) && decide (n ≤ 1000000000000000000)) = true := w1
                      rw [Bool.and_eq_true, decide_eq_true_eq, decide_eq_true_eq] at q
                      exact q
                    have t2 : t = 60 ∨ t = 61 ∨ t = 62 := by
                      unfold inS at t1
                      have e : ("<=>" : Str).cps.toList = [60, 61, 62] := by decide +kernel
                      rw [e] at t1
                      simpa using t1
                    have tt : one t = "<" ∨ one t = "=" ∨ one t = ">" := by
                      have : t = 60 ∨ t = 61 ∨ t = 62 := by
                        unfold inS at t1
                        have e : ("<=>" : Str).cps.toList = [60, 61, 62] := by decide +kernel
                        rw [e] at t1
                        simpa using t1
                      have e60 : ("<" : Str) = one 60 := by decide +kernel
                      have e61 : ("=" : Str) = one 61 := by decide +kernel
                      have e62 : (">" : Str) = one 62 := by decide +kernel
                      rcases this with rfl | rfl | rfl
                      · exact Or.inl e60.symm
                      · exact Or.inr (Or.inl e61.symm)
                      · exact Or.inr (Or.inr e62.symm)
                    have ln : (one t).length = 1 := rfl
                    refine fin "node" [.str (one t), .int n] (by decide +kernel) rfl (by simp [signD]) ?_ (by simp [strsAll, strsOk, ln]) ⟨by decide +kernel, ?_, ?_, ?_, rfl, by decide +kernel, ?_⟩
                    rotate_left
                    · have : PySem.PyData.strOk (one t) = true := by
                        have : t < 0x110000 := by omega
                        simp [PySem.PyData.strOk, one, this]
                      simp [PyData.canLayAll0, PyData.canLay0, this]
                    · have := numT_len gw
                      have e : (toString n : Str).length = (numT n).length := rfl
                      have q : PyData.intsShort 20 (.int n) = true := decide_eq_true (by show (toString n : Str).length ≤ 20; omega)
                      show (PyData.intsShort 20 (.str (one t)) && (PyData.intsShort 20 (.int n) && true)) = true
                      rw [q]
                      rfl
                    · simp [PyData.showableAll, PyData.showable]
                      exact log_ok gw
                    · have := worth_w gw
                      have e : (one t).cps.size = 1 := rfl
                      simp only [PyData.weightAll, PyData.weight, e] at this ⊢
                      omega
                    unfold atomL
                    rw [if_neg (by decide +kernel), if_neg (by decide +kernel)]
                    simp [tt, w1]
            · cases h
end Y
set_option maxHeartbeats 4000000
namespace Y
open PySem PySem.Spec PyProof.Rows L2
def inA (S z : Str) (n : Nat) : Bool := match at? z n with
  | some c => inS S c
  | none => false
theorem inA_at {S z : Str} {n : Nat} (h : inA S z n = true) : ∃ c, at? z n = some c ∧ inS S c = true := by
  unfold inA at h
  cases q : at? z n with
  | none => rw [q] at h; cases h
  | some c => rw [q] at h; exact ⟨c, rfl, h⟩
theorem take_no {S z : Str} {n : Nat} (h : inA S z n = false) : takeF (inS S) z n = .error n := by
  unfold takeF
  unfold inA at h
  cases q : at? z n with
  | none => rfl
  | some c =>
    rw [q] at h
    dsimp only at h ⊢
    rw [if_neg (by rw [h]; decide)]
theorem take_yes {S z : Str} {n c : Nat} (h : at? z n = some c) (q : inS S c = true) : takeF (inS S) z n = .ok (c, n + 1) := by
  unfold takeF
  rw [h]
  dsimp only
  rw [if_pos q]
theorem inS_one {s : Str} {c : Nat} (e : s = one c) (d : Nat) : inS s d = decide (d = c) := by
  subst e
  unfold inS one
  simp
theorem fig_bound {c : Nat} (h : inS "0123456789" c = true) : 48 ≤ c ∧ c ≤ 57 := by
  unfold inS at h
  have e2 : ("0123456789" : Str).cps.toList = [48, 49, 50, 51, 52, 53, 54, 55, 56, 57] := by decide +kernel
  rw [e2] at h
  have := of_decide_eq_true h
  simp only [List.mem_cons, List.not_mem_nil, or_false] at this
  omega
theorem inA_one {s z : Str} {c n : Nat} (e : s = one c) : inA s z n = decide (at? z n = some c) := by
  unfold inA
  cases at? z n with
  | none => rw [decide_eq_false (by intro q; cases q)]
  | some x =>
    dsimp only
    rw [inS_one e]
    simp
section
variable {z : Str} {i : Nat}
theorem e123 : ("{" : Str) = one 123 := by decide +kernel
theorem e125 : ("}" : Str) = one 125 := by decide +kernel
theorem e44 : ("," : Str) = one 44 := by decide +kernel
theorem times1 (h : at? z i = some 123) (h1 : inA "0123456789" z (i + 1) = false) : timesF z i = .error (i + 1) := by
  unfold timesF figC
  rw [take_yes h (by rw [inS_one e123]; rfl)]
  dsimp only
  rw [take_no h1]
theorem times2 (h : at? z i = some 123) (h1 : inA "0123456789" z (i + 1) = true) (h2 : at? z (i + 2) ≠ some 44) : timesF z i = .error (i + 2) := by
  obtain ⟨c, e, q⟩ := inA_at h1
  unfold timesF figC
  rw [take_yes h (by rw [inS_one e123]; rfl)]
  dsimp only
  rw [take_yes e q]
  dsimp only
  rw [take_no (by rw [inA_one e44, decide_eq_false h2])]
theorem times3 (h : at? z i = some 123) (h1 : inA "0123456789" z (i + 1) = true) (h2 : at? z (i + 2) = some 44) (h3 : inA "0123456789" z (i + 3) = false) : timesF z i = .error (i + 3) := by
  obtain ⟨c, e, q⟩ := inA_at h1
  unfold timesF figC
  rw [take_yes h (by rw [inS_one e123]; rfl)]
  dsimp only
  rw [take_yes e q]
  dsimp only
  rw [take_yes h2 (by rw [inS_one e44]; rfl)]
  dsimp only
  rw [take_no h3]
theorem times4 {l m : Nat} (h : at? z i = some 123) (h1 : at? z (i + 1) = some l) (q1 : inS "0123456789" l = true) (h2 : at? z (i + 2) = some 44) (h3 : at? z (i + 3) = some m) (q3 : inS "0123456789" m = true) :
    timesF z i = if at? z (i + 4) ≠ some 125 ∨ (m : Int) - 48 = 0 ∨ (m : Int) - 48 < (l : Int) - 48 then .error (i + 4) else .ok (((l : Int) - 48, (m : Int) - 48), i + 5) := by
  have b1 := fig_bound q1
  have b3 := fig_bound q3
  unfold timesF figC
  rw [take_yes h (by rw [inS_one e123]; rfl)]
  dsimp only
  rw [take_yes h1 q1]
  dsimp only
  rw [take_yes h2 (by rw [inS_one e44]; rfl)]
  dsimp only
  rw [take_yes h3 q3]
  dsimp only
  by_cases c : at? z (i + 4) = some 125
  · by_cases d : (m : Int) - 48 = 0 ∨ (m : Int) - 48 < (l : Int) - 48
    · rw [if_pos ⟨c, by omega⟩, if_pos (Or.inr d)]
    · rw [if_neg (fun w => w.2 (by omega)), if_neg (by rintro (w | w); exact w c; exact d w), take_yes c (by rw [inS_one e125]; rfl)]
  · rw [if_neg (fun w => c w.1), if_pos (Or.inl c), take_no (by rw [inA_one e125, decide_eq_false c])]
end
end Y
set_option maxHeartbeats 4000000
namespace Y
open PySem PySem.Spec PyProof.Rows L2
/-- what is due is small: it can be compared, and shown -/
structure Fine (d : PyData) : Prop where
  shaped : SeqAt.shaped d = true
  shw : PyData.showable d = true
  dict : PyData.hasDict d = false
  dep : PyData.depth d ≤ 64
  len : (PyData.shown d).length ≤ sizeLine
theorem fine_of {d : PyData} (lay : PyData.canLay0 d = true) (sho : PyData.intsShort 20 d = true) (shw : PyData.showable d = true) (dep : PyData.depth d ≤ 64) (wgt : PyData.weight d ≤ 640000) : Fine d where
  shaped := by unfold SeqAt.shaped; rw [lay]; simpa using dep
  shw := shw
  dict := PyData.hasDict_of_canLay d lay
  dep := dep
  len := by
    have := PyData.shown_le 20 (by omega) d (PyData.leavesShort_of_canLay0 20 d lay sho)
    rw [sizeLine_eq]
    have h2 : (20 + 2) * d.weight ≤ 22 * 640000 := Nat.mul_le_mul (by omega) wgt
    omega
theorem loopF_succ {n : Nat} {s : RS} (h : s.at_ < s.txt.length) : loopF (n + 1) s = match stepF s with
    | .error e => Except.error e
    | .ok s' => loopF n s' := by
  show (if s.at_ < s.txt.length then (match stepF s with
    | .error e => Except.error e
    | .ok s' => loopF n s') else .ok s) = _
  rw [if_pos h]
theorem snoc_of {α : Type} {l : List α} (h : l ≠ []) : ∃ ps t, l = ps ++ [t] := by
  rcases List.eq_nil_or_concat l with e | ⟨ps, t, e⟩
  · exact absurd e h
  · exact ⟨ps, t, by rw [e, List.concat_eq_append]⟩
end Y
set_option maxHeartbeats 4000000
/-! a loose text is read back: numbers, atoms -/
namespace Y
open PySem PySem.Spec PyProof.Rows L2
theorem numT_nat (n : Nat) : numT (n : Int) = TL.numL n := TL.tl_num n
theorem numT_neg (n : Nat) : numT (Int.negSucc n) = 45 :: TL.numL (n + 1) := by
  have e : (toString (Int.negSucc n) : String) = "-" ++ toString ((n + 1 : Nat) : Int) := rfl
  have e2 : numT (Int.negSucc n) = (Str.ofString (toString (Int.negSucc n))).cps.toList := rfl
  have e3 : TL.numL (n + 1) = (Str.ofString (toString ((n + 1 : Nat) : Int))).cps.toList := (numT_nat (n + 1)).symm
  rw [e2, e, e3, Str.ofString_eq_toList, Str.ofString_eq_toList, String.toList_append, List.map_append]
  rfl
theorem numL_head : ∀ (n : Nat) {d : Nat} {ds : List Nat}, TL.numL n = d :: ds → d = 48 → n = 0
  | n, d, ds, h, hd => by
    by_cases q : n < 10
    · rw [TL.numL_lt q] at h
      injection h with h1 _
      omega
    · rw [TL.numL_step (by omega)] at h
      obtain ⟨c, r, e⟩ : ∃ c r, TL.numL (n / 10) = c :: r := by
        cases e : TL.numL (n / 10) with
        | nil => exact absurd e (TL.numL_ne _)
        | cons c r => exact ⟨c, r, rfl⟩
      rw [e, List.cons_append] at h
      injection h with h1 _
      have := numL_head (n / 10) e (h1.trans hd)
      omega
  termination_by n => n
  decreasing_by omega
/-- the place k of pre, u, post -/
theorem at_pre {L pre u post : List Nat} {p k : Nat} (h : L = pre ++ (u ++ post)) (hp : p = pre.length) (hk : k < u.length) : at? (strL L) (p + k) = u[k]? := by
  show L[p + k]? = u[k]?
  rw [h, hp, List.getElem?_append_right (by omega), Nat.add_sub_cancel_left, List.getElem?_append_left hk]
theorem at_post {L pre u post : List Nat} {p k : Nat} (h : L = pre ++ (u ++ post)) (hp : p = pre.length) (hk : k = u.length) : at? (strL L) (p + k) = post.head? := by
  show L[p + k]? = post.head?
  rw [h, hp, List.getElem?_append_right (by omega), Nat.add_sub_cancel_left, List.getElem?_append_right (by omega), hk, Nat.sub_self, List.head?_eq_getElem?]
theorem drop_pre {L pre post : List Nat} {p : Nat} (h : L = pre ++ post) (hp : p = pre.length) : (strL L).cps.toList.drop p = post := by
  show L.drop p = post
  rw [h, hp, List.drop_left]
theorem wordF_ok {z : Str} {i a b : Nat} (h0 : at? z i = some a) (h1 : at? z (i + 1) = some b) (la : letterC a = true) (lb : letterC b = true) (h2 : ∀ c, at? z (i + 2) = some c → letterC c = false) : wordF z i = .ok (⟨#[a, b]⟩, i + 2) := by
  unfold wordF takeF
  rw [h0]
  dsimp only
  rw [if_pos la]
  dsimp only
  rw [h1]
  dsimp only
  rw [if_pos lb]
  dsimp only
  cases e : at? z (i + 2) with
  | none => rfl
  | some c =>
    dsimp only
    rw [if_neg (by rw [h2 c e]; exact Bool.false_ne_true)]
theorem take_digits {ds post : List Nat} (h : PySem.NumText.AllDigits ds) (hp : ∀ c, post.head? = some c → figC c = false) : (ds ++ post).takeWhile figC = ds := by
  induction ds with
  | nil =>
    cases post with
    | nil => rfl
    | cons c r => rw [List.nil_append, List.takeWhile_cons, hp c rfl, if_neg Bool.false_ne_true]
  | cons d r ih => rw [List.cons_append, List.takeWhile_cons, (figC_iff d).mpr h.head, if_pos rfl, ih h.tail]
theorem valF_num {v : Int} (h : goodWorth v) : valF (numT v) = some v := by
  have hl := numT_len h
  have hw : worthD (.int v) = true := by
    show (decide (-1000000000000000000 ≤ v) && decide (v ≤ 1000000000000000000)) = true
    rw [decide_eq_true h.1, decide_eq_true h.2]
    rfl
  have hi : PySem.intText? (strL (numT v)) = some v := by
    cases v with
    | ofNat n =>
      have e : numT (Int.ofNat n) = TL.numL n := numT_nat n
      rw [e] at hl ⊢
      have q := PySem.intText_digits (x := strL (TL.numL n)) (TL.numL_digits n) (TL.numL_ne n) (by rw [strL_len]; omega)
      rw [q]
      show some ((PySem.NumText.digitsVal (TL.numL n) : Nat) : Int) = _
      rw [TL.numL_val]
      rfl
    | negSucc n =>
      rw [numT_neg] at hl ⊢
      have q := PySem.intText_neg (x := strL (45 :: TL.numL (n + 1))) (cs := TL.numL (n + 1)) rfl (TL.numL_digits _) (TL.numL_ne _) (by rw [strL_len]; omega)
      rw [q, TL.numL_val]
      rfl
  unfold valF
  rw [if_neg (by omega), hi]
  show (if worthD (.int v) = true then some v else none) = some v
  rw [if_pos hw]
theorem fig1_of {d : Nat} (h : 48 ≤ d ∧ d ≤ 57) (hd : d ≠ 48) : fig1C d = true := by
  unfold fig1C inS
  have e : ("123456789" : Str).cps.toList = [49, 50, 51, 52, 53, 54, 55, 56, 57] := by decide +kernel
  rw [e]
  refine decide_eq_true ?_
  have : d = 49 ∨ d = 50 ∨ d = 51 ∨ d = 52 ∨ d = 53 ∨ d = 54 ∨ d = 55 ∨ d = 56 ∨ d = 57 := by omega
  simpa using this
/-- a number ahead of a sign that is no figure -/
theorem worthF_num {L pre post : List Nat} {p : Nat} {v : Int} (h : goodWorth v) (hL : L = pre ++ (numT v ++ post)) (hp : p = pre.length) (hq : ∀ c, post.head? = some c → figC c = false) : worthF (strL L) p = .ok (v, p + (numT v).length) := by
  have hv := valF_num h
  have fin : ∀ (neg : Bool) (hd : List Nat) (d : Nat) (ds : List Nat), numT v = hd ++ (d :: ds) → hd = (if neg then [45] else []) → PySem.NumText.AllDigits (d :: ds) → (d = 48 → ds = [] ∧ neg = false) → decide (at? (strL L) p = some 45) = neg → worthF (strL L) p = .ok (v, p + (numT v).length) := by
    intro neg hd d ds en eh hdig h48 hneg
    have e1 : at? (strL L) (if neg then p + 1 else p) = some d := by
      have := at_pre hL hp (k := hd.length) (by rw [en]; simp)
      have e2 : p + hd.length = (if neg then p + 1 else p) := by rw [eh]; cases neg <;> simp
      rw [← e2, this, en]
      simp
    have e3 : (if neg then fig1C else figC) d = true := by
      cases neg with
      | false => exact (figC_iff d).mpr hdig.head
      | true => exact fig1_of hdig.head fun q => by have := (h48 q).2; cases this
    have e4 : takeF (if neg then fig1C else figC) (strL L) (if neg then p + 1 else p) = .ok (d, (if neg then p + 1 else p) + 1) := by
      unfold takeF
      rw [e1]
      dsimp only
      rw [if_pos e3]
    have e5 : figs (strL L) ((if neg then p + 1 else p) + 1) = ds := by
      unfold figs
      have : L = (pre ++ hd ++ [d]) ++ (ds ++ post) := by rw [hL, en]; simp
      rw [drop_pre this (by rw [hp, eh]; cases neg <;> simp)]
      exact take_digits hdig.tail hq
    have e6 : finF (strL L) (if neg then [45, d] else [d]) ((if neg then p + 1 else p) + 1) = (numT v, p + (numT v).length) := by
      unfold finF
      rw [e5, en, eh]
      cases neg with
      | true => simp; omega
      | false =>
        by_cases q : d = 48
        · obtain ⟨q2, _⟩ := h48 q
          subst q q2
          simp
        · simp [q]
          omega
    unfold worthF
    dsimp only
    rw [hneg, e4]
    dsimp only
    rw [e6]
    dsimp only
    rw [hv]
  cases v with
  | ofNat n =>
    have en : numT (Int.ofNat n) = TL.numL n := numT_nat n
    obtain ⟨d, ds, e⟩ : ∃ d ds, TL.numL n = d :: ds := by
      cases e : TL.numL n with
      | nil => exact absurd e (TL.numL_ne _)
      | cons c r => exact ⟨c, r, rfl⟩
    have dig := TL.numL_digits n
    rw [e] at dig
    refine fin false [] d ds (by rw [en, e]; rfl) rfl dig (fun q => ?_) ?_
    · have := numL_head n e q
      subst this
      rw [TL.numL_lt (by decide)] at e
      injection e with _ e2
      exact ⟨e2.symm, rfl⟩
    · have := at_pre hL hp (k := 0) (by rw [en, e]; simp)
      rw [Nat.add_zero, en, e] at this
      rw [this]
      have := dig.head
      simp
      omega
  | negSucc n =>
    have en := numT_neg n
    obtain ⟨d, ds, e⟩ : ∃ d ds, TL.numL (n + 1) = d :: ds := by
      cases e : TL.numL (n + 1) with
      | nil => exact absurd e (TL.numL_ne _)
      | cons c r => exact ⟨c, r, rfl⟩
    have dig := TL.numL_digits (n + 1)
    rw [e] at dig
    refine fin true [45] d ds (by rw [en, e]; rfl) rfl dig (fun q => ?_) ?_
    · have := numL_head (n + 1) e q
      omega
    · have := at_pre hL hp (k := 0) (by rw [en]; simp)
      rw [Nat.add_zero, en] at this
      rw [this]
      rfl
/-- what may follow a text -/
def look (u post : List Nat) : Prop := lastLet u = true → firstLet post = false
theorem head_let {post : List Nat} (h : firstLet post = false) : ∀ c, post.head? = some c → letterC c = false := fun c e => by
  unfold firstLet at h
  rw [e] at h
  exact h
theorem let_bound {c : Nat} (h : letterC c = true) : 97 ≤ c ∧ c ≤ 122 := by
  have hm : c ∈ ("abcdefghijklmnopqrstuvwxyz" : Str).cps.toList := of_decide_eq_true h
  have : ∀ c ∈ ("abcdefghijklmnopqrstuvwxyz" : Str).cps.toList, 97 ≤ c ∧ c ≤ 122 := by decide +kernel
  exact this c hm
theorem not_let {c : Nat} (h : c < 97 ∨ 122 < c) : letterC c = false := by
  cases e : letterC c with
  | false => rfl
  | true => have := let_bound e; omega
/-- an atom's text -/
theorem atom_read {e : Ex} (ok : e.ok) (at_ : e.atom) {L pre post : List Nat} {p : Nat} (hL : L = pre ++ (e.atomT ++ post)) (hp : p = pre.length) (hl : look e.atomT post) : atomF (strL L) p = .ok (e.d, p + e.atomT.length) := by
  have at0 : ∀ c r, e.atomT = c :: r → at? (strL L) p = some c := fun c r h => by
    have := at_pre hL hp (k := 0) (by rw [h]; simp)
    rw [Nat.add_zero, h] at this
    exact this
  cases e with
  | two o a b => exact at_.elim
  | lone k a => exact at_.elim
  | times l m a => exact at_.elim
  | any =>
    unfold atomF
    rw [at0 46 [] rfl]
    rfl
  | here =>
    unfold atomF
    rw [at0 95 [] rfl]
    rfl
  | word s =>
    obtain ⟨a, b, rfl, la, lb⟩ := word_two ok
    have hL : L = pre ++ ([a, b] ++ post) := hL
    have hw : wordF (strL L) p = .ok (⟨#[a, b]⟩, p + 2) := by
      refine wordF_ok (by have := at_pre hL hp (k := 0) (by simp); rw [Nat.add_zero] at this; exact this) (at_pre hL hp (k := 1) (by simp)) la lb fun c e => ?_
      have q := at_post hL hp (k := 2) rfl
      rw [q] at e
      exact head_let (hl (by show letterC b = true; exact lb)) c e
    unfold atomF
    rw [at0 a [b] rfl]
    dsimp only
    rw [if_pos la, hw]
    rfl
  | back s =>
    obtain ⟨a, b, rfl, la, lb⟩ := word_two ok
    have hL2 : L = (pre ++ [126]) ++ ([a, b] ++ post) := by rw [hL]; show pre ++ ((126 :: [a, b]) ++ post) = _; simp
    have hp2 : p + 1 = (pre ++ [126]).length := by rw [hp]; simp
    have hw : wordF (strL L) (p + 1) = .ok (⟨#[a, b]⟩, p + 1 + 2) := by
      refine wordF_ok (by have := at_pre hL2 hp2 (k := 0) (by simp); rw [Nat.add_zero] at this; exact this) (at_pre hL2 hp2 (k := 1) (by simp)) la lb fun c e => ?_
      have q := at_post hL2 hp2 (k := 2) rfl
      rw [q] at e
      exact head_let (hl (by show letterC b = true; exact lb)) c e
    unfold atomF
    rw [at0 126 [a, b] rfl]
    dsimp only
    rw [if_neg (by rw [not_let (by omega)]; exact Bool.false_ne_true), if_pos rfl, hw]
    rfl
  | node t v =>
    obtain ⟨ht, gv⟩ := ok
    have hL2 : L = (pre ++ [91]) ++ ([t] ++ (numT v ++ 93 :: post)) := by rw [hL]; show pre ++ ((91 :: t :: (numT v ++ [93])) ++ post) = _; simp
    have hL3 : L = (pre ++ [91, t]) ++ (numT v ++ 93 :: post) := by rw [hL2]; simp
    have hL4 : L = (pre ++ [91, t] ++ numT v) ++ ([93] ++ post) := by rw [hL2]; simp
    have a1 : at? (strL L) (p + 1) = some t := by have := at_pre hL2 (p := p + 1) (by rw [hp]; simp) (k := 0) (by simp); rw [Nat.add_zero] at this; exact this
    have it : inS "<=>" t = true := by
      unfold inS
      have e : ("<=>" : Str).cps.toList = [60, 61, 62] := by decide +kernel
      rw [e]
      exact decide_eq_true (by simpa using ht)
    have hw := worthF_num gv hL3 (p := p + 2) (by rw [hp]; simp) fun c e => by
      have : 93 = c := by simpa using e
      subst this
      decide +kernel
    have a4 : at? (strL L) (p + 2 + (numT v).length) = some 93 := by have := at_pre hL4 (p := p + 2 + (numT v).length) (by rw [hp]; simp; omega) (k := 0) (by simp); rw [Nat.add_zero] at this; exact this
    have hn : nodeF (strL L) (p + 1) = .ok (.tuple [.str "node", .str (one t), .int v], p + 2 + (numT v).length + 1) := by
      unfold nodeF
      rw [take_yes a1 it]
      dsimp only
      rw [show p + 1 + 1 = p + 2 from rfl, hw]
      dsimp only
      rw [take_yes a4 (by decide +kernel)]
    unfold atomF
    rw [at0 91 (t :: (numT v ++ [93])) rfl]
    dsimp only
    rw [if_neg (by rw [not_let (by omega)]; exact Bool.false_ne_true), if_neg (by decide), if_neg (by decide), if_neg (by decide), if_pos rfl, hn]
    show Except.ok (_, _) = Except.ok (_, p + (91 :: t :: (numT v ++ [93])).length)
    congr 2
    simp
    omega
end Y
set_option maxHeartbeats 4000000
/-! a loose text is read back -/
namespace Y
open PySem PySem.Spec PyProof.Rows L2
/-- some steps of the reader -/
def Runs (s s' : RS) : Prop := ∃ n, n + s.at_ ≤ s'.at_ ∧ ∀ m, loopF (n + m) s = loopF m s'
theorem Runs.refl (s : RS) : Runs s s := ⟨0, by omega, fun m => by rw [Nat.zero_add]⟩
theorem Runs.trans {a b c : RS} (h : Runs a b) (k : Runs b c) : Runs a c := by
  obtain ⟨n, n1, n2⟩ := h
  obtain ⟨m, m1, m2⟩ := k
  exact ⟨n + m, by omega, fun l => by rw [Nat.add_assoc, n2, m2]⟩
theorem Runs.one {s s' : RS} (h : s.at_ < s.txt.length) (hs : stepF s = .ok s') (lt : s.at_ < s'.at_) : Runs s s' := ⟨1, by omega, fun m => by rw [Nat.add_comm, loopF_succ h, hs]⟩
theorem lt_at {L : List Nat} {p c : Nat} (h : at? (strL L) p = some c) : p < (strL L).length := at_lt h
/-- blanks -/
theorem runs_bl {L : List Nat} {w : Bool} {b : List Fr} {f : Fr} : ∀ (i p : Nat) (pre post : List Nat), L = pre ++ (bl i ++ post) → p = pre.length → Runs ⟨strL L, p, w, b, f⟩ ⟨strL L, p + i, w, b, f⟩
  | 0, p, _, _, _, _ => Runs.refl _
  | i + 1, p, pre, post, hL, hp => by
    have a : at? (strL L) p = some 32 := by
      have := at_pre hL hp (k := 0) (by rw [bl_len]; omega)
      rw [Nat.add_zero] at this
      rw [this]
      rfl
    have hL2 : L = (pre ++ [32]) ++ (bl i ++ post) := by
      rw [hL]
      show pre ++ ((32 :: bl i) ++ post) = _
      simp
    have r := runs_bl (w := w) (b := b) (f := f) i (p + 1) (pre ++ [32]) post hL2 (by rw [hp]; simp)
    have e : p + 1 + i = p + (i + 1) := by omega
    rw [e] at r
    refine Runs.trans (Runs.one (lt_at a) ?_ (Nat.lt_succ_self _)) r
    unfold stepF
    rw [if_pos a]
/-- a sign at which a part begins -/
def startC (c : Nat) : Prop := c ≠ 32 ∧ c ≠ 42 ∧ c ≠ 43 ∧ c ≠ 63 ∧ c ≠ 123 ∧ c ≠ 124 ∧ c ≠ 41
theorem part_step {z : Str} {p c : Nat} {w : Bool} {b : List Fr} {f : Fr} (a : at? z p = some c) (h : startC c) : stepF ⟨z, p, w, b, f⟩ = beginF ⟨z, p, w, b, f⟩ := by
  obtain ⟨h1, h2, h3, h4, h5, h6, h7⟩ := h
  unfold stepF
  rw [if_neg (show ¬ at? z p = some 32 from fun e => h1 (Option.some.inj (a.symm.trans e)))]
  cases w with
  | true => exact if_pos rfl
  | false =>
    rw [if_neg (show ¬ (RS.mk z p false b f).want = true from Bool.false_ne_true)]
    unfold goF
    have e0 : (at? z p).bind kindC = none := by
      rw [a]
      show kindC c = none
      unfold kindC
      split <;> simp_all
    show (match (at? z p).bind kindC with
      | some k => _
      | none => _) = _
    rw [e0]
    dsimp only
    rw [if_neg (show ¬ at? z p = some 123 from fun e => h5 (Option.some.inj (a.symm.trans e))), if_neg (show ¬ at? z p = some 124 from fun e => h6 (Option.some.inj (a.symm.trans e))), if_neg (show ¬ at? z p = some 41 from fun e => h7 (Option.some.inj (a.symm.trans e)))]
def C2 (e : Ex) (u : List Nat) : Prop := ∀ (L pre post : List Nat) (p : Nat) (w : Bool) (b : List Fr) (f : Fr), L = pre ++ (u ++ post) → p = pre.length → look u post → Runs ⟨strL L, p, w, b, f⟩ ⟨strL L, p + u.length, false, b, f.add e.d⟩
def C1 (e : Ex) (u : List Nat) : Prop := ∀ (L pre post : List Nat) (p : Nat) (b : List Fr) (o : PyData), L = pre ++ (u ++ post) → p = pre.length → look u post → ∃ f' : Fr, f'.join = ⟨o, e.d, .none⟩ ∧ Runs ⟨strL L, p, true, b, ⟨o, .none, .none⟩⟩ ⟨strL L, p + u.length, false, b, f'⟩
def C0 (e : Ex) (u : List Nat) : Prop := ∀ (L pre post : List Nat) (p : Nat) (b : List Fr), L = pre ++ (u ++ post) → p = pre.length → look u post → ∃ f' : Fr, f'.part = ⟨e.d, .none, .none⟩ ∧ Runs ⟨strL L, p, true, b, Fr.new⟩ ⟨strL L, p + u.length, false, b, f'⟩
theorem Ex.none (e : Ex) : noneD e.d = false := by cases e <;> rfl
theorem C2.c1 {e : Ex} {u : List Nat} (h : C2 e u) : C1 e u := fun L pre post p b o hL hp hl => by
  refine ⟨_, ?_, h L pre post p true b ⟨o, .none, .none⟩ hL hp hl⟩
  show (⟨o, if noneD e.d = true then PyData.none else if noneD PyData.none = true then e.d else .tuple [.str "then", PyData.none, e.d], .none⟩ : Fr) = _
  rw [e.none, if_neg Bool.false_ne_true]
  rfl
theorem C1.c0 {e : Ex} {u : List Nat} (h : C1 e u) : C0 e u := fun L pre post p b hL hp hl => by
  obtain ⟨f', e1, r⟩ := h L pre post p b .none hL hp hl
  refine ⟨f', ?_, r⟩
  unfold Fr.part
  rw [e1]
  rfl
/-- how a text may be read where signs are so tight -/
def Ct (t : Nat) (e : Ex) (u : List Nat) : Prop := if t = 0 then C0 e u else if t = 1 then C1 e u else C2 e u
theorem C2.ct {e : Ex} {u : List Nat} (h : C2 e u) (t : Nat) : Ct t e u := by
  unfold Ct
  split
  · exact h.c1.c0
  · split
    · exact h.c1
    · exact h
def nat_ (e : Ex) : Nat := match e with
  | .two true _ _ => 0
  | .two false _ _ => 1
  | _ => 2
theorem Ct.c0 {t : Nat} {e : Ex} {u : List Nat} (h : Ct t e u) : C0 e u := by
  unfold Ct at h
  split at h
  · exact h
  · split at h
    · exact h.c0
    · exact h.c1.c0
theorem lpar_start : startC 40 := by unfold startC; omega
/-- in parentheses -/
theorem wrap_c2 {e : Ex} {s : List Nat} (h : C0 e s) (i j : Nat) : C2 e (40 :: (bl i ++ s ++ bl j ++ [41])) := fun L pre post p w b f hL hp hl => by
  have hL0 : L = pre ++ ([40] ++ (bl i ++ (s ++ (bl j ++ ([41] ++ post))))) := by rw [hL]; simp
  have hL1 : L = (pre ++ [40]) ++ (bl i ++ (s ++ (bl j ++ ([41] ++ post)))) := by rw [hL]; simp
  have hL2 : L = (pre ++ [40] ++ bl i) ++ (s ++ (bl j ++ ([41] ++ post))) := by rw [hL]; simp
  have hL3 : L = (pre ++ [40] ++ bl i ++ s) ++ (bl j ++ ([41] ++ post)) := by rw [hL]; simp
  have hL4 : L = (pre ++ [40] ++ bl i ++ s ++ bl j) ++ ([41] ++ post) := by rw [hL]; simp
  have a0 : at? (strL L) p = some 40 := by have := at_pre hL0 hp (k := 0) (by simp); rw [Nat.add_zero] at this; exact this
  have r0 : Runs ⟨strL L, p, w, b, f⟩ ⟨strL L, p + 1, true, f :: b, Fr.new⟩ := by
    refine Runs.one (lt_at a0) ?_ (Nat.lt_succ_self _)
    rw [part_step a0 lpar_start]
    unfold beginF
    rw [if_pos a0]
  have r1 := runs_bl (w := true) (b := f :: b) (f := Fr.new) i (p + 1) (pre ++ [40]) _ hL1 (by rw [hp]; simp)
  obtain ⟨f', e1, r2⟩ := h L _ _ (p + 1 + i) (f :: b) hL2 (by rw [hp]; simp; rw [bl_len]; omega) (fun _ => by
    cases j with
    | zero => exact not_let (c := 41) (Or.inl (by omega))
    | succ j => exact not_let (Or.inl (by omega)))
  have r3 := runs_bl (w := false) (b := f :: b) (f := f') j (p + 1 + i + s.length) _ _ hL3 (by rw [hp]; simp; rw [bl_len]; omega)
  have a4 : at? (strL L) (p + 1 + i + s.length + j) = some 41 := by
    have := at_pre hL4 (p := p + 1 + i + s.length + j) (by rw [hp]; simp; rw [bl_len, bl_len]; omega) (k := 0) (by simp)
    rw [Nat.add_zero] at this
    exact this
  have r4 : Runs ⟨strL L, p + 1 + i + s.length + j, false, f :: b, f'⟩ ⟨strL L, p + 1 + i + s.length + j + 1, false, b, f.add e.d⟩ := by
    refine Runs.one (lt_at a4) ?_ (Nat.lt_succ_self _)
    unfold stepF
    rw [if_neg (show ¬ at? (strL L) (p + 1 + i + s.length + j) = some 32 from fun q => by rw [a4] at q; cases q), if_neg (show ¬ false = true from Bool.false_ne_true)]
    unfold goF
    show (match (at? (strL L) (p + 1 + i + s.length + j)).bind kindC with
      | some k => _
      | none => _) = _
    rw [a4]
    show Except.ok (⟨strL L, p + 1 + i + s.length + j + 1, false, b, f.add f'.part.o⟩ : RS) = _
    rw [e1]
  have el : p + 1 + i + s.length + j + 1 = p + (40 :: (bl i ++ s ++ bl j ++ [41])).length := by simp; rw [bl_len, bl_len]; omega
  rw [← el]
  exact (((r0.trans r1).trans r2).trans r3).trans r4
theorem loo_ct {e : Ex} (h : ∀ u, Core e u → Ct (nat_ e) e u) {t : Nat} {u : List Nat} (hu : Loo e t u) : Ct t e u := by
  cases hu with
  | bare hb hc =>
    have q := h _ hc
    cases e with
    | two o a b =>
      cases o with
      | true =>
        have : t = 0 := hb
        subst this
        exact q
      | false =>
        have : t ≤ 1 := hb
        rcases (show t = 0 ∨ t = 1 by omega) with rfl | rfl
        · exact (show C1 _ _ from q).c0
        · exact q
    | _ => exact C2.ct q t
  | wrap hc => exact (wrap_c2 (h _ hc).c0 _ _).ct t
theorem atom_start {e : Ex} (ok : e.ok) (at_ : e.atom) : ∃ c r, e.atomT = c :: r ∧ startC c ∧ c ≠ 40 := by
  cases e with
  | two o a b => exact at_.elim
  | lone k a => exact at_.elim
  | times l m a => exact at_.elim
  | any => exact ⟨46, [], rfl, by unfold startC; omega, by omega⟩
  | here => exact ⟨95, [], rfl, by unfold startC; omega, by omega⟩
  | word s =>
    obtain ⟨a, b, rfl, la, lb⟩ := word_two ok
    have := let_bound la
    exact ⟨a, [b], rfl, by unfold startC; omega, by omega⟩
  | back s => exact ⟨126, _, rfl, by unfold startC; omega, by omega⟩
  | node t v => exact ⟨91, _, rfl, by unfold startC; omega, by omega⟩
theorem core_ne : ∀ (e : Ex), e.ok → ∀ u, Core e u → u ≠ []
  | e, ok, u, h => by
    cases h with
    | atom at_ =>
      obtain ⟨c, r, q, _⟩ := atom_start ok at_
      rw [q]
      simp
    | thn ha hb hi =>
      rename_i a b s v i
      cases hb with
      | bare hbo hc => have := core_ne b ok.2 v hc; simp [this]
      | wrap _ => simp
    | or _ _ => simp
    | lone _ => rename_i k i a s _; intro q; simp [Ex.signT] at q
    | times _ => rename_i l m i a s _; intro q; simp [Ex.signT] at q
theorem loo_ne {e : Ex} (ok : e.ok) {t : Nat} {u : List Nat} (h : Loo e t u) : u ≠ [] := by
  cases h with
  | bare _ hc => exact core_ne e ok u hc
  | wrap _ => simp
theorem last_app {s u : List Nat} (h : u ≠ []) : lastLet (s ++ u) = lastLet u := by
  obtain ⟨r, c, rfl⟩ := snoc_of h
  unfold lastLet
  rw [← List.append_assoc, List.getLast?_concat, List.getLast?_concat]
theorem first_bl {i c : Nat} {r : List Nat} (h : letterC c = false) : firstLet (bl i ++ c :: r) = false := by
  cases i with
  | zero => exact h
  | succ i => exact not_let (c := 32) (Or.inl (by omega))
/-- a step behind a part -/
theorem kind_step {z : Str} {p c : Nat} {k : Str} {b : List Fr} {f : Fr} (a : at? z p = some c) (h : kindC c = some k) : stepF ⟨z, p, false, b, f⟩ = .ok ⟨z, p + 1, false, b, ⟨f.o, f.t, .tuple [.str k, f.l]⟩⟩ := by
  have h32 : c ≠ 32 := fun q => by rw [q] at h; cases h
  unfold stepF
  rw [if_neg (show ¬ at? z p = some 32 from fun e => h32 (Option.some.inj (a.symm.trans e))), if_neg (show ¬ (RS.mk z p false b f).want = true from Bool.false_ne_true)]
  unfold goF
  have e0 : (at? z p).bind kindC = some k := by rw [a]; exact h
  show (match (at? z p).bind kindC with
    | some k => _
    | none => _) = _
  rw [e0]
  rfl
theorem times_step {z : Str} {p a : Nat} {l m : Int} {b : List Fr} {f : Fr} (h : at? z p = some 123) (ht : timesF z p = .ok ((l, m), a)) : stepF ⟨z, p, false, b, f⟩ = .ok ⟨z, a, false, b, ⟨f.o, f.t, .tuple [.str "times", .int l, .int m, f.l]⟩⟩ := by
  unfold stepF
  rw [if_neg (show ¬ at? z p = some 32 from fun e => by rw [h] at e; cases e), if_neg (show ¬ (RS.mk z p false b f).want = true from Bool.false_ne_true)]
  unfold goF
  have e0 : (at? z p).bind kindC = none := by rw [h]; rfl
  show (match (at? z p).bind kindC with
    | some k => _
    | none => _) = _
  rw [e0]
  dsimp only
  rw [if_pos h, ht]
  rfl
theorem bar_step {z : Str} {p : Nat} {b : List Fr} {f : Fr} (h : at? z p = some 124) : stepF ⟨z, p, false, b, f⟩ = .ok ⟨z, p + 1, true, b, f.part⟩ := by
  unfold stepF
  rw [if_neg (show ¬ at? z p = some 32 from fun e => by rw [h] at e; cases e), if_neg (show ¬ (RS.mk z p false b f).want = true from Bool.false_ne_true)]
  unfold goF
  have e0 : (at? z p).bind kindC = none := by rw [h]; rfl
  show (match (at? z p).bind kindC with
    | some k => _
    | none => _) = _
  rw [e0]
  dsimp only
  rw [if_neg (show ¬ at? z p = some 123 from fun e => by rw [h] at e; cases e), if_pos h]
theorem core_ct : ∀ (e : Ex), e.ok → ∀ u, Core e u → Ct (nat_ e) e u
  | e, ok, u, h => by
    cases h with
    | atom at_ =>
      have c2 : C2 e e.atomT := fun L pre post p w b f hL hp hl => by
        obtain ⟨c, r, q, st, n40⟩ := atom_start ok at_
        have a0 : at? (strL L) p = some c := by
          have := at_pre hL hp (k := 0) (by rw [q]; simp)
          rw [Nat.add_zero, q] at this
          exact this
        have ar := atom_read ok at_ hL hp hl
        refine Runs.one (lt_at a0) ?_ (by show p < p + e.atomT.length; rw [q]; simp)
        rw [part_step a0 st]
        unfold beginF
        rw [if_neg (show ¬ at? (strL L) p = some 40 from fun z => n40 (Option.some.inj (a0.symm.trans z)))]
        show (match atomF (strL L) p with
          | .error e => _
          | .ok (d, a) => _) = _
        rw [ar]
      exact c2.ct _
    | thn ha hb hi =>
      rename_i a b s v i
      have ca : C1 a s := loo_ct (core_ct a ok.1) ha
      have cb : C2 b v := loo_ct (core_ct b ok.2) hb
      have vne := loo_ne ok.2 hb
      show C1 _ _
      intro L pre post p below o hL hp hl
      have hL1 : L = pre ++ (s ++ (bl i ++ (v ++ post))) := by rw [hL]; simp
      have hL2 : L = (pre ++ s) ++ (bl i ++ (v ++ post)) := by rw [hL]; simp
      have hL3 : L = (pre ++ s ++ bl i) ++ (v ++ post) := by rw [hL]; simp
      obtain ⟨f', e1, r1⟩ := ca L _ _ p below o hL1 hp (fun hs => by
        obtain ⟨c, r, rfl⟩ : ∃ c r, v = c :: r := by
          cases v with
          | nil => exact absurd rfl vne
          | cons c r => exact ⟨c, r, rfl⟩
        cases i with
        | zero =>
          show letterC c = false
          cases q : letterC c with
          | false => rfl
          | true => have := hi hs q; omega
        | succ i => exact not_let (c := 32) (Or.inl (by omega)))
      have r2 := runs_bl (w := false) (b := below) (f := f') i (p + s.length) _ _ hL2 (by rw [hp]; simp)
      have r3 := cb L _ _ (p + s.length + i) false below f' hL3 (by rw [hp]; simp; rw [bl_len]; omega) (fun q => hl (by rw [last_app vne]; exact q))
      refine ⟨f'.add b.d, ?_, ?_⟩
      · show (⟨f'.join.o, if noneD b.d = true then f'.join.t else if noneD f'.join.t = true then b.d else .tuple [.str "then", f'.join.t, b.d], .none⟩ : Fr) = _
        rw [e1, b.none, if_neg Bool.false_ne_true]
        show (⟨o, if noneD a.d = true then b.d else .tuple [.str "then", a.d, b.d], .none⟩ : Fr) = _
        rw [a.none, if_neg Bool.false_ne_true]
        rfl
      · have el : p + s.length + i + v.length = p + (s ++ bl i ++ v).length := by simp; rw [bl_len]; omega
        rw [← el]
        exact (r1.trans r2).trans r3
    | or ha hb =>
      rename_i a b s v i j
      have ca : C0 a s := loo_ct (core_ct a ok.1) ha
      have cb : C1 b v := loo_ct (core_ct b ok.2) hb
      have vne := loo_ne ok.2 hb
      show C0 _ _
      intro L pre post p below hL hp hl
      have hL1 : L = pre ++ (s ++ (bl i ++ (124 :: (bl j ++ (v ++ post))))) := by rw [hL]; simp
      have hL2 : L = (pre ++ s) ++ (bl i ++ (124 :: (bl j ++ (v ++ post)))) := by rw [hL]; simp
      have hL3 : L = (pre ++ s ++ bl i) ++ ([124] ++ (bl j ++ (v ++ post))) := by rw [hL]; simp
      have hL4 : L = (pre ++ s ++ bl i ++ [124]) ++ (bl j ++ (v ++ post)) := by rw [hL]; simp
      have hL5 : L = (pre ++ s ++ bl i ++ [124] ++ bl j) ++ (v ++ post) := by rw [hL]; simp
      obtain ⟨f', e1, r1⟩ := ca L _ _ p below hL1 hp (fun _ => first_bl (not_let (Or.inr (by omega))))
      have r2 := runs_bl (w := false) (b := below) (f := f') i (p + s.length) _ _ hL2 (by rw [hp]; simp)
      have a3 : at? (strL L) (p + s.length + i) = some 124 := by
        have := at_pre hL3 (p := p + s.length + i) (by rw [hp]; simp; rw [bl_len]; omega) (k := 0) (by simp)
        rw [Nat.add_zero] at this
        exact this
      have r3 : Runs ⟨strL L, p + s.length + i, false, below, f'⟩ ⟨strL L, p + s.length + i + 1, true, below, ⟨a.d, .none, .none⟩⟩ := by
        refine Runs.one (lt_at a3) ?_ (Nat.lt_succ_self _)
        rw [bar_step a3, e1]
      have r4 := runs_bl (w := true) (b := below) (f := ⟨a.d, .none, .none⟩) j (p + s.length + i + 1) _ _ hL4 (by rw [hp]; simp; rw [bl_len]; omega)
      obtain ⟨f2, e2, r5⟩ := cb L _ _ (p + s.length + i + 1 + j) below a.d hL5 (by rw [hp]; simp; rw [bl_len, bl_len]; omega) (fun q => hl (by
        have : s ++ bl i ++ 124 :: (bl j ++ v) = (s ++ bl i ++ 124 :: bl j) ++ v := by simp
        rw [this, last_app vne]
        exact q))
      refine ⟨f2, ?_, ?_⟩
      · unfold Fr.part
        rw [e2]
        show (⟨if noneD a.d = true then b.d else .tuple [.str "or", a.d, b.d], .none, .none⟩ : Fr) = _
        rw [a.none, if_neg Bool.false_ne_true]
        rfl
      · have el : p + s.length + i + 1 + j + v.length = p + (s ++ bl i ++ 124 :: (bl j ++ v)).length := by simp; rw [bl_len, bl_len]; omega
        rw [← el]
        exact (((r1.trans r2).trans r3).trans r4).trans r5
    | lone ha =>
      rename_i k i a s
      have ca : C2 a s := loo_ct (core_ct a ok.2) ha
      show C2 _ _
      intro L pre post p w below f hL hp hl
      obtain ⟨c, hc, hk⟩ : ∃ c, (Ex.lone k a).signT = [c] ∧ kindC c = some (loneW k) := by
        have hk : k = 0 ∨ k = 1 ∨ k = 2 := by have := ok.1; omega
        rcases hk with rfl | rfl | rfl
        · exact ⟨42, rfl, rfl⟩
        · exact ⟨43, rfl, rfl⟩
        · exact ⟨63, rfl, rfl⟩
      have hcl : letterC c = false := by
        cases q : letterC c with
        | false => rfl
        | true =>
          have := let_bound q
          unfold kindC at hk
          split at hk <;> first | omega | cases hk
      rw [hc] at hL ⊢
      have hL1 : L = pre ++ (s ++ (bl i ++ (c :: post))) := by rw [hL]; simp
      have hL2 : L = (pre ++ s) ++ (bl i ++ (c :: post)) := by rw [hL]; simp
      have hL3 : L = (pre ++ s ++ bl i) ++ ([c] ++ post) := by rw [hL]; simp
      have r1 := ca L _ _ p w below f hL1 hp (fun _ => first_bl hcl)
      have r2 := runs_bl (w := false) (b := below) (f := f.add a.d) i (p + s.length) _ _ hL2 (by rw [hp]; simp)
      have a3 : at? (strL L) (p + s.length + i) = some c := by
        have := at_pre hL3 (p := p + s.length + i) (by rw [hp]; simp; rw [bl_len]; omega) (k := 0) (by simp)
        rw [Nat.add_zero] at this
        exact this
      have r3 : Runs ⟨strL L, p + s.length + i, false, below, f.add a.d⟩ ⟨strL L, p + s.length + i + 1, false, below, f.add (Ex.lone k a).d⟩ := by
        refine Runs.one (lt_at a3) ?_ (Nat.lt_succ_self _)
        rw [kind_step a3 hk]
        rfl
      have el : p + s.length + i + 1 = p + (s ++ bl i ++ [c]).length := by simp; rw [bl_len]; omega
      rw [← el]
      exact (r1.trans r2).trans r3
    | times ha =>
      rename_i l m i a s
      have ca : C2 a s := loo_ct (core_ct a ok.2.2.2) ha
      obtain ⟨o1, o2, o3, _⟩ := ok
      show C2 _ _
      intro L pre post p w below f hL hp hl
      have hL1 : L = pre ++ (s ++ (bl i ++ (123 :: ([48 + l, 44, 48 + m, 125] ++ post)))) := by rw [hL]; simp [Ex.signT]
      have hL2 : L = (pre ++ s) ++ (bl i ++ (123 :: ([48 + l, 44, 48 + m, 125] ++ post))) := by rw [hL]; simp [Ex.signT]
      have hL3 : L = (pre ++ s ++ bl i) ++ ([123, 48 + l, 44, 48 + m, 125] ++ post) := by rw [hL]; simp [Ex.signT]
      have r1 := ca L _ _ p w below f hL1 hp (fun _ => first_bl (not_let (Or.inr (by omega))))
      have r2 := runs_bl (w := false) (b := below) (f := f.add a.d) i (p + s.length) _ _ hL2 (by rw [hp]; simp)
      have hp3 : p + s.length + i = (pre ++ s ++ bl i).length := by rw [hp]; simp; rw [bl_len]; omega
      have a0 : at? (strL L) (p + s.length + i) = some 123 := by have := at_pre hL3 hp3 (k := 0) (by simp); rw [Nat.add_zero] at this; exact this
      have a1 := at_pre hL3 hp3 (k := 1) (by simp)
      have a2 := at_pre hL3 hp3 (k := 2) (by simp)
      have a3 := at_pre hL3 hp3 (k := 3) (by simp)
      have a4 := at_pre hL3 hp3 (k := 4) (by simp)
      have dl : inS "0123456789" (48 + l) = true := (figC_iff _).mpr ⟨by omega, by omega⟩
      have dm : inS "0123456789" (48 + m) = true := (figC_iff _).mpr ⟨by omega, by omega⟩
      have ht : timesF (strL L) (p + s.length + i) = .ok (((l : Nat), (m : Nat)), p + s.length + i + 5) := by
        rw [times4 a0 a1 dl a2 a3 dm, if_neg (by
          rintro (q | q | q)
          · exact q a4
          · omega
          · omega)]
        have e1 : ((48 + l : Nat) : Int) - 48 = (l : Nat) := by omega
        have e2 : ((48 + m : Nat) : Int) - 48 = (m : Nat) := by omega
        rw [e1, e2]
      have r3 : Runs ⟨strL L, p + s.length + i, false, below, f.add a.d⟩ ⟨strL L, p + s.length + i + 5, false, below, f.add (Ex.times l m a).d⟩ := by
        refine Runs.one (lt_at a0) ?_ (by show p + s.length + i < p + s.length + i + 5; omega)
        rw [times_step a0 ht]
        rfl
      have el : p + s.length + i + 5 = p + (s ++ bl i ++ (Ex.times l m a).signT).length := by simp [Ex.signT]; rw [bl_len]; omega
      rw [← el]
      exact (r1.trans r2).trans r3
end Y
set_option maxHeartbeats 4000000
/-! expressions: their sizes; texts that are read as them -/
namespace Y
open PySem PySem.Spec PyProof.Rows L2
theorem ex_tr : ∀ (e : Ex), e.ok → Tr.ok ⟨e.d, e.deep, e.size⟩
  | .two o a b, ok => by
    have ha := ex_tr a ok.1
    have hb := ex_tr b ok.2
    cases o with
    | true => exact ok_two ha hb (Or.inr rfl)
    | false => exact ok_two ha hb (Or.inl rfl)
  | .lone k a, ok => by
    have ha := ex_tr a ok.2
    refine ok_one ha ?_
    have hk : k = 0 ∨ k = 1 ∨ k = 2 := by have := ok.1; omega
    rcases hk with rfl | rfl | rfl
    · exact Or.inl rfl
    · exact Or.inr (Or.inl rfl)
    · exact Or.inr (Or.inr rfl)
  | .times l m a, ok => by
    obtain ⟨h1, h2, h3, h4⟩ := ok
    have ha := ex_tr a h4
    have := ok_times (l := (l : Nat)) (m := (m : Nat)) ha ⟨by omega, by omega⟩ ⟨by omega, by omega⟩
    exact this
  | .word s, ok => ok_atom (atom_read (e := .word s) ok trivial (L := _) (pre := []) (post := []) (p := 0) rfl rfl (fun _ => rfl))
  | .back s, ok => ok_atom (atom_read (e := .back s) ok trivial (L := _) (pre := []) (post := []) (p := 0) rfl rfl (fun _ => rfl))
  | .any, ok => ok_atom (atom_read (e := .any) ok trivial (L := _) (pre := []) (post := []) (p := 0) rfl rfl (fun _ => rfl))
  | .here, ok => ok_atom (atom_read (e := .here) ok trivial (L := _) (pre := []) (post := []) (p := 0) rfl rfl (fun _ => rfl))
  | .node t v, ok => ok_atom (atom_read (e := .node t v) ok trivial (L := _) (pre := []) (post := []) (p := 0) rfl rfl (fun _ => rfl))
/-- fit for the program -/
structure Ex.fit (e : Ex) : Prop where
  ok : e.ok
  deep : e.deep ≤ 30
  size : e.size ≤ 300
  few : e.nodes ≤ 2000
theorem size_ex {e : Ex} (ok : e.ok) (n : Nat) : sizeW n e.d = if e.deep ≤ n then some (e.size : Int) else none := (ex_tr e ok).size n
theorem fit_size {e : Ex} (f : e.fit) : Y.sizeO e.d = some (e.size : Int) := by
  unfold Y.sizeO
  rw [size_ex f.ok, if_pos f.deep]
  show (if (e.size : Int) > 300 then none else some (e.size : Int)) = _
  rw [if_neg (by have := f.size; omega)]
theorem fit_judged {e : Ex} (f : e.fit) : Y.judged e.d = true := by
  unfold Y.judged
  rw [fit_size f]
  rfl
theorem fit_strs {e : Ex} (f : e.fit) : strsOk e.d = true := (ex_tr e f.ok).txts
theorem fit_fine {e : Ex} (f : e.fit) : Fine e.d := by
  have t := ex_tr e f.ok
  refine fine_of t.lay t.sho t.shw (Nat.le_trans t.dep (by have := f.deep; show e.deep ≤ 64; omega)) ?_
  have h : (PyData.weight e.d : Int) ≤ 70 * ((e.deep : Int) * (e.size : Int)) := t.wgt
  have h2 : (e.deep : Int) * (e.size : Int) ≤ 30 * 300 := by
    have : e.deep * e.size ≤ 30 * 300 := Nat.mul_le_mul f.deep f.size
    exact_mod_cast this
  omega
/-- read, blanks around it or none -/
theorem read_c0 {e : Ex} {u : List Nat} (c0 : C0 e u) (i j : Nat) : readF (strL (bl i ++ u ++ bl j)) = .ok e.d := by
  have hL1 : bl i ++ u ++ bl j = [] ++ (bl i ++ (u ++ bl j)) := by simp
  have hL2 : bl i ++ u ++ bl j = bl i ++ (u ++ bl j) := by simp
  have hL3 : bl i ++ u ++ bl j = (bl i ++ u) ++ (bl j ++ []) := by simp
  generalize hL : bl i ++ u ++ bl j = L at hL1 hL2 hL3
  have r1 := runs_bl (w := true) (b := []) (f := Fr.new) i 0 [] _ hL1 rfl
  obtain ⟨f', e1, r2⟩ := c0 L _ _ (0 + i) [] hL2 (by rw [bl_len]; omega) (fun _ => by
    cases j with
    | zero => rfl
    | succ j => exact not_let (c := 32) (Or.inl (by omega)))
  have r3 := runs_bl (w := false) (b := []) (f := f') j (0 + i + u.length) _ _ hL3 (by simp; rw [bl_len])
  obtain ⟨n, n1, n2⟩ := (r1.trans r2).trans r3
  have len : (strL L).length = 0 + i + u.length + j := by
    rw [strL_len, ← hL]
    simp
    rw [bl_len, bl_len]
    omega
  have hrun : loopF (strL L).length (RS.new (strL L)) = .ok ⟨strL L, 0 + i + u.length + j, false, [], f'⟩ := by
    have n1' : n + 0 ≤ 0 + i + u.length + j := n1
    obtain ⟨m, hm⟩ : ∃ m, (strL L).length = n + m := ⟨(strL L).length - n, by omega⟩
    rw [hm]
    refine (n2 m).trans (loopF_end ?_)
    show ¬ 0 + i + u.length + j < (strL L).length
    omega
  unfold readF
  rw [hrun]
  have he : endF (⟨strL L, 0 + i + u.length + j, false, [], f'⟩ : RS) = .ok (e.d, 0 + i + u.length + j) := by
    unfold endF
    rw [if_neg (by rintro (q | q); · cases q
                   · exact q rfl), e1]
  dsimp only
  rw [he]
theorem loo_c0 {e : Ex} (ok : e.ok) {u : List Nat} (h : Loo e 0 u) : C0 e u := loo_ct (core_ct e ok) h
/-- so many parentheses -/
def wideT (n : Nat) (u : List Nat) : List Nat := List.replicate n 40 ++ u ++ List.replicate n 41
theorem wide_c0 {e : Ex} {u : List Nat} (h : C0 e u) : ∀ n, C0 e (wideT n u)
  | 0 => by
    unfold wideT
    simpa using h
  | n + 1 => by
    have q := (wrap_c2 (wide_c0 h n) 0 0).c1.c0
    have e1 : 40 :: (bl 0 ++ wideT n u ++ bl 0 ++ [41]) = wideT (n + 1) u := by
      unfold wideT bl
      rw [List.replicate_succ, show List.replicate (n + 1) 41 = List.replicate n 41 ++ [41] from List.replicate_succ']
      simp
    rw [e1] at q
    exact q
end Y
set_option maxHeartbeats 4000000
/-! what the rest of the defs do -/
namespace Y
open PySem PySem.Spec PyProof.Rows L2
/-- the tag of an expression -/
def Ex.tag : Ex → Str
  | .word _ => "word"
  | .back _ => "back"
  | .any => "any"
  | .here => "here"
  | .node _ _ => "node"
  | .two o _ _ => if o then "or" else "then"
  | .lone k _ => loneW k
  | .times _ _ _ => "times"
/-- may it not stand bare there -/
def Ex.barred : Ex → Nat → Bool
  | .two true _ _, t => decide (0 < t)
  | .two false _ _, t => decide (1 < t)
  | _, _ => false
def parT (b : Bool) (l : List Nat) : List Nat := if b then 40 :: (l ++ [41]) else l
/-- the written text -/
def Ex.wT : Ex → Nat → List Nat
  | .two true a b, t => parT (decide (0 < t)) (a.wT 0 ++ [32, 124, 32] ++ b.wT 1)
  | .two false a b, t => parT (decide (1 < t)) (a.wT 1 ++ [32] ++ b.wT 2)
  | .lone k a, _ => a.wT 2 ++ (Ex.lone k a).signT
  | .times l m a, _ => a.wT 2 ++ (Ex.times l m a).signT
  | .word s, _ => (Ex.word s).atomT
  | .back s, _ => (Ex.back s).atomT
  | .any, _ => Ex.any.atomT
  | .here, _ => Ex.here.atomT
  | .node t v, _ => (Ex.node t v).atomT
theorem wT_par (e : Ex) (t : Nat) : e.wT t = parT (e.barred t) (e.wT 0) := by
  cases e with
  | two o a b => cases o <;> rfl
  | _ => rfl
theorem wT_loo : ∀ (e : Ex) (t : Nat), e.ok → Loo e t (e.wT t)
  | .two true a b, t, ok => by
    have h : Core (.two true a b) (a.wT 0 ++ [32, 124, 32] ++ b.wT 1) := by
      have := Core.or (i := 1) (j := 1) (wT_loo a 0 ok.1) (wT_loo b 1 ok.2)
      simpa [bl] using this
    show Loo _ t (parT (decide (0 < t)) _)
    cases t with
    | zero => exact .bare (show (0 : Nat) = 0 from rfl) h
    | succ t =>
      have := Loo.wrap (t := t + 1) (i := 0) (j := 0) h
      simpa [parT, bl] using this
  | .two false a b, t, ok => by
    have h : Core (.two false a b) (a.wT 1 ++ [32] ++ b.wT 2) := Core.thn (i := 1) (wT_loo a 1 ok.1) (wT_loo b 2 ok.2) fun _ _ => Nat.le_refl 1
    show Loo _ t (parT (decide (1 < t)) _)
    by_cases q : 1 < t
    · rw [decide_eq_true q]
      have := Loo.wrap (t := t) (i := 0) (j := 0) h
      simpa [parT, bl] using this
    · rw [decide_eq_false q]
      exact .bare (show t ≤ 1 by omega) h
  | .lone k a, t, ok => by
    have h := Core.lone (k := k) (i := 0) (wT_loo a 2 ok.2)
    have e : a.wT 2 ++ bl 0 ++ (Ex.lone k a).signT = (Ex.lone k a).wT t := by show a.wT 2 ++ [] ++ _ = a.wT 2 ++ _; rw [List.append_nil]
    rw [e] at h
    exact .bare trivial h
  | .times l m a, t, ok => by
    have h := Core.times (l := l) (m := m) (i := 0) (wT_loo a 2 ok.2.2.2)
    have e : a.wT 2 ++ bl 0 ++ (Ex.times l m a).signT = (Ex.times l m a).wT t := by show a.wT 2 ++ [] ++ _ = a.wT 2 ++ _; rw [List.append_nil]
    rw [e] at h
    exact .bare trivial h
  | .word s, t, _ => .bare trivial (.atom (e := .word s) trivial)
  | .back s, t, _ => .bare trivial (.atom (e := .back s) trivial)
  | .any, t, _ => .bare trivial (.atom (e := .any) trivial)
  | .here, t, _ => .bare trivial (.atom (e := .here) trivial)
  | .node x v, t, _ => .bare trivial (.atom (e := .node x v) trivial)
theorem parT_len (b : Bool) (l : List Nat) : (parT b l).length ≤ l.length + 2 := by
  cases b <;> simp [parT]
theorem wT_len : ∀ (e : Ex) (t : Nat), e.ok → (e.wT t).length ≤ 40 * e.nodes
  | .two true a b, t, ok => by
    have h1 := wT_len a 0 ok.1
    have h2 := wT_len b 1 ok.2
    have h3 := parT_len (decide (0 < t)) (a.wT 0 ++ [32, 124, 32] ++ b.wT 1)
    simp only [List.length_append, List.length_cons, List.length_nil] at h3
    show (parT (decide (0 < t)) _).length ≤ 40 * (a.nodes + b.nodes + 1)
    omega
  | .two false a b, t, ok => by
    have h1 := wT_len a 1 ok.1
    have h2 := wT_len b 2 ok.2
    have h3 := parT_len (decide (1 < t)) (a.wT 1 ++ [32] ++ b.wT 2)
    simp only [List.length_append, List.length_cons, List.length_nil] at h3
    show (parT (decide (1 < t)) _).length ≤ 40 * (a.nodes + b.nodes + 1)
    omega
  | .lone k a, t, ok => by
    have h1 := wT_len a 2 ok.2
    show (a.wT 2 ++ (Ex.lone k a).signT).length ≤ 40 * (a.nodes + 1)
    have : (Ex.lone k a).signT.length = 1 := rfl
    rw [List.length_append]
    omega
  | .times l m a, t, ok => by
    have h1 := wT_len a 2 ok.2.2.2
    show (a.wT 2 ++ (Ex.times l m a).signT).length ≤ 40 * (a.nodes + 1)
    have : (Ex.times l m a).signT.length = 5 := rfl
    rw [List.length_append]
    omega
  | .word s, t, ok => Nat.le_trans (atom_len (e := .word s) ok trivial) (by show 25 ≤ 40 * 1; decide)
  | .back s, t, ok => Nat.le_trans (atom_len (e := .back s) ok trivial) (by show 25 ≤ 40 * 1; decide)
  | .any, t, ok => Nat.le_trans (atom_len (e := .any) ok trivial) (by show 25 ≤ 40 * 1; decide)
  | .here, t, ok => Nat.le_trans (atom_len (e := .here) ok trivial) (by show 25 ≤ 40 * 1; decide)
  | .node x v, t, ok => Nat.le_trans (atom_len (e := .node x v) ok trivial) (by show 25 ≤ 40 * 1; decide)
/-! ### the program -/
def sp_check_expression (Z : Ad) : SpX := fun xs M R P => ∃ x d, xs = [x] ∧ AsD M x d ∧ strsOk d = true ∧ (if (sizeO d).isSome = true then R (.d .none) M else P (.ref Z.c_NoExpression) none M)
def sp_in_parentheses (Z : Ad) : SpX := fun xs M R P => ∃ l : List Nat, xs = [.d (.str (strL l))] ∧ l.length ≤ 900000 ∧ R (.d (.str (strL (40 :: (l ++ [41]))))) M
def sp_atom_text (Z : Ad) : SpX := fun xs M R P => ∃ e : Ex, xs = [.d e.d] ∧ e.ok ∧ e.atom ∧ R (.d (.str (strL e.atomT))) M
def barsD : Nat → PyData
  | 0 => .tuple []
  | 1 => .tuple [.str "or"]
  | _ => .tuple [.str "or", .str "then"]
def sp_text_of (Z : Ad) (k : Nat) : SpX := fun xs M R P => ∃ e : Ex, xs = [.d e.d] ∧ e.ok ∧ e.deep ≤ k ∧ e.nodes ≤ 2000 ∧ R (.d (.str (strL (e.wT 0)))) M
def sp_part_text (Z : Ad) (k : Nat) : SpX := fun xs M R P => ∃ (e : Ex) (t : Nat), xs = [.d e.d, .d (barsD t)] ∧ t ≤ 2 ∧ e.ok ∧ e.deep ≤ k ∧ e.nodes ≤ 2000 ∧ R (.d (.str (strL (e.wT t)))) M
def sp_expression_text (Z : Ad) : SpX := fun xs M R P => (∃ e : Ex, xs = [.d e.d] ∧ e.fit ∧ R (.d (.str (strL (e.wT 0)))) M) ∨ ∃ x d, xs = [x] ∧ AsD M x d ∧ strsOk d = true ∧ sizeO d = none ∧ P (.ref Z.c_NoExpression) none M
/-! ### the law -/
def sp_L_row (Z : Ad) : SpX := fun xs M R P => ∃ (x : Xv) (b : Bool) (e : Ex) (n : Nat), xs = [x, .d (.str (if b then "or" else "then")), .d e.d, .d (.int (n : Nat))] ∧ e.ok ∧ 1 ≤ n ∧ n ≤ 300 ∧
  ∀ e' : Ex, e'.ok → e'.deep ≤ e.deep + 9 → e'.size ≤ n * e.size → e'.nodes + 1 ≤ n * (e.nodes + 1) → R (.d e'.d) M
/-- what is no expression -/
def noEx (d : PyData) : Prop := strsOk d = true ∧ sizeO d = none
def sp_L_no_expression (Z : Ad) : SpX := fun xs M R P => ∃ (p : Addr) (o : MO) (e : Ex), xs = [.r (.ref p), .d e.d] ∧ M p = some o ∧ isHand o ∧ e.ok ∧
  ∀ o', isHand o' → (∀ d, noEx d → R (.d d) (mset M p o')) ∧ ∀ n, M n = none → R (.r (.ref n)) (mset (mset M p o') n .dic)
def sp_L_written (Z : Ad) (k : Nat) : SpX := fun xs M R P => ∃ (e : Ex) (t : Nat), xs = [.d e.d, .d (.int (t : Nat))] ∧ e.ok ∧ e.deep ≤ k ∧ e.nodes ≤ 2000 ∧ R (.d (.str (strL (e.wT t)))) M
def sp_L_is_read (Z : Ad) : SpX := fun xs M R P => ∃ (l : List Nat) (e : Ex), xs = [.d (.str (strL l)), .d e.d] ∧ l.length ≤ 100000 ∧ (∀ c ∈ l, c < 4294967296) ∧ e.fit ∧ readF (strL l) = .ok e.d ∧ R (.d (.bool true)) M
def sp_L_is_right (Z : Ad) : SpX := handSp (fun ys => ∃ e : Ex, ys = [.d e.d] ∧ e.fit) (fun _ d => d = .bool true)
def sp_L_great (Z : Ad) : SpX := handSp (fun ys => ∃ a b, ys = [.d a, .d b] ∧ goodWords a ∧ goodWorths b) (fun _ d => ∃ e : Ex, d = e.d ∧ e.fit)
def sp_L_tower (Z : Ad) : SpX := handSp (fun ys => ∃ e : Ex, ys = [.d e.d] ∧ e.ok ∧ e.atom) (fun _ d => ∃ e : Ex, d = e.d ∧ e.fit)
def sp_law (Z : Ad) : SpX := fun xs M R P => ∃ ns : List Int, xs = [.d (.list (ns.map .int))] ∧ M Z.kt_law = some (.tbl "law.<locals>.<lambda>") ∧ ∀ M', R (.d (.bool true)) M'
end Y
set_option maxHeartbeats 4000000
namespace Y
open PySem PySem.Spec PyProof.Rows L2
abbrev N_check_expression : List Str := ["thing"]
theorem sc_check_expression : FnScope N_check_expression ["thing"] (defScope s_check_expression) := ⟨rfl, rfl, rfl, by decide +kernel, rfl, by decide +kernel, by decide +kernel⟩
def t_check_expression (Z : Ad) : DS :=
  (dIfS (dNot (dB (dCall 1 (sp_is_expression Z) (dCons (dVar 0) dNil)))) (dRaise (mkC0 Z.c_NoExpression))
    dNext)
section
variable {P : Program} {w : World} {K : PySem.W.Frag} {mg : Str → Option Value} {base : Heap} {Z : Ad}
theorem b_check_expression (z : Fx K mg Z w) (F_is_expression : FnOk P w K mg base (L2.CX P w) 61 Z.f_is_expression Z.e_is_expression ["thing"] (toSp K 1 (sp_is_expression Z))) {cdv : Value} {A : Around} {outer : List Env} {s : Shared} {H : Hp} {E : XK} (hr : Room 61 (A.deeper (envOfC "check_expression" (defScope s_check_expression) s.heap.objs.size Z.f_check_expression cdv))) :
    QSs (cxOf (L2.CX P w) P w K mg base N_check_expression "check_expression" (defScope s_check_expression) Z.f_check_expression cdv A outer s H E) E (defBody s_check_expression) (t_check_expression Z) :=
  (qss_one (qs_if (qt_not (tval (call F_is_expression (by first | decide | omega) hr pass_x z.g_is_expression z.k_is_expression (bd_is_expression z) (qa_cons (v 0) qa_nil)))) (qss_one (qs_raise rfl (takes_of rfl rfl rfl rfl) (q_mk0 z.ei_NoExpression z.g_NoExpression z.ke_NoExpression z.ra_NoExpression rfl)))
    qss_nil))
theorem ok_check_expression (z : Fx K mg Z w) (F_is_expression : FnOk P w K mg base (L2.CX P w) 61 Z.f_is_expression Z.e_is_expression ["thing"] (toSp K 1 (sp_is_expression Z))) (pure : ∀ xs M R Px, xs.length = 1 → sp_check_expression Z xs M R Px → t_check_expression Z { nx := fun _ M' => R (.d .none) M', rt := R, ex := Px } (startX N_check_expression xs) M) :
    FnOk P w K mg base (L2.CX P w) 62 Z.f_check_expression Z.e_check_expression ["thing"] (toSp K 1 (sp_check_expression Z)) := fn_x z.F_check_expression sc_check_expression rfl (t_check_expression Z) (fun cdv A outer s H E hr => b_check_expression z F_is_expression hr) pure
end
abbrev N_in_parentheses : List Str := ["text"]
theorem sc_in_parentheses : FnScope N_in_parentheses ["text"] (defScope s_in_parentheses) := ⟨rfl, rfl, rfl, by decide +kernel, rfl, by decide +kernel, by decide +kernel⟩
def t_in_parentheses (Z : Ad) : DS :=
  (dRet (dOp dAdd (dOp dAdd (dC (.d (.str "("))) (dVar 0)) (dC (.d (.str ")")))))
section
variable {P : Program} {w : World} {K : PySem.W.Frag} {mg : Str → Option Value} {base : Heap} {Z : Ad}
theorem b_in_parentheses (z : Fx K mg Z w)  {cdv : Value} {A : Around} {outer : List Env} {s : Shared} {H : Hp} {E : XK} (hr : Room 1 (A.deeper (envOfC "in_parentheses" (defScope s_in_parentheses) s.heap.objs.size Z.f_in_parentheses cdv))) :
    QSs (cxOf (L2.CX P w) P w K mg base N_in_parentheses "in_parentheses" (defScope s_in_parentheses) Z.f_in_parentheses cdv A outer s H E) E (defBody s_in_parentheses) (t_in_parentheses Z) :=
  (qss_one (retn (q_op o_add (q_op o_add q_str (v 0)) q_str)))
theorem ok_in_parentheses (z : Fx K mg Z w)  (pure : ∀ xs M R Px, xs.length = 1 → sp_in_parentheses Z xs M R Px → t_in_parentheses Z { nx := fun _ M' => R (.d .none) M', rt := R, ex := Px } (startX N_in_parentheses xs) M) :
    FnOk P w K mg base (L2.CX P w) 2 Z.f_in_parentheses Z.e_in_parentheses ["text"] (toSp K 1 (sp_in_parentheses Z)) := fn_x z.F_in_parentheses sc_in_parentheses rfl (t_in_parentheses Z) (fun cdv A outer s H E hr => b_in_parentheses z  hr) pure
end
abbrev N_atom_text : List Str := ["thing"]
theorem sc_atom_text : FnScope N_atom_text ["thing"] (defScope s_atom_text) := ⟨rfl, rfl, rfl, by decide +kernel, rfl, by decide +kernel, by decide +kernel⟩
def t_atom_text (Z : Ad) : DS :=
  (dSeq (dIfS (dB (dOp dEq (dOp dIx (dVar 0) (dC (.d (.int 0)))) (dC (.d (.str "any"))))) (dRet (dC (.d (.str "."))))
    dNext)
    (dSeq (dIfS (dB (dOp dEq (dOp dIx (dVar 0) (dC (.d (.int 0)))) (dC (.d (.str "here"))))) (dRet (dC (.d (.str "_"))))
    dNext)
    (dSeq (dIfS (dB (dOp dEq (dOp dIx (dVar 0) (dC (.d (.int 0)))) (dC (.d (.str "node"))))) (dRet (dOp dAdd (dOp dAdd (dOp dAdd (dC (.d (.str "["))) (dOp dIx (dVar 0) (dC (.d (.int 1))))) (dApp cStr (dCons (dOp dIx (dVar 0) (dC (.d (.int 2)))) dNil))) (dC (.d (.str "]")))))
    dNext)
    (dRet (dIf (dB (dOp dEq (dOp dIx (dVar 0) (dC (.d (.int 0)))) (dC (.d (.str "word"))))) (dOp dIx (dVar 0) (dC (.d (.int 1)))) (dOp dAdd (dC (.d (.str "~"))) (dOp dIx (dVar 0) (dC (.d (.int 1))))))))))
section
variable {P : Program} {w : World} {K : PySem.W.Frag} {mg : Str → Option Value} {base : Heap} {Z : Ad}
theorem b_atom_text (z : Fx K mg Z w)  {cdv : Value} {A : Around} {outer : List Env} {s : Shared} {H : Hp} {E : XK} (hr : Room 1 (A.deeper (envOfC "atom_text" (defScope s_atom_text) s.heap.objs.size Z.f_atom_text cdv))) :
    QSs (cxOf (L2.CX P w) P w K mg base N_atom_text "atom_text" (defScope s_atom_text) Z.f_atom_text cdv A outer s H E) E (defBody s_atom_text) (t_atom_text Z) :=
  (qss_cons (qs_if (tcmp (o_eq hr.units) (ix i_seq (v 0) q_int) q_str) (qss_one (retn q_str))
    qss_nil)
    (qss_cons (qs_if (tcmp (o_eq hr.units) (ix i_seq (v 0) q_int) q_str) (qss_one (retn q_str))
    qss_nil)
    (qss_cons (qs_if (tcmp (o_eq hr.units) (ix i_seq (v 0) q_int) q_str) (qss_one (retn (q_op o_add (q_op o_add (q_op o_add q_str (ix i_seq (v 0) q_int)) (blty b_str z.n_str bt_str (qa_cons (ix i_seq (v 0) q_int) qa_nil))) q_str)))
    qss_nil)
    (qss_one (retn (q_if (tcmp (o_eq hr.units) (ix i_seq (v 0) q_int) q_str) (ix i_seq (v 0) q_int) (q_op o_add q_str (ix i_seq (v 0) q_int))))))))
theorem ok_atom_text (z : Fx K mg Z w)  (pure : ∀ xs M R Px, xs.length = 1 → sp_atom_text Z xs M R Px → t_atom_text Z { nx := fun _ M' => R (.d .none) M', rt := R, ex := Px } (startX N_atom_text xs) M) :
    FnOk P w K mg base (L2.CX P w) 2 Z.f_atom_text Z.e_atom_text ["thing"] (toSp K 1 (sp_atom_text Z)) := fn_x z.F_atom_text sc_atom_text rfl (t_atom_text Z) (fun cdv A outer s H E hr => b_atom_text z  hr) pure
end
abbrev N_part_text : List Str := ["thing", "barred", "text"]
theorem sc_part_text : FnScope N_part_text ["thing", "barred"] (defScope s_part_text) := ⟨rfl, rfl, rfl, by decide +kernel, rfl, by decide +kernel, by decide +kernel⟩
def t_part_text (spr : SpX) (Z : Ad) : DS :=
  (dSeq (dSet 2 (dCall 1 spr (dCons (dVar 0) dNil)))
    (dRet (dIf (dB (dOp (dInS false) (dOp dIx (dVar 0) (dC (.d (.int 0)))) (dVar 1))) (dCall 1 (sp_in_parentheses Z) (dCons (dVar 2) dNil)) (dVar 2))))
section
variable {P : Program} {w : World} {K : PySem.W.Frag} {mg : Str → Option Value} {base : Heap} {Z : Ad}
theorem b_part_text (z : Fx K mg Z w) (F_in_parentheses : FnOk P w K mg base (L2.CX P w) 2 Z.f_in_parentheses Z.e_in_parentheses ["text"] (toSp K 1 (sp_in_parentheses Z))) {kk : Nat} (hk : 4 ≤ kk) {spr : SpX} (F_text_of : FnOk P w K mg base (L2.CX P w) kk Z.f_text_of Z.e_text_of ["thing"] (toSp K 1 spr)) {cdv : Value} {A : Around} {outer : List Env} {s : Shared} {H : Hp} {E : XK} (hr : Room kk (A.deeper (envOfC "part_text" (defScope s_part_text) s.heap.objs.size Z.f_part_text cdv))) :
    QSs (cxOf (L2.CX P w) P w K mg base N_part_text "part_text" (defScope s_part_text) Z.f_part_text cdv A outer s H E) E (defBody s_part_text) (t_part_text spr Z) :=
  (qss_cons (set1 2 sc_part_text.nd (call F_text_of (by first | decide | omega) hr pass_x z.g_text_of z.k_text_of (bd_text_of z) (qa_cons (v 0) qa_nil)))
    (qss_one (retn (q_if (tcmp o_in (ix i_seq (v 0) q_int) (v 1)) (call F_in_parentheses (by first | decide | omega) hr pass_x z.g_in_parentheses z.k_in_parentheses (bd_in_parentheses z) (qa_cons (v 2) qa_nil)) (v 2)))))
theorem ok_part_text (z : Fx K mg Z w) (F_in_parentheses : FnOk P w K mg base (L2.CX P w) 2 Z.f_in_parentheses Z.e_in_parentheses ["text"] (toSp K 1 (sp_in_parentheses Z))) {kk : Nat} (hk : 4 ≤ kk) {spr : SpX} (F_text_of : FnOk P w K mg base (L2.CX P w) kk Z.f_text_of Z.e_text_of ["thing"] (toSp K 1 spr)) {sps : SpX} (pure : ∀ xs M R Px, xs.length = 2 → sps xs M R Px → t_part_text spr Z { nx := fun _ M' => R (.d .none) M', rt := R, ex := Px } (startX N_part_text xs) M) :
    FnOk P w K mg base (L2.CX P w) (kk + 1) Z.f_part_text Z.e_part_text ["thing", "barred"] (toSp K 2 (sps)) := fn_x z.F_part_text sc_part_text rfl (t_part_text spr Z) (fun cdv A outer s H E hr => b_part_text z F_in_parentheses hk F_text_of hr) pure
end
abbrev N_text_of : List Str := ["thing"]
theorem sc_text_of : FnScope N_text_of ["thing"] (defScope s_text_of) := ⟨rfl, rfl, rfl, by decide +kernel, rfl, by decide +kernel, by decide +kernel⟩
def t_text_of (spr : SpX) (Z : Ad) : DS :=
  (dSeq (dIfS (dB (dOp dEq (dOp dIx (dVar 0) (dC (.d (.int 0)))) (dC (.d (.str "then"))))) (dRet (dOp dAdd (dOp dAdd (dCall 2 spr (dCons (dOp dIx (dVar 0) (dC (.d (.int 1)))) (dCons (dTup (dCons (dC (.d (.str "or"))) dNil)) dNil))) (dC (.d (.str " ")))) (dCall 2 spr (dCons (dOp dIx (dVar 0) (dC (.d (.int 2)))) (dCons (dTup (dCons (dC (.d (.str "or"))) (dCons (dC (.d (.str "then"))) dNil))) dNil)))))
    dNext)
    (dSeq (dIfS (dB (dOp dEq (dOp dIx (dVar 0) (dC (.d (.int 0)))) (dC (.d (.str "or"))))) (dRet (dOp dAdd (dOp dAdd (dCall 2 spr (dCons (dOp dIx (dVar 0) (dC (.d (.int 1)))) (dCons (dTup dNil) dNil))) (dC (.d (.str " | ")))) (dCall 2 spr (dCons (dOp dIx (dVar 0) (dC (.d (.int 2)))) (dCons (dTup (dCons (dC (.d (.str "or"))) dNil)) dNil)))))
    dNext)
    (dSeq (dIfS (dB (dOp dEq (dOp dIx (dVar 0) (dC (.d (.int 0)))) (dC (.d (.str "times"))))) (dRet (dOp dAdd (dOp dAdd (dOp dAdd (dOp dAdd (dOp dAdd (dCall 2 spr (dCons (dOp dIx (dVar 0) (dC (.d (.int 3)))) (dCons (dTup (dCons (dC (.d (.str "or"))) (dCons (dC (.d (.str "then"))) dNil))) dNil))) (dC (.d (.str "{")))) (dApp cStr (dCons (dOp dIx (dVar 0) (dC (.d (.int 1)))) dNil))) (dC (.d (.str ",")))) (dApp cStr (dCons (dOp dIx (dVar 0) (dC (.d (.int 2)))) dNil))) (dC (.d (.str "}")))))
    dNext)
    (dSeq (dIfS (dB (dOp (dInK Z.c_SIGN_OF kv_SIGN_OF) (dOp dIx (dVar 0) (dC (.d (.int 0)))) (dC (.r (.ref Z.c_SIGN_OF))))) (dRet (dOp dAdd (dCall 2 spr (dCons (dOp dIx (dVar 0) (dC (.d (.int 1)))) (dCons (dTup (dCons (dC (.d (.str "or"))) (dCons (dC (.d (.str "then"))) dNil))) dNil))) (dOp (dIxK Z.c_SIGN_OF kv_SIGN_OF) (dC (.r (.ref Z.c_SIGN_OF))) (dOp dIx (dVar 0) (dC (.d (.int 0)))))))
    dNext)
    (dRet (dCall 1 (sp_atom_text Z) (dCons (dVar 0) dNil)))))))
section
variable {P : Program} {w : World} {K : PySem.W.Frag} {mg : Str → Option Value} {base : Heap} {Z : Ad}
theorem b_text_of (z : Fx K mg Z w) (F_atom_text : FnOk P w K mg base (L2.CX P w) 2 Z.f_atom_text Z.e_atom_text ["thing"] (toSp K 1 (sp_atom_text Z))) {kk : Nat} (hk : 4 ≤ kk) {spr : SpX} (F_part_text : FnOk P w K mg base (L2.CX P w) kk Z.f_part_text Z.e_part_text ["thing", "barred"] (toSp K 2 spr)) {cdv : Value} {A : Around} {outer : List Env} {s : Shared} {H : Hp} {E : XK} (hr : Room kk (A.deeper (envOfC "text_of" (defScope s_text_of) s.heap.objs.size Z.f_text_of cdv))) :
    QSs (cxOf (L2.CX P w) P w K mg base N_text_of "text_of" (defScope s_text_of) Z.f_text_of cdv A outer s H E) E (defBody s_text_of) (t_text_of spr Z) :=
  (qss_cons (qs_if (tcmp (o_eq hr.units) (ix i_seq (v 0) q_int) q_str) (qss_one (retn (q_op o_add (q_op o_add (call F_part_text (by first | decide | omega) hr pass_x z.g_part_text z.k_part_text (bd_part_text z) (qa_cons (ix i_seq (v 0) q_int) (qa_cons (q_tup (qa_cons q_str qa_nil)) qa_nil))) q_str) (call F_part_text (by first | decide | omega) hr pass_x z.g_part_text z.k_part_text (bd_part_text z) (qa_cons (ix i_seq (v 0) q_int) (qa_cons (q_tup (qa_cons q_str (qa_cons q_str qa_nil))) qa_nil))))))
    qss_nil)
    (qss_cons (qs_if (tcmp (o_eq hr.units) (ix i_seq (v 0) q_int) q_str) (qss_one (retn (q_op o_add (q_op o_add (call F_part_text (by first | decide | omega) hr pass_x z.g_part_text z.k_part_text (bd_part_text z) (qa_cons (ix i_seq (v 0) q_int) (qa_cons (q_tup qa_nil) qa_nil))) q_str) (call F_part_text (by first | decide | omega) hr pass_x z.g_part_text z.k_part_text (bd_part_text z) (qa_cons (ix i_seq (v 0) q_int) (qa_cons (q_tup (qa_cons q_str qa_nil)) qa_nil))))))
    qss_nil)
    (qss_cons (qs_if (tcmp (o_eq hr.units) (ix i_seq (v 0) q_int) q_str) (qss_one (retn (q_op o_add (q_op o_add (q_op o_add (q_op o_add (q_op o_add (call F_part_text (by first | decide | omega) hr pass_x z.g_part_text z.k_part_text (bd_part_text z) (qa_cons (ix i_seq (v 0) q_int) (qa_cons (q_tup (qa_cons q_str (qa_cons q_str qa_nil))) qa_nil))) q_str) (blty b_str z.n_str bt_str (qa_cons (ix i_seq (v 0) q_int) qa_nil))) q_str) (blty b_str z.n_str bt_str (qa_cons (ix i_seq (v 0) q_int) qa_nil))) q_str)))
    qss_nil)
    (qss_cons (qs_if (tcmp (o_inK z.t_SIGN_OF) (ix i_seq (v 0) q_int) (gr z.g_SIGN_OF)) (qss_one (retn (q_op o_add (call F_part_text (by first | decide | omega) hr pass_x z.g_part_text z.k_part_text (bd_part_text z) (qa_cons (ix i_seq (v 0) q_int) (qa_cons (q_tup (qa_cons q_str (qa_cons q_str qa_nil))) qa_nil))) (ix (i_K z.t_SIGN_OF) (gr z.g_SIGN_OF) (ix i_seq (v 0) q_int)))))
    qss_nil)
    (qss_one (retn (call F_atom_text (by first | decide | omega) hr pass_x z.g_atom_text z.k_atom_text (bd_atom_text z) (qa_cons (v 0) qa_nil))))))))
theorem ok_text_of (z : Fx K mg Z w) (F_atom_text : FnOk P w K mg base (L2.CX P w) 2 Z.f_atom_text Z.e_atom_text ["thing"] (toSp K 1 (sp_atom_text Z))) {kk : Nat} (hk : 4 ≤ kk) {spr : SpX} (F_part_text : FnOk P w K mg base (L2.CX P w) kk Z.f_part_text Z.e_part_text ["thing", "barred"] (toSp K 2 spr)) {sps : SpX} (pure : ∀ xs M R Px, xs.length = 1 → sps xs M R Px → t_text_of spr Z { nx := fun _ M' => R (.d .none) M', rt := R, ex := Px } (startX N_text_of xs) M) :
    FnOk P w K mg base (L2.CX P w) (kk + 1) Z.f_text_of Z.e_text_of ["thing"] (toSp K 1 (sps)) := fn_x z.F_text_of sc_text_of rfl (t_text_of spr Z) (fun cdv A outer s H E hr => b_text_of z F_atom_text hk F_part_text hr) pure
end
abbrev N_expression_text : List Str := ["expression"]
theorem sc_expression_text : FnScope N_expression_text ["expression"] (defScope s_expression_text) := ⟨rfl, rfl, rfl, by decide +kernel, rfl, by decide +kernel, by decide +kernel⟩
def t_expression_text (Z : Ad) : DS :=
  (dSeq (dDrop (dCall 1 (sp_check_expression Z) (dCons (dVar 0) dNil)))
    (dRet (dCall 1 (sp_text_of Z 30) (dCons (dVar 0) dNil))))
section
variable {P : Program} {w : World} {K : PySem.W.Frag} {mg : Str → Option Value} {base : Heap} {Z : Ad}
theorem b_expression_text (z : Fx K mg Z w) (F_check_expression : FnOk P w K mg base (L2.CX P w) 62 Z.f_check_expression Z.e_check_expression ["thing"] (toSp K 1 (sp_check_expression Z))) (F_text_of : FnOk P w K mg base (L2.CX P w) 65 Z.f_text_of Z.e_text_of ["thing"] (toSp K 1 (sp_text_of Z 30))) {cdv : Value} {A : Around} {outer : List Env} {s : Shared} {H : Hp} {E : XK} (hr : Room 65 (A.deeper (envOfC "expression_text" (defScope s_expression_text) s.heap.objs.size Z.f_expression_text cdv))) :
    QSs (cxOf (L2.CX P w) P w K mg base N_expression_text "expression_text" (defScope s_expression_text) Z.f_expression_text cdv A outer s H E) E (defBody s_expression_text) (t_expression_text Z) :=
  (qss_cons (exps (call F_check_expression (by first | decide | omega) hr pass_x z.g_check_expression z.k_check_expression (bd_check_expression z) (qa_cons (v 0) qa_nil)))
    (qss_one (retn (call F_text_of (by first | decide | omega) hr pass_x z.g_text_of z.k_text_of (bd_text_of z) (qa_cons (v 0) qa_nil)))))
theorem ok_expression_text (z : Fx K mg Z w) (F_check_expression : FnOk P w K mg base (L2.CX P w) 62 Z.f_check_expression Z.e_check_expression ["thing"] (toSp K 1 (sp_check_expression Z))) (F_text_of : FnOk P w K mg base (L2.CX P w) 65 Z.f_text_of Z.e_text_of ["thing"] (toSp K 1 (sp_text_of Z 30))) (pure : ∀ xs M R Px, xs.length = 1 → sp_expression_text Z xs M R Px → t_expression_text Z { nx := fun _ M' => R (.d .none) M', rt := R, ex := Px } (startX N_expression_text xs) M) :
    FnOk P w K mg base (L2.CX P w) 66 Z.f_expression_text Z.e_expression_text ["expression"] (toSp K 1 (sp_expression_text Z)) := fn_x z.F_expression_text sc_expression_text rfl (t_expression_text Z) (fun cdv A outer s H E hr => b_expression_text z F_check_expression F_text_of hr) pure
end
end Y
set_option maxHeartbeats 4000000
namespace Y
open PySem PySem.Spec PyProof.Rows L2
abbrev N_L_row : List Str := ["_law_hand_here", "_law_word", "_law_atom_here", "_law_many", "_law_row_here", "_law_k", "_law_turn", "_law_later"]
theorem sc_L_row : FnScope N_L_row ["_law_hand_here", "_law_word", "_law_atom_here", "_law_many"] (defScope s_L_row) := ⟨rfl, rfl, rfl, by decide +kernel, rfl, by decide +kernel, by decide +kernel⟩
def t_L_row (Z : Ad) : DS :=
  (dSeq (dSet 4 (dLcI (dItR1 (dVar 3)) 5 [5] (dVar 2)))
    (dSeq (dForR1 (dC (.d (.int 9))) 6
    (dSeq (dSet 7 (dLcIM (dItR3 (dC (.d (.int 0))) (dOp dSub (dApp cLen (dCons (dVar 4) dNil)) (dC (.d (.int 1)))) (dC (.d (.int 2)))) 5 [5] (dTup (dCons (dVar 1) (dCons (dOp dIx (dVar 4) (dVar 5)) (dCons (dOp dIx (dVar 4) (dOp dAdd (dVar 5) (dC (.d (.int 1))))) dNil))))))
    (dSeq (dIfS (dB (dOp dEq (dOp dMod (dApp cInt (dCons (dApp cLen (dCons (dVar 4) dNil)) dNil)) (dC (.d (.int 2)))) (dC (.d (.int 1))))) (dDrop (dBM "list" mApp (dVar 7) (dCons (dOp dIx (dVar 4) (dNeg (dC (.d (.int 1))))) dNil)))
    dNext)
    (dSet 4 (dGho (dVar 7))))))
    (dRet (dOp dIx (dVar 4) (dC (.d (.int 0)))))))
section
variable {P : Program} {w : World} {K : PySem.W.Frag} {mg : Str → Option Value} {base : Heap} {Z : Ad}
theorem b_L_row (z : Fx K mg Z w)  {cdv : Value} {A : Around} {outer : List Env} {s : Shared} {H : Hp} {E : XK} (hr : Room 2 (A.deeper (envOfC "_law_row" (defScope s_L_row) s.heap.objs.size Z.f_L_row cdv))) :
    QSs (cxOf (L2.CX P w) P w K mg base N_L_row "_law_row" (defScope s_L_row) Z.f_L_row cdv A outer s H E) E (defBody s_L_row) (t_L_row Z) :=
  (qss_cons (set1 4 sc_L_row.nd (lcI 5 [("_law_k", 5)] sc_L_row.nd rfl (itR1 z.n_range (v 3)) (blkOk_by (by kernel_rfl)) (fun _ _ _ _ _ => (v 2))))
    (qss_cons (forR1 6 sc_L_row.nd rfl (passes_of rfl) z.n_range q_int
    (qss_cons (setLcIM 7 5 [("_law_k", 5)] sc_L_row.nd rfl (itR3 z.n_range q_int (q_op o_sub (blt b_len z.n_len bt_len (qa_cons (v 4) qa_nil)) q_int) q_int) (blkOk_by (by kernel_rfl)) (fun _ _ _ _ _ => (q_tup (qa_cons (v 1) (qa_cons (ix i_seq (v 4) (v 5)) (qa_cons (ix i_seq (v 4) (q_op o_add (v 5) q_int)) qa_nil))))) rfl)
    (qss_cons (qs_if (tcmp (o_eq hr.units) (q_op o_mod (blty b_int z.n_int bt_int (qa_cons (blt b_len z.n_len bt_len (qa_cons (v 4) qa_nil)) qa_nil)) q_int) q_int) (qss_one (exps (q_bm m_append (v 7) (qa_cons (ix i_seq (v 4) (q_neg q_int)) qa_nil) fun _ _ _ h1 h2 h3 => pe_bm PySem.F.plainAttrs_list PySem.F.slot_list_append PySem.F.type_list_append h1 h2 h3)))
    qss_nil)
    (qss_one (set1 4 sc_L_row.nd (q_gho (v 7)))))))
    (qss_one (retn (ix i_seq (v 4) q_int)))))
theorem ok_L_row (z : Fx K mg Z w)  (pure : ∀ xs M R Px, xs.length = 4 → sp_L_row Z xs M R Px → t_L_row Z { nx := fun _ M' => R (.d .none) M', rt := R, ex := Px } (startX N_L_row xs) M) :
    FnOk P w K mg base (L2.CX P w) 3 Z.f_L_row Z.e_L_row ["_law_hand_here", "_law_word", "_law_atom_here", "_law_many"] (toSp K 4 (sp_L_row Z)) := fn_x z.F_L_row sc_L_row rfl (t_L_row Z) (fun cdv A outer s H E hr => b_L_row z  hr) pure
end
abbrev N_L_refusal : List Str := ["_law_call", "_law_found", "e"]
theorem sc_L_refusal : FnScope N_L_refusal ["_law_call"] (defScope s_L_refusal) := ⟨rfl, rfl, rfl, by decide +kernel, rfl, by decide +kernel, by decide +kernel⟩
def u_L_refusal_NoExpression (K : PySem.W.Frag) (Z : Ad) (a : Addr) (cls : Value) (d : Option Addr) : DS := dCls cls Z.c_NoExpression (dSet 1 (dIf (dAnd (dB (dApp (cIsE K Z.c_NoExpression a d) (dCons (dVar 2) (dCons (dC (.r (.ref Z.c_StoreError))) dNil)))) (dNot (dB (dIsT K Z.c_NoExpression a d Z.c_NoPath Z.c_TooMany (dVar 2))))) (dC (.d (.str "expression"))) (dC (.d (.str "other")))))
def u_L_refusal_NoPath (K : PySem.W.Frag) (Z : Ad) (a : Addr) (cls : Value) (d : Option Addr) : DS := dCls cls Z.c_NoPath dNo
def u_L_refusal_TooMany (K : PySem.W.Frag) (Z : Ad) (a : Addr) (cls : Value) (d : Option Addr) : DS := dCls cls Z.c_TooMany dNo
def t_L_refusal (K : PySem.W.Frag) (act : DX) (Z : Ad) : DS :=
  (dSeq (dSet 1 (dC (.d (.str "told"))))
    (dSeq (dTry K 3 (dDrop act) [(.ref Z.c_NoExpression, 2, u_L_refusal_NoExpression K Z), (.ref Z.c_NoPath, 2, u_L_refusal_NoPath K Z), (.ref Z.c_TooMany, 2, u_L_refusal_TooMany K Z)])
    (dRet (dVar 1))))
section
variable {P : Program} {w : World} {K : PySem.W.Frag} {mg : Str → Option Value} {base : Heap} {Z : Ad}
theorem b_L_refusal (z : Fx K mg Z w)  {cdv : Value} {A : Around} {outer : List Env} {s : Shared} {H : Hp} {E : XK} {act : DX} (hact : ∀ (W : WX) (pn : List (Addr × Obj)) (xe : Value → Shared → Prop) (p1 p2 : Pos), Takes ((cxOf (L2.CX P w) P w K mg base N_L_refusal "_law_refusal" (defScope s_L_refusal) Z.f_L_refusal cdv A outer s H E).tr pn xe) W → QE ((cxOf (L2.CX P w) P w K mg base N_L_refusal "_law_refusal" (defScope s_L_refusal) Z.f_L_refusal cdv A outer s H E).tr pn xe) (EofW N_L_refusal.length W) (.Call (.Name "_law_call" p1) [] [] p2) act) (hr : Room 67 (A.deeper (envOfC "_law_refusal" (defScope s_L_refusal) s.heap.objs.size Z.f_L_refusal cdv))) :
    QSs (cxOf (L2.CX P w) P w K mg base N_L_refusal "_law_refusal" (defScope s_L_refusal) Z.f_L_refusal cdv A outer s H E) E (defBody s_L_refusal) (t_L_refusal K act Z) :=
  (qss_cons (set1 1 sc_L_refusal.nd q_str)
    (qss_cons (qs_try rfl rfl sc_L_refusal.nd (takes_of rfl rfl rfl rfl) 3 rfl (fun W pn xe tk po => (qss_one (exps (hact W pn xe _ _ tk)))) (Clauses.cons rfl rfl ⟨rfl, by decide, Or.inl z.g_NoExpression⟩ (fun a oe cls d pn hz hf => QSs.can (qss_cls (D := Z.c_NoExpression) fun ec => by
      subst ec
      exact (qss_one (set1 1 sc_L_refusal.nd (q_if (QW.qt (qw_and (tval (blt (b_isE z.xe_NoExpression hz hf) z.n_isinstance bt_isinstance (qa_cons (v 2) (qa_cons (gr z.g_StoreError) qa_nil)))) (qw_and1 (qt_not (tval (q_isT z.xe_NoExpression hz hf z.n_isinstance (v 2) z.g_NoPath z.g_TooMany)))))) q_str q_str))))) (Clauses.cons rfl rfl ⟨rfl, by decide, Or.inl z.g_NoPath⟩ (fun a oe cls d pn hz hf => QSs.can (qss_cls (D := Z.c_NoPath) fun ec => by
      subst ec
      exact qss_no)) (Clauses.cons rfl rfl ⟨rfl, by decide, Or.inl z.g_TooMany⟩ (fun a oe cls d pn hz hf => QSs.can (qss_cls (D := Z.c_TooMany) fun ec => by
      subst ec
      exact qss_no)) Clauses.nil))))
    (qss_one (retn (v 1)))))
end
abbrev N_L_no_expression : List Str := ["_law_hand_here", "_law_thing", "_law_odd", "_law_k"]
theorem sc_L_no_expression : FnScope N_L_no_expression ["_law_hand_here", "_law_thing"] (defScope s_L_no_expression) := ⟨rfl, rfl, rfl, by decide +kernel, rfl, by decide +kernel, by decide +kernel⟩
def t_L_no_expression (Z : Ad) : DS :=
  (dSeq (dSet 2 (dLstM (dCons (dC (.d .none)) (dCons (dC (.d (.int 5))) (dCons (dC (.d (.bool true))) (dCons (dC (.d (.str "any"))) (dCons (dTup dNil) (dCons (dLst dNil) (dCons dDic (dCons (dApp cList (dCons (dVar 1) dNil)) (dCons (dTup (dCons (dVar 1) dNil)) (dCons (dOp dAdd (dVar 1) (dTup (dCons (dTup (dCons (dC (.d (.str "any"))) dNil)) dNil))) (dCons (dTup (dCons (dC (.d (.str "star"))) dNil)) (dCons (dTup (dCons (dC (.d (.str "word"))) (dCons (dC (.d (.str "abc"))) dNil))) dNil))))))))))))))
    (dSeq (dSet 2 (dOp dAdd (dVar 2) (dLstM (dCons (dTup (dCons (dC (.d (.str "then"))) (dCons (dVar 1) (dCons (dC (.d .none)) dNil)))) (dCons (dTup (dCons (dC (.d (.str "times"))) (dCons (dC (.d (.int 2))) (dCons (dC (.d (.int 1))) (dCons (dVar 1) dNil))))) (dCons (dTup (dCons (dC (.d (.str "node"))) (dCons (dC (.d (.str "<"))) (dCons (dOp dAdd (dOp dPow (dC (.d (.int 10))) (dC (.d (.int 18)))) (dC (.d (.int 1)))) dNil)))) (dCons (dTup (dCons (dC (.d (.str "or"))) (dCons (dTup (dCons (dC (.d (.str "any"))) dNil)) (dCons (dLst (dCons (dC (.d (.str "any"))) dNil)) dNil)))) dNil)))))))
    (dSeq (dIfS (dB (dOp dEq (dCall 2 (sp_L_draw Z) (dCons (dVar 0) (dCons (dC (.d (.int 4))) dNil))) (dC (.d (.int 0))))) (dSeq (dForR1 (dC (.d (.int 30))) 3
    (dSet 1 (dTup (dCons (dC (.d (.str "maybe"))) (dCons (dVar 1) dNil)))))
    (dRet (dGho (dVar 1))))
    dNext)
    (dRet (dGho (dOp dIx (dVar 2) (dCall 2 (sp_L_draw Z) (dCons (dVar 0) (dCons (dC (.d (.int 16))) dNil)))))))))
section
variable {P : Program} {w : World} {K : PySem.W.Frag} {mg : Str → Option Value} {base : Heap} {Z : Ad}
theorem b_L_no_expression (z : Fx K mg Z w) (F_L_draw : FnOk P w K mg base (L2.CX P w) 3 Z.f_L_draw Z.e_L_draw ["_law_hand_here", "_law_many"] (toSp K 2 (sp_L_draw Z))) {cdv : Value} {A : Around} {outer : List Env} {s : Shared} {H : Hp} {E : XK} (hr : Room 4 (A.deeper (envOfC "_law_no_expression" (defScope s_L_no_expression) s.heap.objs.size Z.f_L_no_expression cdv))) :
    QSs (cxOf (L2.CX P w) P w K mg base N_L_no_expression "_law_no_expression" (defScope s_L_no_expression) Z.f_L_no_expression cdv A outer s H E) E (defBody s_L_no_expression) (t_L_no_expression Z) :=
  (qss_cons (set1 2 sc_L_no_expression.nd (q_lstM (qa_cons q_non (qa_cons q_int (qa_cons q_bl (qa_cons q_str (qa_cons (q_tup qa_nil) (qa_cons (q_lst qa_nil) (qa_cons q_dic (qa_cons (blty b_list z.n_list bt_list (qa_cons (v 1) qa_nil)) (qa_cons (q_tup (qa_cons (v 1) qa_nil)) (qa_cons (q_op o_add (v 1) (q_tup (qa_cons (q_tup (qa_cons q_str qa_nil)) qa_nil))) (qa_cons (q_tup (qa_cons q_str qa_nil)) (qa_cons (q_tup (qa_cons q_str (qa_cons q_str qa_nil))) qa_nil))))))))))))))
    (qss_cons (set1 2 sc_L_no_expression.nd (q_op o_add (v 2) (q_lstM (qa_cons (q_tup (qa_cons q_str (qa_cons (v 1) (qa_cons q_non qa_nil)))) (qa_cons (q_tup (qa_cons q_str (qa_cons q_int (qa_cons q_int (qa_cons (v 1) qa_nil))))) (qa_cons (q_tup (qa_cons q_str (qa_cons q_str (qa_cons (q_op o_add (q_op o_pow q_int q_int) q_int) qa_nil)))) (qa_cons (q_tup (qa_cons q_str (qa_cons (q_tup (qa_cons q_str qa_nil)) (qa_cons (q_lst (qa_cons q_str qa_nil)) qa_nil)))) qa_nil)))))))
    (qss_cons (qs_if (tcmp (o_eq hr.units) (call F_L_draw (by first | decide | omega) hr pass_x z.g_L_draw z.k_L_draw (bd_L_draw z) (qa_cons (v 0) (qa_cons q_int qa_nil))) q_int) (qss_cons (forR1 3 sc_L_no_expression.nd rfl (passes_of rfl) z.n_range q_int
    (qss_one (set1 1 sc_L_no_expression.nd (q_tup (qa_cons q_str (qa_cons (v 1) qa_nil))))))
    (qss_one (retn (q_gho (v 1)))))
    qss_nil)
    (qss_one (retn (q_gho (ix i_seq (v 2) (call F_L_draw (by first | decide | omega) hr pass_x z.g_L_draw z.k_L_draw (bd_L_draw z) (qa_cons (v 0) (qa_cons q_int qa_nil))))))))))
theorem ok_L_no_expression (z : Fx K mg Z w) (F_L_draw : FnOk P w K mg base (L2.CX P w) 3 Z.f_L_draw Z.e_L_draw ["_law_hand_here", "_law_many"] (toSp K 2 (sp_L_draw Z))) (pure : ∀ xs M R Px, xs.length = 2 → sp_L_no_expression Z xs M R Px → t_L_no_expression Z { nx := fun _ M' => R (.d .none) M', rt := R, ex := Px } (startX N_L_no_expression xs) M) :
    FnOk P w K mg base (L2.CX P w) 5 Z.f_L_no_expression Z.e_L_no_expression ["_law_hand_here", "_law_thing"] (toSp K 2 (sp_L_no_expression Z)) := fn_x z.F_L_no_expression sc_L_no_expression rfl (t_L_no_expression Z) (fun cdv A outer s H E hr => b_L_no_expression z F_L_draw hr) pure
end
abbrev N_L_written : List Str := ["_law_thing", "_law_tight", "_law_word", "_law_text"]
theorem sc_L_written : FnScope N_L_written ["_law_thing", "_law_tight"] (defScope s_L_written) := ⟨rfl, rfl, rfl, by decide +kernel, rfl, by decide +kernel, by decide +kernel⟩
def t_L_written (spr : SpX) (Z : Ad) : DS :=
  (dSeq (dSet 2 (dOp dIx (dVar 0) (dC (.d (.int 0)))))
    (dSeq (dIfS (dB (dOp (dInS false) (dVar 2) (dLst (dCons (dC (.d (.str "word"))) (dCons (dC (.d (.str "back"))) (dCons (dC (.d (.str "any"))) (dCons (dC (.d (.str "here"))) (dCons (dC (.d (.str "node"))) dNil)))))))) (dRet (dCall 1 (sp_L_lone_text Z) (dCons (dVar 0) dNil)))
    dNext)
    (dSeq (dIfS (dB (dOp dEq (dVar 2) (dC (.d (.str "then"))))) (dSet 3 (dOp dAdd (dOp dAdd (dCall 2 spr (dCons (dOp dIx (dVar 0) (dC (.d (.int 1)))) (dCons (dC (.d (.int 1))) dNil))) (dC (.d (.str " ")))) (dCall 2 spr (dCons (dOp dIx (dVar 0) (dC (.d (.int 2)))) (dCons (dC (.d (.int 2))) dNil)))))
    (dIfS (dB (dOp dEq (dVar 2) (dC (.d (.str "or"))))) (dSet 3 (dOp dAdd (dOp dAdd (dCall 2 spr (dCons (dOp dIx (dVar 0) (dC (.d (.int 1)))) (dCons (dC (.d (.int 0))) dNil))) (dC (.d (.str " | ")))) (dCall 2 spr (dCons (dOp dIx (dVar 0) (dC (.d (.int 2)))) (dCons (dC (.d (.int 1))) dNil)))))
    (dRet (dOp dAdd (dCall 2 spr (dCons (dOp dIx (dVar 0) (dNeg (dC (.d (.int 1))))) (dCons (dC (.d (.int 2))) dNil))) (dCall 1 (sp_L_sign_text Z) (dCons (dVar 0) dNil))))))
    (dSeq (dIfS (dOr (dAnd (dB (dOp dEq (dVar 2) (dC (.d (.str "or"))))) (dB (dOp dGt (dVar 1) (dC (.d (.int 0)))))) (dB (dOp dGt (dVar 1) (dC (.d (.int 1)))))) (dRet (dOp dAdd (dOp dAdd (dC (.d (.str "("))) (dVar 3)) (dC (.d (.str ")")))))
    dNext)
    (dRet (dVar 3))))))
section
variable {P : Program} {w : World} {K : PySem.W.Frag} {mg : Str → Option Value} {base : Heap} {Z : Ad}
theorem b_L_written (z : Fx K mg Z w) (F_L_lone_text : FnOk P w K mg base (L2.CX P w) 2 Z.f_L_lone_text Z.e_L_lone_text ["_law_thing"] (toSp K 1 (sp_L_lone_text Z))) (F_L_sign_text : FnOk P w K mg base (L2.CX P w) 2 Z.f_L_sign_text Z.e_L_sign_text ["_law_thing"] (toSp K 1 (sp_L_sign_text Z))) {kk : Nat} (hk : 4 ≤ kk) {spr : SpX} (F_L_written : FnOk P w K mg base (L2.CX P w) kk Z.f_L_written Z.e_L_written ["_law_thing", "_law_tight"] (toSp K 2 spr)) {cdv : Value} {A : Around} {outer : List Env} {s : Shared} {H : Hp} {E : XK} (hr : Room kk (A.deeper (envOfC "_law_written" (defScope s_L_written) s.heap.objs.size Z.f_L_written cdv))) :
    QSs (cxOf (L2.CX P w) P w K mg base N_L_written "_law_written" (defScope s_L_written) Z.f_L_written cdv A outer s H E) E (defBody s_L_written) (t_L_written spr Z) :=
  (qss_cons (set1 2 sc_L_written.nd (ix i_seq (v 0) q_int))
    (qss_cons (qs_if (tcmp o_in (v 2) (q_lst (qa_cons q_str (qa_cons q_str (qa_cons q_str (qa_cons q_str (qa_cons q_str qa_nil))))))) (qss_one (retn (call F_L_lone_text (by first | decide | omega) hr pass_x z.g_L_lone_text z.k_L_lone_text (bd_L_lone_text z) (qa_cons (v 0) qa_nil))))
    qss_nil)
    (qss_cons (qs_if (tcmp (o_eq hr.units) (v 2) q_str) (qss_one (set1 3 sc_L_written.nd (q_op o_add (q_op o_add (call F_L_written (by first | decide | omega) hr pass_x z.g_L_written z.k_L_written (bd_L_written z) (qa_cons (ix i_seq (v 0) q_int) (qa_cons q_int qa_nil))) q_str) (call F_L_written (by first | decide | omega) hr pass_x z.g_L_written z.k_L_written (bd_L_written z) (qa_cons (ix i_seq (v 0) q_int) (qa_cons q_int qa_nil))))))
    (qss_one (qs_if (tcmp (o_eq hr.units) (v 2) q_str) (qss_one (set1 3 sc_L_written.nd (q_op o_add (q_op o_add (call F_L_written (by first | decide | omega) hr pass_x z.g_L_written z.k_L_written (bd_L_written z) (qa_cons (ix i_seq (v 0) q_int) (qa_cons q_int qa_nil))) q_str) (call F_L_written (by first | decide | omega) hr pass_x z.g_L_written z.k_L_written (bd_L_written z) (qa_cons (ix i_seq (v 0) q_int) (qa_cons q_int qa_nil))))))
    (qss_one (retn (q_op o_add (call F_L_written (by first | decide | omega) hr pass_x z.g_L_written z.k_L_written (bd_L_written z) (qa_cons (ix i_seq (v 0) (q_neg q_int)) (qa_cons q_int qa_nil))) (call F_L_sign_text (by first | decide | omega) hr pass_x z.g_L_sign_text z.k_L_sign_text (bd_L_sign_text z) (qa_cons (v 0) qa_nil))))))))
    (qss_cons (qs_if (QW.qt (qw_or (QW.qt (qw_and (tcmp (o_eq hr.units) (v 2) q_str) (qw_and1 (tcmp o_gt (v 1) q_int)))) (qw_or1 (tcmp o_gt (v 1) q_int)))) (qss_one (retn (q_op o_add (q_op o_add q_str (v 3)) q_str)))
    qss_nil)
    (qss_one (retn (v 3)))))))
theorem ok_L_written (z : Fx K mg Z w) (F_L_lone_text : FnOk P w K mg base (L2.CX P w) 2 Z.f_L_lone_text Z.e_L_lone_text ["_law_thing"] (toSp K 1 (sp_L_lone_text Z))) (F_L_sign_text : FnOk P w K mg base (L2.CX P w) 2 Z.f_L_sign_text Z.e_L_sign_text ["_law_thing"] (toSp K 1 (sp_L_sign_text Z))) {kk : Nat} (hk : 4 ≤ kk) {spr : SpX} (F_L_written : FnOk P w K mg base (L2.CX P w) kk Z.f_L_written Z.e_L_written ["_law_thing", "_law_tight"] (toSp K 2 spr)) {sps : SpX} (pure : ∀ xs M R Px, xs.length = 2 → sps xs M R Px → t_L_written spr Z { nx := fun _ M' => R (.d .none) M', rt := R, ex := Px } (startX N_L_written xs) M) :
    FnOk P w K mg base (L2.CX P w) (kk + 1) Z.f_L_written Z.e_L_written ["_law_thing", "_law_tight"] (toSp K 2 (sps)) := fn_x z.F_L_written sc_L_written rfl (t_L_written spr Z) (fun cdv A outer s H E hr => b_L_written z F_L_lone_text F_L_sign_text hk F_L_written hr) pure
end
abbrev N_L_is_read : List Str := ["_law_text", "_law_thing", "_law_ahead", "_law_told"]
theorem sc_L_is_read : FnScope N_L_is_read ["_law_text", "_law_thing"] (defScope s_L_is_read) := ⟨rfl, rfl, rfl, by decide +kernel, rfl, by decide +kernel, by decide +kernel⟩
def t_L_is_read (Z : Ad) : DS :=
  (dSeq (dSet 2 (dApp cRepr2 (dCons (dVar 0) dNil)))
    (dSeq (dSet 3 (dGho (dCall 1 (sp_read_expression Z) (dCons (dVar 0) dNil))))
    (dRet (dAndV (dOp dEq (dVar 3) (dVar 1)) (dAndV (dOp dEq (dApp cRepr2 (dCons (dVar 3) dNil)) (dApp cRepr2 (dCons (dVar 1) dNil))) (dOp dEq (dApp cRepr2 (dCons (dVar 0) dNil)) (dVar 2)))))))
section
variable {P : Program} {w : World} {K : PySem.W.Frag} {mg : Str → Option Value} {base : Heap} {Z : Ad}
theorem b_L_is_read (z : Fx K mg Z w) (F_read_expression : FnOk P w K mg base (L2.CX P w) 63 Z.f_read_expression Z.e_read_expression ["text"] (toSp K 1 (sp_read_expression Z))) {cdv : Value} {A : Around} {outer : List Env} {s : Shared} {H : Hp} {E : XK} (hgu : A.guards = some []) (hr : Room 63 (A.deeper (envOfC "_law_is_read" (defScope s_L_is_read) s.heap.objs.size Z.f_L_is_read cdv))) :
    QSs (cxOf (L2.CX P w) P w K mg base N_L_is_read "_law_is_read" (defScope s_L_is_read) Z.f_L_is_read cdv A outer s H E) E (defBody s_L_is_read) (t_L_is_read Z) :=
  (qss_cons (set1 2 sc_L_is_read.nd (blt (b_repr2 hgu hr.units100) z.n_repr bt_repr (qa_cons (v 0) qa_nil)))
    (qss_cons (set1 3 sc_L_is_read.nd (q_gho (call F_read_expression (by first | decide | omega) hr pass_x z.g_read_expression z.k_read_expression (bd_read_expression z) (qa_cons (v 0) qa_nil))))
    (qss_one (retn (q_and (cmp (o_eq hr.units) (v 3) (v 1)) (q_and (cmp (o_eq hr.units) (blt (b_repr2 hgu hr.units100) z.n_repr bt_repr (qa_cons (v 3) qa_nil)) (blt (b_repr2 hgu hr.units100) z.n_repr bt_repr (qa_cons (v 1) qa_nil))) (q_one (cmp (o_eq hr.units) (blt (b_repr2 hgu hr.units100) z.n_repr bt_repr (qa_cons (v 0) qa_nil)) (v 2)))))))))
theorem ok_L_is_read (z : Fx K mg Z w) (F_read_expression : FnOk P w K mg base (L2.CX P w) 63 Z.f_read_expression Z.e_read_expression ["text"] (toSp K 1 (sp_read_expression Z))) (pure : ∀ xs M R Px, xs.length = 2 → sp_L_is_read Z xs M R Px → t_L_is_read Z { nx := fun _ M' => R (.d .none) M', rt := R, ex := Px } (startX N_L_is_read xs) M) :
    FnG P w K mg base (L2.CX P w) 64 Z.f_L_is_read Z.e_L_is_read ["_law_text", "_law_thing"] (toSp K 2 (sp_L_is_read Z)) := fnG_x z.F_L_is_read sc_L_is_read rfl (t_L_is_read Z) (fun cdv A outer s H E hgu hr => b_L_is_read z F_read_expression hgu hr) pure
end
abbrev N_L_great : List Str := ["_law_hand_here", "_law_words_here", "_law_worths_here", "_law_atom_here"]
theorem sc_L_great : FnScope N_L_great ["_law_hand_here", "_law_words_here", "_law_worths_here"] (defScope s_L_great) := ⟨rfl, rfl, rfl, by decide +kernel, rfl, by decide +kernel, by decide +kernel⟩
def t_L_great (Z : Ad) : DS :=
  (dSeq (dSet 3 (dCall 5 (sp_L_expression Z 8) (dCons (dVar 0) (dCons (dVar 1) (dCons (dVar 2) (dCons (dC (.d (.int 1))) (dCons (dOp dAdd (dC (.d (.int 1))) (dCall 2 (sp_L_draw Z) (dCons (dVar 0) (dCons (dC (.d (.int 3))) dNil)))) dNil)))))))
    (dSeq (dIfS (dB (dOp dEq (dCall 2 (sp_L_draw Z) (dCons (dVar 0) (dCons (dC (.d (.int 2))) dNil))) (dC (.d (.int 0))))) (dSet 3 (dTup (dCons (dC (.d (.str "node"))) (dCons (dOp dIx (dC (.d (.str "<=>"))) (dCall 2 (sp_L_draw Z) (dCons (dVar 0) (dCons (dC (.d (.int 3))) dNil)))) (dCons (dOp dSub (dCall 2 (sp_L_draw Z) (dCons (dVar 0) (dCons (dOp dPow (dC (.d (.int 10))) (dC (.d (.int 8)))) dNil))) (dOp dPow (dC (.d (.int 10))) (dC (.d (.int 18))))) dNil)))))
    dNext)
    (dRet (dCall 4 (sp_L_row Z) (dCons (dVar 0) (dCons (dOp dIx (dLst (dCons (dC (.d (.str "then"))) (dCons (dC (.d (.str "or"))) dNil))) (dCall 2 (sp_L_draw Z) (dCons (dVar 0) (dCons (dC (.d (.int 2))) dNil)))) (dCons (dVar 3) (dCons (dOp dAdd (dC (.d (.int 250))) (dCall 2 (sp_L_draw Z) (dCons (dVar 0) (dCons (dC (.d (.int 51))) dNil)))) dNil))))))))
section
variable {P : Program} {w : World} {K : PySem.W.Frag} {mg : Str → Option Value} {base : Heap} {Z : Ad}
theorem b_L_great (z : Fx K mg Z w) (F_L_draw : FnOk P w K mg base (L2.CX P w) 3 Z.f_L_draw Z.e_L_draw ["_law_hand_here", "_law_many"] (toSp K 2 (sp_L_draw Z))) (F_L_expression : FnOk P w K mg base (L2.CX P w) 20 Z.f_L_expression Z.e_L_expression ["_law_hand_here", "_law_words_here", "_law_worths_here", "_law_room", "_law_deep"] (toSp K 5 (sp_L_expression Z 8))) (F_L_row : FnOk P w K mg base (L2.CX P w) 3 Z.f_L_row Z.e_L_row ["_law_hand_here", "_law_word", "_law_atom_here", "_law_many"] (toSp K 4 (sp_L_row Z))) {cdv : Value} {A : Around} {outer : List Env} {s : Shared} {H : Hp} {E : XK} (hr : Room 31 (A.deeper (envOfC "_law_great" (defScope s_L_great) s.heap.objs.size Z.f_L_great cdv))) :
    QSs (cxOf (L2.CX P w) P w K mg base N_L_great "_law_great" (defScope s_L_great) Z.f_L_great cdv A outer s H E) E (defBody s_L_great) (t_L_great Z) :=
  (qss_cons (set1 3 sc_L_great.nd (call F_L_expression (by first | decide | omega) hr pass_x z.g_L_expression z.k_L_expression (bd_L_expression z) (qa_cons (v 0) (qa_cons (v 1) (qa_cons (v 2) (qa_cons q_int (qa_cons (q_op o_add q_int (call F_L_draw (by first | decide | omega) hr pass_x z.g_L_draw z.k_L_draw (bd_L_draw z) (qa_cons (v 0) (qa_cons q_int qa_nil)))) qa_nil)))))))
    (qss_cons (qs_if (tcmp (o_eq hr.units) (call F_L_draw (by first | decide | omega) hr pass_x z.g_L_draw z.k_L_draw (bd_L_draw z) (qa_cons (v 0) (qa_cons q_int qa_nil))) q_int) (qss_one (set1 3 sc_L_great.nd (q_tup (qa_cons q_str (qa_cons (ix i_seq q_str (call F_L_draw (by first | decide | omega) hr pass_x z.g_L_draw z.k_L_draw (bd_L_draw z) (qa_cons (v 0) (qa_cons q_int qa_nil)))) (qa_cons (q_op o_sub (call F_L_draw (by first | decide | omega) hr pass_x z.g_L_draw z.k_L_draw (bd_L_draw z) (qa_cons (v 0) (qa_cons (q_op o_pow q_int q_int) qa_nil))) (q_op o_pow q_int q_int)) qa_nil))))))
    qss_nil)
    (qss_one (retn (call F_L_row (by first | decide | omega) hr pass_x z.g_L_row z.k_L_row (bd_L_row z) (qa_cons (v 0) (qa_cons (ix i_seq (q_lst (qa_cons q_str (qa_cons q_str qa_nil))) (call F_L_draw (by first | decide | omega) hr pass_x z.g_L_draw z.k_L_draw (bd_L_draw z) (qa_cons (v 0) (qa_cons q_int qa_nil)))) (qa_cons (v 3) (qa_cons (q_op o_add q_int (call F_L_draw (by first | decide | omega) hr pass_x z.g_L_draw z.k_L_draw (bd_L_draw z) (qa_cons (v 0) (qa_cons q_int qa_nil)))) qa_nil)))))))))
theorem ok_L_great (z : Fx K mg Z w) (F_L_draw : FnOk P w K mg base (L2.CX P w) 3 Z.f_L_draw Z.e_L_draw ["_law_hand_here", "_law_many"] (toSp K 2 (sp_L_draw Z))) (F_L_expression : FnOk P w K mg base (L2.CX P w) 20 Z.f_L_expression Z.e_L_expression ["_law_hand_here", "_law_words_here", "_law_worths_here", "_law_room", "_law_deep"] (toSp K 5 (sp_L_expression Z 8))) (F_L_row : FnOk P w K mg base (L2.CX P w) 3 Z.f_L_row Z.e_L_row ["_law_hand_here", "_law_word", "_law_atom_here", "_law_many"] (toSp K 4 (sp_L_row Z))) (pure : ∀ xs M R Px, xs.length = 3 → sp_L_great Z xs M R Px → t_L_great Z { nx := fun _ M' => R (.d .none) M', rt := R, ex := Px } (startX N_L_great xs) M) :
    FnOk P w K mg base (L2.CX P w) 32 Z.f_L_great Z.e_L_great ["_law_hand_here", "_law_words_here", "_law_worths_here"] (toSp K 3 (sp_L_great Z)) := fn_x z.F_L_great sc_L_great rfl (t_L_great Z) (fun cdv A outer s H E hr => b_L_great z F_L_draw F_L_expression F_L_row hr) pure
end
abbrev N_L_tower : List Str := ["_law_hand_here", "_law_thing", "_law_k", "_law_kind"]
theorem sc_L_tower : FnScope N_L_tower ["_law_hand_here", "_law_thing"] (defScope s_L_tower) := ⟨rfl, rfl, rfl, by decide +kernel, rfl, by decide +kernel, by decide +kernel⟩
def t_L_tower (Z : Ad) : DS :=
  (dSeq (dForR1 (dC (.d (.int 29))) 2
    (dSeq (dSet 3 (dCall 2 (sp_L_draw Z) (dCons (dVar 0) (dCons (dC (.d (.int 7))) dNil))))
    (dIfS (dB (dOp dLt (dVar 3) (dC (.d (.int 3))))) (dSet 1 (dTup (dCons (dOp dIx (dLst (dCons (dC (.d (.str "star"))) (dCons (dC (.d (.str "plus"))) (dCons (dC (.d (.str "maybe"))) dNil)))) (dVar 3)) (dCons (dVar 1) dNil))))
    (dIfS (dB (dOp dEq (dVar 3) (dC (.d (.int 3))))) (dSet 1 (dTup (dCons (dC (.d (.str "times"))) (dCons (dCall 2 (sp_L_draw Z) (dCons (dVar 0) (dCons (dC (.d (.int 2))) dNil))) (dCons (dC (.d (.int 1))) (dCons (dVar 1) dNil))))))
    (dIfS (dB (dOp dEq (dVar 3) (dC (.d (.int 4))))) (dSet 1 (dTup (dCons (dC (.d (.str "then"))) (dCons (dTup (dCons (dC (.d (.str "any"))) dNil)) (dCons (dVar 1) dNil)))))
    (dSet 1 (dTup (dCons (dOp dIx (dLst (dCons (dC (.d (.str "then"))) (dCons (dC (.d (.str "or"))) dNil))) (dOp dSub (dVar 3) (dC (.d (.int 5))))) (dCons (dVar 1) (dCons (dTup (dCons (dC (.d (.str "here"))) dNil)) dNil))))))))))
    (dRet (dVar 1)))
section
variable {P : Program} {w : World} {K : PySem.W.Frag} {mg : Str → Option Value} {base : Heap} {Z : Ad}
theorem b_L_tower (z : Fx K mg Z w) (F_L_draw : FnOk P w K mg base (L2.CX P w) 3 Z.f_L_draw Z.e_L_draw ["_law_hand_here", "_law_many"] (toSp K 2 (sp_L_draw Z))) {cdv : Value} {A : Around} {outer : List Env} {s : Shared} {H : Hp} {E : XK} (hr : Room 4 (A.deeper (envOfC "_law_tower" (defScope s_L_tower) s.heap.objs.size Z.f_L_tower cdv))) :
    QSs (cxOf (L2.CX P w) P w K mg base N_L_tower "_law_tower" (defScope s_L_tower) Z.f_L_tower cdv A outer s H E) E (defBody s_L_tower) (t_L_tower Z) :=
  (qss_cons (forR1 2 sc_L_tower.nd rfl (passes_of rfl) z.n_range q_int
    (qss_cons (set1 3 sc_L_tower.nd (call F_L_draw (by first | decide | omega) hr pass_x z.g_L_draw z.k_L_draw (bd_L_draw z) (qa_cons (v 0) (qa_cons q_int qa_nil))))
    (qss_one (qs_if (tcmp o_lt (v 3) q_int) (qss_one (set1 1 sc_L_tower.nd (q_tup (qa_cons (ix i_seq (q_lst (qa_cons q_str (qa_cons q_str (qa_cons q_str qa_nil)))) (v 3)) (qa_cons (v 1) qa_nil)))))
    (qss_one (qs_if (tcmp (o_eq hr.units) (v 3) q_int) (qss_one (set1 1 sc_L_tower.nd (q_tup (qa_cons q_str (qa_cons (call F_L_draw (by first | decide | omega) hr pass_x z.g_L_draw z.k_L_draw (bd_L_draw z) (qa_cons (v 0) (qa_cons q_int qa_nil))) (qa_cons q_int (qa_cons (v 1) qa_nil)))))))
    (qss_one (qs_if (tcmp (o_eq hr.units) (v 3) q_int) (qss_one (set1 1 sc_L_tower.nd (q_tup (qa_cons q_str (qa_cons (q_tup (qa_cons q_str qa_nil)) (qa_cons (v 1) qa_nil))))))
    (qss_one (set1 1 sc_L_tower.nd (q_tup (qa_cons (ix i_seq (q_lst (qa_cons q_str (qa_cons q_str qa_nil))) (q_op o_sub (v 3) q_int)) (qa_cons (v 1) (qa_cons (q_tup (qa_cons q_str qa_nil)) qa_nil))))))))))))))
    (qss_one (retn (v 1))))
theorem ok_L_tower (z : Fx K mg Z w) (F_L_draw : FnOk P w K mg base (L2.CX P w) 3 Z.f_L_draw Z.e_L_draw ["_law_hand_here", "_law_many"] (toSp K 2 (sp_L_draw Z))) (pure : ∀ xs M R Px, xs.length = 2 → sp_L_tower Z xs M R Px → t_L_tower Z { nx := fun _ M' => R (.d .none) M', rt := R, ex := Px } (startX N_L_tower xs) M) :
    FnOk P w K mg base (L2.CX P w) 5 Z.f_L_tower Z.e_L_tower ["_law_hand_here", "_law_thing"] (toSp K 2 (sp_L_tower Z)) := fn_x z.F_L_tower sc_L_tower rfl (t_L_tower Z) (fun cdv A outer s H E hr => b_L_tower z F_L_draw hr) pure
end
end Y
set_option maxHeartbeats 4000000
namespace Y
open PySem PySem.Spec PyProof.Rows L2
abbrev N_L_is_right : List Str := ["_law_hand_here", "_law_thing", "_law_text", "_law_ahead", "_law_turn", "_law_loose_here"]
theorem sc_L_is_right : FnScope N_L_is_right ["_law_hand_here", "_law_thing"] (defScope s_L_is_right) := ⟨rfl, rfl, rfl, by decide +kernel, rfl, by decide +kernel, by decide +kernel⟩
def t_L_is_right (Z : Ad) : DS :=
  (dSeq (dSet 2 (dCall 2 (sp_L_written Z 30) (dCons (dVar 1) (dCons (dC (.d (.int 0))) dNil))))
    (dSeq (dSet 3 (dApp cRepr2 (dCons (dVar 1) dNil)))
    (dSeq (dIfS (dOr (dB (dOp dNe (dCall 1 (sp_expression_text Z) (dCons (dVar 1) dNil)) (dVar 2))) (dOr (dB (dOp dNe (dApp cRepr2 (dCons (dVar 1) dNil)) (dVar 3))) (dNot (dB (dCall 2 (sp_L_is_read Z) (dCons (dVar 2) (dCons (dVar 1) dNil))))))) (dRet (dC (.d (.bool false))))
    dNext)
    (dSeq (dForR1 (dC (.d (.int 3))) 4
    (dSeq (dSet 5 (dOp dAdd (dOp dAdd (dCall 1 (sp_L_blanks Z) (dCons (dVar 0) dNil)) (dCall 3 (sp_L_loose Z 30) (dCons (dVar 0) (dCons (dVar 1) (dCons (dC (.d (.int 0))) dNil))))) (dCall 1 (sp_L_blanks Z) (dCons (dVar 0) dNil))))
    (dIfS (dNot (dB (dCall 2 (sp_L_is_read Z) (dCons (dVar 5) (dCons (dVar 1) dNil))))) (dRet (dC (.d (.bool false))))
    dNext)))
    (dRet (dOp dEq (dCall 1 (sp_expression_text Z) (dCons (dGho (dCall 1 (sp_read_expression Z) (dCons (dVar 2) dNil))) dNil)) (dVar 2)))))))
section
variable {P : Program} {w : World} {K : PySem.W.Frag} {mg : Str → Option Value} {base : Heap} {Z : Ad}
theorem b_L_is_right (z : Fx K mg Z w) (F_L_written : FnOk P w K mg base (L2.CX P w) 60 Z.f_L_written Z.e_L_written ["_law_thing", "_law_tight"] (toSp K 2 (sp_L_written Z 30))) (F_expression_text : FnOk P w K mg base (L2.CX P w) 66 Z.f_expression_text Z.e_expression_text ["expression"] (toSp K 1 (sp_expression_text Z))) (F_L_is_read : FnG P w K mg base (L2.CX P w) 64 Z.f_L_is_read Z.e_L_is_read ["_law_text", "_law_thing"] (toSp K 2 (sp_L_is_read Z))) (F_L_blanks : FnOk P w K mg base (L2.CX P w) 4 Z.f_L_blanks Z.e_L_blanks ["_law_hand_here"] (toSp K 1 (sp_L_blanks Z))) (F_L_loose : FnOk P w K mg base (L2.CX P w) 60 Z.f_L_loose Z.e_L_loose ["_law_hand_here", "_law_thing", "_law_tight"] (toSp K 3 (sp_L_loose Z 30))) (F_read_expression : FnOk P w K mg base (L2.CX P w) 63 Z.f_read_expression Z.e_read_expression ["text"] (toSp K 1 (sp_read_expression Z))) {cdv : Value} {A : Around} {outer : List Env} {s : Shared} {H : Hp} {E : XK} (hgu : A.guards = some []) (hr : Room 66 (A.deeper (envOfC "_law_is_right" (defScope s_L_is_right) s.heap.objs.size Z.f_L_is_right cdv))) :
    QSs (cxOf (L2.CX P w) P w K mg base N_L_is_right "_law_is_right" (defScope s_L_is_right) Z.f_L_is_right cdv A outer s H E) E (defBody s_L_is_right) (t_L_is_right Z) :=
  (qss_cons (set1 2 sc_L_is_right.nd (call F_L_written (by first | decide | omega) hr pass_x z.g_L_written z.k_L_written (bd_L_written z) (qa_cons (v 1) (qa_cons q_int qa_nil))))
    (qss_cons (set1 3 sc_L_is_right.nd (blt (b_repr2 hgu hr.units100) z.n_repr bt_repr (qa_cons (v 1) qa_nil)))
    (qss_cons (qs_if (QW.qt (qw_or (tcmp (o_ne hr.units) (call F_expression_text (by first | decide | omega) hr pass_x z.g_expression_text z.k_expression_text (bd_expression_text z) (qa_cons (v 1) qa_nil)) (v 2)) (qw_or (tcmp (o_ne hr.units) (blt (b_repr2 hgu hr.units100) z.n_repr bt_repr (qa_cons (v 1) qa_nil)) (v 3)) (qw_or1 (qt_not (tval (callG F_L_is_read hgu (by first | decide | omega) hr pass_x z.g_L_is_read z.k_L_is_read (bd_L_is_read z) (qa_cons (v 2) (qa_cons (v 1) qa_nil))))))))) (qss_one (retn q_bl))
    qss_nil)
    (qss_cons (forR1 4 sc_L_is_right.nd rfl (passes_of rfl) z.n_range q_int
    (qss_cons (set1 5 sc_L_is_right.nd (q_op o_add (q_op o_add (call F_L_blanks (by first | decide | omega) hr pass_x z.g_L_blanks z.k_L_blanks (bd_L_blanks z) (qa_cons (v 0) qa_nil)) (call F_L_loose (by first | decide | omega) hr pass_x z.g_L_loose z.k_L_loose (bd_L_loose z) (qa_cons (v 0) (qa_cons (v 1) (qa_cons q_int qa_nil))))) (call F_L_blanks (by first | decide | omega) hr pass_x z.g_L_blanks z.k_L_blanks (bd_L_blanks z) (qa_cons (v 0) qa_nil))))
    (qss_one (qs_if (qt_not (tval (callG F_L_is_read hgu (by first | decide | omega) hr pass_x z.g_L_is_read z.k_L_is_read (bd_L_is_read z) (qa_cons (v 5) (qa_cons (v 1) qa_nil))))) (qss_one (retn q_bl))
    qss_nil))))
    (qss_one (retn (cmp (o_eq hr.units) (call F_expression_text (by first | decide | omega) hr pass_x z.g_expression_text z.k_expression_text (bd_expression_text z) (qa_cons (q_gho (call F_read_expression (by first | decide | omega) hr pass_x z.g_read_expression z.k_read_expression (bd_read_expression z) (qa_cons (v 2) qa_nil))) qa_nil)) (v 2))))))))
theorem ok_L_is_right (z : Fx K mg Z w) (F_L_written : FnOk P w K mg base (L2.CX P w) 60 Z.f_L_written Z.e_L_written ["_law_thing", "_law_tight"] (toSp K 2 (sp_L_written Z 30))) (F_expression_text : FnOk P w K mg base (L2.CX P w) 66 Z.f_expression_text Z.e_expression_text ["expression"] (toSp K 1 (sp_expression_text Z))) (F_L_is_read : FnG P w K mg base (L2.CX P w) 64 Z.f_L_is_read Z.e_L_is_read ["_law_text", "_law_thing"] (toSp K 2 (sp_L_is_read Z))) (F_L_blanks : FnOk P w K mg base (L2.CX P w) 4 Z.f_L_blanks Z.e_L_blanks ["_law_hand_here"] (toSp K 1 (sp_L_blanks Z))) (F_L_loose : FnOk P w K mg base (L2.CX P w) 60 Z.f_L_loose Z.e_L_loose ["_law_hand_here", "_law_thing", "_law_tight"] (toSp K 3 (sp_L_loose Z 30))) (F_read_expression : FnOk P w K mg base (L2.CX P w) 63 Z.f_read_expression Z.e_read_expression ["text"] (toSp K 1 (sp_read_expression Z))) (pure : ∀ xs M R Px, xs.length = 2 → sp_L_is_right Z xs M R Px → t_L_is_right Z { nx := fun _ M' => R (.d .none) M', rt := R, ex := Px } (startX N_L_is_right xs) M) :
    FnG P w K mg base (L2.CX P w) 67 Z.f_L_is_right Z.e_L_is_right ["_law_hand_here", "_law_thing"] (toSp K 2 (sp_L_is_right Z)) := fnG_x z.F_L_is_right sc_L_is_right rfl (t_L_is_right Z) (fun cdv A outer s H E hgu hr => b_L_is_right z F_L_written F_expression_text F_L_is_read F_L_blanks F_L_loose F_read_expression hgu hr) pure
end
abbrev N_law : List Str := ["_law_script", "_law_hand_here", "_law_words_here", "_law_worths_here", "_law_kind", "_law_turn", "_law_thing", "_law_many", "_law_wide", "_law_odd", "_law_letters_here"]
theorem sc_law : FnScope N_law ["_law_script"] (defScope s_law) := ⟨rfl, rfl, rfl, by decide +kernel, rfl, by decide +kernel, by decide +kernel⟩
def t_law (K : PySem.W.Frag) (Z : Ad) : DS :=
  (dSeq (dSet 1 (dCall 1 (sp_L_hand Z) (dCons (dVar 0) dNil)))
    (dSeq (dPar 2 3 (dCons (dCall 1 (sp_L_words Z) (dCons (dVar 1) dNil)) (dCons (dCall 1 (sp_L_worths Z) (dCons (dVar 1) dNil)) dNil)))
    (dSeq (dSet 4 (dCall 2 (sp_L_draw Z) (dCons (dVar 1) (dCons (dC (.d (.int 12))) dNil))))
    (dSeq (dIfS (dAnd (dB (dOp dEq (dVar 4) (dC (.d (.int 0))))) (dNot (dB (dCall 2 (sp_L_is_right Z) (dCons (dVar 1) (dCons (dCall 3 (sp_L_great Z) (dCons (dVar 1) (dCons (dVar 2) (dCons (dVar 3) dNil)))) dNil)))))) (dRet (dC (.d (.bool false))))
    dNext)
    (dSeq (dIfS (dAnd (dB (dOp dEq (dVar 4) (dC (.d (.int 1))))) (dNot (dB (dCall 2 (sp_L_is_right Z) (dCons (dVar 1) (dCons (dCall 2 (sp_L_tower Z) (dCons (dVar 1) (dCons (dCall 3 (sp_L_atom Z) (dCons (dVar 1) (dCons (dVar 2) (dCons (dVar 3) dNil)))) dNil))) dNil)))))) (dRet (dC (.d (.bool false))))
    dNext)
    (dSeq (dForR1 (dC (.d (.int 4))) 5
    (dSeq (dSet 6 (dCall 5 (sp_L_expression Z 8) (dCons (dVar 1) (dCons (dVar 2) (dCons (dVar 3) (dCons (dOp dIx (dLst (dCons (dC (.d (.int 1))) (dCons (dC (.d (.int 2))) (dCons (dC (.d (.int 4))) (dCons (dC (.d (.int 8))) (dCons (dC (.d (.int 30))) dNil)))))) (dCall 2 (sp_L_draw Z) (dCons (dVar 1) (dCons (dC (.d (.int 5))) dNil)))) (dCons (dOp dAdd (dC (.d (.int 2))) (dCall 2 (sp_L_draw Z) (dCons (dVar 1) (dCons (dC (.d (.int 7))) dNil)))) dNil)))))))
    (dIfS (dNot (dB (dCall 2 (sp_L_is_right Z) (dCons (dVar 1) (dCons (dVar 6) dNil))))) (dRet (dC (.d (.bool false))))
    dNext)))
    (dSeq (dSet 7 (dOp dIx (dLst (dCons (dC (.d (.int 1))) (dCons (dC (.d (.int 40))) (dCons (dC (.d (.int 1500))) dNil)))) (dCall 2 (sp_L_draw Z) (dCons (dVar 1) (dCons (dC (.d (.int 3))) dNil)))))
    (dSeq (dSet 8 (dOp dAdd (dOp dAdd (dOp dMul (dC (.d (.str "("))) (dVar 7)) (dCall 2 (sp_L_written Z 30) (dCons (dVar 6) (dCons (dC (.d (.int 0))) dNil)))) (dOp dMul (dC (.d (.str ")"))) (dVar 7))))
    (dSeq (dIfS (dOr (dNot (dB (dCall 2 (sp_L_is_read Z) (dCons (dVar 8) (dCons (dVar 6) dNil))))) (dNot (dB (dCall 2 (sp_L_is_read Z) (dCons (dOp dAdd (dOp dAdd (dOp dMul (dC (.d (.str " "))) (dC (.d (.int 90000)))) (dCall 1 (sp_L_lone_text Z) (dCons (dTup (dCons (dC (.d (.str "any"))) dNil)) dNil))) (dOp dMul (dC (.d (.str " "))) (dC (.d (.int 9999))))) (dCons (dTup (dCons (dC (.d (.str "any"))) dNil)) dNil)))))) (dRet (dC (.d (.bool false))))
    dNext)
    (dSeq (dSet 9 (dCall 2 (sp_L_no_expression Z) (dCons (dVar 1) (dCons (dVar 6) dNil))))
    (dSeq (dIfS (dB (dOp dNe (dLam Z.kt_law "law.<locals>.<lambda>" N_L_refusal (fun act => t_L_refusal K act Z) (dCall 1 (sp_expression_text Z) (dCons (dVar 9) dNil))) (dC (.d (.str "expression"))))) (dRet (dC (.d (.bool false))))
    dNext)
    (dSeq (dSet 10 (dCall 2 (sp_L_letters Z) (dCons (dVar 1) (dCons (dC (.d (.int 4))) dNil))))
    (dRet (dCall 2 (sp_L_is_read Z) (dCons (dOp dAdd (dOp dAdd (dSl (dVar 10) dNoP (dP (dC (.d (.int 2))))) (dC (.d (.str " ")))) (dSl (dVar 10) (dP (dC (.d (.int 2)))) dNoP)) (dCons (dTup (dCons (dC (.d (.str "then"))) (dCons (dTup (dCons (dC (.d (.str "word"))) (dCons (dSl (dVar 10) dNoP (dP (dC (.d (.int 2))))) dNil))) (dCons (dTup (dCons (dC (.d (.str "word"))) (dCons (dSl (dVar 10) (dP (dC (.d (.int 2)))) dNoP) dNil))) dNil)))) dNil))))))))))))))))
section
variable {P : Program} {w : World} {K : PySem.W.Frag} {mg : Str → Option Value} {base : Heap} {Z : Ad}
theorem b_law (z : Fx K mg Z w) (F_L_hand : FnOk P w K mg base (L2.CX P w) 2 Z.f_L_hand Z.e_L_hand ["_law_script"] (toSp K 1 (sp_L_hand Z))) (F_L_words : FnOk P w K mg base (L2.CX P w) 5 Z.f_L_words Z.e_L_words ["_law_hand_here"] (toSp K 1 (sp_L_words Z))) (F_L_worths : FnOk P w K mg base (L2.CX P w) 4 Z.f_L_worths Z.e_L_worths ["_law_hand_here"] (toSp K 1 (sp_L_worths Z))) (F_L_draw : FnOk P w K mg base (L2.CX P w) 3 Z.f_L_draw Z.e_L_draw ["_law_hand_here", "_law_many"] (toSp K 2 (sp_L_draw Z))) (F_L_great : FnOk P w K mg base (L2.CX P w) 32 Z.f_L_great Z.e_L_great ["_law_hand_here", "_law_words_here", "_law_worths_here"] (toSp K 3 (sp_L_great Z))) (F_L_is_right : FnG P w K mg base (L2.CX P w) 67 Z.f_L_is_right Z.e_L_is_right ["_law_hand_here", "_law_thing"] (toSp K 2 (sp_L_is_right Z))) (F_L_atom : FnOk P w K mg base (L2.CX P w) 4 Z.f_L_atom Z.e_L_atom ["_law_hand_here", "_law_words_here", "_law_worths_here"] (toSp K 3 (sp_L_atom Z))) (F_L_tower : FnOk P w K mg base (L2.CX P w) 5 Z.f_L_tower Z.e_L_tower ["_law_hand_here", "_law_thing"] (toSp K 2 (sp_L_tower Z))) (F_L_expression : FnOk P w K mg base (L2.CX P w) 20 Z.f_L_expression Z.e_L_expression ["_law_hand_here", "_law_words_here", "_law_worths_here", "_law_room", "_law_deep"] (toSp K 5 (sp_L_expression Z 8))) (F_L_written : FnOk P w K mg base (L2.CX P w) 60 Z.f_L_written Z.e_L_written ["_law_thing", "_law_tight"] (toSp K 2 (sp_L_written Z 30))) (F_L_is_read : FnG P w K mg base (L2.CX P w) 64 Z.f_L_is_read Z.e_L_is_read ["_law_text", "_law_thing"] (toSp K 2 (sp_L_is_read Z))) (F_L_lone_text : FnOk P w K mg base (L2.CX P w) 2 Z.f_L_lone_text Z.e_L_lone_text ["_law_thing"] (toSp K 1 (sp_L_lone_text Z))) (F_L_no_expression : FnOk P w K mg base (L2.CX P w) 5 Z.f_L_no_expression Z.e_L_no_expression ["_law_hand_here", "_law_thing"] (toSp K 2 (sp_L_no_expression Z))) (F_expression_text : FnOk P w K mg base (L2.CX P w) 66 Z.f_expression_text Z.e_expression_text ["expression"] (toSp K 1 (sp_expression_text Z))) (F_L_letters : FnOk P w K mg base (L2.CX P w) 4 Z.f_L_letters Z.e_L_letters ["_law_hand_here", "_law_many"] (toSp K 2 (sp_L_letters Z))) (tb : LamX.TabB base mg Z.kc_law Z.kt_law) {cdv : Value} (hcd : cdv = .ref Z.kc_law) {A : Around} {outer : List Env} {s : Shared} {H : Hp} {E : XK} (hgu : A.guards = some []) (hr : Room 69 (A.deeper (envOfC "law" (defScope s_law) s.heap.objs.size Z.f_law cdv))) :
    QSs (cxOf (L2.CX P w) P w K mg base N_law "law" (defScope s_law) Z.f_law cdv A outer s H E) E (defBody s_law) (t_law K Z) :=
  (qss_cons (set1 1 sc_law.nd (call F_L_hand (by first | decide | omega) hr pass_x z.g_L_hand z.k_L_hand (bd_L_hand z) (qa_cons (v 0) qa_nil)))
    (qss_cons (par2 2 3 sc_law.nd rfl (qa_cons (call F_L_words (by first | decide | omega) hr pass_x z.g_L_words z.k_L_words (bd_L_words z) (qa_cons (v 1) qa_nil)) (qa_cons (call F_L_worths (by first | decide | omega) hr pass_x z.g_L_worths z.k_L_worths (bd_L_worths z) (qa_cons (v 1) qa_nil)) qa_nil)))
    (qss_cons (set1 4 sc_law.nd (call F_L_draw (by first | decide | omega) hr pass_x z.g_L_draw z.k_L_draw (bd_L_draw z) (qa_cons (v 1) (qa_cons q_int qa_nil))))
    (qss_cons (qs_if (QW.qt (qw_and (tcmp (o_eq hr.units) (v 4) q_int) (qw_and1 (qt_not (tval (callG F_L_is_right hgu (by first | decide | omega) hr pass_x z.g_L_is_right z.k_L_is_right (bd_L_is_right z) (qa_cons (v 1) (qa_cons (call F_L_great (by first | decide | omega) hr pass_x z.g_L_great z.k_L_great (bd_L_great z) (qa_cons (v 1) (qa_cons (v 2) (qa_cons (v 3) qa_nil)))) qa_nil)))))))) (qss_one (retn q_bl))
    qss_nil)
    (qss_cons (qs_if (QW.qt (qw_and (tcmp (o_eq hr.units) (v 4) q_int) (qw_and1 (qt_not (tval (callG F_L_is_right hgu (by first | decide | omega) hr pass_x z.g_L_is_right z.k_L_is_right (bd_L_is_right z) (qa_cons (v 1) (qa_cons (call F_L_tower (by first | decide | omega) hr pass_x z.g_L_tower z.k_L_tower (bd_L_tower z) (qa_cons (v 1) (qa_cons (call F_L_atom (by first | decide | omega) hr pass_x z.g_L_atom z.k_L_atom (bd_L_atom z) (qa_cons (v 1) (qa_cons (v 2) (qa_cons (v 3) qa_nil)))) qa_nil))) qa_nil)))))))) (qss_one (retn q_bl))
    qss_nil)
    (qss_cons (forR1 5 sc_law.nd rfl (passes_of rfl) z.n_range q_int
    (qss_cons (set1 6 sc_law.nd (call F_L_expression (by first | decide | omega) hr pass_x z.g_L_expression z.k_L_expression (bd_L_expression z) (qa_cons (v 1) (qa_cons (v 2) (qa_cons (v 3) (qa_cons (ix i_seq (q_lst (qa_cons q_int (qa_cons q_int (qa_cons q_int (qa_cons q_int (qa_cons q_int qa_nil)))))) (call F_L_draw (by first | decide | omega) hr pass_x z.g_L_draw z.k_L_draw (bd_L_draw z) (qa_cons (v 1) (qa_cons q_int qa_nil)))) (qa_cons (q_op o_add q_int (call F_L_draw (by first | decide | omega) hr pass_x z.g_L_draw z.k_L_draw (bd_L_draw z) (qa_cons (v 1) (qa_cons q_int qa_nil)))) qa_nil)))))))
    (qss_one (qs_if (qt_not (tval (callG F_L_is_right hgu (by first | decide | omega) hr pass_x z.g_L_is_right z.k_L_is_right (bd_L_is_right z) (qa_cons (v 1) (qa_cons (v 6) qa_nil))))) (qss_one (retn q_bl))
    qss_nil))))
    (qss_cons (set1 7 sc_law.nd (ix i_seq (q_lst (qa_cons q_int (qa_cons q_int (qa_cons q_int qa_nil)))) (call F_L_draw (by first | decide | omega) hr pass_x z.g_L_draw z.k_L_draw (bd_L_draw z) (qa_cons (v 1) (qa_cons q_int qa_nil)))))
    (qss_cons (set1 8 sc_law.nd (q_op o_add (q_op o_add (q_op o_mul q_str (v 7)) (call F_L_written (by first | decide | omega) hr pass_x z.g_L_written z.k_L_written (bd_L_written z) (qa_cons (v 6) (qa_cons q_int qa_nil)))) (q_op o_mul q_str (v 7))))
    (qss_cons (qs_if (QW.qt (qw_or (qt_not (tval (callG F_L_is_read hgu (by first | decide | omega) hr pass_x z.g_L_is_read z.k_L_is_read (bd_L_is_read z) (qa_cons (v 8) (qa_cons (v 6) qa_nil))))) (qw_or1 (qt_not (tval (callG F_L_is_read hgu (by first | decide | omega) hr pass_x z.g_L_is_read z.k_L_is_read (bd_L_is_read z) (qa_cons (q_op o_add (q_op o_add (q_op o_mul q_str q_int) (call F_L_lone_text (by first | decide | omega) hr pass_x z.g_L_lone_text z.k_L_lone_text (bd_L_lone_text z) (qa_cons (q_tup (qa_cons q_str qa_nil)) qa_nil))) (q_op o_mul q_str q_int)) (qa_cons (q_tup (qa_cons q_str qa_nil)) qa_nil)))))))) (qss_one (retn q_bl))
    qss_nil)
    (qss_cons (set1 9 sc_law.nd (call F_L_no_expression (by first | decide | omega) hr pass_x z.g_L_no_expression z.k_L_no_expression (bd_L_no_expression z) (qa_cons (v 1) (qa_cons (v 6) qa_nil))))
    (qss_cons (qs_if (tcmp (o_ne hr.units) (q_lamq (q_lam (k := 67) z.g_L_refusal z.k_L_refusal z.F_L_refusal (bd_L_refusal z) sc_L_refusal hcd tb hr pass_x (fun cdv s H act hr2 hact => b_L_refusal z hact (hr2.mono (by first | decide | omega))) (fun A outer s H E' f c' hr hp => (call F_expression_text (by first | decide | omega) hr hp z.g_expression_text z.k_expression_text (bd_expression_text z) (qa_cons (v 9) qa_nil)))) (by kernel_rfl)) q_str) (qss_one (retn q_bl))
    qss_nil)
    (qss_cons (set1 10 sc_law.nd (call F_L_letters (by first | decide | omega) hr pass_x z.g_L_letters z.k_L_letters (bd_L_letters z) (qa_cons (v 1) (qa_cons q_int qa_nil))))
    (qss_one (retn (callG F_L_is_read hgu (by first | decide | omega) hr pass_x z.g_L_is_read z.k_L_is_read (bd_L_is_read z) (qa_cons (q_op o_add (q_op o_add (slc (v 10) qp_no (qp_some q_int)) q_str) (slc (v 10) (qp_some q_int) qp_no)) (qa_cons (q_tup (qa_cons q_str (qa_cons (q_tup (qa_cons q_str (qa_cons (slc (v 10) qp_no (qp_some q_int)) qa_nil))) (qa_cons (q_tup (qa_cons q_str (qa_cons (slc (v 10) (qp_some q_int) qp_no) qa_nil))) qa_nil)))) qa_nil)))))))))))))))))
theorem ok_law (z : Fx K mg Z w) (F_L_hand : FnOk P w K mg base (L2.CX P w) 2 Z.f_L_hand Z.e_L_hand ["_law_script"] (toSp K 1 (sp_L_hand Z))) (F_L_words : FnOk P w K mg base (L2.CX P w) 5 Z.f_L_words Z.e_L_words ["_law_hand_here"] (toSp K 1 (sp_L_words Z))) (F_L_worths : FnOk P w K mg base (L2.CX P w) 4 Z.f_L_worths Z.e_L_worths ["_law_hand_here"] (toSp K 1 (sp_L_worths Z))) (F_L_draw : FnOk P w K mg base (L2.CX P w) 3 Z.f_L_draw Z.e_L_draw ["_law_hand_here", "_law_many"] (toSp K 2 (sp_L_draw Z))) (F_L_great : FnOk P w K mg base (L2.CX P w) 32 Z.f_L_great Z.e_L_great ["_law_hand_here", "_law_words_here", "_law_worths_here"] (toSp K 3 (sp_L_great Z))) (F_L_is_right : FnG P w K mg base (L2.CX P w) 67 Z.f_L_is_right Z.e_L_is_right ["_law_hand_here", "_law_thing"] (toSp K 2 (sp_L_is_right Z))) (F_L_atom : FnOk P w K mg base (L2.CX P w) 4 Z.f_L_atom Z.e_L_atom ["_law_hand_here", "_law_words_here", "_law_worths_here"] (toSp K 3 (sp_L_atom Z))) (F_L_tower : FnOk P w K mg base (L2.CX P w) 5 Z.f_L_tower Z.e_L_tower ["_law_hand_here", "_law_thing"] (toSp K 2 (sp_L_tower Z))) (F_L_expression : FnOk P w K mg base (L2.CX P w) 20 Z.f_L_expression Z.e_L_expression ["_law_hand_here", "_law_words_here", "_law_worths_here", "_law_room", "_law_deep"] (toSp K 5 (sp_L_expression Z 8))) (F_L_written : FnOk P w K mg base (L2.CX P w) 60 Z.f_L_written Z.e_L_written ["_law_thing", "_law_tight"] (toSp K 2 (sp_L_written Z 30))) (F_L_is_read : FnG P w K mg base (L2.CX P w) 64 Z.f_L_is_read Z.e_L_is_read ["_law_text", "_law_thing"] (toSp K 2 (sp_L_is_read Z))) (F_L_lone_text : FnOk P w K mg base (L2.CX P w) 2 Z.f_L_lone_text Z.e_L_lone_text ["_law_thing"] (toSp K 1 (sp_L_lone_text Z))) (F_L_no_expression : FnOk P w K mg base (L2.CX P w) 5 Z.f_L_no_expression Z.e_L_no_expression ["_law_hand_here", "_law_thing"] (toSp K 2 (sp_L_no_expression Z))) (F_expression_text : FnOk P w K mg base (L2.CX P w) 66 Z.f_expression_text Z.e_expression_text ["expression"] (toSp K 1 (sp_expression_text Z))) (F_L_letters : FnOk P w K mg base (L2.CX P w) 4 Z.f_L_letters Z.e_L_letters ["_law_hand_here", "_law_many"] (toSp K 2 (sp_L_letters Z))) (tb : LamX.TabB base mg Z.kc_law Z.kt_law) (pure : ∀ xs M R Px, xs.length = 1 → sp_law Z xs M R Px → t_law K Z { nx := fun _ M' => R (.d .none) M', rt := R, ex := Px } (startX N_law xs) M) :
    FnG P w K mg base (L2.CX P w) 70 Z.f_law Z.e_law ["_law_script"] (toSp K 1 (sp_law Z)) := fnG_xc z.F_law sc_law rfl (t_law K Z) (fun cdv A outer s H E ec hgu hr => b_law z F_L_hand F_L_words F_L_worths F_L_draw F_L_great F_L_is_right F_L_atom F_L_tower F_L_expression F_L_written F_L_is_read F_L_lone_text F_L_no_expression F_expression_text F_L_letters tb (ec.symm.trans z.cd_law) hgu hr) pure
end
end Y
set_option maxHeartbeats 4000000
/-! the program's texts of expressions: plain proofs -/
namespace Y
open PySem PySem.Spec PyProof.Rows L2
section
variable {da db dn : DX} {r : DEnv} {M : MH} {x y z : Xv} {R : DR} {P : PX} {t : DT} {b : Bool}
theorem ev_call1 {spx : SpX} (hn : Ev dn r M x) (h : ∀ (R : DR) (P : PX), R y M → spx [x] M R P) : Ev (dCall 1 spx (dCons dn dNil)) r M y := fun R P q => cons_e hn (nil_e ⟨rfl, h _ _ q⟩)
theorem ev_call2 {spx : SpX} (ha : Ev da r M x) (hb : Ev db r M y) (h : ∀ (R : DR) (P : PX), R z M → spx [x, y] M R P) : Ev (dCall 2 spx (dCons da (dCons db dNil))) r M z := fun R P q => cons_e ha (cons_e hb (nil_e ⟨rfl, h _ _ q⟩))
theorem ev_if (ht : EvT t r M b) (ha : b = true → Ev da r M x) (hb : b = false → Ev db r M x) : Ev (dIf t da db) r M x := fun R P q => ht _ _ (by
  cases b with
  | true => exact ha rfl R P q
  | false => exact hb rfl R P q)
theorem ev_pair {x y : PyData} (ha : Ev da r M (.d x)) (hb : Ev db r M (.d y)) : Ev (dTup (dCons da (dCons db dNil))) r M (.d (.tuple [x, y])) := ev_tup (ds := [x, y]) (fun R P q => cons_e ha (cons_e hb (nil_e q))) (by rw [sizeLine_eq]; show 2 ≤ 16777216; decide)
theorem ev_single {x : PyData} (ha : Ev da r M (.d x)) : Ev (dTup (dCons da dNil)) r M (.d (.tuple [x])) := ev_tup (ds := [x]) (fun R P q => cons_e ha (nil_e q)) (by rw [sizeLine_eq]; show 1 ≤ 16777216; decide)
theorem ev_unit : Ev (dTup dNil) r M (.d (.tuple [])) := ev_tup (ds := []) (fun R P q => nil_e q) (by rw [sizeLine_eq]; show 0 ≤ 16777216; decide)
end
theorem pure_check_expression {Z : Ad} (xs : List Xv) (M : MH) (R : DR) (P : PX) (hl : xs.length = 1) (h : sp_check_expression Z xs M R P) : t_check_expression Z { nx := fun _ M' => R (.d .none) M', rt := R, ex := P } (startX N_check_expression xs) M := by
  obtain ⟨x, d, rfl, hx, hs, h⟩ := h
  show dIfS _ _ _ _ [some x] M
  refine if_i (evt_not (evt (ev_call1 (ev_var rfl) fun R P q => ⟨x, d, rfl, hx, hs, q⟩))) (fun q => ?_) (fun q => ?_)
  · rw [if_neg (by intro z; rw [z] at q; cases q)] at h
    exact h
  · rw [if_pos (by cases z : (sizeO d).isSome with
      | true => rfl
      | false => rw [z] at q; cases q)] at h
    exact h
theorem pure_in_parentheses {Z : Ad} (xs : List Xv) (M : MH) (R : DR) (P : PX) (hl : xs.length = 1) (h : sp_in_parentheses Z xs M R P) : t_in_parentheses Z { nx := fun _ M' => R (.d .none) M', rt := R, ex := P } (startX N_in_parentheses xs) M := by
  obtain ⟨l, rfl, hn, h⟩ := h
  show dRet _ _ [some (.d (.str (strL l)))] M
  refine ret_i (x := .d (.str (strL (([40] ++ l) ++ [41])))) (ev_adl (a := [40] ++ l) (b := [41]) (ev_adl (a := [40]) (b := l) (ev_cl (by decide +kernel)) (ev_var rfl) ?_) (ev_cl (by decide +kernel)) ?_) h
  · simp only [List.length_cons, List.length_nil]
    omega
  · simp only [List.length_append, List.length_cons, List.length_nil]
    omega

/-- its tag comes first -/
theorem tag_d (e : Ex) : ∃ rest, e.d = .tuple (.str e.tag :: rest) := by
  cases e with
  | two o a b => exact ⟨[a.d, b.d], rfl⟩
  | _ => exact ⟨_, rfl⟩
theorem ev_tag {da : DX} {r : DEnv} {M : MH} {e : Ex} (h : Ev da r M (.d e.d)) : Ev (dOp dIx da (dC (.d (.int 0)))) r M (.d (.str e.tag)) := by
  obtain ⟨rest, q⟩ := tag_d e
  rw [q] at h
  exact ev_ixt h ev_c (atI_0 _ _)
theorem loneW_no {k : Nat} {s : Str} (h : s ≠ "star" ∧ s ≠ "plus" ∧ s ≠ "maybe") : (loneW k == s) = false := by
  rw [beq_eq_false_iff_ne]
  intro q
  rcases k with _ | _ | k
  · exact h.1 q.symm
  · exact h.2.1 q.symm
  · exact h.2.2 q.symm
theorem bars_in {e : Ex} {t : Nat} (ht : t ≤ 2) {M : MH} {R : DR} {P : PX} (h : R (.d (.bool (e.barred t))) M) : dInS false (.d (.str e.tag)) (.d (barsD t)) M R P := by
  have l1 : ∀ k, (loneW k == ("or" : Str)) = false := fun k => loneW_no (by decide +kernel)
  have l2 : ∀ k, (loneW k == ("then" : Str)) = false := fun k => loneW_no (by decide +kernel)
  have key : ∀ ds : List PyData, barsD t = .tuple ds → ds.all plainD = true ∧ (ds.any fun z => PyData.eqv z (.str e.tag)) = e.barred t := by
    intro ds hd
    have h3 : t = 0 ∨ t = 1 ∨ t = 2 := by omega
    rcases h3 with rfl | rfl | rfl
    · cases hd
      refine ⟨rfl, ?_⟩
      cases e with
      | two o a b => cases o <;> rfl
      | _ => rfl
    · cases hd
      refine ⟨rfl, ?_⟩
      cases e with
      | two o a b =>
        cases o
        · show ((("or" : Str) == ("then" : Str)) || false) = false; decide +kernel
        · show ((("or" : Str) == ("or" : Str)) || false) = true; decide +kernel
      | lone k a =>
        show ((("or" : Str) == loneW k) || false) = false
        rw [Bool.or_false, Bool.beq_comm, l1]
      | word s => show ((("or" : Str) == ("word" : Str)) || false) = false; decide +kernel
      | back s => show ((("or" : Str) == ("back" : Str)) || false) = false; decide +kernel
      | any => show ((("or" : Str) == ("any" : Str)) || false) = false; decide +kernel
      | here => show ((("or" : Str) == ("here" : Str)) || false) = false; decide +kernel
      | node x v => show ((("or" : Str) == ("node" : Str)) || false) = false; decide +kernel
      | times l m a => show ((("or" : Str) == ("times" : Str)) || false) = false; decide +kernel
    · cases hd
      refine ⟨rfl, ?_⟩
      cases e with
      | two o a b =>
        cases o
        · show ((("or" : Str) == ("then" : Str)) || ((("then" : Str) == ("then" : Str)) || false)) = true; decide +kernel
        · show ((("or" : Str) == ("or" : Str)) || ((("then" : Str) == ("or" : Str)) || false)) = true; decide +kernel
      | lone k a =>
        show ((("or" : Str) == loneW k) || ((("then" : Str) == loneW k) || false)) = false
        rw [Bool.or_false, Bool.beq_comm, l1, Bool.beq_comm, l2]
        rfl
      | word s => show ((("or" : Str) == ("word" : Str)) || ((("then" : Str) == ("word" : Str)) || false)) = false; decide +kernel
      | back s => show ((("or" : Str) == ("back" : Str)) || ((("then" : Str) == ("back" : Str)) || false)) = false; decide +kernel
      | any => show ((("or" : Str) == ("any" : Str)) || ((("then" : Str) == ("any" : Str)) || false)) = false; decide +kernel
      | here => show ((("or" : Str) == ("here" : Str)) || ((("then" : Str) == ("here" : Str)) || false)) = false; decide +kernel
      | node x v => show ((("or" : Str) == ("node" : Str)) || ((("then" : Str) == ("node" : Str)) || false)) = false; decide +kernel
      | times l m a => show ((("or" : Str) == ("times" : Str)) || ((("then" : Str) == ("times" : Str)) || false)) = false; decide +kernel
  obtain ⟨ds, hd⟩ : ∃ ds, barsD t = .tuple ds := by
    have h3 : t = 0 ∨ t = 1 ∨ t = 2 := by omega
    rcases h3 with rfl | rfl | rfl <;> exact ⟨_, rfl⟩
  obtain ⟨k1, k2⟩ := key ds hd
  rw [hd, dInS_t k1, k2]
  exact h
theorem pure_part_text {Z : Ad} (spr : SpX) (k : Nat) (hk : ∀ xs M R P, sp_text_of Z k xs M R P → spr xs M R P) (xs : List Xv) (M : MH) (R : DR) (P : PX) (hl : xs.length = 2) (h : sp_part_text Z k xs M R P) :
    t_part_text spr Z { nx := fun _ M' => R (.d .none) M', rt := R, ex := P } (startX N_part_text xs) M := by
  obtain ⟨e, t, rfl, ht, ok, dp, nd, h⟩ := h
  show dSeq _ _ _ [some (.d e.d), some (.d (barsD t)), none] M
  have lw := wT_len e 0 ok
  refine sset (x := .d (.str (strL (e.wT 0)))) (ev_call1 (ev_var rfl) fun R P q => hk _ _ _ _ ⟨e, rfl, ok, dp, nd, q⟩) ?_
  refine ret_i (x := .d (.str (strL (e.wT t)))) (ev_if (b := e.barred t) (evt (ev_op (ev_tag (ev_var rfl)) (ev_var rfl) fun R P q => bars_in ht q)) (fun hb => ?_) fun hb => ?_) h
  · have : e.wT t = 40 :: (e.wT 0 ++ [41]) := by rw [wT_par e t, hb]; rfl
    rw [this]
    exact ev_call1 (ev_var rfl) fun R P q => ⟨e.wT 0, rfl, by omega, q⟩
  · have : e.wT t = e.wT 0 := by rw [wT_par e t, hb]; rfl
    rw [this]
    exact ev_var rfl

theorem pure_atom_text {Z : Ad} (xs : List Xv) (M : MH) (R : DR) (P : PX) (hl : xs.length = 1) (h : sp_atom_text Z xs M R P) : t_atom_text Z { nx := fun _ M' => R (.d .none) M', rt := R, ex := P } (startX N_atom_text xs) M := by
  obtain ⟨e, rfl, ok, at_, h⟩ := h
  show dSeq _ _ _ [some (.d e.d)] M
  have tg : ∀ {s : Str} {b : Bool}, (e.tag == s) = b → EvT (dB (dOp dEq (dOp dIx (dVar 0) (dC (.d (.int 0)))) (dC (.d (.str s))))) [some (.d e.d)] M b := fun {s b} q => by
    rw [← q]
    exact evt (ev_eqs (ev_tag (ev_var rfl)) ev_c)
  have no : ∀ {s : Str}, (e.tag == s) = false → ∀ {ta te : DS} {D : DEnds}, te D [some (.d e.d)] M → dSeq (dIfS (dB (dOp dEq (dOp dIx (dVar 0) (dC (.d (.int 0)))) (dC (.d (.str s))))) ta dNext) te D [some (.d e.d)] M := fun q _ _ _ k => sif (tg q) (fun z => by cases z) fun _ => k
  have yes : ∀ {s : Str}, (e.tag == s) = true → ∀ {ta te : DS} {D : DEnds}, ta { D with nx := te D } [some (.d e.d)] M → dSeq (dIfS (dB (dOp dEq (dOp dIx (dVar 0) (dC (.d (.int 0)))) (dC (.d (.str s))))) ta dNext) te D [some (.d e.d)] M := fun q _ _ _ k => sif (tg q) (fun _ => k) fun z => by cases z
  cases e with
  | any =>
    refine yes (by decide +kernel) ?_
    exact ret_i (ev_cl (by decide +kernel)) h
  | here =>
    refine no (by decide +kernel) (yes (by decide +kernel) ?_)
    exact ret_i (ev_cl (by decide +kernel)) h
  | node t v =>
    refine no (by show (("node" : Str) == ("any" : Str)) = false; decide +kernel) (no (by show (("node" : Str) == ("here" : Str)) = false; decide +kernel) (yes (by show (("node" : Str) == ("node" : Str)) = true; decide +kernel) ?_))
    have nl := numT_len ok.2
    refine ret_i (x := .d (.str (strL ((([91] ++ [t]) ++ numT v) ++ [93])))) (ev_adl (ev_adl (ev_adl (ev_cl (by decide +kernel)) (ev_ixt (d := .str (one t)) (i := 1) (ev_var rfl) ev_c rfl) (by show 1 + 1 ≤ 1000000; omega)) (ev_str (ev_ixt (i := 2) (ev_var rfl) ev_c rfl) (log_ok ok.2)) (by show 2 + _ ≤ 1000000; omega)) (ev_cl (by decide +kernel)) ?_) ?_
    · simp only [List.length_append, List.length_cons, List.length_nil]
      omega
    · have : ((([91] ++ [t]) ++ numT v) ++ [93]) = (Ex.node t v).atomT := by simp [Ex.atomT]
      rw [this]
      exact h
  | word s =>
    refine no (by show (("word" : Str) == ("any" : Str)) = false; decide +kernel) (no (by show (("word" : Str) == ("here" : Str)) = false; decide +kernel) (no (by show (("word" : Str) == ("node" : Str)) = false; decide +kernel) ?_))
    refine ret_i (ev_if (tg (b := true) (by show (("word" : Str) == ("word" : Str)) = true; decide +kernel)) (fun _ => ev_ixt (d := .str s) (i := 1) (ev_var rfl) ev_c rfl) fun z => by cases z) ?_
    have : s = strL (Ex.word s).atomT := str_of s
    rw [this]
    exact h
  | back s =>
    refine no (by show (("back" : Str) == ("any" : Str)) = false; decide +kernel) (no (by show (("back" : Str) == ("here" : Str)) = false; decide +kernel) (no (by show (("back" : Str) == ("node" : Str)) = false; decide +kernel) ?_))
    have hs : s.cps.toList.length = 2 := ok.1
    refine ret_i (x := .d (.str (strL ([126] ++ s.cps.toList)))) (ev_if (tg (b := false) (by show (("back" : Str) == ("word" : Str)) = false; decide +kernel)) (fun z => by cases z) fun _ => ev_adl (ev_cl (by decide +kernel)) (ev_ixt (d := .str (strL s.cps.toList)) (i := 1) (ev_var rfl) ev_c (by rw [← str_of s]; rfl)) (by show 1 + _ ≤ 1000000; omega)) h
  | two o a b => exact at_.elim
  | lone k a => exact at_.elim
  | times l m a => exact at_.elim
end Y
set_option maxHeartbeats 4000000
namespace Y
open PySem PySem.Spec PyProof.Rows L2
theorem sign_tab {k : Nat} (hk : k ≤ 2) (a : Ex) : kv_SIGN_OF.lookup (loneW k) = some (.str (strL (Ex.lone k a).signT)) := by
  have h : k = 0 ∨ k = 1 ∨ k = 2 := by omega
  rcases h with rfl | rfl | rfl
  · show kv_SIGN_OF.lookup (loneW 0) = some (.str (strL [42])); rfl
  · show kv_SIGN_OF.lookup (loneW 1) = some (.str (strL [43])); rfl
  · show kv_SIGN_OF.lookup (loneW 2) = some (.str (strL [63])); rfl
theorem part_h {Z : Ad} {spr : SpX} {k : Nat} {e : Ex} {t : Nat} {da db : DX} {r : DEnv} {M : MH} (hk : ∀ xs M R P, sp_part_text Z k xs M R P → spr xs M R P) (ha : Ev da r M (.d e.d)) (hb : Ev db r M (.d (barsD t))) (ht : t ≤ 2) (ok : e.ok) (dp : e.deep ≤ k) (nd : e.nodes ≤ 2000) :
    Ev (dCall 2 spr (dCons da (dCons db dNil))) r M (.d (.str (strL (e.wT t)))) := ev_call2 ha hb fun R P q => hk _ _ _ _ ⟨e, t, rfl, ht, ok, dp, nd, q⟩
theorem bars1 {r : DEnv} {M : MH} : Ev (dTup (dCons (dC (.d (.str "or"))) dNil)) r M (.d (barsD 1)) := ev_single ev_c
theorem bars2 {r : DEnv} {M : MH} : Ev (dTup (dCons (dC (.d (.str "or"))) (dCons (dC (.d (.str "then"))) dNil))) r M (.d (barsD 2)) := ev_pair ev_c ev_c
theorem bars0 {r : DEnv} {M : MH} : Ev (dTup dNil) r M (.d (barsD 0)) := ev_unit
theorem pure_text_of {Z : Ad} (spr : SpX) (k : Nat) (hk : ∀ m, k = m + 1 → ∀ xs M R P, sp_part_text Z m xs M R P → spr xs M R P) (xs : List Xv) (M : MH) (R : DR) (P : PX) (hl : xs.length = 1) (h : sp_text_of Z k xs M R P) :
    t_text_of spr Z { nx := fun _ M' => R (.d .none) M', rt := R, ex := P } (startX N_text_of xs) M := by
  obtain ⟨e, rfl, ok, dp, nd, h⟩ := h
  obtain ⟨k', rfl⟩ : ∃ k', k = k' + 1 := by
    cases k with
    | zero => cases e <;> (first | (have : (1 : Nat) ≤ 0 := dp; omega) | (exfalso; revert dp; unfold Ex.deep; omega))
    | succ k' => exact ⟨k', rfl⟩
  have hs := hk k' rfl
  show dSeq _ _ _ [some (.d e.d)] M
  have tg : ∀ {s : Str} {b : Bool}, (e.tag == s) = b → EvT (dB (dOp dEq (dOp dIx (dVar 0) (dC (.d (.int 0)))) (dC (.d (.str s))))) [some (.d e.d)] M b := fun {s b} q => by
    rw [← q]
    exact evt (ev_eqs (ev_tag (ev_var rfl)) ev_c)
  have no : ∀ {s : Str}, (e.tag == s) = false → ∀ {ta te : DS} {D : DEnds}, te D [some (.d e.d)] M → dSeq (dIfS (dB (dOp dEq (dOp dIx (dVar 0) (dC (.d (.int 0)))) (dC (.d (.str s))))) ta dNext) te D [some (.d e.d)] M := fun q _ _ _ k => sif (tg q) (fun z => by cases z) fun _ => k
  have yes : ∀ {s : Str}, (e.tag == s) = true → ∀ {ta te : DS} {D : DEnds}, ta { D with nx := te D } [some (.d e.d)] M → dSeq (dIfS (dB (dOp dEq (dOp dIx (dVar 0) (dC (.d (.int 0)))) (dC (.d (.str s))))) ta dNext) te D [some (.d e.d)] M := fun q _ _ _ k => sif (tg q) (fun _ => k) fun z => by cases z
  have inS : ∀ {b : Bool}, (kv_SIGN_OF.lookup e.tag).isSome = b → EvT (dB (dOp (dInK Z.c_SIGN_OF kv_SIGN_OF) (dOp dIx (dVar 0) (dC (.d (.int 0)))) (dC (.r (.ref Z.c_SIGN_OF))))) [some (.d e.d)] M b := fun {b} q => by
    rw [← q]
    exact evt (ev_op (ev_tag (ev_var rfl)) ev_c fun R P z => ⟨rfl, z⟩)
  have lw : ∀ (e : Ex) t, e.ok → e.nodes ≤ 2000 → (e.wT t).length ≤ 80000 := fun e t ok nd => by have := wT_len e t ok; omega
  -- an atom
  have atm : e.atom → (e.tag == ("then" : Str)) = false → (e.tag == ("or" : Str)) = false → (e.tag == ("times" : Str)) = false → (kv_SIGN_OF.lookup e.tag).isSome = false → e.wT 0 = e.atomT → t_text_of spr Z { nx := fun _ M' => R (.d .none) M', rt := R, ex := P } [some (.d e.d)] M := by
    intro at_ h1 h2 h3 h4 h5
    refine no h1 (no h2 (no h3 (sif (inS h4) (fun z => by cases z) fun _ => ?_)))
    refine ret_i (ev_call1 (ev_var rfl) fun R P q => ⟨e, rfl, ok, at_, q⟩) ?_
    rw [← h5]
    exact h
  cases e with
  | word s => exact atm trivial (by show (("word" : Str) == ("then" : Str)) = false; decide +kernel) (by show (("word" : Str) == ("or" : Str)) = false; decide +kernel) (by show (("word" : Str) == ("times" : Str)) = false; decide +kernel) rfl rfl
  | back s => exact atm trivial (by show (("back" : Str) == ("then" : Str)) = false; decide +kernel) (by show (("back" : Str) == ("or" : Str)) = false; decide +kernel) (by show (("back" : Str) == ("times" : Str)) = false; decide +kernel) rfl rfl
  | any => exact atm trivial (by show (("any" : Str) == ("then" : Str)) = false; decide +kernel) (by show (("any" : Str) == ("or" : Str)) = false; decide +kernel) (by show (("any" : Str) == ("times" : Str)) = false; decide +kernel) rfl rfl
  | here => exact atm trivial (by show (("here" : Str) == ("then" : Str)) = false; decide +kernel) (by show (("here" : Str) == ("or" : Str)) = false; decide +kernel) (by show (("here" : Str) == ("times" : Str)) = false; decide +kernel) rfl rfl
  | node t v => exact atm trivial (by show (("node" : Str) == ("then" : Str)) = false; decide +kernel) (by show (("node" : Str) == ("or" : Str)) = false; decide +kernel) (by show (("node" : Str) == ("times" : Str)) = false; decide +kernel) rfl rfl
  | lone j a =>
    have hj : j ≤ 2 := ok.1
    have ad : a.deep ≤ k' := by have : a.deep + 1 ≤ k' + 1 := dp; omega
    have nn : (Ex.lone j a).nodes = a.nodes + 1 := rfl
    have la := lw a 2 ok.2 (by omega)
    refine no (loneW_no (k := j) (by decide +kernel)) (no (loneW_no (k := j) (by decide +kernel)) (no (loneW_no (k := j) (by decide +kernel)) (sif (inS (b := true) ?_) (fun _ => ?_) fun z => by cases z)))
    · show (kv_SIGN_OF.lookup (loneW j)).isSome = true
      rw [sign_tab hj a]
      rfl
    · refine ret_i (x := .d (.str (strL (a.wT 2 ++ (Ex.lone j a).signT)))) (ev_adl (part_h hs (ev_ixt (i := 1) (ev_var rfl) ev_c rfl) bars2 (by omega) ok.2 ad (by omega)) (ev_op (ev_c (x := .r (.ref Z.c_SIGN_OF))) (ev_tag (ev_var rfl)) fun R P q => ⟨rfl, ?_⟩) (by show _ + 1 ≤ 1000000; omega)) h
      show (match kv_SIGN_OF.lookup (loneW j) with
        | some d => R (.d d) M
        | none => False)
      rw [sign_tab hj a]
      exact q
  | times l m a =>
    obtain ⟨h1, h2, h3, oka⟩ := ok
    have ad : a.deep ≤ k' := by have : a.deep + 1 ≤ k' + 1 := dp; omega
    have nn : (Ex.times l m a).nodes = a.nodes + 1 := rfl
    have la := lw a 2 oka (by omega)
    refine no (by show (("times" : Str) == ("then" : Str)) = false; decide +kernel) (no (by show (("times" : Str) == ("or" : Str)) = false; decide +kernel) (yes (by show (("times" : Str) == ("times" : Str)) = true; decide +kernel) ?_))
    have nl : ∀ n : Nat, n ≤ 9 → numT (n : Int) = [48 + n] := fun n hn => dig_T hn
    have sl : ∀ (i : Int) (n : Nat) (M : MH), n ≤ 9 → atI [PyData.str "times", .int (l : Nat), .int (m : Nat), a.d] i = some (.int (n : Nat)) → Ev (dApp cStr (dCons (dOp dIx (dVar 0) (dC (.d (.int i)))) dNil)) [some (.d (Ex.times l m a).d)] M (.d (.str (strL [48 + n]))) := fun i n M hn q => by
      rw [← nl n hn]
      exact ev_str (ev_ixt (i := i) (ev_var rfl) ev_c q) (by
        have : (n : Int).natAbs = n := rfl
        rw [this]
        by_cases z : n = 0
        · rw [z]; decide
        · exact Nat.lt_of_lt_of_le ((Nat.log2_lt z).mpr (show n < 2 ^ 4 by omega)) (by decide))
    refine ret_i (x := .d (.str (strL (((((a.wT 2 ++ [123]) ++ [48 + l]) ++ [44]) ++ [48 + m]) ++ [125])))) (ev_adl (ev_adl (ev_adl (ev_adl (ev_adl (part_h hs (ev_ixt (i := 3) (ev_var rfl) ev_c rfl) bars2 (by omega) oka ad (by omega)) (ev_cl (by decide +kernel)) ?_) (sl 1 l M (by omega) rfl) ?_) (ev_cl (by decide +kernel)) ?_) (sl 2 m M h3 rfl) ?_) (ev_cl (by decide +kernel)) ?_) ?_
    · simp only [List.length_append, List.length_cons, List.length_nil]; omega
    · simp only [List.length_append, List.length_cons, List.length_nil]; omega
    · simp only [List.length_append, List.length_cons, List.length_nil]; omega
    · simp only [List.length_append, List.length_cons, List.length_nil]; omega
    · simp only [List.length_append, List.length_cons, List.length_nil]; omega
    · have : (((((a.wT 2 ++ [123]) ++ [48 + l]) ++ [44]) ++ [48 + m]) ++ [125]) = (Ex.times l m a).wT 0 := by
        show _ = a.wT 2 ++ [123, 48 + l, 44, 48 + m, 125]
        simp
      rw [this]
      exact h
  | two o a b =>
    have ad : a.deep ≤ k' := by have : max a.deep b.deep + 1 ≤ k' + 1 := dp; omega
    have bd : b.deep ≤ k' := by have : max a.deep b.deep + 1 ≤ k' + 1 := dp; omega
    have nn : (Ex.two o a b).nodes = a.nodes + b.nodes + 1 := rfl
    have la := fun t => lw a t ok.1 (by omega)
    have lb := fun t => lw b t ok.2 (by omega)
    cases o with
    | false =>
      refine yes (by show (("then" : Str) == ("then" : Str)) = true; decide +kernel) ?_
      refine ret_i (x := .d (.str (strL ((a.wT 1 ++ [32]) ++ b.wT 2)))) (ev_adl (ev_adl (part_h hs (ev_ixt (i := 1) (ev_var rfl) ev_c rfl) bars1 (by omega) ok.1 ad (by omega)) (ev_cl (by decide +kernel)) ?_) (part_h hs (ev_ixt (i := 2) (ev_var rfl) ev_c rfl) bars2 (by omega) ok.2 bd (by omega)) ?_) h
      · have := la 1; simp only [List.length_append, List.length_cons, List.length_nil]; omega
      · have := la 1; have := lb 2; simp only [List.length_append, List.length_cons, List.length_nil]; omega
    | true =>
      refine no (by show (("or" : Str) == ("then" : Str)) = false; decide +kernel) (yes (by show (("or" : Str) == ("or" : Str)) = true; decide +kernel) ?_)
      refine ret_i (x := .d (.str (strL ((a.wT 0 ++ [32, 124, 32]) ++ b.wT 1)))) (ev_adl (ev_adl (part_h hs (ev_ixt (i := 1) (ev_var rfl) ev_c rfl) bars0 (by omega) ok.1 ad (by omega)) (ev_cl (by decide +kernel)) ?_) (part_h hs (ev_ixt (i := 2) (ev_var rfl) ev_c rfl) bars1 (by omega) ok.2 bd (by omega)) ?_) h
      · have := la 0; simp only [List.length_append, List.length_cons, List.length_nil]; omega
      · have := la 0; have := lb 1; simp only [List.length_append, List.length_cons, List.length_nil]; omega
theorem pure_expression_text {Z : Ad} (xs : List Xv) (M : MH) (R : DR) (P : PX) (hl : xs.length = 1) (h : sp_expression_text Z xs M R P) : t_expression_text Z { nx := fun _ M' => R (.d .none) M', rt := R, ex := P } (startX N_expression_text xs) M := by
  rcases h with ⟨e, rfl, f, h⟩ | ⟨x, d, rfl, hx, hs, hn, h⟩
  · show dSeq _ _ _ [some (.d e.d)] M
    refine drop_v (cons_e (ev_var rfl) (nil_e ⟨rfl, .d e.d, e.d, rfl, Or.inl rfl, fit_strs f, ?_⟩))
    rw [fit_size f, if_pos (show (some (e.size : Int)).isSome = true from rfl)]
    exact ret_i (ev_call1 (ev_var rfl) fun R P q => ⟨e, rfl, f.ok, f.deep, f.few, q⟩) h
  · show dSeq _ _ _ [some x] M
    refine drop_v (cons_e (ev_var rfl) (nil_e ⟨rfl, x, d, rfl, hx, hs, ?_⟩))
    rw [hn, if_neg (by decide)]
    exact h
section
variable {P : Program} {w : World} {K : PySem.W.Frag} {mg : Str → Option Value} {base : Heap} {Z : Ad}
theorem g_check_expression (z : Fx K mg Z w) : FnOk P w K mg base (L2.CX P w) 62 Z.f_check_expression Z.e_check_expression ["thing"] (toSp K 1 (sp_check_expression Z)) := ok_check_expression z (g_is_expression z) pure_check_expression
theorem g_in_parentheses (z : Fx K mg Z w) : FnOk P w K mg base (L2.CX P w) 2 Z.f_in_parentheses Z.e_in_parentheses ["text"] (toSp K 1 (sp_in_parentheses Z)) := ok_in_parentheses z pure_in_parentheses
theorem g_atom_text (z : Fx K mg Z w) : FnOk P w K mg base (L2.CX P w) 2 Z.f_atom_text Z.e_atom_text ["thing"] (toSp K 1 (sp_atom_text Z)) := ok_atom_text z pure_atom_text
theorem g_text_of (z : Fx K mg Z w) : ∀ n : Nat, FnOk P w K mg base (L2.CX P w) (5 + 2 * n) Z.f_text_of Z.e_text_of ["thing"] (toSp K 1 (sp_text_of Z n))
  | 0 => ok_text_of z (g_atom_text z) (Nat.le_refl 4) (fn_never rfl) (pure_text_of _ 0 fun m e => by cases e)
  | n + 1 => ok_text_of z (g_atom_text z) (by omega : 4 ≤ 5 + 2 * n + 1) (ok_part_text z (g_in_parentheses z) (by omega : 4 ≤ 5 + 2 * n) (g_text_of z n) (pure_part_text _ n fun xs M R P q => q)) (pure_text_of _ (n + 1) fun m e xs M R P q => by cases e; exact q)
theorem g_expression_text (z : Fx K mg Z w) : FnOk P w K mg base (L2.CX P w) 66 Z.f_expression_text Z.e_expression_text ["expression"] (toSp K 1 (sp_expression_text Z)) := ok_expression_text z (g_check_expression z) ((g_text_of z 30).mono (by decide)) pure_expression_text
end
end Y
set_option maxHeartbeats 4000000
/-! _law_row: a balanced row of a great many parts -/
namespace Y
open PySem PySem.Spec PyProof.Rows L2
theorem rg2 {n : Nat} (hn : n ≤ 1000000) : RgC 0 ((n : Int) - 1) 2 (n / 2) := by
  have e : Builtin.Range.rangeSize 0 ((n : Int) - 1) 2 = ((n / 2 : Nat) : Int) := by
    unfold Builtin.Range.rangeSize
    simp only [show (2 : Int) > 0 by decide, if_true]
    split <;> omega
  refine ⟨by decide, by decide, ?_, e⟩
  unfold Builtin.Range.small
  rw [e]
  simp only [Builtin.Range.rangeFitsLong, Bool.and_eq_true, Bool.or_eq_true, decide_eq_true_eq, beq_iff_eq, show (2 : Int) > 0 by decide, if_true]
  omega
/-- neighbours put together -/
def pairUp (o : Bool) : List Ex → List Ex
  | a :: b :: r => .two o a b :: pairUp o r
  | [a] => [a]
  | [] => []
def sumS (l : List Ex) : Nat := (l.map Ex.size).sum
def sumN (l : List Ex) : Nat := (l.map fun e => e.nodes + 1).sum
theorem pair_len (o : Bool) : ∀ l : List Ex, (pairUp o l).length = (l.length + 1) / 2
  | [] => by simp [pairUp]
  | [_] => by simp [pairUp]
  | a :: b :: r => by
    show (pairUp o r).length + 1 = (r.length + 1 + 1 + 1) / 2
    rw [pair_len o r]
    omega
theorem pair_size (o : Bool) : ∀ l : List Ex, sumS (pairUp o l) = sumS l ∧ sumN (pairUp o l) = sumN l
  | [] => by simp [pairUp]
  | [_] => by simp [pairUp]
  | a :: b :: r => by
    obtain ⟨h1, h2⟩ := pair_size o r
    unfold sumS sumN at *
    simp only [pairUp, List.map_cons, List.sum_cons, Ex.size, Ex.nodes] at *
    constructor <;> omega
theorem pair_ok (o : Bool) {d : Nat} : ∀ l : List Ex, (∀ e ∈ l, e.ok ∧ e.deep ≤ d) → ∀ e ∈ pairUp o l, e.ok ∧ e.deep ≤ d + 1
  | [], _, _, h => by cases h
  | [a], hl, e, h => by
    have : e = a := by simpa [pairUp] using h
    subst this
    have := hl e List.mem_cons_self
    exact ⟨this.1, by omega⟩
  | a :: b :: r, hl, e, h => by
    rcases List.mem_cons.mp (show e ∈ Ex.two o a b :: pairUp o r from h) with rfl | h
    · have ha := hl a List.mem_cons_self
      have hb := hl b (List.mem_cons_of_mem _ List.mem_cons_self)
      refine ⟨⟨ha.1, hb.1⟩, ?_⟩
      show max a.deep b.deep + 1 ≤ d + 1
      omega
    · exact pair_ok o r (fun x hx => hl x (List.mem_cons_of_mem _ (List.mem_cons_of_mem _ hx))) e h
theorem pair_eq (o : Bool) : ∀ l : List Ex, (List.range (l.length / 2)).map (fun k => Ex.two o (l.getD (2 * k) .any) (l.getD (2 * k + 1) .any)) ++ (if l.length % 2 = 1 then [l.getD (l.length - 1) .any] else []) = pairUp o l
  | [] => by simp [pairUp]
  | [a] => by simp [pairUp]
  | a :: b :: r => by
    have ih := pair_eq o r
    have e1 : (a :: b :: r).length / 2 = r.length / 2 + 1 := by simp only [List.length_cons]; omega
    have e2 : (a :: b :: r).length % 2 = r.length % 2 := by simp only [List.length_cons]; omega
    show _ = Ex.two o a b :: pairUp o r
    rw [← ih, e1, e2, List.range_succ_eq_map, List.map_cons, List.map_map]
    have e3 : (fun k => Ex.two o ((a :: b :: r).getD (2 * k) .any) ((a :: b :: r).getD (2 * k + 1) .any)) ∘ Nat.succ = fun k => Ex.two o (r.getD (2 * k) .any) (r.getD (2 * k + 1) .any) := by
      funext k
      show Ex.two o ((a :: b :: r).getD (2 * (k + 1)) .any) ((a :: b :: r).getD (2 * (k + 1) + 1) .any) = _
      rw [show 2 * (k + 1) = 2 * k + 1 + 1 by omega, show 2 * k + 1 + 1 + 1 = (2 * k + 1) + 1 + 1 by omega]
      simp
    rw [e3]
    by_cases q : r.length % 2 = 1
    · rw [if_pos q, if_pos q]
      have : (a :: b :: r).getD ((a :: b :: r).length - 1) .any = r.getD (r.length - 1) .any := by
        simp only [List.length_cons]
        rw [show r.length + 1 + 1 - 1 = (r.length - 1) + 1 + 1 by omega]
        simp
      rw [this]
      simp
    · rw [if_neg q, if_neg q]
      simp
theorem getD_map (l : List Ex) (k : Nat) (h : k < l.length) : (l.map Ex.d)[k]? = some (l.getD k .any).d := by
  rw [List.getElem?_map, List.getD_eq_getElem?_getD, List.getElem?_eq_getElem h]
  rfl
theorem app_i {dobj dv : DX} {D : DEnds} {p : Addr} {r : DEnv} {M : MH} {xs : List Xv} {y : Xv} (ho : Ev dobj r M (.r (.ref p))) (e : M p = some (.lst xs)) (hv : Ev dv r M y) (hl : xs.length ≤ 1000000) (h : D.nx r (mset M p (.lst (xs ++ [y])))) : dDrop (dBM "list" mApp dobj (dCons dv dNil)) D r M := by
  refine ho _ _ ⟨by unfold recT; dsimp only; rw [e]; rfl, ?_⟩
  refine cons_e hv (nil_e ?_)
  unfold mApp
  dsimp only
  rw [e]
  exact ⟨by rw [sizeLine_eq]; omega, h⟩
theorem atI_nat {α : Type} {l : List α} {k : Nat} {a : α} (h : l[k]? = some a) : atI l (k : Nat) = some a := by
  have hk : k < l.length := by
    rcases Nat.lt_or_ge k l.length with q | q
    · exact q
    · rw [List.getElem?_eq_none q] at h; cases h
  unfold atI ixN
  rw [if_pos (by omega), if_pos (by omega)]
  simpa using h
theorem atI_neg1 {α : Type} {l : List α} {a : α} (h : l[l.length - 1]? = some a) (hl : l ≠ []) : atI l (-1) = some a := by
  have : 0 < l.length := List.length_pos_iff.mpr hl
  unfold atI ixN
  rw [if_neg (by omega), if_pos (by omega)]
  have e : ((-1 : Int) + (l.length : Int)).toNat = l.length - 1 := by omega
  simpa [e] using h
theorem pure_L_row {Z : Ad} (xs : List Xv) (M : MH) (R : DR) (P : PX) (hl : xs.length = 4) (h : sp_L_row Z xs M R P) : t_L_row Z { nx := fun _ M' => R (.d .none) M', rt := R, ex := P } (startX N_L_row xs) M := by
  obtain ⟨x, o, e, n, rfl, ok, n1, n2, h⟩ := h
  show dSeq _ _ _ [some x, some (.d (.str (if o then "or" else "then"))), some (.d e.d), some (.d (.int (n : Nat))), none, none, none, none] M
  refine set_v ?_
  unfold dLcI dItR1
  refine (ev_var rfl : Ev (dVar 3) _ _ (.d (.int (n : Nat)))) _ _ ⟨by omega, by omega, ?_⟩
  have en : ((n : Int)).toNat = n := by omega
  rw [en]
  refine dComp_of (fun _ => e.d) (by rw [sizeLine_eq]; omega) (fun k hk M' _ => ?_) ?_
  · exact (ev_var rfl : Ev (dVar 2) _ _ (.d e.d)) _ _ ⟨rfl, rfl⟩
  have e0 : (List.range n).map (fun _ => e.d) = (List.replicate n e).map Ex.d := by
    rw [List.map_replicate]
    exact List.eq_replicate_iff.mpr ⟨by simp, fun b hb => by
      obtain ⟨_, _, rfl⟩ := List.mem_map.mp hb
      rfl⟩
  rw [e0]
  -- after k turns
  refine sforR1 (n := 9) (k0 := 6) ev_c (by decide) (fun k r M' => M' = M ∧ ∃ (l : List Ex) (x5 x6 x7 : Option Xv), r = [some x, some (.d (.str (if o then "or" else "then"))), some (.d e.d), some (.d (.int (n : Nat))), some (.d (.list (l.map Ex.d))), x5, x6, x7] ∧
    1 ≤ l.length ∧ (l.length - 1) * 2 ^ k < 300 ∧ (∀ a ∈ l, a.ok ∧ a.deep ≤ e.deep + k) ∧ sumS l = n * e.size ∧ sumN l = n * (e.nodes + 1)) ⟨rfl, List.replicate n e, none, none, none, rfl, by rw [List.length_replicate]; exact n1, by rw [List.length_replicate]; omega,
      fun a ha => by rw [List.eq_of_mem_replicate ha]; exact ⟨ok, by omega⟩, by unfold sumS; rw [List.map_replicate, List.sum_replicate_nat], by unfold sumN; rw [List.map_replicate, List.sum_replicate_nat]⟩ ?_ ?_
  · rintro k r M' hk ⟨e9, l, x5, x6, x7, rfl, l1, l2, la, ls, ln⟩
    obtain rfl : M = M' := e9.symm
    have l300 : l.length ≤ 300 := by
      have : (l.length - 1) * 1 ≤ (l.length - 1) * 2 ^ k := Nat.mul_le_mul_left _ Nat.one_le_two_pow
      omega
    have len : ∀ (r : DEnv) (M : MH), r[4]? = some (some (.d (.list (l.map Ex.d)))) → Ev (dApp cLen (dCons (dVar 4) dNil)) r M (.d (.int (l.length : Nat))) := fun r M q => by
      have := lenl (M := M) q
      rw [List.length_map] at this
      exact this
    refine set_v ?_
    unfold dLcIM dItR3
    refine (ev_c : Ev (dC (.d (.int 0))) _ _ _) _ _ ?_
    refine (ev_sub (len _ _ rfl) ev_c : Ev _ _ _ _) _ _ ?_
    refine (ev_c : Ev (dC (.d (.int 2))) _ _ _) _ _ ⟨l.length / 2, rg2 (by omega), ?_⟩
    refine ⟨((List.range (l.length / 2)).map fun k => Ex.two o (l.getD (2 * k) .any) (l.getD (2 * k + 1) .any)).map Ex.d, by simp, by rw [sizeLine_eq]; omega, fun j y hj ey M2 _ => ?_, fun D hD => ?_⟩
    · have ey' : y = (Ex.two o (l.getD (2 * j) .any) (l.getD (2 * j + 1) .any)).d := by
        rw [List.getElem?_map, List.getElem?_map, List.getElem?_range hj] at ey
        exact (Option.some.inj ey).symm
      subst ey'
      have ix : ∀ (i : Nat) (di : DX), i < l.length → Ev di ((wipeX [some x, some (.d (.str (if o then "or" else "then"))), some (.d e.d), some (.d (.int (n : Nat))), some (.d (.list (l.map Ex.d))), x5, some (.d (.int (k : Nat))), x7] [5]).set 5 (some (.d (.int (0 + (j : Nat) * 2))))) M2 (.d (.int (i : Nat))) →
          Ev (dOp dIx (dVar 4) di) ((wipeX [some x, some (.d (.str (if o then "or" else "then"))), some (.d e.d), some (.d (.int (n : Nat))), some (.d (.list (l.map Ex.d))), x5, some (.d (.int (k : Nat))), x7] [5]).set 5 (some (.d (.int (0 + (j : Nat) * 2))))) M2 (.d (l.getD i .any).d) := fun i di hi q =>
        ev_ixl (ds := l.map Ex.d) (i := (i : Nat)) (ev_var rfl) q (atI_nat (getD_map l i hi))
      refine (ev_tup (ds := [.str (if o then "or" else "then"), (l.getD (2 * j) .any).d, (l.getD (2 * j + 1) .any).d]) (fun R P q => cons_e (ev_var rfl) (cons_e (ix (2 * j) _ (by omega) ?_) (cons_e (ix (2 * j + 1) _ (by omega) ?_) (nil_e q)))) (by rw [sizeLine_eq]; show 3 ≤ 16777216; decide) : Ev _ _ _ _) _ _ ⟨rfl, rfl⟩
      · have e1 : (0 : Int) + (j : Nat) * 2 = ((2 * j : Nat) : Int) := by omega
        rw [e1]
        exact ev_var rfl
      · have e1 : ((2 * j + 1 : Nat) : Int) = (0 + (j : Nat) * 2) + 1 := by omega
        rw [e1]
        exact ev_add (ev_var rfl) ev_c
    · have pe := pair_eq o l
      have hlen := pair_len o l
      -- behind: the row is the pairs
      have fin : ∀ (D' : DEnds) x5 x6, D'.nx = (fun r M' => M' = M ∧ ∃ (l : List Ex) (x5 x6 x7 : Option Xv), r = [some x, some (.d (.str (if o then "or" else "then"))), some (.d e.d), some (.d (.int (n : Nat))), some (.d (.list (l.map Ex.d))), x5, x6, x7] ∧
          1 ≤ l.length ∧ (l.length - 1) * 2 ^ (k + 1) < 300 ∧ (∀ a ∈ l, a.ok ∧ a.deep ≤ e.deep + (k + 1)) ∧ sumS l = n * e.size ∧ sumN l = n * (e.nodes + 1)) →
          dSet 4 (dGho (dVar 7)) D' [some x, some (.d (.str (if o then "or" else "then"))), some (.d e.d), some (.d (.int (n : Nat))), some (.d (.list (l.map Ex.d))), x5, x6, some (.r (.ref D))] (mset M D (.lst (((pairUp o l).map Ex.d).map .d))) := by
        intro D' x5 x6 hD'
        unfold dSet dGho
        refine (ev_var rfl : Ev (dVar 7) _ _ (.r (.ref D))) _ _ ⟨.d (.list ((pairUp o l).map Ex.d)), M, ⟨fun a => ?_, Or.inr ⟨_, rfl, .l mset_same hD (DenAll.map _)⟩⟩, ?_⟩
        · by_cases q : a = D
          · exact Or.inr (by rw [q]; exact hD)
          · exact Or.inl (by rw [mset_ne q])
        · rw [hD']
          refine ⟨rfl, pairUp o l, x5, x6, some (.r (.ref D)), rfl, by omega, ?_, fun a ha => ?_, ?_, ?_⟩
          · have h2 : 2 * ((pairUp o l).length - 1) ≤ l.length - 1 := by omega
            have h3 : ((pairUp o l).length - 1) * 2 ^ (k + 1) = (2 * ((pairUp o l).length - 1)) * 2 ^ k := by rw [Nat.pow_succ, Nat.mul_comm (2 ^ k) 2, ← Nat.mul_assoc, Nat.mul_comm _ 2]
            rw [h3]
            exact Nat.lt_of_le_of_lt (Nat.mul_le_mul_right _ h2) l2
          · exact pair_ok o (d := e.deep + k) l la a ha
          · rw [(pair_size o l).1, ls]
          · rw [(pair_size o l).2, ln]
      refine sif (evt (ev_eqi (ev_mod (ev_int (len _ _ rfl)) ev_c (by decide)) ev_c)) (fun q => ?_) (fun q => ?_)
      · have odd : l.length % 2 = 1 := by
          have := of_decide_eq_true (show decide (((l.length : Nat) : Int) % 2 = 1) = true by simpa using q)
          omega
        rw [if_pos odd] at pe
        refine app_i (ev_var rfl) mset_same (ev_ixl (ds := l.map Ex.d) (d := (l.getD (l.length - 1) .any).d) (i := -1) (ev_var rfl) (ev_neg ev_c) ?_) (by simp; omega) ?_
        · exact atI_neg1 (by rw [List.length_map]; exact getD_map l _ (by omega)) (by intro z; have := congrArg List.length z; simp at this; rw [this] at l1; simp at l1)
        · rw [mset_mset]
          have e2 : (((List.range (l.length / 2)).map fun k => Ex.two o (l.getD (2 * k) .any) (l.getD (2 * k + 1) .any)).map Ex.d).map Xv.d ++ [.d (l.getD (l.length - 1) .any).d] = ((pairUp o l).map Ex.d).map .d := by
            rw [← pe]
            simp
          rw [e2]
          exact fin _ _ _ rfl
      · have even : ¬ l.length % 2 = 1 := by
          intro z
          have : ((((l.length : Nat) : Int) % 2 == 1) : Bool) = true := by
            rw [beq_iff_eq]
            omega
          rw [this] at q
          cases q
        rw [if_neg even, List.append_nil] at pe
        rw [pe]
        exact fin _ _ _ rfl
  · rintro r M' ⟨rfl, l, x5, x6, x7, rfl, l1, l2, la, ls, ln⟩
    have l11 : l.length = 1 := by omega
    match l, l11 with
    | [a], _ =>
      have ha := la a List.mem_cons_self
      refine ret_i (ev_ixl (ds := [a.d]) (i := 0) (ev_var rfl) ev_c rfl) (h a ha.1 ha.2 ?_ ?_)
      · have : sumS [a] = a.size := by unfold sumS; simp
        omega
      · have : sumN [a] = a.nodes + 1 := by unfold sumN; simp
        omega
end Y
set_option maxHeartbeats 4000000
/-! what is no expression -/
namespace Y
open PySem PySem.Spec PyProof.Rows L2
theorem noEx_of {d : PyData} (hs : strsOk d = true) (h : sizeW 30 d = none) : noEx d := ⟨hs, by unfold sizeO; rw [h]; rfl⟩
def maybes : Nat → Ex → Ex
  | 0, e => e
  | n + 1, e => .lone 2 (maybes n e)
theorem maybes_ok {e : Ex} (ok : e.ok) : ∀ n, (maybes n e).ok ∧ (maybes n e).deep = e.deep + n
  | 0 => ⟨ok, rfl⟩
  | n + 1 => ⟨⟨by decide, (maybes_ok ok n).1⟩, by show (maybes n e).deep + 1 = _; rw [(maybes_ok ok n).2]; omega⟩
theorem deep_pos (e : Ex) : 1 ≤ e.deep := by
  cases e <;> unfold Ex.deep <;> omega
theorem no_maybes {e : Ex} (ok : e.ok) : noEx (maybes 30 e).d := by
  obtain ⟨h1, h2⟩ := maybes_ok ok 30
  refine noEx_of (ex_tr _ h1).txts ?_
  rw [size_ex h1, if_neg]
  have := deep_pos e
  omega
/-- the elements of an expression's tuple -/
def Ex.els (e : Ex) : List PyData := match e.d with
  | .tuple ds => ds
  | _ => []
theorem els_d (e : Ex) : e.d = .tuple e.els := by
  obtain ⟨r, h⟩ := tag_d e
  unfold Ex.els
  rw [h]
theorem els_ne (e : Ex) : e.els ≠ [] := by
  obtain ⟨r, h⟩ := tag_d e
  unfold Ex.els
  rw [h]
  simp
theorem strs_app : ∀ (a b : List PyData), strsAll (a ++ b) = (strsAll a && strsAll b)
  | [], b => by simp [strsAll]
  | x :: a, b => by
    show (strsOk x && strsAll (a ++ b)) = ((strsOk x && strsAll a) && strsAll b)
    rw [strs_app a b, Bool.and_assoc]
/-- the odd ones -/
def oddL (e : Ex) : List PyData := [.none, .int 5, .bool true, .str "any", .tuple [], .list []]
def oddR (e : Ex) : List PyData := [.list e.els, .tuple [e.d], .tuple (e.els ++ [.tuple [.str "any"]]), .tuple [.str "star"], .tuple [.str "word", .str "abc"]]
def oddS (e : Ex) : List PyData := [.tuple [.str "then", e.d, .none], .tuple [.str "times", .int 2, .int 1, e.d], .tuple [.str "node", .str "<", .int 1000000000000000001], .tuple [.str "or", .tuple [.str "any"], .list [.str "any"]]]
theorem odd_no {e : Ex} (ok : e.ok) : ∀ d, d ∈ oddL e ∨ d ∈ oddR e ∨ d ∈ oddS e → noEx d := by
  have st : strsOk e.d = true := (ex_tr e ok).txts
  have sd : strsAll e.els = true := by rw [els_d] at st; exact st
  intro d hd
  rcases hd with hd | hd | hd
  · simp only [oddL, List.mem_cons, List.not_mem_nil, or_false] at hd
    rcases hd with rfl | rfl | rfl | rfl | rfl | rfl
    · exact noEx_of rfl rfl
    · exact noEx_of rfl rfl
    · exact noEx_of rfl rfl
    · exact noEx_of (by decide +kernel) rfl
    · exact noEx_of rfl rfl
    · exact noEx_of rfl rfl
  · simp only [oddR, List.mem_cons, List.not_mem_nil, or_false] at hd
    rcases hd with rfl | rfl | rfl | rfl | rfl
    · exact noEx_of rfl rfl
    · refine noEx_of (by show (strsOk e.d && true) = true; rw [st]; rfl) ?_
      rw [els_d]
      rfl
    · refine noEx_of (by show strsAll (e.els ++ [.tuple [.str "any"]]) = true; rw [strs_app, sd]; decide +kernel) ?_
      cases e with
      | word s => rfl
      | back s => rfl
      | any => rfl
      | here => rfl
      | node t v => rfl
      | two o a b =>
        show sizeW 30 (.tuple [.str (if o then "or" else "then"), a.d, b.d, .tuple [.str "any"]]) = none
        rw [els_d a, els_d b]
        cases o <;> rfl
      | lone k a =>
        have h : k = 0 ∨ k = 1 ∨ k = 2 := by have := ok.1; omega
        show sizeW 30 (.tuple [.str (loneW k), a.d, .tuple [.str "any"]]) = none
        rw [els_d a]
        rcases h with rfl | rfl | rfl <;> rfl
      | times l m a => rfl
    · exact noEx_of (by decide +kernel) rfl
    · exact noEx_of (by decide +kernel) rfl
  · simp only [oddS, List.mem_cons, List.not_mem_nil, or_false] at hd
    rcases hd with rfl | rfl | rfl | rfl
    · refine noEx_of (by show (strsOk (.str "then") && (strsOk e.d && true)) = true; rw [st]; decide +kernel) ?_
      rw [els_d]
      show (sumO [sizeW 29 (.tuple e.els), sizeW 29 .none]).map (· * mulBy "then" [.tuple e.els, .none]) = none
      rw [sumO_none (by simp [sizeW])]
      rfl
    · exact noEx_of (by show (strsOk (.str "times") && (true && (true && (strsOk e.d && true)))) = true; rw [st]; decide +kernel) rfl
    · exact noEx_of (by decide +kernel) (by decide +kernel)
    · exact noEx_of (by decide +kernel) (by decide +kernel)
end Y
set_option maxHeartbeats 4000000
namespace Y
open PySem PySem.Spec PyProof.Rows L2
theorem less_new {M M' : MH} {q : Addr} {o : MO} (h : Less M' M) (hq : M' q = none) : Less (mset M' q o) M := fun a => by
  by_cases e : a = q
  · rcases h a with z | z
    · exact Or.inr (by rw [z, e, hq])
    · exact Or.inr z
  · rw [mset_ne e]
    exact h a
theorem less_put {M M' : MH} {p : Addr} {o : MO} (h : Less M' M) : Less (mset M' p o) (mset M p o) := fun a => by
  by_cases e : a = p
  · exact Or.inl (by rw [e, mset_same, mset_same])
  · rw [mset_ne e, mset_ne e]
    exact h a
theorem lstM_i {ta : DA} {r : DEnv} {M M1 : MH} {R : DR} {P : PX} {xs : List Xv} (h : ∀ (Q : List Xv → MH → Prop), Q xs M1 → ta r M Q P) (hl : xs.length ≤ sizeLine) (q : ∀ p, M1 p = none → R (.r (.ref p)) (mset M1 p (.lst xs))) : dLstM ta r M R P := h _ ⟨hl, q⟩
theorem pure_L_no_expression {Z : Ad} (xs : List Xv) (M : MH) (R : DR) (P : PX) (hl : xs.length = 2) (h : sp_L_no_expression Z xs M R P) : t_L_no_expression Z { nx := fun _ M' => R (.d .none) M', rt := R, ex := P } (startX N_L_no_expression xs) M := by
  obtain ⟨p, o, e, rfl, em, ho, ok, h⟩ := h
  show dSeq _ _ _ [some (.r (.ref p)), some (.d e.d), none, none] M
  have s1 : 1 ≤ sizeLine := by rw [sizeLine_eq]; decide
  have s2 : 2 ≤ sizeLine := by rw [sizeLine_eq]; decide
  have s3 : 3 ≤ sizeLine := by rw [sizeLine_eq]; decide
  have s4 : 4 ≤ sizeLine := by rw [sizeLine_eq]; decide
  have el : e.els.length ≤ 4 := by
    cases e with
    | two o a b => show 3 ≤ 4; decide
    | word s => show 2 ≤ 4; decide
    | back s => show 2 ≤ 4; decide
    | any => show 1 ≤ 4; decide
    | here => show 1 ≤ 4; decide
    | node t v => show 3 ≤ 4; decide
    | lone k a => show 2 ≤ 4; decide
    | times l m a => show 4 ≤ 4; decide
  refine set_v ?_
  unfold dLstM
  refine cons_e ev_c (cons_e ev_c (cons_e ev_c (cons_e ev_c (cons_e ev_unit (cons_e (ev_lst (ds := []) (fun R P q => nil_e q) (Nat.zero_le _)) (cons_v ?_))))))
  unfold dDic
  intro n hn
  have ev1 : ∀ {M : MH}, Ev (dVar 1) [some (.r (.ref p)), some (.d e.d), none, none] M (.d e.d) := ev_var rfl
  have ev1' : ∀ {M : MH}, Ev (dVar 1) [some (.r (.ref p)), some (.d e.d), none, none] M (.d (.tuple e.els)) := by
    intro M
    refine ev_var ?_
    show some (some (Xv.d e.d)) = _
    rw [els_d]
  refine cons_e (x := .d (.list e.els)) (ev_app1 ev1' fun R P q => q) (cons_e (ev_single ev1) (cons_e (x := .d (.tuple (e.els ++ [.tuple [.str "any"]]))) (ev_op ev1' (ev_single (ev_single ev_c)) fun R P q => ⟨els_ne e, by simp, by rw [sizeLine_eq]; simp; omega, q⟩) (cons_e (ev_single ev_c) (cons_e (ev_pair ev_c ev_c) (nil_e ⟨by rw [sizeLine_eq]; show 12 ≤ 16777216; decide, fun q hq => ?_⟩)))))
  -- the list so far
  have pn : p ≠ n := fun z => by rw [z, hn] at em; cases em
  have L1 : Less (mset M n .dic) M := less_new .refl hn
  generalize hM1 : mset M n .dic = M1 at hq L1 ⊢
  have m1p : M1 p = some o := by rw [← hM1, mset_ne pn]; exact em
  have m1n : M1 n = some .dic := by rw [← hM1, mset_same]
  have qp : p ≠ q := fun z => by rw [z, hq] at m1p; cases m1p
  have qn : n ≠ q := fun z => by rw [z, hq] at m1n; cases m1n
  refine set_v ?_
  refine op_l (ev_var rfl) ?_
  dsimp only
  refine cons_e (ev_tup (ds := [.str "then", e.d, .none]) (fun R P z => cons_e ev_c (cons_e (ev_var rfl) (cons_e ev_c (nil_e z)))) s3) (cons_e (ev_tup (ds := [.str "times", .int 2, .int 1, e.d]) (fun R P z => cons_e ev_c (cons_e ev_c (cons_e ev_c (cons_e (ev_var rfl) (nil_e z))))) s4)
    (cons_e (ev_tup (ds := [.str "node", .str "<", .int 1000000000000000001]) (fun R P z => cons_e ev_c (cons_e ev_c (cons_e (x := .d (.int 1000000000000000001)) (ev_add (i := 1000000000000000000) (j := 1) ev_p18 ev_c) (nil_e z)))) s3)
    (cons_e (ev_tup (ds := [.str "or", .tuple [.str "any"], .list [.str "any"]]) (fun R P z => cons_e ev_c (cons_e (ev_single ev_c) (cons_e (ev_lst (ds := [.str "any"]) (fun R P z => cons_e ev_c (nil_e z)) s1) (nil_e z)))) s3) (nil_e ⟨s4, fun q2 hq2 => ?_⟩))))
  have L2 := less_new (o := .lst [.d .none, .d (.int 5), .d (.bool true), .d (.str "any"), .d (.tuple []), .d (.list []), .r (.ref n), .d (.list e.els), .d (.tuple [e.d]), .d (.tuple (e.els ++ [.tuple [.str "any"]])), .d (.tuple [.str "star"]), .d (.tuple [.str "word", .str "abc"])]) L1 hq
  have e2q : mset M1 q (.lst [.d .none, .d (.int 5), .d (.bool true), .d (.str "any"), .d (.tuple []), .d (.list []), .r (.ref n), .d (.list e.els), .d (.tuple [e.d]), .d (.tuple (e.els ++ [.tuple [.str "any"]])), .d (.tuple [.str "star"]), .d (.tuple [.str "word", .str "abc"])]) q = _ := mset_same
  have e2p : mset M1 q (.lst [.d .none, .d (.int 5), .d (.bool true), .d (.str "any"), .d (.tuple []), .d (.list []), .r (.ref n), .d (.list e.els), .d (.tuple [e.d]), .d (.tuple (e.els ++ [.tuple [.str "any"]])), .d (.tuple [.str "star"]), .d (.tuple [.str "word", .str "abc"])]) p = some o := by rw [mset_ne qp]; exact m1p
  have e2n : mset M1 q (.lst [.d .none, .d (.int 5), .d (.bool true), .d (.str "any"), .d (.tuple []), .d (.list []), .r (.ref n), .d (.list e.els), .d (.tuple [e.d]), .d (.tuple (e.els ++ [.tuple [.str "any"]])), .d (.tuple [.str "star"]), .d (.tuple [.str "word", .str "abc"])]) n = some .dic := by rw [mset_ne qn]; exact m1n
  generalize mset M1 q (.lst [.d .none, .d (.int 5), .d (.bool true), .d (.str "any"), .d (.tuple []), .d (.list []), .r (.ref n), .d (.list e.els), .d (.tuple [e.d]), .d (.tuple (e.els ++ [.tuple [.str "any"]])), .d (.tuple [.str "star"]), .d (.tuple [.str "word", .str "abc"])]) = M2 at hq2 L2 e2q e2p e2n ⊢
  have q2q : q ≠ q2 := fun z => by rw [z, hq2] at e2q; cases e2q
  have q2p : p ≠ q2 := fun z => by rw [z, hq2] at e2p; cases e2p
  have q2n : n ≠ q2 := fun z => by rw [z, hq2] at e2n; cases e2n
  show (match mset M2 q2 _ q, mset M2 q2 _ q2 with
    | some (.lst a), some (.lst b) => _
    | _, _ => False)
  rw [mset_ne q2q, e2q, mset_same]
  dsimp only
  refine ⟨by rw [sizeLine_eq]; show 12 + 4 ≤ 16777216; decide, fun q3 hq3 => ?_⟩
  have L3 := less_new (o := .lst [.d (.tuple [.str "then", e.d, .none]), .d (.tuple [.str "times", .int 2, .int 1, e.d]), .d (.tuple [.str "node", .str "<", .int 1000000000000000001]), .d (.tuple [.str "or", .tuple [.str "any"], .list [.str "any"]])]) L2 hq2
  have e3p : mset M2 q2 (.lst [.d (.tuple [.str "then", e.d, .none]), .d (.tuple [.str "times", .int 2, .int 1, e.d]), .d (.tuple [.str "node", .str "<", .int 1000000000000000001]), .d (.tuple [.str "or", .tuple [.str "any"], .list [.str "any"]])]) p = some o := by rw [mset_ne q2p]; exact e2p
  have e3n : mset M2 q2 (.lst [.d (.tuple [.str "then", e.d, .none]), .d (.tuple [.str "times", .int 2, .int 1, e.d]), .d (.tuple [.str "node", .str "<", .int 1000000000000000001]), .d (.tuple [.str "or", .tuple [.str "any"], .list [.str "any"]])]) n = some .dic := by rw [mset_ne q2n]; exact e2n
  have hq3' : mset M2 q2 (.lst [.d (.tuple [.str "then", e.d, .none]), .d (.tuple [.str "times", .int 2, .int 1, e.d]), .d (.tuple [.str "node", .str "<", .int 1000000000000000001]), .d (.tuple [.str "or", .tuple [.str "any"], .list [.str "any"]])]) q3 = none := hq3
  clear hq3
  show dSeq _ _ _ [some (.r (.ref p)), some (.d e.d), some (.r (.ref q3)), none] (mset (mset M2 q2 (.lst [.d (.tuple [.str "then", e.d, .none]), .d (.tuple [.str "times", .int 2, .int 1, e.d]), .d (.tuple [.str "node", .str "<", .int 1000000000000000001]), .d (.tuple [.str "or", .tuple [.str "any"], .list [.str "any"]])])) q3
    (.lst [.d .none, .d (.int 5), .d (.bool true), .d (.str "any"), .d (.tuple []), .d (.list []), .r (.ref n), .d (.list e.els), .d (.tuple [e.d]), .d (.tuple (e.els ++ [.tuple [.str "any"]])), .d (.tuple [.str "star"]), .d (.tuple [.str "word", .str "abc"]),
      .d (.tuple [.str "then", e.d, .none]), .d (.tuple [.str "times", .int 2, .int 1, e.d]), .d (.tuple [.str "node", .str "<", .int 1000000000000000001]), .d (.tuple [.str "or", .tuple [.str "any"], .list [.str "any"]])]))
  generalize mset M2 q2 (.lst [.d (.tuple [.str "then", e.d, .none]), .d (.tuple [.str "times", .int 2, .int 1, e.d]), .d (.tuple [.str "node", .str "<", .int 1000000000000000001]), .d (.tuple [.str "or", .tuple [.str "any"], .list [.str "any"]])]) = M3 at hq3' L3 e3p e3n ⊢
  have q3p : p ≠ q3 := fun z => by rw [z, hq3'] at e3p; cases e3p
  have q3n : n ≠ q3 := fun z => by rw [z, hq3'] at e3n; cases e3n
  have odd : ∀ y ∈ [Xv.d .none, .d (.int 5), .d (.bool true), .d (.str "any"), .d (.tuple []), .d (.list []), .r (.ref n), .d (.list e.els), .d (.tuple [e.d]), .d (.tuple (e.els ++ [.tuple [.str "any"]])), .d (.tuple [.str "star"]), .d (.tuple [.str "word", .str "abc"]),
      .d (.tuple [.str "then", e.d, .none]), .d (.tuple [.str "times", .int 2, .int 1, e.d]), .d (.tuple [.str "node", .str "<", .int 1000000000000000001]), .d (.tuple [.str "or", .tuple [.str "any"], .list [.str "any"]])], (∃ d, y = .d d ∧ noEx d) ∨ y = .r (.ref n) := by
    have k := odd_no ok
    intro y hy
    simp only [List.mem_cons, List.not_mem_nil, or_false] at hy
    rcases hy with rfl | rfl | rfl | rfl | rfl | rfl | rfl | rfl | rfl | rfl | rfl | rfl | rfl | rfl | rfl | rfl
    · exact Or.inl ⟨_, rfl, k _ (Or.inl (by simp [oddL]))⟩
    · exact Or.inl ⟨_, rfl, k _ (Or.inl (by simp [oddL]))⟩
    · exact Or.inl ⟨_, rfl, k _ (Or.inl (by simp [oddL]))⟩
    · exact Or.inl ⟨_, rfl, k _ (Or.inl (by simp [oddL]))⟩
    · exact Or.inl ⟨_, rfl, k _ (Or.inl (by simp [oddL]))⟩
    · exact Or.inl ⟨_, rfl, k _ (Or.inl (by simp [oddL]))⟩
    · exact Or.inr rfl
    · exact Or.inl ⟨_, rfl, k _ (Or.inr (Or.inl (by simp [oddR])))⟩
    · exact Or.inl ⟨_, rfl, k _ (Or.inr (Or.inl (by simp [oddR])))⟩
    · exact Or.inl ⟨_, rfl, k _ (Or.inr (Or.inl (by simp [oddR])))⟩
    · exact Or.inl ⟨_, rfl, k _ (Or.inr (Or.inl (by simp [oddR])))⟩
    · exact Or.inl ⟨_, rfl, k _ (Or.inr (Or.inl (by simp [oddR])))⟩
    · exact Or.inl ⟨_, rfl, k _ (Or.inr (Or.inr (by simp [oddS])))⟩
    · exact Or.inl ⟨_, rfl, k _ (Or.inr (Or.inr (by simp [oddS])))⟩
    · exact Or.inl ⟨_, rfl, k _ (Or.inr (Or.inr (by simp [oddS])))⟩
    · exact Or.inl ⟨_, rfl, k _ (Or.inr (Or.inr (by simp [oddS])))⟩
  generalize hL : [Xv.d .none, .d (.int 5), .d (.bool true), .d (.str "any"), .d (.tuple []), .d (.list []), .r (.ref n), .d (.list e.els), .d (.tuple [e.d]), .d (.tuple (e.els ++ [.tuple [.str "any"]])), .d (.tuple [.str "star"]), .d (.tuple [.str "word", .str "abc"]),
      .d (.tuple [.str "then", e.d, .none]), .d (.tuple [.str "times", .int 2, .int 1, e.d]), .d (.tuple [.str "node", .str "<", .int 1000000000000000001]), .d (.tuple [.str "or", .tuple [.str "any"], .list [.str "any"]])] = ys at odd ⊢
  have yl : ys.length = 16 := by rw [← hL]; rfl
  have L4 := less_new (o := .lst ys) L3 hq3'
  have e4p : mset M3 q3 (.lst ys) p = some o := by rw [mset_ne q3p]; exact e3p
  have e4n : mset M3 q3 (.lst ys) n = some .dic := by rw [mset_ne q3n]; exact e3n
  have e4q : mset M3 q3 (.lst ys) q3 = some (.lst ys) := mset_same
  generalize mset M3 q3 (.lst ys) = M4 at L4 e4p e4n e4q ⊢
  rw [← mset_id e4p]
  refine sif_v (draw0 4 rfl ho (by decide) (by decide) fun o1 b ho1 => ?_)
  cases b with
  | true =>
    rw [if_pos rfl]
    refine sforR1 (n := 30) (k0 := 3) ev_c (by decide) (fun k r M' => M' = mset M4 p o1 ∧ ∃ x3, r = [some (.r (.ref p)), some (.d (maybes k e).d), some (.r (.ref q3)), x3]) ⟨rfl, none, rfl⟩ ?_ ?_
    · rintro k r M' hk ⟨rfl, x3, rfl⟩
      exact set_i (ev_pair (x := .str "maybe") ev_c (ev_var rfl)) ⟨rfl, some (.d (.int (k : Nat))), rfl⟩
    · rintro r M' ⟨rfl, x3, rfl⟩
      exact ret_gho (ev_var rfl) ⟨less_put L4, Or.inl rfl⟩ ((h o1 ho1).1 _ (no_maybes ok))
  | false =>
    rw [if_neg Bool.false_ne_true]
    show dGho _ _ _ _ _
    unfold dGho
    refine op_l (ev_var rfl) (draw_h 16 rfl ev_c ho1 (by decide) (by decide) fun o2 m ho2 m0 m1 => ?_)
    obtain ⟨y, hy, ey⟩ := atI_mem (l := ys) m0 (by rw [yl]; exact m1)
    have q3p' : q3 ≠ p := Ne.symm q3p
    rw [dIx_m (by rw [mset_ne q3p']; exact e4q) ey]
    rcases odd y hy with ⟨d, rfl, nd⟩ | rfl
    · exact ⟨.d d, mset M p o2, ⟨less_put L4, Or.inl rfl⟩, (h o2 ho2).1 d nd⟩
    · refine ⟨.r (.ref n), mset (mset M p o2) n .dic, ⟨fun a => ?_, Or.inl rfl⟩, (h o2 ho2).2 n hn⟩
      by_cases q : a = n
      · exact Or.inl (by rw [q, mset_same, mset_ne (Ne.symm pn)]; exact e4n.symm)
      · rw [mset_ne q]
        exact less_put L4 a
end Y
set_option maxHeartbeats 4000000
namespace Y
open PySem PySem.Spec PyProof.Rows L2
theorem Ext.less {M M' : MH} (h : Ext M M') : Less M' M := fun a => by
  cases e : M a with
  | none => exact Or.inr rfl
  | some o => exact Or.inl (h a o e).symm
/-! ### the refusal -/
theorem refusal_no {K : PySem.W.Frag} {mg : Str → Option Value} {Z : Ad} {w : World} (z : Fx K mg Z w) {f c : Addr} {q : Str} {σ : L2.St} {b : List (Option Xb)} {x : Xv} {d : PyData} {M : MH} {R : DR} {P : PX} (hx : (liftB b)[9]? = some (some x)) (ax : AsD M x d) (nd : noEx d)
    (h : R (.d (.str "expression")) M) : t_L_refusal K (dAct (.clo f c q σ b) (dCall 1 (sp_expression_text Z) (dCons (dVar 9) dNil))) Z { nx := fun _ M' => R (.d .none) M', rt := R, ex := P } (startX N_L_refusal [.clo f c q σ b]) M := by
  show dSeq _ _ _ [some (.clo f c q σ b), none, none] M
  refine sset ev_c ?_
  show dSeq (dTry K 3 _ _) _ _ [some (.clo f c q σ b), some (.d (.str "told")), none] M
  show dAct _ _ _ _ _ _
  refine ⟨rfl, ?_⟩
  dsimp only
  refine cons_e (ev_var hx) (nil_e ⟨rfl, Or.inr ⟨x, d, rfl, ax, nd.1, nd.2, ?_⟩⟩)
  refine ⟨true, z.xm_NoExpression_NoExpression, fun _ a ha => ?_, fun q => by cases q⟩
  refine ⟨rfl, ?_⟩
  refine set_i (x := .d (.str "expression")) (ev_if (b := true) (evt_and (b := true) (c := true) (evt (ev_app2 (ev_var rfl) ev_c fun R P q => ⟨rfl, trivial, true, z.xi_NoExpression_StoreError, q⟩)) fun _ => evt_not (b := false) (evt ?_)) (fun _ => ev_c) fun q => by cases q) ?_
  · exact fun R P q => (ev_var rfl : Ev (dVar 2) _ _ (.r (.ref a))) _ _ ⟨rfl, trivial, false, z.xt_NoExpression_NoPath_TooMany, q⟩
  · show dRet (dVar 1) { nx := fun _ M' => R (.d .none) M', rt := R, ex := P } [none, some (.d (.str "expression")), none] M
    exact ret_i (ev_var rfl) h
/-! ### the law's written text -/
theorem inAt {tag : Str} {b : Bool} {dn : DX} {r : DEnv} {M : MH} (hn : Ev dn r M (.d (.str tag))) (hb : ([PyData.str "word", .str "back", .str "any", .str "here", .str "node"].any fun z => PyData.eqv z (.str tag)) = b) :
    EvT (dB (dOp (dInS false) dn (dLst (dCons (dC (.d (.str "word"))) (dCons (dC (.d (.str "back"))) (dCons (dC (.d (.str "any"))) (dCons (dC (.d (.str "here"))) (dCons (dC (.d (.str "node"))) dNil)))))))) r M b := by
  refine evt (ev_op hn (ev_lst (ds := [.str "word", .str "back", .str "any", .str "here", .str "node"]) (fun R P q => q) (by rw [sizeLine_eq]; simp)) fun R P q => inS_l rfl ?_)
  rw [hb]
  exact q
theorem wr_h {Z : Ad} {spr : SpX} {k : Nat} {e : Ex} {t : Nat} {da db : DX} {r : DEnv} {M : MH} (hk : ∀ xs M R P, sp_L_written Z k xs M R P → spr xs M R P) (ha : Ev da r M (.d e.d)) (hb : Ev db r M (.d (.int (t : Nat)))) (ok : e.ok) (dp : e.deep ≤ k) (nd : e.nodes ≤ 2000) :
    Ev (dCall 2 spr (dCons da (dCons db dNil))) r M (.d (.str (strL (e.wT t)))) := ev_call2 ha hb fun R P q => hk _ _ _ _ ⟨e, t, rfl, ok, dp, nd, q⟩
theorem pure_written {Z : Ad} (spr : SpX) (k : Nat) (hk : ∀ m, k = m + 1 → ∀ xs M R P, sp_L_written Z m xs M R P → spr xs M R P) (xs : List Xv) (M : MH) (R : DR) (P : PX) (hl : xs.length = 2) (h : sp_L_written Z k xs M R P) :
    t_L_written spr Z { nx := fun _ M' => R (.d .none) M', rt := R, ex := P } (startX N_L_written xs) M := by
  obtain ⟨e, t, rfl, ok, dp, nd, h⟩ := h
  obtain ⟨k', rfl⟩ : ∃ k', k = k' + 1 := by
    cases k with
    | zero => exact absurd dp (by have := deep_pos e; omega)
    | succ k' => exact ⟨k', rfl⟩
  have hs := hk k' rfl
  have lw : ∀ (e : Ex) t, e.ok → e.nodes ≤ 2000 → (e.wT t).length ≤ 80000 := fun e t ok nd => by have := wT_len e t ok; omega
  show dSeq _ _ _ [some (.d e.d), some (.d (.int (t : Nat))), none, none] M
  refine sset (ev_tag (ev_var rfl)) ?_
  show dSeq _ _ _ [some (.d e.d), some (.d (.int (t : Nat))), some (.d (.str e.tag)), none] M
  have atm : e.atom → ([PyData.str "word", .str "back", .str "any", .str "here", .str "node"].any fun z => PyData.eqv z (.str e.tag)) = true → e.wT t = e.atomT → dSeq (dIfS (dB (dOp (dInS false) (dVar 2) (dLst (dCons (dC (.d (.str "word"))) (dCons (dC (.d (.str "back"))) (dCons (dC (.d (.str "any"))) (dCons (dC (.d (.str "here"))) (dCons (dC (.d (.str "node"))) dNil)))))))) (dRet (dCall 1 (sp_L_lone_text Z) (dCons (dVar 0) dNil))) dNext)
      (dSeq (dIfS (dB (dOp dEq (dVar 2) (dC (.d (.str "then"))))) (dSet 3 (dOp dAdd (dOp dAdd (dCall 2 spr (dCons (dOp dIx (dVar 0) (dC (.d (.int 1)))) (dCons (dC (.d (.int 1))) dNil))) (dC (.d (.str " ")))) (dCall 2 spr (dCons (dOp dIx (dVar 0) (dC (.d (.int 2)))) (dCons (dC (.d (.int 2))) dNil)))))
    (dIfS (dB (dOp dEq (dVar 2) (dC (.d (.str "or"))))) (dSet 3 (dOp dAdd (dOp dAdd (dCall 2 spr (dCons (dOp dIx (dVar 0) (dC (.d (.int 1)))) (dCons (dC (.d (.int 0))) dNil))) (dC (.d (.str " | ")))) (dCall 2 spr (dCons (dOp dIx (dVar 0) (dC (.d (.int 2)))) (dCons (dC (.d (.int 1))) dNil)))))
    (dRet (dOp dAdd (dCall 2 spr (dCons (dOp dIx (dVar 0) (dNeg (dC (.d (.int 1))))) (dCons (dC (.d (.int 2))) dNil))) (dCall 1 (sp_L_sign_text Z) (dCons (dVar 0) dNil))))))
    (dSeq (dIfS (dOr (dAnd (dB (dOp dEq (dVar 2) (dC (.d (.str "or"))))) (dB (dOp dGt (dVar 1) (dC (.d (.int 0)))))) (dB (dOp dGt (dVar 1) (dC (.d (.int 1)))))) (dRet (dOp dAdd (dOp dAdd (dC (.d (.str "("))) (dVar 3)) (dC (.d (.str ")")))))
    dNext)
    (dRet (dVar 3)))) { nx := fun _ M' => R (.d .none) M', rt := R, ex := P } [some (.d e.d), some (.d (.int (t : Nat))), some (.d (.str e.tag)), none] M := by
    intro at_ hin h5
    refine sif (inAt (ev_var rfl) hin) (fun _ => ?_) fun q => by cases q
    refine ret_i (lone_h (ev_var rfl) ok at_) ?_
    rw [← h5]
    exact h
  have una : ∀ (rest : List PyData) (a : Ex), e.d = .tuple (.str e.tag :: (rest ++ [a.d])) → ([PyData.str "word", .str "back", .str "any", .str "here", .str "node"].any fun z => PyData.eqv z (.str e.tag)) = false → (e.tag == ("then" : Str)) = false → (e.tag == ("or" : Str)) = false → e.unary → a.ok → a.deep ≤ k' → a.nodes ≤ 2000 → e.signT.length ≤ 5 → e.wT t = a.wT 2 ++ e.signT →
      t_L_written spr Z { nx := fun _ M' => R (.d .none) M', rt := R, ex := P } [some (.d e.d), some (.d (.int (t : Nat))), none, none] M := by
    intro rest a ed hA h1 h2 un aok adp an sl h5
    refine sset (ev_tag (ev_var rfl)) ?_
    refine sif (inAt (ev_var rfl) hA) (fun q => by cases q) fun _ => ?_
    refine sif2 (b := false) (evt (ev_op (ev_var rfl) ev_c fun R P q => by rw [dEq_ss, h1]; exact q)) (fun q => by cases q) fun _ => ?_
    refine if_i (b := false) (evt (ev_op (ev_var rfl) ev_c fun R P q => by rw [dEq_ss, h2]; exact q)) (fun q => by cases q) fun _ => ?_
    have la := lw a 2 aok an
    refine ret_i (ev_adl (wr_h (t := 2) hs (ev_ixt (ds := .str e.tag :: (rest ++ [a.d])) (i := -1) (ev_var (by show some (some (Xv.d e.d)) = _; rw [ed])) (ev_neg ev_c) (atI_last (PyData.str e.tag :: rest) a.d)) ev_c aok adp an) (sign_h (ev_var rfl) ok un) (by omega)) ?_
    rw [← h5]
    exact h
  cases e with
  | word s => exact atm trivial (by show ([PyData.str "word", .str "back", .str "any", .str "here", .str "node"].any fun z => PyData.eqv z (.str "word")) = true; decide +kernel) rfl
  | back s => exact atm trivial (by show ([PyData.str "word", .str "back", .str "any", .str "here", .str "node"].any fun z => PyData.eqv z (.str "back")) = true; decide +kernel) rfl
  | any => exact atm trivial (by show ([PyData.str "word", .str "back", .str "any", .str "here", .str "node"].any fun z => PyData.eqv z (.str "any")) = true; decide +kernel) rfl
  | here => exact atm trivial (by show ([PyData.str "word", .str "back", .str "any", .str "here", .str "node"].any fun z => PyData.eqv z (.str "here")) = true; decide +kernel) rfl
  | node x v => exact atm trivial (by show ([PyData.str "word", .str "back", .str "any", .str "here", .str "node"].any fun z => PyData.eqv z (.str "node")) = true; decide +kernel) rfl
  | lone j a =>
    have hj : j = 0 ∨ j = 1 ∨ j = 2 := by have := ok.1; omega
    have ad : a.deep ≤ k' := by have : a.deep + 1 ≤ k' + 1 := dp; omega
    have nn : (Ex.lone j a).nodes = a.nodes + 1 := rfl
    refine una [] a rfl ?_ (loneW_no (k := j) (by decide +kernel)) (loneW_no (k := j) (by decide +kernel)) trivial ok.2 ad (by omega) (by show 1 ≤ 5; decide) rfl
    show ([PyData.str "word", .str "back", .str "any", .str "here", .str "node"].any fun z => PyData.eqv z (.str (loneW j))) = false
    rcases hj with rfl | rfl | rfl <;> decide +kernel
  | times l m a =>
    have ad : a.deep ≤ k' := by have : a.deep + 1 ≤ k' + 1 := dp; omega
    have nn : (Ex.times l m a).nodes = a.nodes + 1 := rfl
    refine una [.int (l : Nat), .int (m : Nat)] a rfl ?_ (by show (("times" : Str) == ("then" : Str)) = false; decide +kernel) (by show (("times" : Str) == ("or" : Str)) = false; decide +kernel) trivial ok.2.2.2 ad (by omega) (by show 5 ≤ 5; decide) rfl
    show ([PyData.str "word", .str "back", .str "any", .str "here", .str "node"].any fun z => PyData.eqv z (.str "times")) = false
    decide +kernel
  | two o a b =>
    have ad : a.deep ≤ k' := by have : max a.deep b.deep + 1 ≤ k' + 1 := dp; omega
    have bd : b.deep ≤ k' := by have : max a.deep b.deep + 1 ≤ k' + 1 := dp; omega
    have nn : (Ex.two o a b).nodes = a.nodes + b.nodes + 1 := rfl
    have la := fun t => lw a t ok.1 (by omega)
    have lb := fun t => lw b t ok.2 (by omega)
    -- the end: in parentheses or bare
    have fin : ∀ (l : List Nat) (bb : Bool), l.length ≤ 200000 → (Ex.two o a b).wT t = parT bb l → (((((Ex.two o a b).tag == ("or" : Str)) && decide ((0 : Int) < (t : Int))) || decide ((1 : Int) < (t : Int))) = bb) →
        dSeq (dIfS (dOr (dAnd (dB (dOp dEq (dVar 2) (dC (.d (.str "or"))))) (dB (dOp dGt (dVar 1) (dC (.d (.int 0)))))) (dB (dOp dGt (dVar 1) (dC (.d (.int 1)))))) (dRet (dOp dAdd (dOp dAdd (dC (.d (.str "("))) (dVar 3)) (dC (.d (.str ")"))))) dNext) (dRet (dVar 3))
          { nx := fun _ M' => R (.d .none) M', rt := R, ex := P } [some (.d (Ex.two o a b).d), some (.d (.int (t : Nat))), some (.d (.str (Ex.two o a b).tag)), some (.d (.str (strL l)))] M := by
      intro l bb ll hw hb
      refine sif (b := bb) ?_ (fun q => ?_) fun q => ?_
      · rw [← hb]
        exact evt_or (evt_and (evt (ev_eqs (ev_var rfl) ev_c)) fun _ => evt (ev_gt (ev_var rfl) ev_c)) fun _ => evt (ev_gt (ev_var rfl) ev_c)
      · refine ret_i (x := .d (.str (strL (([40] ++ l) ++ [41])))) (ev_adl (a := [40] ++ l) (b := [41]) (ev_adl (a := [40]) (b := l) (ev_cl (by decide +kernel)) (ev_var rfl) ?_) (ev_cl (by decide +kernel)) ?_) ?_
        · simp only [List.length_cons, List.length_nil]; omega
        · simp only [List.length_append, List.length_cons, List.length_nil]; omega
        · rw [hw, q] at h
          exact h
      · rw [hw, q] at h
        exact ret_i (ev_var rfl) h
    have hA : ([PyData.str "word", .str "back", .str "any", .str "here", .str "node"].any fun z => PyData.eqv z (.str (Ex.two o a b).tag)) = false := by
      cases o
      · show ([PyData.str "word", .str "back", .str "any", .str "here", .str "node"].any fun z => PyData.eqv z (.str "then")) = false; decide +kernel
      · show ([PyData.str "word", .str "back", .str "any", .str "here", .str "node"].any fun z => PyData.eqv z (.str "or")) = false; decide +kernel
    refine sif (inAt (ev_var rfl) hA) (fun q => by cases q) fun _ => ?_
    cases o with
    | false =>
      refine sif2 (b := true) (evt (ev_op (ev_var rfl) ev_c fun R P q => by rw [dEq_ss]; exact q)) (fun _ => ?_) (fun q => by cases q)
      refine set_i (x := .d (.str (strL ((a.wT 1 ++ [32]) ++ b.wT 2)))) (ev_adl (ev_adl (wr_h (t := 1) hs (ev_ixt (i := 1) (ev_var rfl) ev_c rfl) ev_c ok.1 ad (by omega)) (ev_cl (by decide +kernel)) ?_) (wr_h (t := 2) hs (ev_ixt (i := 2) (ev_var rfl) ev_c rfl) ev_c ok.2 bd (by omega)) ?_) ?_
      · have := la 1; simp only [List.length_append, List.length_cons, List.length_nil]; omega
      · have := la 1; have := lb 2; simp only [List.length_append, List.length_cons, List.length_nil]; omega
      · refine fin ((a.wT 1 ++ [32]) ++ b.wT 2) (decide (1 < t)) ?_ rfl ?_
        · have := la 1; have := lb 2; simp only [List.length_append, List.length_cons, List.length_nil]; omega
        · show (((("then" : Str) == ("or" : Str)) && decide ((0 : Int) < (t : Int))) || decide ((1 : Int) < (t : Int))) = _
          rw [show (("then" : Str) == ("or" : Str)) = false by decide +kernel, Bool.false_and, Bool.false_or]
          by_cases q : 1 < t
          · rw [decide_eq_true q, decide_eq_true (show (1 : Int) < (t : Int) by omega)]
          · rw [decide_eq_false q, decide_eq_false (show ¬ (1 : Int) < (t : Int) by omega)]
    | true =>
      refine sif2 (b := false) (evt (ev_op (ev_var rfl) ev_c fun R P q => by rw [dEq_ss]; exact q)) (fun q => by cases q) (fun _ => ?_)
      refine if_i (b := true) (evt (ev_op (ev_var rfl) ev_c fun R P q => by rw [dEq_ss]; exact q)) (fun _ => ?_) (fun q => by cases q)
      refine set_i (x := .d (.str (strL ((a.wT 0 ++ [32, 124, 32]) ++ b.wT 1)))) (ev_adl (ev_adl (wr_h (t := 0) hs (ev_ixt (i := 1) (ev_var rfl) ev_c rfl) ev_c ok.1 ad (by omega)) (ev_cl (by decide +kernel)) ?_) (wr_h (t := 1) hs (ev_ixt (i := 2) (ev_var rfl) ev_c rfl) ev_c ok.2 bd (by omega)) ?_) ?_
      · have := la 0; simp only [List.length_append, List.length_cons, List.length_nil]; omega
      · have := la 0; have := lb 1; simp only [List.length_append, List.length_cons, List.length_nil]; omega
      · refine fin ((a.wT 0 ++ [32, 124, 32]) ++ b.wT 1) (decide (0 < t)) ?_ rfl ?_
        · have := la 0; have := lb 1; simp only [List.length_append, List.length_cons, List.length_nil]; omega
        · show (((("or" : Str) == ("or" : Str)) && decide ((0 : Int) < (t : Int))) || decide ((1 : Int) < (t : Int))) = _
          rw [beq_self_eq_true, Bool.true_and]
          by_cases q : 0 < t
          · rw [decide_eq_true q, decide_eq_true (show (0 : Int) < (t : Int) by omega)]; rfl
          · rw [decide_eq_false q, decide_eq_false (show ¬ (0 : Int) < (t : Int) by omega), decide_eq_false (show ¬ (1 : Int) < (t : Int) by omega)]; rfl
end Y
set_option maxHeartbeats 4000000
namespace Y
open PySem PySem.Spec PyProof.Rows L2
/-! ### signs of texts -/
def sgnOk (l : List Nat) : Prop := ∀ c ∈ l, c < 4294967296
theorem sgn_app {a b : List Nat} (ha : sgnOk a) (hb : sgnOk b) : sgnOk (a ++ b) := fun c hc => by
  rcases List.mem_append.mp hc with h | h
  · exact ha c h
  · exact hb c h
theorem sgn_cons {a : Nat} {b : List Nat} (ha : a < 4294967296) (hb : sgnOk b) : sgnOk (a :: b) := fun c hc => by
  rcases List.mem_cons.mp hc with rfl | h
  · exact ha
  · exact hb c h
theorem sgn_nil : sgnOk [] := fun c hc => by cases hc
theorem sgn_rep {c n : Nat} (h : c < 4294967296) : sgnOk (List.replicate n c) := fun d hd => by rw [List.eq_of_mem_replicate hd]; exact h
theorem sgn_bl (n : Nat) : sgnOk (bl n) := sgn_rep (by decide)
theorem numL_sgn (n : Nat) : sgnOk (TL.numL n) := fun c hc => by
  have := TL.numL_digits n c hc
  omega
theorem num_sgn (v : Int) : sgnOk (numT v) := by
  cases v with
  | ofNat n =>
    have : numT (Int.ofNat n) = TL.numL n := numT_nat n
    rw [this]
    exact numL_sgn n
  | negSucc n =>
    rw [numT_neg]
    exact sgn_cons (by decide) (numL_sgn _)
theorem word_sgn {s : Str} (h : goodWord s) : sgnOk s.cps.toList := by
  obtain ⟨a, b, rfl, la, lb⟩ := word_two h
  have := let_bound la
  have := let_bound lb
  exact sgn_cons (by omega) (sgn_cons (by omega) sgn_nil)
theorem atom_sgn {e : Ex} (ok : e.ok) (at_ : e.atom) : sgnOk e.atomT := by
  cases e with
  | word s => exact word_sgn ok
  | back s => exact sgn_cons (by decide) (word_sgn ok)
  | any => exact sgn_cons (by decide) sgn_nil
  | here => exact sgn_cons (by decide) sgn_nil
  | node t v =>
    have h := ok.1
    exact sgn_cons (by decide) (sgn_cons (by omega) (sgn_app (num_sgn v) (sgn_cons (by decide) sgn_nil)))
  | two o a b => exact at_.elim
  | lone k a => exact at_.elim
  | times l m a => exact at_.elim
theorem loo_sgn0 {e : Ex} {t : Nat} {u : List Nat} (h : ∀ u, Core e u → sgnOk u) (hu : Loo e t u) : sgnOk u := by
  cases hu with
  | bare _ hc => exact h _ hc
  | wrap hc => exact sgn_cons (by decide) (sgn_app (sgn_app (sgn_app (sgn_bl _) (h _ hc)) (sgn_bl _)) (sgn_cons (by decide) sgn_nil))
theorem core_sgn : ∀ (e : Ex), e.ok → ∀ u, Core e u → sgnOk u
  | e, ok, u, h => by
    cases h with
    | atom at_ => exact atom_sgn ok at_
    | thn ha hb hi =>
      rename_i a b s v i
      exact sgn_app (sgn_app (loo_sgn0 (core_sgn a ok.1) ha) (sgn_bl _)) (loo_sgn0 (core_sgn b ok.2) hb)
    | or ha hb =>
      rename_i a b s v i j
      exact sgn_app (sgn_app (loo_sgn0 (core_sgn a ok.1) ha) (sgn_bl _)) (sgn_cons (by decide) (sgn_app (sgn_bl _) (loo_sgn0 (core_sgn b ok.2) hb)))
    | lone ha =>
      rename_i k i a s
      have hk : k = 0 ∨ k = 1 ∨ k = 2 := by have := ok.1; omega
      refine sgn_app (sgn_app (loo_sgn0 (core_sgn a ok.2) ha) (sgn_bl _)) ?_
      rcases hk with rfl | rfl | rfl <;> exact sgn_cons (by decide) sgn_nil
    | times ha =>
      rename_i l m i a s
      obtain ⟨h1, h2, h3, h4⟩ := ok
      exact sgn_app (sgn_app (loo_sgn0 (core_sgn a h4) ha) (sgn_bl _)) (sgn_cons (by decide) (sgn_cons (by omega) (sgn_cons (by decide) (sgn_cons (by omega) (sgn_cons (by decide) sgn_nil)))))
theorem loo_sgn {e : Ex} (ok : e.ok) {t : Nat} {u : List Nat} (h : Loo e t u) : sgnOk u := loo_sgn0 (core_sgn e ok) h
/-! ### a sign again and again -/
theorem foldl_rep (c : Nat) : ∀ (k : Nat) (acc : Array Nat), (List.replicate k #[c]).foldl (· ++ ·) acc = acc ++ (List.replicate k c).toArray
  | 0, acc => by simp
  | k + 1, acc => by
    rw [List.replicate_succ, List.foldl_cons, foldl_rep c k, List.replicate_succ]
    apply Array.toList_inj.mp
    simp
theorem mul_rep (c n : Nat) : Txt.mul (strL [c]) (n : Int) = strL (List.replicate n c) := by
  unfold Txt.mul
  by_cases h0 : n = 0
  · subst h0
    rfl
  · rw [if_neg (by omega)]
    by_cases h1 : n = 1
    · subst h1
      rfl
    · have e1 : (((n : Int) == 1) || ((strL [c]).length == 0)) = false := by
        rw [Bool.or_eq_false_iff]
        exact ⟨by rw [beq_eq_false_iff_ne]; omega, by rw [strL_len]; rfl⟩
      rw [e1, if_neg Bool.false_ne_true]
      have e2 : ((n : Int)).toNat = n := by omega
      rw [e2]
      show (⟨(List.replicate n #[c]).foldl (· ++ ·) #[]⟩ : Str) = ⟨(List.replicate n c).toArray⟩
      rw [foldl_rep]
      simp
theorem mulOk_rep {c n : Nat} (hn : n ≤ 1000000) : MulOk (strL [c]) (n : Int) := by
  refine ⟨by rw [Bool.or_eq_false_iff]; exact ⟨decide_eq_false (by omega), decide_eq_false (by omega)⟩, fun q _ => ?_, fun _ _ => ?_⟩
  · have h1 : (0 : Int) < (n : Int) := by omega
    have : ((strL [c]).length : Int) ≤ (2 ^ 63 - 1) / (n : Int) := (Int.le_ediv_iff_mul_le h1).mpr (by rw [strL_len]; show (1 : Int) * (n : Int) ≤ _; omega)
    omega
  · have : ((n : Int).toNat) = n := rfl
    rw [this, strL_len]
    exact decide_eq_false (by rw [sizeLine_eq]; show ¬ (1 : Nat) * n > _; omega)
section
variable {da db dn : DX} {r : DEnv} {M : MH} {x y : Xv}
theorem ev_rep {c n : Nat} (ha : Ev da r M (.d (.str (strL [c])))) (hb : Ev db r M (.d (.int (n : Nat)))) (hn : n ≤ 1000000) : Ev (dOp dMul da db) r M (.d (.str (strL (List.replicate n c)))) := ev_op ha hb fun R P q => ⟨mulOk_rep hn, by rw [mul_rep]; exact q⟩
theorem eqv_of_shaped {d : PyData} (h : SeqAt.shaped d = true) : PyData.eqv d d = true := by
  unfold SeqAt.shaped at h
  rw [Bool.and_eq_true] at h
  exact SeqAt.eqv_refl d h.1
theorem ev_eq_same {d : PyData} (hf : SeqAt.shaped d = true) (ha : Ev da r M (.d d)) (hb : Ev db r M (.d d)) : Ev (dOp dEq da db) r M (.d (.bool true)) := ev_op ha hb fun R P q => ⟨Or.inr ⟨hf, hf⟩, by rw [eqv_of_shaped hf]; exact q⟩
theorem ev_eqs_same {s : Str} (ha : Ev da r M (.d (.str s))) (hb : Ev db r M (.d (.str s))) : Ev (dOp dEq da db) r M (.d (.bool true)) := ev_op ha hb fun R P q => by rw [dEq_ss, beq_self_eq_true]; exact q
theorem ev_nes_same {s : Str} (ha : Ev da r M (.d (.str s))) (hb : Ev db r M (.d (.str s))) : Ev (dOp dNe da db) r M (.d (.bool false)) := ev_op ha hb fun R P q => by rw [dNe_ss, beq_self_eq_true]; exact q
theorem ev_andV (ha : Ev da r M (.d (.bool true))) (hb : Ev db r M y) : Ev (dAndV da db) r M y := fun R P q => ha _ _ (by
  dsimp only
  rw [if_pos rfl]
  exact hb _ _ q)
theorem ev_reprE {e : Ex} (f : e.fit) (h : Ev dn r M (.d e.d)) : Ev (dApp cRepr2 (dCons dn dNil)) r M (.d (.str (PyData.shown e.d))) := by
  have fine := fit_fine f
  rw [els_d] at fine h ⊢
  exact ev_app1 h fun R P q => ⟨fine.shw, fine.dict, fine.dep, fine.len, q⟩
theorem ev_reprS {l : List Nat} (hl : l.length ≤ 1000000) (hc : sgnOk l) (h : Ev dn r M (.d (.str (strL l)))) : Ev (dApp cRepr2 (dCons dn dNil)) r M (.d (.str (reprText (strL l)))) := ev_app1 h fun R P q => ⟨by
  have := PySem.StrLaws.reprText_len (strL l) (fun c hcc => Nat.lt_of_lt_of_le (hc c hcc) (by decide))
  rw [strL_len] at this
  rw [sizeLine_eq]
  omega, q⟩
theorem ev_read {Z : Ad} {l : List Nat} {e : Ex} (f : e.fit) (rd : readF (strL l) = .ok e.d) (hl : l.length ≤ 100000) (h : Ev dn r M (.d (.str (strL l)))) : Ev (dGho (dCall 1 (sp_read_expression Z) (dCons dn dNil))) r M (.d e.d) := fun R P q => by
  unfold dGho
  refine cons_e h (nil_e ⟨rfl, .d (.str (strL l)), rfl, ?_⟩)
  dsimp only
  refine ⟨by rw [strL_len]; omega, ?_⟩
  rw [if_neg (by rw [strL_len]; omega), rd]
  dsimp only
  refine ⟨fit_strs f, ?_⟩
  rw [if_pos (fit_judged f)]
  exact fun M' hM => ⟨.d e.d, M, ⟨Ext.less hM, Or.inl rfl⟩, q⟩
theorem is_read_h {Z : Ad} {l : List Nat} {e : Ex} (f : e.fit) (rd : readF (strL l) = .ok e.d) (hl : l.length ≤ 100000) (hc : sgnOk l) (ha : Ev da r M (.d (.str (strL l)))) (hb : Ev db r M (.d e.d)) : Ev (dCall 2 (sp_L_is_read Z) (dCons da (dCons db dNil))) r M (.d (.bool true)) :=
  ev_call2 ha hb fun R P q => ⟨l, e, rfl, hl, hc, f, rd, q⟩
end
theorem pure_L_is_read {Z : Ad} (xs : List Xv) (M : MH) (R : DR) (P : PX) (hl : xs.length = 2) (h : sp_L_is_read Z xs M R P) : t_L_is_read Z { nx := fun _ M' => R (.d .none) M', rt := R, ex := P } (startX N_L_is_read xs) M := by
  obtain ⟨l, e, rfl, ll, hc, f, rd, h⟩ := h
  show dSeq _ _ _ [some (.d (.str (strL l))), some (.d e.d), none, none] M
  refine sset (ev_reprS (by omega) hc (ev_var rfl)) (sset (ev_read f rd ll (ev_var rfl)) ?_)
  exact ret_i (ev_andV (ev_eq_same (fit_fine f).shaped (ev_var rfl) (ev_var rfl)) (ev_andV (ev_eqs_same (ev_reprE f (ev_var rfl)) (ev_reprE f (ev_var rfl))) (ev_eqs_same (ev_reprS (by omega) hc (ev_var rfl)) (ev_var rfl)))) h
/-- the written text, read -/
theorem wT_read {e : Ex} (f : e.fit) : readF (strL (e.wT 0)) = .ok e.d := by
  have := read_c0 (loo_c0 f.ok (wT_loo e 0 f.ok)) 0 0
  simpa [bl] using this
theorem wT_short {e : Ex} (f : e.fit) (t : Nat) : (e.wT t).length ≤ 80000 := by
  have := wT_len e t f.ok
  have := f.few
  omega
theorem wT_sgn {e : Ex} (ok : e.ok) (t : Nat) : sgnOk (e.wT t) := loo_sgn ok (wT_loo e t ok)
theorem pure_L_is_right {Z : Ad} (xs : List Xv) (M : MH) (R : DR) (P : PX) (hl : xs.length = 2) (h : sp_L_is_right Z xs M R P) : t_L_is_right Z { nx := fun _ M' => R (.d .none) M', rt := R, ex := P } (startX N_L_is_right xs) M := by
  obtain ⟨p, o, ys, rfl, em, ho, ⟨e, rfl, f⟩, h⟩ := h
  show dSeq _ _ _ [some (.r (.ref p)), some (.d e.d), none, none, none, none] M
  have wl := wT_short f 0
  refine sset (wr_h (k := 30) (t := 0) (fun _ _ _ _ q => q) (ev_var rfl) ev_c f.ok f.deep f.few) ?_
  refine sset (ev_reprE f (ev_var rfl)) ?_
  rw [← mset_id em]
  refine sif (b := false) (evt_or (b := false) (evt (ev_nes_same (ev_call1 (ev_var rfl) fun R P q => Or.inl ⟨e, rfl, f, q⟩) (ev_var rfl))) fun _ => evt_or (b := false) (evt (ev_nes_same (ev_reprE f (ev_var rfl)) (ev_var rfl))) fun _ => evt_not (b := true) (evt (is_read_h f (wT_read f) (by omega) (wT_sgn f.ok 0) (ev_var rfl) (ev_var rfl)))) (fun q => by cases q) fun _ => ?_
  refine sforR1 (n := 3) (k0 := 4) ev_c (by decide) (fun k r M' => ∃ o x4 x5, isHand o ∧ M' = mset M p o ∧ r = [some (.r (.ref p)), some (.d e.d), some (.d (.str (strL (e.wT 0)))), some (.d (.str (PyData.shown e.d))), x4, x5]) ⟨o, none, none, ho, rfl, rfl⟩ ?_ ?_
  · rintro k r M' hk ⟨o1, x4, x5, ho1, rfl, rfl⟩
    refine set_v (op_v (op_v (blanks_h rfl ho1 fun o2 i ho2 hi => ?_)))
    refine loose_h (e := e) (t := 0) (k := 30) (fun _ _ _ _ q => q) rfl (ev_var rfl) ev_c ho2 f.ok f.deep f.few fun o3 s ho3 lo ls => ?_
    have sl : s.length ≤ 80000 := by have := f.few; omega
    rw [dAdd_ss (by rw [strL_len, strL_len, bl_len, sizeLine_eq]; omega), strL_append]
    refine blanks_h rfl ho3 fun o4 j ho4 hj => ?_
    rw [dAdd_ss (by rw [strL_len, strL_len, List.length_append, bl_len, bl_len, sizeLine_eq]; omega), strL_append]
    refine if_i (b := false) (evt_not (b := true) (evt (is_read_h f (read_c0 (loo_c0 f.ok lo) i j) (by rw [List.length_append, List.length_append, bl_len, bl_len]; omega) (sgn_app (sgn_app (sgn_bl i) (loo_sgn f.ok lo)) (sgn_bl j)) (ev_var rfl) (ev_var rfl)))) (fun q => by cases q) fun _ => ?_
    exact ⟨o4, _, _, ho4, rfl, rfl⟩
  · rintro r M' ⟨o1, x4, x5, ho1, rfl, rfl⟩
    exact ret_i (ev_eqs_same (ev_call1 (ev_read f (wT_read f) (by omega) (ev_var rfl)) fun R P q => Or.inl ⟨e, rfl, f, q⟩) (ev_var rfl)) (h o1 (.bool true) ho1 rfl)
end Y
set_option maxHeartbeats 4000000
namespace Y
open PySem PySem.Spec PyProof.Rows L2
theorem size_pos : ∀ e : Ex, e.ok → 1 ≤ e.size
  | .two o a b, ok => by have := size_pos a ok.1; show 1 ≤ a.size + b.size; omega
  | .lone k a, ok => size_pos a ok.2
  | .times l m a, ok => Nat.mul_pos (size_pos a ok.2.2.2) ok.2.1
  | .word _, _ => Nat.le_refl 1
  | .back _, _ => Nat.le_refl 1
  | .any, _ => Nat.le_refl 1
  | .here, _ => Nat.le_refl 1
  | .node _ _, _ => Nat.le_refl 1
theorem nodes_le : ∀ e : Ex, e.ok → e.nodes ≤ e.deep * e.size
  | .two o a b, ok => by
    have ha := nodes_le a ok.1
    have hb := nodes_le b ok.2
    have pa := size_pos a ok.1
    show a.nodes + b.nodes + 1 ≤ (max a.deep b.deep + 1) * (a.size + b.size)
    have h1 : a.deep * a.size ≤ max a.deep b.deep * a.size := Nat.mul_le_mul_right _ (Nat.le_max_left _ _)
    have h2 : b.deep * b.size ≤ max a.deep b.deep * b.size := Nat.mul_le_mul_right _ (Nat.le_max_right _ _)
    have h3 : (max a.deep b.deep + 1) * (a.size + b.size) = max a.deep b.deep * a.size + max a.deep b.deep * b.size + (a.size + b.size) := by rw [Nat.add_mul, Nat.mul_add, Nat.one_mul]
    omega
  | .lone k a, ok => by
    have ha := nodes_le a ok.2
    have pa := size_pos a ok.2
    show a.nodes + 1 ≤ (a.deep + 1) * a.size
    rw [Nat.add_mul, Nat.one_mul]
    omega
  | .times l m a, ok => by
    have ha := nodes_le a ok.2.2.2
    have pa := size_pos a ok.2.2.2
    show a.nodes + 1 ≤ (a.deep + 1) * (a.size * m)
    have h1 : a.size ≤ a.size * m := Nat.le_mul_of_pos_right _ ok.2.1
    have h2 : (a.deep + 1) * a.size ≤ (a.deep + 1) * (a.size * m) := Nat.mul_le_mul_left _ h1
    have h3 : (a.deep + 1) * a.size = a.deep * a.size + a.size := by rw [Nat.add_mul, Nat.one_mul]
    omega
  | .word _, _ => Nat.le_refl 1
  | .back _, _ => Nat.le_refl 1
  | .any, _ => Nat.le_refl 1
  | .here, _ => Nat.le_refl 1
  | .node _ _, _ => Nat.le_refl 1
section
variable {Z : Ad} {p : Addr} {M : MH} {o : MO} {r : DEnv} {R : DR} {P : PX}
/-- an expression is drawn: its room by dn, its depth c + (a draw) -/
theorem exp_h {i0 i1 i2 : Nat} {ws vs : PyData} {dn : DX} {N c mm : Nat} (h0 : r[i0]? = some (some (.r (.ref p)))) (h1 : r[i1]? = some (some (.d ws))) (h2 : r[i2]? = some (some (.d vs))) (hw : goodWords ws) (hv : goodWorths vs)
    (hn : ∀ (Ra : DR), (∀ o' (n : Nat), isHand o' → 1 ≤ n → n ≤ N → Ra (.d (.int (n : Nat))) (mset M p o')) → dn r (mset M p o) Ra P) (hN : N ≤ 1000) (c1 : 1 ≤ c) (m1 : 1 ≤ mm) (cm : c + mm ≤ 9)
    (h : ∀ o' (e : Ex), isHand o' → e.ok → e.deep + 1 ≤ c + mm → e.size ≤ N → R (.d e.d) (mset M p o')) :
    dCall 5 (sp_L_expression Z 8) (dCons (dVar i0) (dCons (dVar i1) (dCons (dVar i2) (dCons dn (dCons (dOp dAdd (dC (.d (.int (c : Nat)))) (dCall 2 (sp_L_draw Z) (dCons (dVar i0) (dCons (dC (.d (.int (mm : Nat)))) dNil)))) dNil))))) r (mset M p o) R P := by
  refine cons_e (ev_var h0) (cons_e (ev_var h1) (cons_e (ev_var h2) (cons_v (hn _ fun o1 n ho1 n0 n1 => cons_v (op_l ev_c (draw_h (mm : Nat) h0 ev_c ho1 (by omega) (by omega) fun o2 m2 ho2 d0 d1 => ?_))))))
  obtain ⟨k2, rfl⟩ := Int.eq_ofNat_of_zero_le d0
  have ek : (c : Int) + (k2 : Int) = ((c + k2 : Nat) : Int) := by omega
  show _ ∧ _
  refine ⟨rfl, p, o2, [.d ws, .d vs, .d (.int (n : Nat)), .d (.int ((c : Int) + (k2 : Int)))], rfl, mset_same, ho2, ⟨ws, vs, n, c + k2, by rw [ek], hw, hv, n0, by omega, by omega, by omega⟩, fun o3 d ho3 hd => ?_⟩
  obtain ⟨e, a', b', n', m', eq, rfl, ok, dp, sz⟩ := hd
  rw [ek] at eq
  injection eq with _ eq
  injection eq with _ eq
  injection eq with en eq
  injection eq with em _
  injection en with en
  injection en with en
  injection em with em
  injection em with em
  rw [mset_mset]
  exact h o3 e ho3 ok (by omega) (by omega)
end
theorem pure_L_great {Z : Ad} (xs : List Xv) (M : MH) (R : DR) (P : PX) (hl : xs.length = 3) (h : sp_L_great Z xs M R P) : t_L_great Z { nx := fun _ M' => R (.d .none) M', rt := R, ex := P } (startX N_L_great xs) M := by
  obtain ⟨p, o, ys, rfl, em, ho, ⟨ws, vs, rfl, hw, hv⟩, h⟩ := h
  show dSeq _ _ _ [some (.r (.ref p)), some (.d ws), some (.d vs), none] M
  rw [← mset_id em]
  refine set_v (exp_h (N := 1) (c := 1) (mm := 3) rfl rfl rfl hw hv (fun Ra q => q o 1 ho (by decide) (by decide)) (by decide) (by decide) (by decide) (by decide) fun o1 e ho1 ok dp sz => ?_)
  have pos := size_pos e ok
  have nl := nodes_le e ok
  have e1 : e.size = 1 := by omega
  rw [e1, Nat.mul_one] at nl
  -- the row
  have row : ∀ (o2 : MO) (a : Ex), isHand o2 → a.ok → a.deep ≤ 3 → a.size = 1 → a.nodes ≤ 3 → dRet (dCall 4 (sp_L_row Z) (dCons (dVar 0) (dCons (dOp dIx (dLst (dCons (dC (.d (.str "then"))) (dCons (dC (.d (.str "or"))) dNil))) (dCall 2 (sp_L_draw Z) (dCons (dVar 0) (dCons (dC (.d (.int 2))) dNil)))) (dCons (dVar 3) (dCons (dOp dAdd (dC (.d (.int 250))) (dCall 2 (sp_L_draw Z) (dCons (dVar 0) (dCons (dC (.d (.int 51))) dNil)))) dNil)))))
      { nx := fun _ M' => R (.d .none) M', rt := R, ex := P } [some (.r (.ref p)), some (.d ws), some (.d vs), some (.d a.d)] (mset M p o2) := by
    intro o2 a ho2 aok ad as an
    unfold dRet
    refine cons_e (ev_var rfl) (cons_v (op_l (ev_lst (ds := [.str "then", .str "or"]) (fun R P q => cons_e ev_c (cons_e ev_c (nil_e q))) (by rw [sizeLine_eq]; show 2 ≤ 16777216; decide)) (draw_h 2 rfl ev_c ho2 (by decide) (by decide) fun o3 m ho3 m0 m1 => ?_)))
    obtain ⟨b, eb⟩ : ∃ b : Bool, atI [PyData.str "then", .str "or"] m = some (.str (if b then "or" else "then")) := by
      have : m = 0 ∨ m = 1 := by omega
      rcases this with rfl | rfl
      · exact ⟨false, rfl⟩
      · exact ⟨true, rfl⟩
    rw [dIx_l eb]
    refine cons_e (ev_var rfl) (cons_v (op_l ev_c (draw_h 51 rfl ev_c ho3 (by decide) (by decide) fun o4 m2 ho4 d0 d1 => ?_)))
    obtain ⟨k2, rfl⟩ := Int.eq_ofNat_of_zero_le d0
    have ek : (250 : Int) + (k2 : Int) = ((250 + k2 : Nat) : Int) := by omega
    show _ ∧ _
    rw [ek]
    refine ⟨rfl, .r (.ref p), b, a, 250 + k2, rfl, aok, by omega, by omega, fun e' ok' dp' sz' nd' => h o4 _ ho4 ⟨e', rfl, ok', by omega, ?_, ?_⟩⟩
    · rw [as, Nat.mul_one] at sz'
      omega
    · have : (250 + k2) * (a.nodes + 1) ≤ 300 * 4 := Nat.mul_le_mul (by omega) (by omega)
      omega
  refine sif_v (draw0 2 rfl ho1 (by decide) (by decide) fun o2 b ho2 => ?_)
  cases b with
  | false =>
    rw [if_neg Bool.false_ne_true]
    exact row o2 e ho2 ok (by omega) e1 (by omega)
  | true =>
    rw [if_pos rfl]
    unfold dSet
    refine tup_v (cons_e ev_c (cons_v (op_l ev_c ?_)))
    refine draw_h 3 rfl (fun R P q => q) ho2 (by decide) (by decide) fun o3 m ho3 m0 m1 => ?_
    obtain ⟨t, et, ht⟩ := lt_signs m0 m1
    refine ⟨str3 rfl, ?_⟩
    rw [et]
    refine cons_v (op_v (draw_h 100000000 rfl ev_p8 ho3 (by decide) (by decide) fun o4 m2 ho4 c0 c1 => ?_))
    refine ev_p18 _ _ ⟨trivial, ?_⟩
    show _ ∧ _
    exact ⟨by rw [sizeLine_eq]; show 3 ≤ 16777216; decide, row o4 (.node t (m2 - 1000000000000000000)) ho4 ⟨ht, by unfold goodWorth; omega⟩ (by show 1 ≤ 3; decide) rfl (by show 1 ≤ 3; decide)⟩
theorem pure_L_tower {Z : Ad} (xs : List Xv) (M : MH) (R : DR) (P : PX) (hl : xs.length = 2) (h : sp_L_tower Z xs M R P) : t_L_tower Z { nx := fun _ M' => R (.d .none) M', rt := R, ex := P } (startX N_L_tower xs) M := by
  obtain ⟨p, o, ys, rfl, em, ho, ⟨e, rfl, ok, at_⟩, h⟩ := h
  show dSeq _ _ _ [some (.r (.ref p)), some (.d e.d), none, none] M
  rw [← mset_id em]
  have d1 := (Ex.atom_deep at_).1
  have d2 := (Ex.atom_deep at_).2
  have d3 := atom_nodes at_
  refine sforR1 (n := 29) (k0 := 2) ev_c (by decide) (fun k r M' => ∃ (o : MO) (e : Ex) (x2 x3 : Option Xv), isHand o ∧ M' = mset M p o ∧ r = [some (.r (.ref p)), some (.d e.d), x2, x3] ∧ e.ok ∧ e.deep ≤ 1 + k ∧ e.size ≤ 1 + k ∧ e.nodes ≤ 1 + 2 * k) ⟨o, e, none, none, ho, rfl, rfl, ok, by omega, by omega, by omega⟩ ?_ ?_
  · rintro k r M' hk ⟨o1, a, x2, x3, ho1, rfl, rfl, aok, ad, as, an⟩
    refine set_v (draw_h 7 rfl ev_c ho1 (by decide) (by decide) fun o2 m ho2 m0 m1 => ?_)
    have s2 : 2 ≤ sizeLine := by rw [sizeLine_eq]; decide
    have s3 : 3 ≤ sizeLine := by rw [sizeLine_eq]; decide
    have s4 : 4 ≤ sizeLine := by rw [sizeLine_eq]; decide
    refine if_i (evt (ev_lt (ev_var rfl) ev_c)) (fun q => ?_) fun q => ?_
    · have q := of_decide_eq_true q
      obtain ⟨j, hj, ej⟩ : ∃ j : Nat, j ≤ 2 ∧ atI [PyData.str "star", .str "plus", .str "maybe"] m = some (.str (loneW j)) := by
        have : m = 0 ∨ m = 1 ∨ m = 2 := by omega
        rcases this with rfl | rfl | rfl
        · exact ⟨0, by decide, rfl⟩
        · exact ⟨1, by decide, rfl⟩
        · exact ⟨2, by decide, rfl⟩
      refine set_i (ev_pair (x := .str (loneW j)) (y := a.d) (ev_ixl (ds := [.str "star", .str "plus", .str "maybe"]) (ev_lst (ds := [.str "star", .str "plus", .str "maybe"]) (fun R P q => cons_e ev_c (cons_e ev_c (cons_e ev_c (nil_e q)))) s3) (ev_var rfl) ej) (ev_var rfl)) ?_
      exact ⟨o2, .lone j a, _, _, ho2, rfl, rfl, ⟨hj, aok⟩, by show a.deep + 1 ≤ _; omega, by show a.size ≤ _; omega, by show a.nodes + 1 ≤ _; omega⟩
    have q := of_decide_eq_false q
    refine if_i (evt (ev_eqi (ev_var rfl) ev_c)) (fun q => ?_) fun q => ?_
    · unfold dSet
      refine tup_v (cons_e ev_c (cons_v (draw_h 2 rfl ev_c ho2 (by decide) (by decide) fun o3 l ho3 l0 l1 => ?_)))
      obtain ⟨l', rfl⟩ := Int.eq_ofNat_of_zero_le l0
      refine cons_e ev_c (cons_e (ev_var rfl) (nil_e ⟨s4, ?_⟩))
      exact ⟨o3, .times l' 1 a, _, _, ho3, rfl, rfl, ⟨by omega, by decide, by decide, aok⟩, by show a.deep + 1 ≤ _; omega, by show a.size * 1 ≤ _; omega, by show a.nodes + 1 ≤ _; omega⟩
    refine if_i (evt (ev_eqi (ev_var rfl) ev_c)) (fun q => ?_) fun q2 => ?_
    · refine set_i (ev_tup (ds := [.str "then", .tuple [.str "any"], a.d]) (fun R P q => cons_e ev_c (cons_e (ev_single ev_c) (cons_e (ev_var rfl) (nil_e q)))) s3) ?_
      exact ⟨o2, .two false .any a, _, _, ho2, rfl, rfl, ⟨trivial, aok⟩, by have : Ex.any.deep = 1 := rfl; show max Ex.any.deep a.deep + 1 ≤ _; omega, by show 1 + a.size ≤ _; omega, by show 1 + a.nodes + 1 ≤ _; omega⟩
    · have q : m ≠ 3 := by simpa using q
      have q2 : m ≠ 4 := by simpa using q2
      obtain ⟨b, eb⟩ : ∃ b : Bool, atI [PyData.str "then", .str "or"] (m - 5) = some (.str (if b then "or" else "then")) := by
        have : m - 5 = 0 ∨ m - 5 = 1 := by omega
        rcases this with z | z
        · rw [z]; exact ⟨false, rfl⟩
        · rw [z]; exact ⟨true, rfl⟩
      refine set_i (ev_tup (ds := [.str (if b then "or" else "then"), a.d, .tuple [.str "here"]]) (fun R P q => cons_e (ev_ixl (ds := [.str "then", .str "or"]) (ev_lst (ds := [.str "then", .str "or"]) (fun R P q => cons_e ev_c (cons_e ev_c (nil_e q))) s2) (ev_sub (ev_var rfl) ev_c) eb) (cons_e (ev_var rfl) (cons_e (ev_single ev_c) (nil_e q)))) s3) ?_
      exact ⟨o2, .two b a .here, _, _, ho2, rfl, rfl, ⟨aok, trivial⟩, by have : Ex.here.deep = 1 := rfl; show max a.deep Ex.here.deep + 1 ≤ _; omega, by show a.size + 1 ≤ _; omega, by show a.nodes + 1 + 1 ≤ _; omega⟩
  · rintro r M' ⟨o1, a, x2, x3, ho1, rfl, rfl, aok, ad, as, an⟩
    exact ret_i (ev_var rfl) (h o1 _ ho1 ⟨a, rfl, aok, by omega, by omega, by omega⟩)
end Y
set_option maxHeartbeats 4000000
namespace Y
open PySem PySem.Spec PyProof.Rows L2
abbrev ls_0 (K : PySem.W.Frag) (Z : Ad) : DS := (dSet 1 (dCall 1 (sp_L_hand Z) (dCons (dVar 0) dNil)))
abbrev ls_1 (K : PySem.W.Frag) (Z : Ad) : DS := (dPar 2 3 (dCons (dCall 1 (sp_L_words Z) (dCons (dVar 1) dNil)) (dCons (dCall 1 (sp_L_worths Z) (dCons (dVar 1) dNil)) dNil)))
abbrev ls_2 (K : PySem.W.Frag) (Z : Ad) : DS := (dSet 4 (dCall 2 (sp_L_draw Z) (dCons (dVar 1) (dCons (dC (.d (.int 12))) dNil))))
abbrev ls_3 (K : PySem.W.Frag) (Z : Ad) : DS := (dIfS (dAnd (dB (dOp dEq (dVar 4) (dC (.d (.int 0))))) (dNot (dB (dCall 2 (sp_L_is_right Z) (dCons (dVar 1) (dCons (dCall 3 (sp_L_great Z) (dCons (dVar 1) (dCons (dVar 2) (dCons (dVar 3) dNil)))) dNil)))))) (dRet (dC (.d (.bool false))))
    dNext)
abbrev ls_4 (K : PySem.W.Frag) (Z : Ad) : DS := (dIfS (dAnd (dB (dOp dEq (dVar 4) (dC (.d (.int 1))))) (dNot (dB (dCall 2 (sp_L_is_right Z) (dCons (dVar 1) (dCons (dCall 2 (sp_L_tower Z) (dCons (dVar 1) (dCons (dCall 3 (sp_L_atom Z) (dCons (dVar 1) (dCons (dVar 2) (dCons (dVar 3) dNil)))) dNil))) dNil)))))) (dRet (dC (.d (.bool false))))
    dNext)
abbrev ls_5 (K : PySem.W.Frag) (Z : Ad) : DS := (dForR1 (dC (.d (.int 4))) 5
    (dSeq (dSet 6 (dCall 5 (sp_L_expression Z 8) (dCons (dVar 1) (dCons (dVar 2) (dCons (dVar 3) (dCons (dOp dIx (dLst (dCons (dC (.d (.int 1))) (dCons (dC (.d (.int 2))) (dCons (dC (.d (.int 4))) (dCons (dC (.d (.int 8))) (dCons (dC (.d (.int 30))) dNil)))))) (dCall 2 (sp_L_draw Z) (dCons (dVar 1) (dCons (dC (.d (.int 5))) dNil)))) (dCons (dOp dAdd (dC (.d (.int 2))) (dCall 2 (sp_L_draw Z) (dCons (dVar 1) (dCons (dC (.d (.int 7))) dNil)))) dNil)))))))
    (dIfS (dNot (dB (dCall 2 (sp_L_is_right Z) (dCons (dVar 1) (dCons (dVar 6) dNil))))) (dRet (dC (.d (.bool false))))
    dNext)))
abbrev ls_6 (K : PySem.W.Frag) (Z : Ad) : DS := (dSet 7 (dOp dIx (dLst (dCons (dC (.d (.int 1))) (dCons (dC (.d (.int 40))) (dCons (dC (.d (.int 1500))) dNil)))) (dCall 2 (sp_L_draw Z) (dCons (dVar 1) (dCons (dC (.d (.int 3))) dNil)))))
abbrev ls_7 (K : PySem.W.Frag) (Z : Ad) : DS := (dSet 8 (dOp dAdd (dOp dAdd (dOp dMul (dC (.d (.str "("))) (dVar 7)) (dCall 2 (sp_L_written Z 30) (dCons (dVar 6) (dCons (dC (.d (.int 0))) dNil)))) (dOp dMul (dC (.d (.str ")"))) (dVar 7))))
abbrev ls_8 (K : PySem.W.Frag) (Z : Ad) : DS := (dIfS (dOr (dNot (dB (dCall 2 (sp_L_is_read Z) (dCons (dVar 8) (dCons (dVar 6) dNil))))) (dNot (dB (dCall 2 (sp_L_is_read Z) (dCons (dOp dAdd (dOp dAdd (dOp dMul (dC (.d (.str " "))) (dC (.d (.int 90000)))) (dCall 1 (sp_L_lone_text Z) (dCons (dTup (dCons (dC (.d (.str "any"))) dNil)) dNil))) (dOp dMul (dC (.d (.str " "))) (dC (.d (.int 9999))))) (dCons (dTup (dCons (dC (.d (.str "any"))) dNil)) dNil)))))) (dRet (dC (.d (.bool false))))
    dNext)
abbrev ls_9 (K : PySem.W.Frag) (Z : Ad) : DS := (dSet 9 (dCall 2 (sp_L_no_expression Z) (dCons (dVar 1) (dCons (dVar 6) dNil))))
abbrev ls_10 (K : PySem.W.Frag) (Z : Ad) : DS := (dIfS (dB (dOp dNe (dLam Z.kt_law "law.<locals>.<lambda>" N_L_refusal (fun act => t_L_refusal K act Z) (dCall 1 (sp_expression_text Z) (dCons (dVar 9) dNil))) (dC (.d (.str "expression"))))) (dRet (dC (.d (.bool false))))
    dNext)
abbrev ls_11 (K : PySem.W.Frag) (Z : Ad) : DS := (dSet 10 (dCall 2 (sp_L_letters Z) (dCons (dVar 1) (dCons (dC (.d (.int 4))) dNil))))
abbrev ls_12 (K : PySem.W.Frag) (Z : Ad) : DS := (dRet (dCall 2 (sp_L_is_read Z) (dCons (dOp dAdd (dOp dAdd (dSl (dVar 10) dNoP (dP (dC (.d (.int 2))))) (dC (.d (.str " ")))) (dSl (dVar 10) (dP (dC (.d (.int 2)))) dNoP)) (dCons (dTup (dCons (dC (.d (.str "then"))) (dCons (dTup (dCons (dC (.d (.str "word"))) (dCons (dSl (dVar 10) dNoP (dP (dC (.d (.int 2))))) dNil))) (dCons (dTup (dCons (dC (.d (.str "word"))) (dCons (dSl (dVar 10) (dP (dC (.d (.int 2)))) dNoP) dNil))) dNil)))) dNil))))
abbrev lr_12 (K : PySem.W.Frag) (Z : Ad) : DS := ls_12 K Z
abbrev lr_11 (K : PySem.W.Frag) (Z : Ad) : DS := dSeq (ls_11 K Z) (lr_12 K Z)
abbrev lr_10 (K : PySem.W.Frag) (Z : Ad) : DS := dSeq (ls_10 K Z) (lr_11 K Z)
abbrev lr_9 (K : PySem.W.Frag) (Z : Ad) : DS := dSeq (ls_9 K Z) (lr_10 K Z)
abbrev lr_8 (K : PySem.W.Frag) (Z : Ad) : DS := dSeq (ls_8 K Z) (lr_9 K Z)
abbrev lr_7 (K : PySem.W.Frag) (Z : Ad) : DS := dSeq (ls_7 K Z) (lr_8 K Z)
abbrev lr_6 (K : PySem.W.Frag) (Z : Ad) : DS := dSeq (ls_6 K Z) (lr_7 K Z)
abbrev lr_5 (K : PySem.W.Frag) (Z : Ad) : DS := dSeq (ls_5 K Z) (lr_6 K Z)
abbrev lr_4 (K : PySem.W.Frag) (Z : Ad) : DS := dSeq (ls_4 K Z) (lr_5 K Z)
abbrev lr_3 (K : PySem.W.Frag) (Z : Ad) : DS := dSeq (ls_3 K Z) (lr_4 K Z)
abbrev lr_2 (K : PySem.W.Frag) (Z : Ad) : DS := dSeq (ls_2 K Z) (lr_3 K Z)
abbrev lr_1 (K : PySem.W.Frag) (Z : Ad) : DS := dSeq (ls_1 K Z) (lr_2 K Z)
abbrev lr_0 (K : PySem.W.Frag) (Z : Ad) : DS := dSeq (ls_0 K Z) (lr_1 K Z)
theorem law_parts (K : PySem.W.Frag) (Z : Ad) : t_law K Z = lr_0 K Z := rfl
abbrev qLam : Str := "law.<locals>.<lambda>"
/-- the frame of the law -/
abbrev lawE (ns : List Int) (p : Addr) (ws vs : PyData) (x4 x5 x6 x7 x8 x9 x10 : Option Xv) : DEnv := [some (.d (.list (ns.map .int))), some (.r (.ref p)), some (.d ws), some (.d vs), x4, x5, x6, x7, x8, x9, x10]
section
variable {Z : Ad} {p : Addr} {M : MH} {o : MO} {r : DEnv} {R : Bool → MH → Prop} {P : PX} {dn : DX}
theorem right_end {R2 : DR} {e : Ex} {o1 : MO} (f : e.fit) (ho : isHand o1) (h : ∀ o', isHand o' → R2 (.d (.bool true)) (mset M p o')) : [Xv.r (.ref p), .d e.d].length = 2 ∧ sp_L_is_right Z [.r (.ref p), .d e.d] (mset M p o1) R2 P := by
  refine ⟨rfl, p, o1, [.d e.d], rfl, mset_same, ho, ⟨e, rfl, f⟩, fun o' d ho' hd => ?_⟩
  subst hd
  rw [mset_mset]
  exact h o' ho'
end
theorem ev_sl_lo {da db : DX} {r : DEnv} {M : MH} {s : Str} {j : Int} (ha : Ev da r M (.d (.str s))) (hb : Ev db r M (.d (.int j))) (hl : s.length ≤ sizeLine) : Ev (dSl da dNoP (dP db)) r M (.d (.str (cutS s none (some j)))) := fun R P q => ha _ _ (hb _ _ ⟨hl, q⟩)
theorem ev_sl_hi {da db : DX} {r : DEnv} {M : MH} {s : Str} {i : Int} (ha : Ev da r M (.d (.str s))) (hb : Ev db r M (.d (.int i))) (hl : s.length ≤ sizeLine) : Ev (dSl da (dP db) dNoP) r M (.d (.str (cutS s (some i) none))) := fun R P q => ha _ _ (hb _ _ ⟨hl, q⟩)
theorem four {s : Str} (hl : s.length = 4) (ha : allLet s = true) : ∃ a b c d, s = strL [a, b, c, d] ∧ letterC a = true ∧ letterC b = true ∧ letterC c = true ∧ letterC d = true := by
  obtain ⟨⟨l⟩⟩ := s
  match l, hl with
  | [a, b, c, d], _ =>
    have h : ([a, b, c, d].all letterC) = true := ha
    simp only [List.all_cons, List.all_nil, Bool.and_true, Bool.and_eq_true] at h
    exact ⟨a, b, c, d, rfl, h.1, h.2.1, h.2.2.1, h.2.2.2⟩
theorem cut4a (a b c d : Nat) : cutS (strL [a, b, c, d]) none (some 2) = strL [a, b] := rfl
theorem cut4b (a b c d : Nat) : cutS (strL [a, b, c, d]) (some 2) none = strL [c, d] := rfl
section
variable {K : PySem.W.Frag} {mg : Str → Option Value} {w : World} {Z : Ad} {D : DEnds} {ns : List Int} {p : Addr} {ws vs : PyData} {x4 x5 x6 x7 x8 x9 x10 : Option Xv} {M : MH} {o : MO}
theorem law_11 (ho : isHand o) (em : M p = some o) (h : ∀ M, D.rt (.d (.bool true)) M) : lr_11 K Z D (lawE ns p ws vs x4 x5 x6 x7 x8 x9 x10) M := by
  rw [← mset_id em]
  refine set_v (hand_i rfl [.d (.int 4)] (fun R P q => cons_e (ev_var rfl) (cons_e ev_c (nil_e q))) rfl ho ⟨4, rfl, by decide⟩ fun o1 d ho1 hd => ?_)
  obtain ⟨n, s, eq, rfl, hl, ha⟩ := hd
  have n4 : n = 4 := by
    injection eq with eq _
    injection eq with eq
    injection eq with eq
    omega
  rw [n4] at hl
  obtain ⟨a, b, c, d, rfl, la, lb, lc, ld⟩ := four hl ha
  have ok1 : goodWord (strL [a, b]) := word_of la lb
  have ok2 : goodWord (strL [c, d]) := word_of lc ld
  have f : (Ex.two false (.word (strL [a, b])) (.word (strL [c, d]))).fit := ⟨⟨ok1, ok2⟩, by show 2 ≤ 30; decide, by show 2 ≤ 300; decide, by show 3 ≤ 2000; decide⟩
  have s4 : (strL [a, b, c, d]).length ≤ sizeLine := by rw [sizeLine_eq, strL_len]; show 4 ≤ 16777216; decide
  have s1 : ∀ (r : DEnv) (M : MH), r[10]? = some (some (.d (.str (strL [a, b, c, d])))) → Ev (dSl (dVar 10) dNoP (dP (dC (.d (.int 2))))) r M (.d (.str (strL [a, b]))) := fun r M q => ev_sl_lo (ev_var q) ev_c s4
  have s2 : ∀ (r : DEnv) (M : MH), r[10]? = some (some (.d (.str (strL [a, b, c, d])))) → Ev (dSl (dVar 10) (dP (dC (.d (.int 2)))) dNoP) r M (.d (.str (strL [c, d]))) := fun r M q => ev_sl_hi (ev_var q) ev_c s4
  refine ret_i (is_read_h f (wT_read f) (by show 5 ≤ 100000; decide) (wT_sgn f.ok 0) (ev_adl (a := [a, b] ++ [32]) (b := [c, d]) (ev_adl (s1 _ _ rfl) (ev_cl (by decide +kernel)) (by show 3 ≤ 1000000; decide)) (s2 _ _ rfl) (by show 5 ≤ 1000000; decide)) ?_) (h _)
  refine ev_tup (ds := [.str "then", .tuple [.str "word", .str (strL [a, b])], .tuple [.str "word", .str (strL [c, d])]]) (fun R P q => cons_e ev_c (cons_e (ev_pair ev_c (s1 _ _ rfl)) (cons_e (ev_pair ev_c (s2 _ _ rfl)) (nil_e q)))) (by rw [sizeLine_eq]; show 3 ≤ 16777216; decide)
/-- what is no expression is refused -/
theorem law_10 (z : Fx K mg Z w) {x d} (hx : x9 = some x) (ax : AsD M x d) (nd : noEx d) (ho : isHand o) (em : M p = some o) (ht : M Z.kt_law = some (.tbl qLam)) (h : ∀ M, D.rt (.d (.bool true)) M)
    (h9 : (liftB (dropB (lawE ns p ws vs x4 x5 x6 x7 x8 x9 x10)))[9]? = some (some x)) : lr_10 K Z D (lawE ns p ws vs x4 x5 x6 x7 x8 x9 x10) M := by
  refine sif (b := false) (fun R P q => ?_) (fun q => by cases q) fun _ => law_11 ho em h
  unfold dB
  refine op_v ?_
  refine ⟨ht, fun f c σ hf hc => refusal_no z h9 ax nd ?_⟩
  refine (ev_c : Ev (dC (.d (.str "expression"))) _ _ _) _ _ ?_
  rw [dNe_ss, beq_self_eq_true]
  exact q
theorem law_9 (z : Fx K mg Z w) {e : Ex} (f : e.fit) (hx : x6 = some (.d e.d)) (ho : isHand o) (em : M p = some o) (hp : p ≠ Z.kt_law) (ht : M Z.kt_law = some (.tbl qLam)) (h : ∀ M, D.rt (.d (.bool true)) M)
    {v4 v5 v7 v8 : PyData} : lr_9 K Z D (lawE ns p ws vs (some (.d v4)) (some (.d v5)) x6 (some (.d v7)) (some (.d v8)) none none) M := by
  subst hx
  refine set_v ?_
  refine cons_e (ev_var rfl) (cons_e (ev_var rfl) (nil_e ⟨rfl, p, o, e, rfl, em, ho, f.ok, fun o' ho' => ⟨fun d nd => ?_, fun n hn => ?_⟩⟩))
  · exact law_10 z (x := .d d) rfl (Or.inl rfl) nd ho' mset_same (by rw [mset_ne (Ne.symm hp)]; exact ht) h rfl
  · have np : p ≠ n := fun q => by rw [q, hn] at em; cases em
    have nt : Z.kt_law ≠ n := fun q => by rw [q, hn] at ht; cases ht
    exact law_10 z (x := .r (.ref n)) rfl (Or.inr ⟨rfl, n, rfl, mset_same⟩) ⟨rfl, rfl⟩ ho' (by rw [mset_ne np]; exact mset_same) (by rw [mset_ne nt, mset_ne (Ne.symm hp)]; exact ht) h rfl
theorem any_fit : Ex.any.fit := ⟨trivial, by show 1 ≤ 30; decide, by show 1 ≤ 300; decide, by show 1 ≤ 2000; decide⟩
theorem any_d {r : DEnv} {M : MH} : Ev (dTup (dCons (dC (.d (.str "any"))) dNil)) r M (.d Ex.any.d) := ev_single ev_c
theorem law_8 (z : Fx K mg Z w) {e : Ex} (f : e.fit) (ho : isHand o) (em : M p = some o) (hp : p ≠ Z.kt_law) (ht : M Z.kt_law = some (.tbl qLam)) (h : ∀ M, D.rt (.d (.bool true)) M)
    {v4 v5 v7 : PyData} {m : Nat} (hm : m ≤ 1500) : lr_8 K Z D (lawE ns p ws vs (some (.d v4)) (some (.d v5)) (some (.d e.d)) (some (.d v7)) (some (.d (.str (strL (wideT m (e.wT 0)))))) none none) M := by
  have wl := wT_short f 0
  have c0 := loo_c0 f.ok (wT_loo e 0 f.ok)
  have rd : readF (strL (wideT m (e.wT 0))) = .ok e.d := by
    have := read_c0 (wide_c0 c0 m) 0 0
    simpa [bl] using this
  have ll : (wideT m (e.wT 0)).length ≤ 100000 := by
    unfold wideT
    rw [List.length_append, List.length_append, List.length_replicate, List.length_replicate]
    omega
  have sg : sgnOk (wideT m (e.wT 0)) := sgn_app (sgn_app (sgn_rep (by decide)) (wT_sgn f.ok 0)) (sgn_rep (by decide))
  have c1 : C0 Ex.any [46] := loo_c0 (e := .any) trivial (.bare trivial (.atom (e := .any) trivial))
  have rd1 := read_c0 c1 90000 9999
  have l1 : (bl 90000 ++ [46] ++ bl 9999).length ≤ 100000 := by
    rw [List.length_append, List.length_append, bl_len, bl_len]
    show 90000 + 1 + 9999 ≤ 100000
    decide
  refine sif (b := false) (evt_or (b := false) (c := false) (evt_not (b := true) (evt (is_read_h f rd ll sg (ev_var rfl) (ev_var rfl)))) fun _ => evt_not (b := true) (evt (is_read_h any_fit rd1 l1 (sgn_app (sgn_app (sgn_bl _) (sgn_cons (by decide) sgn_nil)) (sgn_bl _)) ?_ any_d))) (fun q => by cases q) fun _ => ?_
  · refine ev_adl (ev_adl (ev_rep (n := 90000) (ev_cl (by decide +kernel)) ev_c (by decide)) (lone_h (e := .any) any_d trivial trivial) ?_) (ev_rep (n := 9999) (ev_cl (by decide +kernel)) ev_c (by decide)) ?_
    · rw [bl_len]
      show 90000 + 1 ≤ 1000000
      decide
    · rw [List.length_append, bl_len, bl_len]
      show 90000 + 1 + 9999 ≤ 1000000
      decide
  · exact law_9 z f rfl ho em hp ht h
theorem law_7 (z : Fx K mg Z w) {e : Ex} (f : e.fit) (ho : isHand o) (em : M p = some o) (hp : p ≠ Z.kt_law) (ht : M Z.kt_law = some (.tbl qLam)) (h : ∀ M, D.rt (.d (.bool true)) M)
    {v4 v5 : PyData} {m : Nat} (hm : m ≤ 1500) : lr_7 K Z D (lawE ns p ws vs (some (.d v4)) (some (.d v5)) (some (.d e.d)) (some (.d (.int (m : Nat)))) none none none) M := by
  have wl := wT_short f 0
  refine sset (x := .d (.str (strL (wideT m (e.wT 0))))) ?_ (law_8 z f ho em hp ht h hm)
  refine ev_adl (ev_adl (ev_rep (n := m) (ev_cl (by decide +kernel)) (ev_var rfl) (by omega)) (wr_h (k := 30) (t := 0) (fun _ _ _ _ q => q) (ev_var rfl) ev_c f.ok f.deep f.few) ?_) (ev_rep (n := m) (ev_cl (by decide +kernel)) (ev_var rfl) (by omega)) ?_
  · rw [List.length_replicate]
    omega
  · rw [List.length_append, List.length_replicate, List.length_replicate]
    omega
theorem law_6 (z : Fx K mg Z w) {e : Ex} (f : e.fit) (ho : isHand o) (em : M p = some o) (hp : p ≠ Z.kt_law) (ht : M Z.kt_law = some (.tbl qLam)) (h : ∀ M, D.rt (.d (.bool true)) M)
    {v4 v5 : PyData} : lr_6 K Z D (lawE ns p ws vs (some (.d v4)) (some (.d v5)) (some (.d e.d)) none none none none) M := by
  rw [← mset_id em]
  refine set_v (op_l (ev_lst (ds := [.int 1, .int 40, .int 1500]) (fun R P q => cons_e ev_c (cons_e ev_c (cons_e ev_c (nil_e q)))) (by rw [sizeLine_eq]; show 3 ≤ 16777216; decide)) (draw_h 3 rfl ev_c ho (by decide) (by decide) fun o1 k ho1 k0 k1 => ?_))
  obtain ⟨m, hm, em'⟩ : ∃ m : Nat, m ≤ 1500 ∧ atI [PyData.int 1, .int 40, .int 1500] k = some (.int (m : Nat)) := by
    have : k = 0 ∨ k = 1 ∨ k = 2 := by omega
    rcases this with rfl | rfl | rfl
    · exact ⟨1, by decide, rfl⟩
    · exact ⟨40, by decide, rfl⟩
    · exact ⟨1500, by decide, rfl⟩
  rw [dIx_l em']
  exact law_7 z f ho1 mset_same hp (by rw [mset_ne (Ne.symm hp)]; exact ht) h hm
/-- four expressions -/
theorem law_5 (z : Fx K mg Z w) (hw : goodWords ws) (hv : goodWorths vs) (ho : isHand o) (em : M p = some o) (hp : p ≠ Z.kt_law) (ht : M Z.kt_law = some (.tbl qLam)) (h : ∀ M, D.rt (.d (.bool true)) M)
    {v4 : PyData} : lr_5 K Z D (lawE ns p ws vs (some (.d v4)) none none none none none none) M := by
  rw [← mset_id em]
  refine sforR1 (n := 4) (k0 := 5) ev_c (by decide) (fun k r M' => ∃ (o : MO) (x5 x6 : Option Xv), isHand o ∧ M' = mset M p o ∧ r = lawE ns p ws vs (some (.d v4)) x5 x6 none none none none ∧ (k = 0 ∨ ∃ (v5 : PyData) (e : Ex), x5 = some (.d v5) ∧ e.fit ∧ x6 = some (.d e.d))) ⟨o, none, none, ho, rfl, rfl, Or.inl rfl⟩ ?_ ?_
  · rintro k r M' hk ⟨o1, x5, x6, ho1, rfl, rfl, _⟩
    refine set_v (exp_h (i0 := 1) (i1 := 2) (i2 := 3) (N := 30) (c := 2) (mm := 7) rfl rfl rfl hw hv (fun Ra q => ?_) (by decide) (by decide) (by decide) (by decide) fun o2 e ho2 ok dp sz => ?_)
    · refine op_l (ev_lst (ds := [.int 1, .int 2, .int 4, .int 8, .int 30]) (fun R P q => cons_e ev_c (cons_e ev_c (cons_e ev_c (cons_e ev_c (cons_e ev_c (nil_e q)))))) (by rw [sizeLine_eq]; show 5 ≤ 16777216; decide)) (draw_h 5 rfl ev_c ho1 (by decide) (by decide) fun o3 m ho3 m0 m1 => ?_)
      obtain ⟨n, n1, n2, en⟩ : ∃ n : Nat, 1 ≤ n ∧ n ≤ 30 ∧ atI [PyData.int 1, .int 2, .int 4, .int 8, .int 30] m = some (.int (n : Nat)) := by
        have : m = 0 ∨ m = 1 ∨ m = 2 ∨ m = 3 ∨ m = 4 := by omega
        rcases this with rfl | rfl | rfl | rfl | rfl
        · exact ⟨1, by decide, by decide, rfl⟩
        · exact ⟨2, by decide, by decide, rfl⟩
        · exact ⟨4, by decide, by decide, rfl⟩
        · exact ⟨8, by decide, by decide, rfl⟩
        · exact ⟨30, by decide, by decide, rfl⟩
      rw [dIx_l en]
      exact q o3 n ho3 n1 n2
    · have nl := nodes_le e ok
      have nl2 : e.deep * e.size ≤ 8 * 30 := Nat.mul_le_mul (by omega) sz
      have f : e.fit := ⟨ok, by omega, by omega, by omega⟩
      show dIfS _ _ _ _ _ _
      unfold dIfS dNot dB
      refine cons_e (ev_var rfl) (cons_e (ev_var rfl) (nil_e (right_end f ho2 fun o3 ho3 => ?_)))
      exact ⟨o3, _, _, ho3, rfl, rfl, Or.inr ⟨_, e, rfl, f, rfl⟩⟩
  · rintro r M' ⟨o1, x5, x6, ho1, rfl, rfl, hx⟩
    rcases hx with hx | ⟨v5, e, rfl, f, rfl⟩
    · cases hx
    · exact law_6 z f ho1 mset_same hp (by rw [mset_ne (Ne.symm hp)]; exact ht) h
/-- a tower, now and then -/
theorem law_4 (z : Fx K mg Z w) (hw : goodWords ws) (hv : goodWorths vs) (ho : isHand o) (em : M p = some o) (hp : p ≠ Z.kt_law) (ht : M Z.kt_law = some (.tbl qLam)) (h : ∀ M, D.rt (.d (.bool true)) M)
    {k : Int} : lr_4 K Z D (lawE ns p ws vs (some (.d (.int k))) none none none none none none) M := by
  rw [← mset_id em]
  have go : ∀ o', isHand o' → lr_5 K Z D (lawE ns p ws vs (some (.d (.int k))) none none none none none none) (mset M p o') := fun o' ho' => law_5 z hw hv ho' mset_same hp (by rw [mset_ne (Ne.symm hp)]; exact ht) h
  refine sif_v ?_
  unfold dAnd
  refine (evt (ev_eqi (ev_var rfl) ev_c) : EvT _ _ _ (k == 1)) _ _ ?_
  by_cases q : k = 1
  · rw [if_pos (by rw [q]; rfl)]
    unfold dNot dB
    refine cons_e (ev_var rfl) (cons_v (cons_e (ev_var rfl) (cons_v ?_)))
    refine hand_i rfl [.d ws, .d vs] (fun R P q => cons_e (ev_var rfl) (cons_e (ev_var rfl) (cons_e (ev_var rfl) (nil_e q)))) rfl ho ⟨ws, vs, rfl, hw, hv⟩ fun o1 d ho1 hd => ?_
    obtain ⟨a, rfl, aok, at_⟩ := hd
    show _ ∧ _
    refine ⟨rfl, p, o1, [.d a.d], rfl, mset_same, ho1, ⟨a, rfl, aok, at_⟩, fun o2 d ho2 hd => ?_⟩
    obtain ⟨e, rfl, f⟩ := hd
    rw [mset_mset]
    refine nil_e (right_end f ho2 fun o3 ho3 => ?_)
    exact go o3 ho3
  · rw [if_neg (by simpa using q)]
    dsimp only
    rw [if_neg Bool.false_ne_true]
    exact go o ho
theorem law_3 (z : Fx K mg Z w) (hw : goodWords ws) (hv : goodWorths vs) (ho : isHand o) (em : M p = some o) (hp : p ≠ Z.kt_law) (ht : M Z.kt_law = some (.tbl qLam)) (h : ∀ M, D.rt (.d (.bool true)) M)
    {k : Int} : lr_3 K Z D (lawE ns p ws vs (some (.d (.int k))) none none none none none none) M := by
  rw [← mset_id em]
  have go : ∀ o', isHand o' → lr_4 K Z D (lawE ns p ws vs (some (.d (.int k))) none none none none none none) (mset M p o') := fun o' ho' => law_4 z hw hv ho' mset_same hp (by rw [mset_ne (Ne.symm hp)]; exact ht) h
  refine sif_v ?_
  unfold dAnd
  refine (evt (ev_eqi (ev_var rfl) ev_c) : EvT _ _ _ (k == 0)) _ _ ?_
  by_cases q : k = 0
  · rw [if_pos (by rw [q]; rfl)]
    unfold dNot dB
    refine cons_e (ev_var rfl) (cons_v ?_)
    refine hand_i rfl [.d ws, .d vs] (fun R P q => cons_e (ev_var rfl) (cons_e (ev_var rfl) (cons_e (ev_var rfl) (nil_e q)))) rfl ho ⟨ws, vs, rfl, hw, hv⟩ fun o1 d ho1 hd => ?_
    obtain ⟨e, rfl, f⟩ := hd
    refine nil_e (right_end f ho1 fun o3 ho3 => ?_)
    exact go o3 ho3
  · rw [if_neg (by simpa using q)]
    dsimp only
    rw [if_neg Bool.false_ne_true]
    exact go o ho
end
theorem hand0 {Z : Ad} {p : Addr} {M : MH} {o : MO} {r : DEnv} {R : DR} {P : PX} {spx : SpX} {pre : List Xv → Prop} {res : List Xv → PyData → Prop} {i : Nat} (hs : spx = handSp pre res) (hv : r[i]? = some (some (.r (.ref p)))) (ho : isHand o) (hpre : pre []) (h : ∀ o' d, isHand o' → res [] d → R (.d d) (mset M p o')) :
    dCall 1 spx (dCons (dVar i) dNil) r (mset M p o) R P := hand_i hs [] (fun R P q => cons_e (ev_var hv) (nil_e q)) rfl ho hpre h
theorem par_v {da db : DX} {n m : Nat} {te : DS} {D : DEnds} {r : DEnv} {M : MH} (h : da r M (fun x M1 => db r M1 (fun y M2 => te D ((r.set n (some x)).set m (some y)) M2) D.ex) D.ex) : dSeq (dPar n m (dCons da (dCons db dNil))) te D r M := h
theorem pure_law {K : PySem.W.Frag} {mg : Str → Option Value} {w : World} {Z : Ad} (z : Fx K mg Z w) (xs : List Xv) (M : MH) (R : DR) (P : PX) (hl : xs.length = 1) (h : sp_law Z xs M R P) : t_law K Z { nx := fun _ M' => R (.d .none) M', rt := R, ex := P } (startX N_law xs) M := by
  obtain ⟨ns, rfl, ht, h⟩ := h
  show dSeq _ _ _ [some (.d (.list (ns.map .int))), none, none, none, none, none, none, none, none, none, none] M
  refine set_v (cons_e (ev_var rfl) (nil_e ⟨rfl, ns, rfl, fun p o hp ho => ?_⟩))
  have np : p ≠ Z.kt_law := fun q => by rw [q, ht] at hp; cases hp
  refine par_v (hand0 (Z := Z) rfl rfl ho rfl fun o1 ws ho1 hws => hand0 (Z := Z) rfl rfl ho1 rfl fun o2 vs ho2 hvs => ?_)
  refine set_v (draw_h 12 rfl ev_c ho2 (by decide) (by decide) fun o3 k ho3 k0 k1 => ?_)
  exact law_3 (D := { nx := fun _ M' => R (.d .none) M', rt := R, ex := P }) z hws hvs ho3 mset_same np (by rw [mset_ne (Ne.symm np)]; exact ht) h
section
variable {P : Program} {w : World} {K : PySem.W.Frag} {mg : Str → Option Value} {base : Heap} {Z : Ad}
theorem g_L_row (z : Fx K mg Z w) : FnOk P w K mg base (L2.CX P w) 3 Z.f_L_row Z.e_L_row ["_law_hand_here", "_law_word", "_law_atom_here", "_law_many"] (toSp K 4 (sp_L_row Z)) := ok_L_row z pure_L_row
theorem g_L_no_expression (z : Fx K mg Z w) : FnOk P w K mg base (L2.CX P w) 5 Z.f_L_no_expression Z.e_L_no_expression ["_law_hand_here", "_law_thing"] (toSp K 2 (sp_L_no_expression Z)) := ok_L_no_expression z (g_L_draw z) pure_L_no_expression
theorem g_L_written (z : Fx K mg Z w) : ∀ n : Nat, FnOk P w K mg base (L2.CX P w) (5 + n) Z.f_L_written Z.e_L_written ["_law_thing", "_law_tight"] (toSp K 2 (sp_L_written Z n))
  | 0 => ok_L_written z (g_L_lone_text z) (g_L_sign_text z) (Nat.le_refl 4) (fn_never rfl) (pure_written _ 0 fun m e => by cases e)
  | n + 1 => ok_L_written z (g_L_lone_text z) (g_L_sign_text z) (by omega : 4 ≤ 5 + n) (g_L_written z n) (pure_written _ (n + 1) fun m e xs M R P q => by cases e; exact q)
theorem g_L_is_read (z : Fx K mg Z w) : FnG P w K mg base (L2.CX P w) 64 Z.f_L_is_read Z.e_L_is_read ["_law_text", "_law_thing"] (toSp K 2 (sp_L_is_read Z)) := ok_L_is_read z (g_read_expression z) pure_L_is_read
theorem g_L_great (z : Fx K mg Z w) : FnOk P w K mg base (L2.CX P w) 32 Z.f_L_great Z.e_L_great ["_law_hand_here", "_law_words_here", "_law_worths_here"] (toSp K 3 (sp_L_great Z)) := ok_L_great z (g_L_draw z) ((g_L_expression z 8).mono (by decide)) (g_L_row z) pure_L_great
theorem g_L_tower (z : Fx K mg Z w) : FnOk P w K mg base (L2.CX P w) 5 Z.f_L_tower Z.e_L_tower ["_law_hand_here", "_law_thing"] (toSp K 2 (sp_L_tower Z)) := ok_L_tower z (g_L_draw z) pure_L_tower
theorem g_L_is_right (z : Fx K mg Z w) : FnG P w K mg base (L2.CX P w) 67 Z.f_L_is_right Z.e_L_is_right ["_law_hand_here", "_law_thing"] (toSp K 2 (sp_L_is_right Z)) := ok_L_is_right z ((g_L_written z 30).mono (by decide)) (g_expression_text z) (g_L_is_read z) (g_L_blanks z) ((g_L_loose z 30).mono (by decide)) (g_read_expression z) pure_L_is_right
theorem g_law (z : Fx K mg Z w) (tb : LamX.TabB base mg Z.kc_law Z.kt_law) : FnG P w K mg base (L2.CX P w) 70 Z.f_law Z.e_law ["_law_script"] (toSp K 1 (sp_law Z)) :=
  ok_law z (g_L_hand z) (g_L_words z) (g_L_worths z) (g_L_draw z) (g_L_great z) (g_L_is_right z) (g_L_atom z) (g_L_tower z) ((g_L_expression z 8).mono (by decide)) ((g_L_written z 30).mono (by decide)) (g_L_is_read z) (g_L_lone_text z) (g_L_no_expression z) (g_expression_text z) (g_L_letters z) tb (pure_law z)
end
end Y
set_option maxHeartbeats 4000000
/-! what a head tells: facts that the library's list lacks, as Bools -/
namespace Y
open PySem PySem.Spec PyProof.Rows L2
section
variable {K : PySem.W.Frag} {C a : Addr}
theorem oexB_ok (h : oexB K C = true) : OexC K C := by
  obtain ⟨h1, h⟩ := He.ba h
  obtain ⟨h2, h⟩ := He.ba h
  obtain ⟨h3, h⟩ := He.ba h
  obtain ⟨h4, h5⟩ := He.ba h
  refine ⟨?_, of_decide_eq_true h2, of_decide_eq_true h3, of_decide_eq_true h4, h5⟩
  unfold clsVE at h1
  split at h1
  · rename_i t dd cd sl found
    obtain ⟨t1, g1⟩ := He.ba h1
    have et : t = "type" := of_decide_eq_true t1
    clear h1
    subst et
    split at g1
    · rename_i C' bm k0 k1 k2 k3 n k5 hm hs
      obtain ⟨c1, g2⟩ := He.ba g1
      obtain ⟨c2, g3⟩ := He.ba g2
      obtain ⟨c3, g4⟩ := He.ba g3
      obtain ⟨c4, c5⟩ := He.ba g4
      have eC : C' = C := of_decide_eq_true c1
      have en : n = "ValueError.__new__" := of_decide_eq_true c2
      clear g1 g2 g3 g4 c1 c2
      subst eC en
      obtain ⟨nm, bs, mro, ns, qn, hd, sn, sub, ab, col, del⟩ := cd
      dsimp only at hm c3 c4
      subst hm c3
      have e4 : del = false := by cases del <;> simp_all
      subst e4
      have es : sl = #[k0, k1, k2, k3, some (.builtin "ValueError.__new__"), k5] := by
        obtain ⟨l⟩ := sl
        exact congrArg Array.mk hs
      subst es
      exact ⟨nm, qn, ns, bs, bm, sn, sub, ab, col, dd, k0, k1, k2, k3, k5, found, c5⟩
    · cases g1
  · cases h1
theorem excB_ok (h : excB K C = true) : ExcC K C := by
  obtain ⟨h1, h⟩ := He.ba h
  obtain ⟨h2, h⟩ := He.ba h
  obtain ⟨h3, h⟩ := He.ba h
  obtain ⟨h4, h⟩ := He.ba h
  obtain ⟨h5, h⟩ := He.ba h
  obtain ⟨h6, h⟩ := He.ba h
  obtain ⟨h7, h8⟩ := He.ba h
  exact ⟨of_decide_eq_true h1, of_decide_eq_true h2, of_decide_eq_true h3, h4, of_decide_eq_true h5, of_decide_eq_true h6, of_decide_eq_true h7, of_decide_eq_true h8⟩
theorem kitB2_ok {D : Addr} {b : Bool} (h : kitB2 K C D b = true) : PySem.W.kitOne K (.ref C) (.ref D) = some b := of_decide_eq_true h
theorem kitB3_ok {D1 D2 : Addr} {b : Bool} (h : kitB3 K C D1 D2 b = true) : PySem.W.kitAny K (.ref C) [.ref D1, .ref D2] = some b := of_decide_eq_true h
theorem code_of {nm qual : Str} {params : Arguments} {body : List Stmt} {scope : Scope} {fd : FuncData} {p : He.Defn} (F : FunD K nm qual params body scope [] [] (He.fAd K p) fd) : fd.code = .ref (He.cT K p).1 := by
  obtain ⟨oc, od, dV, kV, doc, pm, an, cd, ct, osl, rfl, here, code, _, _⟩ := F.ex
  obtain ⟨c, rfl⟩ := He.codeIn_ref code
  show Value.ref c = .ref (He.codeOf K p)
  rw [He.codeOf_eq here rfl]
theorem fnB_ok (h : fnB K a = true) : PySem.W.typeIn K (.ref a) = some (.type "function") := of_decide_eq_true h
/-- a tuple of texts, of the module -/
theorem strs_ok {ss : List Str} {H : Hp} {M : MH} : ∀ ss : List Str, DqAll K H M ((ss.map He.Dv.str).map (He.Dv.v K)) (ss.map .str)
  | [] => .nil
  | s :: ss => .cons (.str s) (strs_ok (ss := ss) ss)
theorem tup_ok {x : Str} {ss : List Str} (h : He.tupB K x (ss.map .str) = true) (H : Hp) (M : MH) : Dq K H M (.ref (He.ga K x)) (.tuple (ss.map .str)) :=
  Dq.tup (Or.inr (He.tupB_ok h fun _ => none)) (strs_ok (ss := ss) ss)
/-! ### a table of the module: its keys, its values -/
theorem dic_keys {P : Params} {ks : List Str} (h : He.dicW K a = some (He.keysIn P ks)) : ∃ es n, K.lookup a = some ⟨.type "dict", none, .dict es n, #[]⟩ ∧ es.toList.map He.keyOf = He.keysIn P ks := by
  unfold He.dicW at h
  split at h
  · rename_i c es n sl found
    split at h
    · rename_i ok
      obtain ⟨h1, h2⟩ := He.ba ok
      obtain ⟨h3, _⟩ := He.ba h2
      have e1 : c = "dict" := of_decide_eq_true h1
      have e2 : sl = #[] := Array.isEmpty_iff.mp h3
      subst e1 e2
      exact ⟨es, n, found, Option.some.inj h⟩
    · cases h
  · cases h
theorem keys_no {P : Params} {z : Str} : ∀ {l : List DictEntry} {ks : List Str}, l.map He.keyOf = He.keysIn P ks → z ∉ ks → l.find? (·.key.isStr z) = none ∧ l.any (·.refKey) = false
  | [], _, _, _ => ⟨rfl, rfl⟩
  | e :: l, [], h, _ => by cases h
  | e :: l, k :: ks, h, hz => by
    have h1 : He.keyOf e :: l.map He.keyOf = some (k, PyData.keyHash P k) :: He.keysIn P ks := h
    injection h1 with h2 h3
    obtain ⟨i1, i2⟩ := keys_no h3 fun m => hz (List.mem_cons_of_mem _ m)
    have hk : ∃ t, e.key = .str k t := by
      unfold He.keyOf at h2
      split at h2
      · rename_i x t q
        have := (Prod.mk.inj (Option.some.inj h2)).1
        subst this
        exact ⟨t, q⟩
      · cases h2
    obtain ⟨t, hk⟩ := hk
    have ne : (e.key.isStr z) = false := by
      rw [hk]
      have : k ≠ z := fun q => hz (by rw [q]; exact List.mem_cons_self)
      show (k == z) = false
      simpa using this
    constructor
    · rw [List.find?_cons, ne]
      exact i1
    · rw [List.any_cons, i2, Bool.or_false]
      show (match e.key with | .ref _ => true | _ => false) = false
      rw [hk]
theorem ktab_ok {w : World} {kvs : List (Str × Str)} (hk : He.dicW K a = some (He.keysIn w.params (kvs.map (·.1)))) (hv : He.valsB K a (kvs.map fun q => (q.1, He.Dv.str q.2)) = true) : KTab K w a (kvs.map fun q => (q.1, .str q.2)) where
  ex := He.dicW_ok hk
  yes := fun z d e => by
    have : ∀ {l : List (Str × Str)}, (l.map fun q => (q.1, PyData.str q.2)).lookup z = some d → ∃ s, (z, s) ∈ l ∧ d = .str s := by
      intro l
      induction l with
      | nil => intro h; cases h
      | cons q l ih =>
        intro h
        obtain ⟨q1, q2⟩ := q
        have h' : (match z == q1 with | true => some (PyData.str q2) | false => (l.map fun q => (q.1, PyData.str q.2)).lookup z) = some d := h
        cases hz : z == q1 with
        | true =>
          rw [hz] at h'
          have := beq_iff_eq.mp hz
          subst this
          exact ⟨q2, List.mem_cons_self, (Option.some.inj h').symm⟩
        | false =>
          rw [hz] at h'
          obtain ⟨s, m, e⟩ := ih h'
          exact ⟨s, List.mem_cons_of_mem _ m, e⟩
    obtain ⟨s, m, rfl⟩ := this e
    obtain ⟨u, e1, r⟩ := He.valsB_ok hv (q := (z, He.Dv.str s)) (List.mem_map.mpr ⟨(z, s), m, rfl⟩)
    exact ⟨u, .str s, e1, r, fun H M => .str s⟩
  no := fun z e => by
    obtain ⟨es, n, found, keys⟩ := dic_keys hk
    have hz : z ∉ kvs.map (·.1) := fun m => by
      have : ∀ {l : List (Str × Str)}, z ∈ l.map (·.1) → (l.map fun q => (q.1, PyData.str q.2)).lookup z ≠ none := by
        intro l
        induction l with
        | nil => intro h; cases h
        | cons q l ih =>
          intro h
          obtain ⟨q1, q2⟩ := q
          show (match z == q1 with | true => some (PyData.str q2) | false => (l.map fun q => (q.1, PyData.str q.2)).lookup z) ≠ none
          cases hq : z == q1 with
          | true => simp
          | false =>
            rcases List.mem_cons.mp h with h | h
            · rw [h] at hq
              simp at hq
            · exact ih h
      exact this m e
    obtain ⟨f1, f2⟩ := keys_no keys hz
    unfold PySem.W.nsIn
    rw [found]
    dsimp only
    rw [f1]
    dsimp only
    rw [f2]
    rfl
end
theorem tab_keys {fa : List He.Fa} {fn : List He.DefD} {ts : List He.Tab} {w : World} {K : PySem.W.Frag} (c : He.SaysT fa fn ts w K) (i : Nat) {t : He.Tab} (h : ts[i]? = some t := by rfl) : He.dicW K (t.1 K) = some (He.keysIn w.params t.2) := by
  have e : ts.map (fun t => He.dicW K (t.1 K)) = ts.map fun t => some (He.keysIn w.params t.2) := congrArg (fun z : He.AlT => z.2) c
  have e2 : (ts.map fun t => He.dicW K (t.1 K))[i]? = (ts.map fun t => some (He.keysIn w.params t.2))[i]? := by rw [e]
  rw [List.getElem?_map, List.getElem?_map, h] at e2
  exact Option.some.inj e2
/-- several checks -/
theorem ex_at {l : List (PySem.W.Frag → Bool)} {K : PySem.W.Frag} (h : allEx l K = true) (i : Nat) {f : PySem.W.Frag → Bool} (hf : l[i]? = some f := by rfl) : f K = true := List.all_eq_true.mp h f (List.mem_of_getElem? hf)
end Y
set_option maxHeartbeats 0
namespace Y
open PySem PySem.Spec PyProof.Rows L2
theorem fx_of {K : PySem.W.Frag} {h : Heap} {h2 : Heap} {mg : Str → Option Value} {w : World} (X : K.In h) (G : h.Ns mainGlobals mg) (c : He.SaysX faL fnL tsL tfL (allEx exL) w h2 K) : ∃ Z : Ad, Fx K mg Z w ∧ Z.kc_law = (He.cT K ("law", none)).1 ∧ Z.kt_law = (He.cT K ("law", none)).2 := by
  obtain ⟨e_is_integer, F_is_integer⟩ := c.t.d.def_ 0 (d := d_is_integer) rfl
  obtain ⟨e_is_within, F_is_within⟩ := c.t.d.def_ 1 (d := d_is_within) rfl
  obtain ⟨e_is_worth, F_is_worth⟩ := c.t.d.def_ 2 (d := d_is_worth) rfl
  obtain ⟨e_TooMany_init, F_TooMany_init⟩ := c.t.d.def_ 3 (d := d_TooMany_init) rfl
  obtain ⟨e_BadSigns_init, F_BadSigns_init⟩ := c.t.d.def_ 4 (d := d_BadSigns_init) rfl
  obtain ⟨e_are_letters, F_are_letters⟩ := c.t.d.def_ 5 (d := d_are_letters) rfl
  obtain ⟨e_is_word, F_is_word⟩ := c.t.d.def_ 6 (d := d_is_word) rfl
  obtain ⟨e_is_atom, F_is_atom⟩ := c.t.d.def_ 7 (d := d_is_atom) rfl
  obtain ⟨e_parts_of, F_parts_of⟩ := c.t.d.def_ 8 (d := d_parts_of) rfl
  obtain ⟨e_is_kind, F_is_kind⟩ := c.t.d.def_ 9 (d := d_is_kind) rfl
  obtain ⟨e_is_sign, F_is_sign⟩ := c.t.d.def_ 10 (d := d_is_sign) rfl
  obtain ⟨e_size_within, F_size_within⟩ := c.t.d.def_ 11 (d := d_size_within) rfl
  obtain ⟨e_size_of, F_size_of⟩ := c.t.d.def_ 12 (d := d_size_of) rfl
  obtain ⟨e_is_expression, F_is_expression⟩ := c.t.d.def_ 13 (d := d_is_expression) rfl
  obtain ⟨e_check_expression, F_check_expression⟩ := c.t.d.def_ 14 (d := d_check_expression) rfl
  obtain ⟨e_in_parentheses, F_in_parentheses⟩ := c.t.d.def_ 15 (d := d_in_parentheses) rfl
  obtain ⟨e_atom_text, F_atom_text⟩ := c.t.d.def_ 16 (d := d_atom_text) rfl
  obtain ⟨e_part_text, F_part_text⟩ := c.t.d.def_ 17 (d := d_part_text) rfl
  obtain ⟨e_text_of, F_text_of⟩ := c.t.d.def_ 18 (d := d_text_of) rfl
  obtain ⟨e_expression_text, F_expression_text⟩ := c.t.d.def_ 19 (d := d_expression_text) rfl
  obtain ⟨e_Frame_init, F_Frame_init⟩ := c.t.d.def_ 20 (d := d_Frame_init) rfl
  obtain ⟨e_Frame_add, F_Frame_add⟩ := c.t.d.def_ 21 (d := d_Frame_add) rfl
  obtain ⟨e_Frame_join, F_Frame_join⟩ := c.t.d.def_ 22 (d := d_Frame_join) rfl
  obtain ⟨e_Frame_part, F_Frame_part⟩ := c.t.d.def_ 23 (d := d_Frame_part) rfl
  obtain ⟨e_Frame_whole, F_Frame_whole⟩ := c.t.d.def_ 24 (d := d_Frame_whole) rfl
  obtain ⟨e_Text_init, F_Text_init⟩ := c.t.d.def_ 25 (d := d_Text_init) rfl
  obtain ⟨e_Text_sign, F_Text_sign⟩ := c.t.d.def_ 26 (d := d_Text_sign) rfl
  obtain ⟨e_Text_fail, F_Text_fail⟩ := c.t.d.def_ 27 (d := d_Text_fail) rfl
  obtain ⟨e_Text_take, F_Text_take⟩ := c.t.d.def_ 28 (d := d_Text_take) rfl
  obtain ⟨e_Text_word, F_Text_word⟩ := c.t.d.def_ 29 (d := d_Text_word) rfl
  obtain ⟨e_Text_worth, F_Text_worth⟩ := c.t.d.def_ 30 (d := d_Text_worth) rfl
  obtain ⟨e_Text_atom, F_Text_atom⟩ := c.t.d.def_ 31 (d := d_Text_atom) rfl
  obtain ⟨e_Text_begin, F_Text_begin⟩ := c.t.d.def_ 32 (d := d_Text_begin) rfl
  obtain ⟨e_Text_times, F_Text_times⟩ := c.t.d.def_ 33 (d := d_Text_times) rfl
  obtain ⟨e_Text_go_on, F_Text_go_on⟩ := c.t.d.def_ 34 (d := d_Text_go_on) rfl
  obtain ⟨e_Text_read, F_Text_read⟩ := c.t.d.def_ 35 (d := d_Text_read) rfl
  obtain ⟨e_read_expression, F_read_expression⟩ := c.t.d.def_ 36 (d := d_read_expression) rfl
  obtain ⟨e_L_mixed, F_L_mixed⟩ := c.t.d.def_ 37 (d := d_L_mixed) rfl
  obtain ⟨e_L_hand, F_L_hand⟩ := c.t.d.def_ 38 (d := d_L_hand) rfl
  obtain ⟨e_L_draw, F_L_draw⟩ := c.t.d.def_ 39 (d := d_L_draw) rfl
  obtain ⟨e_L_letters, F_L_letters⟩ := c.t.d.def_ 40 (d := d_L_letters) rfl
  obtain ⟨e_L_words, F_L_words⟩ := c.t.d.def_ 41 (d := d_L_words) rfl
  obtain ⟨e_L_worths, F_L_worths⟩ := c.t.d.def_ 42 (d := d_L_worths) rfl
  obtain ⟨e_L_atom, F_L_atom⟩ := c.t.d.def_ 43 (d := d_L_atom) rfl
  obtain ⟨e_L_expression, F_L_expression⟩ := c.t.d.def_ 44 (d := d_L_expression) rfl
  obtain ⟨e_L_is_letter, F_L_is_letter⟩ := c.t.d.def_ 45 (d := d_L_is_letter) rfl
  obtain ⟨e_L_lone_text, F_L_lone_text⟩ := c.t.d.def_ 46 (d := d_L_lone_text) rfl
  obtain ⟨e_L_sign_text, F_L_sign_text⟩ := c.t.d.def_ 47 (d := d_L_sign_text) rfl
  obtain ⟨e_L_blanks, F_L_blanks⟩ := c.t.d.def_ 48 (d := d_L_blanks) rfl
  obtain ⟨e_L_loose, F_L_loose⟩ := c.t.d.def_ 49 (d := d_L_loose) rfl
  obtain ⟨e_L_row, F_L_row⟩ := c.t.d.def_ 50 (d := d_L_row) rfl
  obtain ⟨e_L_refusal, F_L_refusal⟩ := c.t.d.def_ 51 (d := d_L_refusal) rfl
  obtain ⟨e_L_no_expression, F_L_no_expression⟩ := c.t.d.def_ 52 (d := d_L_no_expression) rfl
  obtain ⟨e_L_written, F_L_written⟩ := c.t.d.def_ 53 (d := d_L_written) rfl
  obtain ⟨e_L_is_read, F_L_is_read⟩ := c.t.d.def_ 54 (d := d_L_is_read) rfl
  obtain ⟨e_L_is_right, F_L_is_right⟩ := c.t.d.def_ 55 (d := d_L_is_right) rfl
  obtain ⟨e_L_great, F_L_great⟩ := c.t.d.def_ 56 (d := d_L_great) rfl
  obtain ⟨e_L_tower, F_L_tower⟩ := c.t.d.def_ 57 (d := d_L_tower) rfl
  obtain ⟨e_law, F_law⟩ := c.t.d.def_ 58 (d := d_law) rfl
  exact ⟨{ f_is_integer := He.fAd K ("is_integer", none), e_is_integer := e_is_integer, f_is_within := He.fAd K ("is_within", none), e_is_within := e_is_within, f_is_worth := He.fAd K ("is_worth", none), e_is_worth := e_is_worth, f_TooMany_init := He.fAd K ("TooMany", some "__init__"), e_TooMany_init := e_TooMany_init, f_BadSigns_init := He.fAd K ("BadSigns", some "__init__"), e_BadSigns_init := e_BadSigns_init, f_are_letters := He.fAd K ("are_letters", none), e_are_letters := e_are_letters, f_is_word := He.fAd K ("is_word", none), e_is_word := e_is_word, f_is_atom := He.fAd K ("is_atom", none), e_is_atom := e_is_atom, f_parts_of := He.fAd K ("parts_of", none), e_parts_of := e_parts_of, f_is_kind := He.fAd K ("is_kind", none), e_is_kind := e_is_kind, f_is_sign := He.fAd K ("is_sign", none), e_is_sign := e_is_sign, f_size_within := He.fAd K ("size_within", none), e_size_within := e_size_within, f_size_of := He.fAd K ("size_of", none), e_size_of := e_size_of, f_is_expression := He.fAd K ("is_expression", none), e_is_expression := e_is_expression, f_check_expression := He.fAd K ("check_expression", none), e_check_expression := e_check_expression, f_in_parentheses := He.fAd K ("in_parentheses", none), e_in_parentheses := e_in_parentheses, f_atom_text := He.fAd K ("atom_text", none), e_atom_text := e_atom_text, f_part_text := He.fAd K ("part_text", none), e_part_text := e_part_text, f_text_of := He.fAd K ("text_of", none), e_text_of := e_text_of, f_expression_text := He.fAd K ("expression_text", none), e_expression_text := e_expression_text, f_Frame_init := He.fAd K ("Frame", some "__init__"), e_Frame_init := e_Frame_init, f_Frame_add := He.fAd K ("Frame", some "add"), e_Frame_add := e_Frame_add, f_Frame_join := He.fAd K ("Frame", some "join"), e_Frame_join := e_Frame_join, f_Frame_part := He.fAd K ("Frame", some "part"), e_Frame_part := e_Frame_part, f_Frame_whole := He.fAd K ("Frame", some "whole"), e_Frame_whole := e_Frame_whole, f_Text_init := He.fAd K ("Text", some "__init__"), e_Text_init := e_Text_init, f_Text_sign := He.fAd K ("Text", some "sign"), e_Text_sign := e_Text_sign, f_Text_fail := He.fAd K ("Text", some "fail"), e_Text_fail := e_Text_fail, f_Text_take := He.fAd K ("Text", some "take"), e_Text_take := e_Text_take, f_Text_word := He.fAd K ("Text", some "word"), e_Text_word := e_Text_word, f_Text_worth := He.fAd K ("Text", some "worth"), e_Text_worth := e_Text_worth, f_Text_atom := He.fAd K ("Text", some "atom"), e_Text_atom := e_Text_atom, f_Text_begin := He.fAd K ("Text", some "begin"), e_Text_begin := e_Text_begin, f_Text_times := He.fAd K ("Text", some "times"), e_Text_times := e_Text_times, f_Text_go_on := He.fAd K ("Text", some "go_on"), e_Text_go_on := e_Text_go_on, f_Text_read := He.fAd K ("Text", some "read"), e_Text_read := e_Text_read, f_read_expression := He.fAd K ("read_expression", none), e_read_expression := e_read_expression, f_L_mixed := He.fAd K ("_law_mixed", none), e_L_mixed := e_L_mixed, f_L_hand := He.fAd K ("_law_hand", none), e_L_hand := e_L_hand, f_L_draw := He.fAd K ("_law_draw", none), e_L_draw := e_L_draw, f_L_letters := He.fAd K ("_law_letters", none), e_L_letters := e_L_letters, f_L_words := He.fAd K ("_law_words", none), e_L_words := e_L_words, f_L_worths := He.fAd K ("_law_worths", none), e_L_worths := e_L_worths, f_L_atom := He.fAd K ("_law_atom", none), e_L_atom := e_L_atom, f_L_expression := He.fAd K ("_law_expression", none), e_L_expression := e_L_expression, f_L_is_letter := He.fAd K ("_law_is_letter", none), e_L_is_letter := e_L_is_letter, f_L_lone_text := He.fAd K ("_law_lone_text", none), e_L_lone_text := e_L_lone_text, f_L_sign_text := He.fAd K ("_law_sign_text", none), e_L_sign_text := e_L_sign_text, f_L_blanks := He.fAd K ("_law_blanks", none), e_L_blanks := e_L_blanks, f_L_loose := He.fAd K ("_law_loose", none), e_L_loose := e_L_loose, f_L_row := He.fAd K ("_law_row", none), e_L_row := e_L_row, f_L_refusal := He.fAd K ("_law_refusal", none), e_L_refusal := e_L_refusal, f_L_no_expression := He.fAd K ("_law_no_expression", none), e_L_no_expression := e_L_no_expression, f_L_written := He.fAd K ("_law_written", none), e_L_written := e_L_written, f_L_is_read := He.fAd K ("_law_is_read", none), e_L_is_read := e_L_is_read, f_L_is_right := He.fAd K ("_law_is_right", none), e_L_is_right := e_L_is_right, f_L_great := He.fAd K ("_law_great", none), e_L_great := e_L_great, f_L_tower := He.fAd K ("_law_tower", none), e_L_tower := e_L_tower, f_law := He.fAd K ("law", none), e_law := e_law, c_StoreError := He.ga K "StoreError", c_TooMany := He.ga K "TooMany", c_BadSigns := He.ga K "BadSigns", c_NoPath := He.ga K "NoPath", c_NoExpression := He.ga K "NoExpression", c_Frame := He.ga K "Frame", c_Text := He.ga K "Text", kc_law := (He.cT K ("law", none)).1, kt_law := (He.cT K ("law", none)).2, c_SIGNS := He.ga K "SIGNS", c_ALONE := He.ga K "ALONE", c_NAMED := He.ga K "NAMED", c_PAIRED := He.ga K "PAIRED", c_LONE := He.ga K "LONE", c_SIGN_OF := He.ga K "SIGN_OF", c_KIND_OF := He.ga K "KIND_OF" }, {
    F_is_integer := F_is_integer,
    g_is_integer := He.glo_ok X G (c.t.d.fact 0 (f := .glo "is_integer") rfl),
    k_is_integer := F_is_integer.kp,
    F_is_within := F_is_within,
    g_is_within := He.glo_ok X G (c.t.d.fact 1 (f := .glo "is_within") rfl),
    k_is_within := F_is_within.kp,
    F_is_worth := F_is_worth,
    g_is_worth := He.glo_ok X G (c.t.d.fact 2 (f := .glo "is_worth") rfl),
    k_is_worth := F_is_worth.kp,
    F_TooMany_init := F_TooMany_init,
    F_BadSigns_init := F_BadSigns_init,
    F_are_letters := F_are_letters,
    g_are_letters := He.glo_ok X G (c.t.d.fact 3 (f := .glo "are_letters") rfl),
    k_are_letters := F_are_letters.kp,
    F_is_word := F_is_word,
    g_is_word := He.glo_ok X G (c.t.d.fact 4 (f := .glo "is_word") rfl),
    k_is_word := F_is_word.kp,
    F_is_atom := F_is_atom,
    g_is_atom := He.glo_ok X G (c.t.d.fact 5 (f := .glo "is_atom") rfl),
    k_is_atom := F_is_atom.kp,
    F_parts_of := F_parts_of,
    g_parts_of := He.glo_ok X G (c.t.d.fact 6 (f := .glo "parts_of") rfl),
    k_parts_of := F_parts_of.kp,
    F_is_kind := F_is_kind,
    g_is_kind := He.glo_ok X G (c.t.d.fact 7 (f := .glo "is_kind") rfl),
    k_is_kind := F_is_kind.kp,
    F_is_sign := F_is_sign,
    g_is_sign := He.glo_ok X G (c.t.d.fact 8 (f := .glo "is_sign") rfl),
    k_is_sign := F_is_sign.kp,
    F_size_within := F_size_within,
    g_size_within := He.glo_ok X G (c.t.d.fact 9 (f := .glo "size_within") rfl),
    k_size_within := F_size_within.kp,
    F_size_of := F_size_of,
    g_size_of := He.glo_ok X G (c.t.d.fact 10 (f := .glo "size_of") rfl),
    k_size_of := F_size_of.kp,
    F_is_expression := F_is_expression,
    g_is_expression := He.glo_ok X G (c.t.d.fact 11 (f := .glo "is_expression") rfl),
    k_is_expression := F_is_expression.kp,
    F_check_expression := F_check_expression,
    g_check_expression := He.glo_ok X G (c.t.d.fact 12 (f := .glo "check_expression") rfl),
    k_check_expression := F_check_expression.kp,
    F_in_parentheses := F_in_parentheses,
    g_in_parentheses := He.glo_ok X G (c.t.d.fact 13 (f := .glo "in_parentheses") rfl),
    k_in_parentheses := F_in_parentheses.kp,
    F_atom_text := F_atom_text,
    g_atom_text := He.glo_ok X G (c.t.d.fact 14 (f := .glo "atom_text") rfl),
    k_atom_text := F_atom_text.kp,
    F_part_text := F_part_text,
    g_part_text := He.glo_ok X G (c.t.d.fact 15 (f := .glo "part_text") rfl),
    k_part_text := F_part_text.kp,
    F_text_of := F_text_of,
    g_text_of := He.glo_ok X G (c.t.d.fact 16 (f := .glo "text_of") rfl),
    k_text_of := F_text_of.kp,
    F_expression_text := F_expression_text,
    g_expression_text := He.glo_ok X G (c.t.d.fact 17 (f := .glo "expression_text") rfl),
    k_expression_text := F_expression_text.kp,
    F_Frame_init := F_Frame_init,
    F_Frame_add := F_Frame_add,
    m_Frame_add := He.meth_ok (c.t.d.fact 18 (f := .meth "Frame" "add") rfl),
    F_Frame_join := F_Frame_join,
    m_Frame_join := He.meth_ok (c.t.d.fact 19 (f := .meth "Frame" "join") rfl),
    F_Frame_part := F_Frame_part,
    m_Frame_part := He.meth_ok (c.t.d.fact 20 (f := .meth "Frame" "part") rfl),
    F_Frame_whole := F_Frame_whole,
    m_Frame_whole := He.meth_ok (c.t.d.fact 21 (f := .meth "Frame" "whole") rfl),
    F_Text_init := F_Text_init,
    F_Text_sign := F_Text_sign,
    m_Text_sign := He.meth_ok (c.t.d.fact 22 (f := .meth "Text" "sign") rfl),
    F_Text_fail := F_Text_fail,
    m_Text_fail := He.meth_ok (c.t.d.fact 23 (f := .meth "Text" "fail") rfl),
    F_Text_take := F_Text_take,
    m_Text_take := He.meth_ok (c.t.d.fact 24 (f := .meth "Text" "take") rfl),
    F_Text_word := F_Text_word,
    m_Text_word := He.meth_ok (c.t.d.fact 25 (f := .meth "Text" "word") rfl),
    F_Text_worth := F_Text_worth,
    m_Text_worth := He.meth_ok (c.t.d.fact 26 (f := .meth "Text" "worth") rfl),
    F_Text_atom := F_Text_atom,
    m_Text_atom := He.meth_ok (c.t.d.fact 27 (f := .meth "Text" "atom") rfl),
    F_Text_begin := F_Text_begin,
    m_Text_begin := He.meth_ok (c.t.d.fact 28 (f := .meth "Text" "begin") rfl),
    F_Text_times := F_Text_times,
    m_Text_times := He.meth_ok (c.t.d.fact 29 (f := .meth "Text" "times") rfl),
    F_Text_go_on := F_Text_go_on,
    m_Text_go_on := He.meth_ok (c.t.d.fact 30 (f := .meth "Text" "go_on") rfl),
    F_Text_read := F_Text_read,
    m_Text_read := He.meth_ok (c.t.d.fact 31 (f := .meth "Text" "read") rfl),
    F_read_expression := F_read_expression,
    g_read_expression := He.glo_ok X G (c.t.d.fact 32 (f := .glo "read_expression") rfl),
    k_read_expression := F_read_expression.kp,
    F_L_mixed := F_L_mixed,
    g_L_mixed := He.glo_ok X G (c.t.d.fact 33 (f := .glo "_law_mixed") rfl),
    k_L_mixed := F_L_mixed.kp,
    F_L_hand := F_L_hand,
    g_L_hand := He.glo_ok X G (c.t.d.fact 34 (f := .glo "_law_hand") rfl),
    k_L_hand := F_L_hand.kp,
    F_L_draw := F_L_draw,
    g_L_draw := He.glo_ok X G (c.t.d.fact 35 (f := .glo "_law_draw") rfl),
    k_L_draw := F_L_draw.kp,
    F_L_letters := F_L_letters,
    g_L_letters := He.glo_ok X G (c.t.d.fact 36 (f := .glo "_law_letters") rfl),
    k_L_letters := F_L_letters.kp,
    F_L_words := F_L_words,
    g_L_words := He.glo_ok X G (c.t.d.fact 37 (f := .glo "_law_words") rfl),
    k_L_words := F_L_words.kp,
    F_L_worths := F_L_worths,
    g_L_worths := He.glo_ok X G (c.t.d.fact 38 (f := .glo "_law_worths") rfl),
    k_L_worths := F_L_worths.kp,
    F_L_atom := F_L_atom,
    g_L_atom := He.glo_ok X G (c.t.d.fact 39 (f := .glo "_law_atom") rfl),
    k_L_atom := F_L_atom.kp,
    F_L_expression := F_L_expression,
    g_L_expression := He.glo_ok X G (c.t.d.fact 40 (f := .glo "_law_expression") rfl),
    k_L_expression := F_L_expression.kp,
    F_L_is_letter := F_L_is_letter,
    g_L_is_letter := He.glo_ok X G (c.t.d.fact 41 (f := .glo "_law_is_letter") rfl),
    k_L_is_letter := F_L_is_letter.kp,
    F_L_lone_text := F_L_lone_text,
    g_L_lone_text := He.glo_ok X G (c.t.d.fact 42 (f := .glo "_law_lone_text") rfl),
    k_L_lone_text := F_L_lone_text.kp,
    F_L_sign_text := F_L_sign_text,
    g_L_sign_text := He.glo_ok X G (c.t.d.fact 43 (f := .glo "_law_sign_text") rfl),
    k_L_sign_text := F_L_sign_text.kp,
    F_L_blanks := F_L_blanks,
    g_L_blanks := He.glo_ok X G (c.t.d.fact 44 (f := .glo "_law_blanks") rfl),
    k_L_blanks := F_L_blanks.kp,
    F_L_loose := F_L_loose,
    g_L_loose := He.glo_ok X G (c.t.d.fact 45 (f := .glo "_law_loose") rfl),
    k_L_loose := F_L_loose.kp,
    F_L_row := F_L_row,
    g_L_row := He.glo_ok X G (c.t.d.fact 46 (f := .glo "_law_row") rfl),
    k_L_row := F_L_row.kp,
    F_L_refusal := F_L_refusal,
    g_L_refusal := He.glo_ok X G (c.t.d.fact 47 (f := .glo "_law_refusal") rfl),
    k_L_refusal := F_L_refusal.kp,
    F_L_no_expression := F_L_no_expression,
    g_L_no_expression := He.glo_ok X G (c.t.d.fact 48 (f := .glo "_law_no_expression") rfl),
    k_L_no_expression := F_L_no_expression.kp,
    F_L_written := F_L_written,
    g_L_written := He.glo_ok X G (c.t.d.fact 49 (f := .glo "_law_written") rfl),
    k_L_written := F_L_written.kp,
    F_L_is_read := F_L_is_read,
    g_L_is_read := He.glo_ok X G (c.t.d.fact 50 (f := .glo "_law_is_read") rfl),
    k_L_is_read := F_L_is_read.kp,
    F_L_is_right := F_L_is_right,
    g_L_is_right := He.glo_ok X G (c.t.d.fact 51 (f := .glo "_law_is_right") rfl),
    k_L_is_right := F_L_is_right.kp,
    F_L_great := F_L_great,
    g_L_great := He.glo_ok X G (c.t.d.fact 52 (f := .glo "_law_great") rfl),
    k_L_great := F_L_great.kp,
    F_L_tower := F_L_tower,
    g_L_tower := He.glo_ok X G (c.t.d.fact 53 (f := .glo "_law_tower") rfl),
    k_L_tower := F_L_tower.kp,
    F_law := F_law,
    g_law := He.glo_ok X G (c.t.d.fact 54 (f := .glo "law") rfl),
    k_law := F_law.kp,
    g_StoreError := He.glo_ok X G (c.t.d.fact 55 (f := .glo "StoreError") rfl),
    g_TooMany := He.glo_ok X G (c.t.d.fact 56 (f := .glo "TooMany") rfl),
    g_BadSigns := He.glo_ok X G (c.t.d.fact 57 (f := .glo "BadSigns") rfl),
    g_NoPath := He.glo_ok X G (c.t.d.fact 58 (f := .glo "NoPath") rfl),
    g_NoExpression := He.glo_ok X G (c.t.d.fact 59 (f := .glo "NoExpression") rfl),
    g_Frame := He.glo_ok X G (c.t.d.fact 60 (f := .glo "Frame") rfl),
    o_Frame := ⟨He.cls_ok (c.t.d.fact 64 (f := .cls "Frame") rfl), (List.forall_mem_cons.mpr ⟨He.noat_ok (c.t.d.fact 63 (f := .noat "Frame" "kept_or") rfl), (List.forall_mem_cons.mpr ⟨He.noat_ok (c.t.d.fact 62 (f := .noat "Frame" "kept_then") rfl), (List.forall_mem_cons.mpr ⟨He.noat_ok (c.t.d.fact 61 (f := .noat "Frame" "kept_last") rfl), (fun _ h => nomatch h)⟩)⟩)⟩)⟩,
    m_Frame := He.mkr_ok (c.t.d.fact 65 (f := .mkr "Frame") rfl),
    g_Text := He.glo_ok X G (c.t.d.fact 66 (f := .glo "Text") rfl),
    o_Text := ⟨He.cls_ok (c.t.d.fact 71 (f := .cls "Text") rfl), (List.forall_mem_cons.mpr ⟨He.noat_ok (c.t.d.fact 70 (f := .noat "Text" "kept_text") rfl), (List.forall_mem_cons.mpr ⟨He.noat_ok (c.t.d.fact 69 (f := .noat "Text" "kept_at") rfl), (List.forall_mem_cons.mpr ⟨He.noat_ok (c.t.d.fact 68 (f := .noat "Text" "kept_frames") rfl), (List.forall_mem_cons.mpr ⟨He.noat_ok (c.t.d.fact 67 (f := .noat "Text" "kept_wanted") rfl), (fun _ h => nomatch h)⟩)⟩)⟩)⟩)⟩,
    m_Text := He.mkr_ok (c.t.d.fact 72 (f := .mkr "Text") rfl),
    g_LETTERS := He.str_ok X G (c.t.d.fact 73 (f := .str "LETTERS" "abcdefghijklmnopqrstuvwxyz") rfl),
    g_MOST_WORTH := He.int_ok X G (c.t.d.fact 74 (f := .int "MOST_WORTH" (1000000000000000000)) rfl),
    g_WORD_LETTERS := He.int_ok X G (c.t.d.fact 75 (f := .int "WORD_LETTERS" (2)) rfl),
    g_MOST_DEEP := He.int_ok X G (c.t.d.fact 76 (f := .int "MOST_DEEP" (30)) rfl),
    g_MOST_SIZE := He.int_ok X G (c.t.d.fact 77 (f := .int "MOST_SIZE" (300)) rfl),
    g_MOST_TIMES := He.int_ok X G (c.t.d.fact 78 (f := .int "MOST_TIMES" (9)) rfl),
    g_SIGNS := He.glo_ok X G (c.t.d.fact 79 (f := .glo "SIGNS") rfl),
    d_SIGNS := fun H M => tup_ok (ss := ["<", "=", ">"]) (ex_at c.more 0 (f := fun K => He.tupB K "SIGNS" [.str "<", .str "=", .str ">"]) rfl) H M,
    g_ALONE := He.glo_ok X G (c.t.d.fact 80 (f := .glo "ALONE") rfl),
    d_ALONE := fun H M => tup_ok (ss := ["any", "here"]) (ex_at c.more 1 (f := fun K => He.tupB K "ALONE" [.str "any", .str "here"]) rfl) H M,
    g_NAMED := He.glo_ok X G (c.t.d.fact 81 (f := .glo "NAMED") rfl),
    d_NAMED := fun H M => tup_ok (ss := ["word", "back"]) (ex_at c.more 2 (f := fun K => He.tupB K "NAMED" [.str "word", .str "back"]) rfl) H M,
    g_PAIRED := He.glo_ok X G (c.t.d.fact 82 (f := .glo "PAIRED") rfl),
    d_PAIRED := fun H M => tup_ok (ss := ["then", "or"]) (ex_at c.more 3 (f := fun K => He.tupB K "PAIRED" [.str "then", .str "or"]) rfl) H M,
    g_LONE := He.glo_ok X G (c.t.d.fact 83 (f := .glo "LONE") rfl),
    d_LONE := fun H M => tup_ok (ss := ["star", "plus", "maybe"]) (ex_at c.more 4 (f := fun K => He.tupB K "LONE" [.str "star", .str "plus", .str "maybe"]) rfl) H M,
    g_MOST_SIGNS := He.int_ok X G (c.t.d.fact 84 (f := .int "MOST_SIGNS" (100000)) rfl),
    g_FIGURES := He.str_ok X G (c.t.d.fact 85 (f := .str "FIGURES" "0123456789") rfl),
    g_MOST_FIGURES := He.int_ok X G (c.t.d.fact 86 (f := .int "MOST_FIGURES" (20)) rfl),
    g_TESTS := He.str_ok X G (c.t.d.fact 87 (f := .str "TESTS" "<=>") rfl),
    g_SIGN_OF := He.glo_ok X G (c.t.d.fact 88 (f := .glo "SIGN_OF") rfl),
    t_SIGN_OF := ktab_ok (kvs := [("star", "*"), ("plus", "+"), ("maybe", "?")]) (tab_keys c.t 0 (t := tab_SIGN_OF) rfl) (ex_at c.more 5 (f := fun K => He.valsB K (He.ga K "SIGN_OF") [("star", .str "*"), ("plus", .str "+"), ("maybe", .str "?")]) rfl),
    g_KIND_OF := He.glo_ok X G (c.t.d.fact 89 (f := .glo "KIND_OF") rfl),
    t_KIND_OF := ktab_ok (kvs := [("*", "star"), ("+", "plus"), ("?", "maybe")]) (tab_keys c.t 1 (t := tab_KIND_OF) rfl) (ex_at c.more 6 (f := fun K => He.valsB K (He.ga K "KIND_OF") [("*", .str "star"), ("+", .str "plus"), ("?", .str "maybe")]) rfl),
    n_abs := He.free_ok X G (c.t.d.fact 90 (f := .free "abs") rfl),
    n_all := He.free_ok X G (c.t.d.fact 91 (f := .free "all") rfl),
    n_bool := He.free_ok X G (c.t.d.fact 92 (f := .free "bool") rfl),
    n_int := He.free_ok X G (c.t.d.fact 93 (f := .free "int") rfl),
    n_isinstance := He.free_ok X G (c.t.d.fact 94 (f := .free "isinstance") rfl),
    n_len := He.free_ok X G (c.t.d.fact 95 (f := .free "len") rfl),
    n_list := He.free_ok X G (c.t.d.fact 96 (f := .free "list") rfl),
    n_max := He.free_ok X G (c.t.d.fact 97 (f := .free "max") rfl),
    n_min := He.free_ok X G (c.t.d.fact 98 (f := .free "min") rfl),
    n_range := He.free_ok X G (c.t.d.fact 99 (f := .free "range") rfl),
    n_repr := He.free_ok X G (c.t.d.fact 100 (f := .free "repr") rfl),
    n_str := He.free_ok X G (c.t.d.fact 101 (f := .free "str") rfl),
    n_sum := He.free_ok X G (c.t.d.fact 102 (f := .free "sum") rfl),
    n_tuple := He.free_ok X G (c.t.d.fact 103 (f := .free "tuple") rfl),
    ei_NoExpression := (He.exc_ok (c.t.d.fact 104 (f := .exc "NoExpression") rfl)).1,
    ke_NoExpression := (He.exc_ok (c.t.d.fact 104 (f := .exc "NoExpression") rfl)).2.1,
    sb_NoExpression := (He.exc_ok (c.t.d.fact 104 (f := .exc "NoExpression") rfl)).2.2.1,
    ty_NoExpression := (He.exc_ok (c.t.d.fact 104 (f := .exc "NoExpression") rfl)).2.2.2,
    oe_BadSigns := oexB_ok (ex_at c.more 7 (f := fun K => oexB K (He.ga K "BadSigns")) rfl),
    in_BadSigns := (He.meth_ok (c.t.d.fact 105 (f := .meth "BadSigns" "__init__") rfl)).at_,
    ti_BadSigns := fnB_ok (ex_at c.more 8 (f := fun K => fnB K (He.ma K (He.ga K "BadSigns") "__init__")) rfl),
    xn_BadSigns := He.noat_ok (c.t.d.fact 106 (f := .noat "BadSigns" "at") rfl),
    xf_BadSigns := xfB_ok (ex_at c.more 9 (f := fun K => xfB K (He.ga K "BadSigns")) rfl),
    xe_NoExpression := excB_ok (ex_at c.more 10 (f := fun K => excB K (He.ga K "NoExpression")) rfl),
    xm_NoExpression_NoExpression := He.exm_ok (c.t.d.fact 107 (f := .exm "NoExpression" "NoExpression" true) rfl),
    xi_NoExpression_StoreError := kitB2_ok (ex_at c.more 11 (f := fun K => kitB2 K (He.ga K "NoExpression") (He.ga K "StoreError") true) rfl),
    xt_NoExpression_NoPath_TooMany := kitB3_ok (ex_at c.more 12 (f := fun K => kitB3 K (He.ga K "NoExpression") (He.ga K "NoPath") (He.ga K "TooMany") false) rfl),
    cd_law := code_of F_law
  }, rfl, rfl⟩
end Y
set_option maxHeartbeats 0
namespace Y
open PySem PySem.Spec PyProof.Rows L2
theorem ints_data {K : PySem.W.Frag} {H : Hp} {M : MH} : ∀ ns : List Int, DqAll K H M (ns.map V.int) (ns.map .int)
  | [] => .nil
  | n :: r => .cons (.int n) (ints_data r)
/-- the law's promise, at its script -/
theorem law_start {K : PySem.W.Frag} {Z : Ad} {H : Hp} {a : Addr} {ns : List Int} (hT : H Z.kt_law = some (.tbl #[])) (h : SqL K H a (ns.map V.int)) : toSp K 1 (sp_law Z) [.ref a] H (fun v _ => v = .bl true) fun _ _ _ => False := by
  refine ⟨[.d (.list (ns.map .int))], fun b => if b = Z.kt_law then some (.tbl "law.<locals>.<lambda>") else none, fun x _ => x = .d (.bool true), fun _ _ _ => False, .cons (Dq.lst ?_ (ints_data ns)) .nil, (fun b o e => ?_), rfl, ⟨ns, rfl, if_pos rfl, fun _ => rfl⟩, ?_, fun _ _ _ _ _ _ q => q.elim⟩
  · rcases h with h | h
    · refine Or.inl ⟨if_neg fun q => ?_, h⟩
      subst q
      rcases h with h | ⟨o, h⟩ <;> cases hT.symm.trans h
    · exact Or.inr (Or.inr h)
  · by_cases q : b = Z.kt_law
    · have e' := (if_pos q).symm.trans e
      cases e'
      subst q
      refine ⟨#[], hT, True.intro, fun pos cv hc => ?_⟩
      have z : codeAmong pos [] = some cv := hc
      simp [codeAmong] at z
    · have e' := (if_neg q).symm.trans e
      cases e'
  · rintro v x H' M' _ _ hx rfl
    cases hx
    rfl
end Y
open PySem PySem.W PySem.Calls PyProof.Rows
set_option maxRecDepth 100000 in
set_option maxHeartbeats 0 in
theorem PySem.Challenge.cw_wholeways_k65_whole_expressions_as_texts_holds : PySem.Challenge.rw_wholeways_k65_whole_expressions_as_texts.Holds := by
  refine Hd.headT fun q loose XP d hd hn => ?_
  refine Y.walkT (l := PySem.Challenge.rw_wholeways_k65_whole_expressions_as_texts) (n := 63) (k := 70) (x := "_law_script") (CX := fun w => L2.CX (PySem.Challenge.rw_wholeways_k65_whole_expressions_as_texts).prog w) rfl (by decide) hd ⟨rfl, by decide, by decide⟩ ?F (fun w _ _ _ _ => Y.CX_no)
  intro w mg fa h says G hmg0
  obtain ⟨K, KX, c⟩ := says
  have hmg : mg ("law" : PySem.Str) = some (.ref fa) := by
    rw [← hn]
    exact hmg0
  obtain ⟨Z, z, kc, kt⟩ := Y.fx_of KX G c
  have e := hmg.symm.trans z.g_law
  cases e
  have b := L2.FunD.bindsA (ps := ["_law_script"]) z.F_law fun _ _ _ _ _ _ us hl => match us, hl with | [_], _ => rfl
  have one : ∀ p, p ∈ [((He.cT K ("law", none)).1, (He.cT K ("law", none)).2)] → p = He.cT K ("law", none) := fun p hp => by simpa using hp
  have mem : (("law", none) : He.Defn) ∈ Y.tfL := List.mem_cons_self
  refine ⟨K, Z.e_law, [((He.cT K ("law", none)).1, (He.cT K ("law", none)).2)], Y.toSp K 1 (Y.sp_law Z), KX, fun p hp => ?_, fun p hp => ?_, fun p hp => ?_, fun s v => b s [v] rfl, fun H a ns _ hT hS => Y.law_start ?_ hS, fun base _ _ tb => Y.g_law z ?_⟩
  · rw [one p hp]; exact c.empty _ mem
  · rw [one p hp]; exact c.out _ mem
  · rw [one p hp]; exact PySem.W.codeHd_of_K KX (c.hd _ mem)
  · rw [kt]; exact hT _ List.mem_cons_self
  · rw [kc, kt]; exact tb _ List.mem_cons_self
