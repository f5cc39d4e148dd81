import PyProof.Rows.All
import Wide.All
import OpenK.AllK
import Wide.FinOn
import KE.LcTurns
import KE.KTurns
import KE.KDictOf
import PyProof.AttrMissHeap
import PyProof.CollectWalk
import PyProof.Walks
import PyProof.NeData
import KE.KFind
import KE.KDictAny
import KE.KTreeN
import Lean
import PySem.Challenge.RW_pb0206_01
open PySem PySem.W PySem.Calls PyProof.Rows
set_option maxRecDepth 100000
set_option Elab.async false
set_option maxHeartbeats 4000000
set_option linter.all false
namespace Mine
local macro_rules | `(tactic| walk_at $s:str) => `(tactic| k_extra $s)
-- Frag
def stm (i : Nat) : Stmt := (PySem.Challenge.pw_pb0206_01.main.body[i]?).getD (.Pass default)
def mth (i j : Nat) : Stmt := match stm i with
  | .ClassDef _ _ _ b _ _ _ _ _ _ _ => (b[j]?).getD (.Pass default)
  | s => s
def bdyOf : Stmt → List Stmt
  | .FunctionDef _ _ b _ _ _ _ _ _ _ => b
  | _ => []
def prmOf : Stmt → Arguments
  | .FunctionDef _ a _ _ _ _ _ _ _ _ => a
  | _ => ⟨[], [], none, [], [], none, []⟩
noncomputable def frag : Params → Frag := fun P =>
  (nat_lit 2, ⟨.none, none, (.dict #[] 0), #[]⟩) ::
  (nat_lit 3, ⟨(.type "dict"), none, (.dict #[⟨PyData.keyHash P (Str.ofString "__name__"), (.str (Str.ofString "__name__") 165), (.str (Str.ofString "law_pb0206_01") 1320)⟩, ⟨PyData.keyHash P (Str.ofString "__doc__"), (.str (Str.ofString "__doc__") 166), .none⟩, ⟨PyData.keyHash P (Str.ofString "__package__"), (.str (Str.ofString "__package__") 167), .none⟩, ⟨PyData.keyHash P (Str.ofString "__loader__"), (.str (Str.ofString "__loader__") 168), (.builtin "__main__.__loader__#opaque")⟩, ⟨PyData.keyHash P (Str.ofString "__spec__"), (.str (Str.ofString "__spec__") 169), .none⟩, ⟨PyData.keyHash P (Str.ofString "__annotations__"), (.str (Str.ofString "__annotations__") 170), (.ref 6)⟩, ⟨PyData.keyHash P (Str.ofString "__builtins__"), (.str (Str.ofString "__builtins__") 171), (.ref 4)⟩, ⟨PyData.keyHash P (Str.ofString "__file__"), (.str (Str.ofString "__file__") 173), (.str (Str.ofString "/claim/cut.py") 172)⟩, ⟨PyData.keyHash P (Str.ofString "__cached__"), (.str (Str.ofString "__cached__") 174), .none⟩, ⟨PyData.keyHash P (Str.ofString "_wall"), (.str (Str.ofString "_wall") 193), (.ref 21)⟩, ⟨PyData.keyHash P (Str.ofString "RIGHT_TO_LEFT"), (.str (Str.ofString "RIGHT_TO_LEFT") 197), (.int (1) 196)⟩, ⟨PyData.keyHash P (Str.ofString "IGNORE_BASES"), (.str (Str.ofString "IGNORE_BASES") 199), (.int (2) 198)⟩, ⟨PyData.keyHash P (Str.ofString "IGNORE_LIGATURES"), (.str (Str.ofString "IGNORE_LIGATURES") 201), (.int (4) 200)⟩, ⟨PyData.keyHash P (Str.ofString "IGNORE_MARKS"), (.str (Str.ofString "IGNORE_MARKS") 203), (.int (8) 202)⟩, ⟨PyData.keyHash P (Str.ofString "USE_SET"), (.str (Str.ofString "USE_SET") 205), (.int (16) 204)⟩, ⟨PyData.keyHash P (Str.ofString "Lookup"), (.str (Str.ofString "Lookup") 246), (.ref 43)⟩, ⟨PyData.keyHash P (Str.ofString "Scene"), (.str (Str.ofString "Scene") 287), (.ref 65)⟩, ⟨PyData.keyHash P (Str.ofString "attach_wanted"), (.str (Str.ofString "attach_wanted") 294), (.ref 76)⟩, ⟨PyData.keyHash P (Str.ofString "class_bit"), (.str (Str.ofString "class_bit") 301), (.ref 83)⟩, ⟨PyData.keyHash P (Str.ofString "is_ignored"), (.str (Str.ofString "is_ignored") 312), (.ref 90)⟩, ⟨PyData.keyHash P (Str.ofString "passes"), (.str (Str.ofString "passes") 320), (.ref 97)⟩, ⟨PyData.keyHash P (Str.ofString "nested_scene"), (.str (Str.ofString "nested_scene") 329), (.ref 104)⟩, ⟨PyData.keyHash P (Str.ofString "Info"), (.str (Str.ofString "Info") 392), (.ref 135)⟩, ⟨PyData.keyHash P (Str.ofString "Buffer"), (.str (Str.ofString "Buffer") 458), (.ref 188)⟩, ⟨PyData.keyHash P (Str.ofString "hang"), (.str (Str.ofString "hang") 464), (.ref 197)⟩, ⟨PyData.keyHash P (Str.ofString "KINDS_IN_INPUT"), (.str (Str.ofString "KINDS_IN_INPUT") 469), (.ref 198)⟩, ⟨PyData.keyHash P (Str.ofString "KINDS_AROUND"), (.str (Str.ofString "KINDS_AROUND") 473), (.ref 199)⟩, ⟨PyData.keyHash P (Str.ofString "fits"), (.str (Str.ofString "fits") 481), (.ref 206)⟩, ⟨PyData.keyHash P (Str.ofString "neighbour"), (.str (Str.ofString "neighbour") 491), (.ref 213)⟩, ⟨PyData.keyHash P (Str.ofString "next_at"), (.str (Str.ofString "next_at") 499), (.ref 220)⟩, ⟨PyData.keyHash P (Str.ofString "before_at"), (.str (Str.ofString "before_at") 507), (.ref 227)⟩, ⟨PyData.keyHash P (Str.ofString "is_borne"), (.str (Str.ofString "is_borne") 515), (.ref 234)⟩, ⟨PyData.keyHash P (Str.ofString "found_at"), (.str (Str.ofString "found_at") 529), (.ref 241)⟩, ⟨PyData.keyHash P (Str.ofString "input_at"), (.str (Str.ofString "input_at") 541), (.ref 248)⟩, ⟨PyData.keyHash P (Str.ofString "last_at"), (.str (Str.ofString "last_at") 553), (.ref 255)⟩, ⟨PyData.keyHash P (Str.ofString "ahead_at"), (.str (Str.ofString "ahead_at") 562), (.ref 262)⟩, ⟨PyData.keyHash P (Str.ofString "back_at"), (.str (Str.ofString "back_at") 571), (.ref 269)⟩, ⟨PyData.keyHash P (Str.ofString "BOND"), (.str (Str.ofString "BOND") 575), (.str (Str.ofString "cursive") 574)⟩, ⟨PyData.keyHash P (Str.ofString "join_forward"), (.str (Str.ofString "join_forward") 586), (.ref 276)⟩, ⟨PyData.keyHash P (Str.ofString "join_backward"), (.str (Str.ofString "join_backward") 597), (.ref 283)⟩, ⟨PyData.keyHash P (Str.ofString "loosen"), (.str (Str.ofString "loosen") 604), (.ref 290)⟩, ⟨PyData.keyHash P (Str.ofString "turn_chain"), (.str (Str.ofString "turn_chain") 618), (.ref 297)⟩, ⟨PyData.keyHash P (Str.ofString "break_ring"), (.str (Str.ofString "break_ring") 629), (.ref 304)⟩, ⟨PyData.keyHash P (Str.ofString "tie"), (.str (Str.ofString "tie") 639), (.ref 311)⟩, ⟨PyData.keyHash P (Str.ofString "apply_cursive"), (.str (Str.ofString "apply_cursive") 652), (.ref 318)⟩, ⟨PyData.keyHash P (Str.ofString "Anchor"), (.str (Str.ofString "Anchor") 692), (.ref 342)⟩, ⟨PyData.keyHash P (Str.ofString "told_anchor"), (.str (Str.ofString "told_anchor") 699), (.ref 353)⟩, ⟨PyData.keyHash P (Str.ofString "difference"), (.str (Str.ofString "difference") 707), (.ref 360)⟩, ⟨PyData.keyHash P (Str.ofString "told_marks"), (.str (Str.ofString "told_marks") 713), (.ref 365)⟩, ⟨PyData.keyHash P (Str.ofString "MARK_GLYPH"), (.str (Str.ofString "MARK_GLYPH") 717), (.int (3) 716)⟩, ⟨PyData.keyHash P (Str.ofString "classes_of"), (.str (Str.ofString "classes_of") 723), (.ref 370)⟩, ⟨PyData.keyHash P (Str.ofString "told_row"), (.str (Str.ofString "told_row") 729), (.ref 375)⟩, ⟨PyData.keyHash P (Str.ofString "has_anchor"), (.str (Str.ofString "has_anchor") 735), (.ref 380)⟩, ⟨PyData.keyHash P (Str.ofString "told_by_glyph"), (.str (Str.ofString "told_by_glyph") 746), (.ref 387)⟩, ⟨PyData.keyHash P (Str.ofString "MarkBase"), (.str (Str.ofString "MarkBase") 784), (.ref 411)⟩, ⟨PyData.keyHash P (Str.ofString "MarkComponent"), (.str (Str.ofString "MarkComponent") 821), (.ref 437)⟩, ⟨PyData.keyHash P (Str.ofString "MarkMark"), (.str (Str.ofString "MarkMark") 859), (.ref 465)⟩, ⟨PyData.keyHash P (Str.ofString "scene_with"), (.str (Str.ofString "scene_with") 869), (.ref 476)⟩, ⟨PyData.keyHash P (Str.ofString "is_mark_at"), (.str (Str.ofString "is_mark_at") 877), (.ref 483)⟩, ⟨PyData.keyHash P (Str.ofString "is_later_part"), (.str (Str.ofString "is_later_part") 887), (.ref 490)⟩, ⟨PyData.keyHash P (Str.ofString "base_ahead"), (.str (Str.ofString "base_ahead") 897), (.ref 497)⟩, ⟨PyData.keyHash P (Str.ofString "set_on"), (.str (Str.ofString "set_on") 912), (.ref 504)⟩, ⟨PyData.keyHash P (Str.ofString "apply_base"), (.str (Str.ofString "apply_base") 922), (.ref 511)⟩, ⟨PyData.keyHash P (Str.ofString "component_of"), (.str (Str.ofString "component_of") 931), (.ref 518)⟩, ⟨PyData.keyHash P (Str.ofString "apply_component"), (.str (Str.ofString "apply_component") 943), (.ref 525)⟩, ⟨PyData.keyHash P (Str.ofString "are_of_one"), (.str (Str.ofString "are_of_one") 951), (.ref 532)⟩, ⟨PyData.keyHash P (Str.ofString "apply_mark"), (.str (Str.ofString "apply_mark") 963), (.ref 539)⟩, ⟨PyData.keyHash P (Str.ofString "BY_GLYPHS"), (.str (Str.ofString "BY_GLYPHS") 967), (.int (1) 966)⟩, ⟨PyData.keyHash P (Str.ofString "BY_CLASSES"), (.str (Str.ofString "BY_CLASSES") 969), (.int (2) 968)⟩, ⟨PyData.keyHash P (Str.ofString "tests_of"), (.str (Str.ofString "tests_of") 975), (.ref 544)⟩, ⟨PyData.keyHash P (Str.ofString "rule_tests"), (.str (Str.ofString "rule_tests") 987), (.ref 551)⟩, ⟨PyData.keyHash P (Str.ofString "rules_at"), (.str (Str.ofString "rules_at") 993), (.ref 556)⟩, ⟨PyData.keyHash P (Str.ofString "MOST_DEPTH"), (.str (Str.ofString "MOST_DEPTH") 997), (.int (6) 996)⟩, ⟨PyData.keyHash P (Str.ofString "MOST_PLACES"), (.str (Str.ofString "MOST_PLACES") 999), (.int (64) 998)⟩, ⟨PyData.keyHash P (Str.ofString "MOST_ACTIONS"), (.str (Str.ofString "MOST_ACTIONS") 1001), (.int (256) 1000)⟩, ⟨PyData.keyHash P (Str.ofString "Places"), (.str (Str.ofString "Places") 1032), (.ref 573)⟩, ⟨PyData.keyHash P (Str.ofString "match_rule"), (.str (Str.ofString "match_rule") 1048), (.ref 584)⟩, ⟨PyData.keyHash P (Str.ofString "inner_scene"), (.str (Str.ofString "inner_scene") 1056), (.ref 591)⟩, ⟨PyData.keyHash P (Str.ofString "grow"), (.str (Str.ofString "grow") 1062), (.ref 596)⟩, ⟨PyData.keyHash P (Str.ofString "shrink"), (.str (Str.ofString "shrink") 1068), (.ref 601)⟩, ⟨PyData.keyHash P (Str.ofString "move"), (.str (Str.ofString "move") 1077), (.ref 608)⟩, ⟨PyData.keyHash P (Str.ofString "do_action"), (.str (Str.ofString "do_action") 1092), (.ref 615)⟩, ⟨PyData.keyHash P (Str.ofString "do_actions"), (.str (Str.ofString "do_actions") 1103), (.ref 622)⟩, ⟨PyData.keyHash P (Str.ofString "apply_context"), (.str (Str.ofString "apply_context") 1115), (.ref 629)⟩, ⟨PyData.keyHash P (Str.ofString "add_value"), (.str (Str.ofString "add_value") 1126), (.ref 636)⟩, ⟨PyData.keyHash P (Str.ofString "apply_adjust"), (.str (Str.ofString "apply_adjust") 1137), (.ref 643)⟩, ⟨PyData.keyHash P (Str.ofString "has_second"), (.str (Str.ofString "has_second") 1146), (.ref 650)⟩, ⟨PyData.keyHash P (Str.ofString "apply_pair"), (.str (Str.ofString "apply_pair") 1158), (.ref 657)⟩, ⟨PyData.keyHash P (Str.ofString "apply_position"), (.str (Str.ofString "apply_position") 1170), (.ref 664)⟩, ⟨PyData.keyHash P (Str.ofString "position_at"), (.str (Str.ofString "position_at") 1180), (.ref 671)⟩, ⟨PyData.keyHash P (Str.ofString "ClassDef"), (.str (Str.ofString "ClassDef") 1242), (.ref 714)⟩, ⟨PyData.keyHash P (Str.ofString "NO_CLASS"), (.str (Str.ofString "NO_CLASS") 1246), (.int (0) 1245)⟩, ⟨PyData.keyHash P (Str.ofString "BASE"), (.str (Str.ofString "BASE") 1248), (.int (1) 1247)⟩, ⟨PyData.keyHash P (Str.ofString "COMPONENT"), (.str (Str.ofString "COMPONENT") 1250), (.int (4) 1249)⟩, ⟨PyData.keyHash P (Str.ofString "Gdef"), (.str (Str.ofString "Gdef") 1319), (.ref 762)⟩, ⟨PyData.keyHash P (Str.ofString "_law_pen"), (.str (Str.ofString "_law_pen") 1327), (.ref 771)⟩, ⟨PyData.keyHash P (Str.ofString "_law_draw"), (.str (Str.ofString "_law_draw") 1340), (.ref 778)⟩, ⟨PyData.keyHash P (Str.ofString "_law_pick"), (.str (Str.ofString "_law_pick") 1348), (.ref 785)⟩, ⟨PyData.keyHash P (Str.ofString "_law_anchors"), (.str (Str.ofString "_law_anchors") 1354), (.ref 790)⟩, ⟨PyData.keyHash P (Str.ofString "_law_table"), (.str (Str.ofString "_law_table") 1360), (.ref 795)⟩, ⟨PyData.keyHash P (Str.ofString "_law_seen"), (.str (Str.ofString "_law_seen") 1366), (.ref 800)⟩, ⟨PyData.keyHash P (Str.ofString "law"), (.str (Str.ofString "law") 1372), (.ref 805)⟩] 102), #[]⟩) ::
  (nat_lit 34, ⟨(.type "code"), none, (.fields #[(.str (Str.ofString "__init__") 218), (.str (Str.ofString "Lookup.__init__") 219), (.str (Str.ofString "/claim/cut.py") 220), (.int (12) 0), (.int (5) 0), (.int (0) 0), (.int (0) 0), (.int (3) 0), (.ref 29), (.bool true), (.int (181) 0), (.ref 30), .none, (.ref 31), (.ref 32), (.ref 33), (.int (226) 0), (.int (12) 0), (.str (Str.ofString "/claim/cut.py") 227)]), #[]⟩) ::
  (nat_lit 35, ⟨(.type "function"), none, (.func (fnOf (Str.ofString "__init__") (Str.ofString "Lookup.__init__") (prmOf (mth 7 0)) (bdyOf (mth 7 0)) ⟨.function, [((Str.ofString "self"), .local), ((Str.ofString "kind"), .local), ((Str.ofString "flag"), .local), ((Str.ofString "mark_set"), .local), ((Str.ofString "tables"), .local)], false, false, []⟩ .none .none .none (.str (Str.ofString "joinedhand.flags") 194) none (.ref 34) .none)), #[]⟩) ::
  (nat_lit 42, ⟨(.type "dict"), none, (.dict #[⟨PyData.keyHash P (Str.ofString "__module__"), (.str (Str.ofString "__module__") 213), (.str (Str.ofString "joinedhand.flags") 194)⟩, ⟨PyData.keyHash P (Str.ofString "__firstlineno__"), (.str (Str.ofString "__firstlineno__") 217), (.int (10) 216)⟩, ⟨PyData.keyHash P (Str.ofString "__init__"), (.str (Str.ofString "__init__") 228), (.ref 35)⟩, ⟨PyData.keyHash P (Str.ofString "told"), (.str (Str.ofString "told") 234), (.ref 40)⟩, ⟨PyData.keyHash P (Str.ofString "__static_attributes__"), (.str (Str.ofString "__static_attributes__") 239), (.ref 41)⟩, ⟨PyData.keyHash P (Str.ofString "__dict__"), (.str (Str.ofString "__dict__") 241), (.ref 44)⟩, ⟨PyData.keyHash P (Str.ofString "__weakref__"), (.str (Str.ofString "__weakref__") 243), (.ref 45)⟩, ⟨PyData.keyHash P (Str.ofString "__doc__"), (.str (Str.ofString "__doc__") 244), .none⟩] 4), #[]⟩) ::
  (nat_lit 43, ⟨(.type "type"), none, (.cls { name := (Str.ofString "Lookup"), bases := [(.type "object")], mro := [(.ref 43), (.type "object")], ns := 42, qualname := (Str.ofString "Lookup"), hasDict := true, slotNames := [], subclasses := [], abstract := false, collection := none, hasDel := false }), #[none, none, (some (.str (Str.ofString "Lookup") 206)), (some (.str (Str.ofString "Lookup") 214)), (some (.builtin "object.__new__")), (some (.bool true))]⟩) ::
  (nat_lit 44, ⟨(.type "getset_descriptor"), none, (.fields #[(.str (Str.ofString "__dict__") 240), (.ref 43), (.builtin "function.__dict__"), (.builtin "function.__dict__#set")]), #[]⟩) ::
  (nat_lit 45, ⟨(.type "getset_descriptor"), none, (.fields #[(.str (Str.ofString "__weakref__") 242), (.ref 43), (.builtin "ExceptionGroup.__weakref__"), .none]), #[]⟩) ::
  (nat_lit 55, ⟨(.type "tuple"), none, (.seq #[(.int (0) 259)] 0), #[]⟩) ::
  (nat_lit 61, ⟨(.type "code"), none, (.fields #[(.str (Str.ofString "__init__") 260), (.str (Str.ofString "Scene.__init__") 261), (.str (Str.ofString "/claim/cut.py") 262), (.int (23) 0), (.int (7) 0), (.int (0) 0), (.int (0) 0), (.int (3) 0), (.ref 56), (.bool true), (.int (181) 0), (.ref 57), .none, (.ref 58), (.ref 59), (.ref 60), (.int (270) 0), (.int (23) 0), (.str (Str.ofString "/claim/cut.py") 271)]), #[]⟩) ::
  (nat_lit 62, ⟨(.type "function"), none, (.func (fnOf (Str.ofString "__init__") (Str.ofString "Scene.__init__") (prmOf (mth 8 0)) (bdyOf (mth 8 0)) ⟨.function, [((Str.ofString "self"), .local), ((Str.ofString "buffer"), .local), ((Str.ofString "gdef"), .local), ((Str.ofString "lookups"), .local), ((Str.ofString "lookup"), .local), ((Str.ofString "mask"), .local), ((Str.ofString "depth"), .local)], false, false, []⟩ (.ref 55) .none .none (.str (Str.ofString "joinedhand.flags") 194) none (.ref 61) .none)), #[]⟩) ::
  (nat_lit 64, ⟨(.type "dict"), none, (.dict #[⟨PyData.keyHash P (Str.ofString "__module__"), (.str (Str.ofString "__module__") 254), (.str (Str.ofString "joinedhand.flags") 194)⟩, ⟨PyData.keyHash P (Str.ofString "__firstlineno__"), (.str (Str.ofString "__firstlineno__") 258), (.int (21) 257)⟩, ⟨PyData.keyHash P (Str.ofString "__init__"), (.str (Str.ofString "__init__") 272), (.ref 62)⟩, ⟨PyData.keyHash P (Str.ofString "__static_attributes__"), (.str (Str.ofString "__static_attributes__") 280), (.ref 63)⟩, ⟨PyData.keyHash P (Str.ofString "__dict__"), (.str (Str.ofString "__dict__") 282), (.ref 66)⟩, ⟨PyData.keyHash P (Str.ofString "__weakref__"), (.str (Str.ofString "__weakref__") 284), (.ref 67)⟩, ⟨PyData.keyHash P (Str.ofString "__doc__"), (.str (Str.ofString "__doc__") 285), .none⟩] 4), #[]⟩) ::
  (nat_lit 65, ⟨(.type "type"), none, (.cls { name := (Str.ofString "Scene"), bases := [(.type "object")], mro := [(.ref 65), (.type "object")], ns := 64, qualname := (Str.ofString "Scene"), hasDict := true, slotNames := [], subclasses := [], abstract := false, collection := none, hasDel := false }), #[none, none, (some (.str (Str.ofString "Scene") 247)), (some (.str (Str.ofString "Scene") 255)), (some (.builtin "object.__new__")), (some (.bool true))]⟩) ::
  (nat_lit 66, ⟨(.type "getset_descriptor"), none, (.fields #[(.str (Str.ofString "__dict__") 281), (.ref 65), (.builtin "function.__dict__"), (.builtin "function.__dict__#set")]), #[]⟩) ::
  (nat_lit 67, ⟨(.type "getset_descriptor"), none, (.fields #[(.str (Str.ofString "__weakref__") 283), (.ref 65), (.builtin "ExceptionGroup.__weakref__"), .none]), #[]⟩) ::
  (nat_lit 75, ⟨(.type "code"), none, (.fields #[(.str (Str.ofString "attach_wanted") 288), (.str (Str.ofString "attach_wanted") 289), (.str (Str.ofString "/claim/cut.py") 290), (.int (31) 0), (.int (1) 0), (.int (0) 0), (.int (0) 0), (.int (3) 0), (.ref 70), (.bool true), (.int (181) 0), (.ref 71), .none, (.ref 72), (.ref 73), (.ref 74), (.int (292) 0), (.int (31) 0), (.str (Str.ofString "/claim/cut.py") 293)]), #[]⟩) ::
  (nat_lit 76, ⟨(.type "function"), none, (.func (fnOf (Str.ofString "attach_wanted") (Str.ofString "attach_wanted") (prmOf (stm 9)) (bdyOf (stm 9)) ⟨.function, [((Str.ofString "flag"), .local)], false, false, []⟩ .none .none .none (.str (Str.ofString "joinedhand.flags") 194) none (.ref 75) .none)), #[]⟩) ::
  (nat_lit 82, ⟨(.type "code"), none, (.fields #[(.str (Str.ofString "class_bit") 295), (.str (Str.ofString "class_bit") 296), (.str (Str.ofString "/claim/cut.py") 297), (.int (33) 0), (.int (1) 0), (.int (0) 0), (.int (0) 0), (.int (3) 0), (.ref 77), (.bool true), (.int (181) 0), (.ref 78), .none, (.ref 79), (.ref 80), (.ref 81), (.int (299) 0), (.int (33) 0), (.str (Str.ofString "/claim/cut.py") 300)]), #[]⟩) ::
  (nat_lit 83, ⟨(.type "function"), none, (.func (fnOf (Str.ofString "class_bit") (Str.ofString "class_bit") (prmOf (stm 10)) (bdyOf (stm 10)) ⟨.function, [((Str.ofString "number"), .local), ((Str.ofString "IGNORE_BASES"), .globalImplicit), ((Str.ofString "IGNORE_LIGATURES"), .globalImplicit), ((Str.ofString "IGNORE_MARKS"), .globalImplicit)], false, false, []⟩ .none .none .none (.str (Str.ofString "joinedhand.flags") 194) none (.ref 82) .none)), #[]⟩) ::
  (nat_lit 89, ⟨(.type "code"), none, (.fields #[(.str (Str.ofString "is_ignored") 302), (.str (Str.ofString "is_ignored") 303), (.str (Str.ofString "/claim/cut.py") 304), (.int (35) 0), (.int (3) 0), (.int (0) 0), (.int (0) 0), (.int (3) 0), (.ref 84), (.bool true), (.int (181) 0), (.ref 85), .none, (.ref 86), (.ref 87), (.ref 88), (.int (310) 0), (.int (35) 0), (.str (Str.ofString "/claim/cut.py") 311)]), #[]⟩) ::
  (nat_lit 90, ⟨(.type "function"), none, (.func (fnOf (Str.ofString "is_ignored") (Str.ofString "is_ignored") (prmOf (stm 11)) (bdyOf (stm 11)) ⟨.function, [((Str.ofString "gdef"), .local), ((Str.ofString "lookup"), .local), ((Str.ofString "glyph"), .local), ((Str.ofString "number"), .local), ((Str.ofString "wanted"), .local), ((Str.ofString "class_bit"), .globalImplicit), ((Str.ofString "USE_SET"), .globalImplicit), ((Str.ofString "attach_wanted"), .globalImplicit)], false, false, []⟩ .none .none .none (.str (Str.ofString "joinedhand.flags") 194) none (.ref 89) .none)), #[]⟩) ::
  (nat_lit 96, ⟨(.type "code"), none, (.fields #[(.str (Str.ofString "passes") 313), (.str (Str.ofString "passes") 314), (.str (Str.ofString "/claim/cut.py") 315), (.int (45) 0), (.int (2) 0), (.int (0) 0), (.int (0) 0), (.int (3) 0), (.ref 91), (.bool true), (.int (181) 0), (.ref 92), .none, (.ref 93), (.ref 94), (.ref 95), (.int (318) 0), (.int (45) 0), (.str (Str.ofString "/claim/cut.py") 319)]), #[]⟩) ::
  (nat_lit 97, ⟨(.type "function"), none, (.func (fnOf (Str.ofString "passes") (Str.ofString "passes") (prmOf (stm 12)) (bdyOf (stm 12)) ⟨.function, [((Str.ofString "scene"), .local), ((Str.ofString "at"), .local), ((Str.ofString "is_ignored"), .globalImplicit)], false, false, []⟩ .none .none .none (.str (Str.ofString "joinedhand.flags") 194) none (.ref 96) .none)), #[]⟩) ::
  (nat_lit 117, ⟨(.type "code"), none, (.fields #[(.str (Str.ofString "__init__") 344), (.str (Str.ofString "Info.__init__") 345), (.str (Str.ofString "/claim/cut.py") 346), (.int (56) 0), (.int (4) 0), (.int (0) 0), (.int (0) 0), (.int (3) 0), (.ref 112), (.bool true), (.int (181) 0), (.ref 113), .none, (.ref 114), (.ref 115), (.ref 116), (.int (351) 0), (.int (56) 0), (.str (Str.ofString "/claim/cut.py") 352)]), #[]⟩) ::
  (nat_lit 118, ⟨(.type "function"), none, (.func (fnOf (Str.ofString "__init__") (Str.ofString "Info.__init__") (prmOf (mth 15 0)) (bdyOf (mth 15 0)) ⟨.function, [((Str.ofString "self"), .local), ((Str.ofString "code"), .local), ((Str.ofString "glyph"), .local), ((Str.ofString "cluster"), .local)], false, false, []⟩ .none .none .none (.str (Str.ofString "joinedhand.buffer") 330) none (.ref 117) .none)), #[]⟩) ::
  (nat_lit 124, ⟨(.type "code"), none, (.fields #[(.str (Str.ofString "copied") 354), (.str (Str.ofString "Info.copied") 355), (.str (Str.ofString "/claim/cut.py") 356), (.int (74) 0), (.int (1) 0), (.int (0) 0), (.int (0) 0), (.int (3) 0), (.ref 119), (.bool true), (.int (181) 0), (.ref 120), .none, (.ref 121), (.ref 122), (.ref 123), (.int (359) 0), (.int (74) 0), (.str (Str.ofString "/claim/cut.py") 360)]), #[]⟩) ::
  (nat_lit 125, ⟨(.type "function"), none, (.func (fnOf (Str.ofString "copied") (Str.ofString "Info.copied") (prmOf (mth 15 1)) (bdyOf (mth 15 1)) ⟨.function, [((Str.ofString "self"), .local), ((Str.ofString "found"), .local), ((Str.ofString "Info"), .globalImplicit)], false, false, []⟩ .none .none .none (.str (Str.ofString "joinedhand.buffer") 330) none (.ref 124) .none)), #[]⟩) ::
  (nat_lit 131, ⟨(.type "code"), none, (.fields #[(.str (Str.ofString "told") 362), (.str (Str.ofString "Info.told") 363), (.str (Str.ofString "/claim/cut.py") 364), (.int (91) 0), (.int (1) 0), (.int (0) 0), (.int (0) 0), (.int (3) 0), (.ref 126), (.bool true), (.int (181) 0), (.ref 127), .none, (.ref 128), (.ref 129), (.ref 130), (.int (366) 0), (.int (91) 0), (.str (Str.ofString "/claim/cut.py") 367)]), #[]⟩) ::
  (nat_lit 132, ⟨(.type "function"), none, (.func (fnOf (Str.ofString "told") (Str.ofString "Info.told") (prmOf (mth 15 2)) (bdyOf (mth 15 2)) ⟨.function, [((Str.ofString "self"), .local)], false, false, []⟩ .none .none .none (.str (Str.ofString "joinedhand.buffer") 330) none (.ref 131) .none)), #[]⟩) ::
  (nat_lit 134, ⟨(.type "dict"), none, (.dict #[⟨PyData.keyHash P (Str.ofString "__module__"), (.str (Str.ofString "__module__") 339), (.str (Str.ofString "joinedhand.buffer") 330)⟩, ⟨PyData.keyHash P (Str.ofString "__firstlineno__"), (.str (Str.ofString "__firstlineno__") 343), (.int (54) 342)⟩, ⟨PyData.keyHash P (Str.ofString "__init__"), (.str (Str.ofString "__init__") 353), (.ref 118)⟩, ⟨PyData.keyHash P (Str.ofString "copied"), (.str (Str.ofString "copied") 361), (.ref 125)⟩, ⟨PyData.keyHash P (Str.ofString "told"), (.str (Str.ofString "told") 368), (.ref 132)⟩, ⟨PyData.keyHash P (Str.ofString "__static_attributes__"), (.str (Str.ofString "__static_attributes__") 385), (.ref 133)⟩, ⟨PyData.keyHash P (Str.ofString "__dict__"), (.str (Str.ofString "__dict__") 387), (.ref 136)⟩, ⟨PyData.keyHash P (Str.ofString "__weakref__"), (.str (Str.ofString "__weakref__") 389), (.ref 137)⟩, ⟨PyData.keyHash P (Str.ofString "__doc__"), (.str (Str.ofString "__doc__") 390), .none⟩] 4), #[]⟩) ::
  (nat_lit 135, ⟨(.type "type"), none, (.cls { name := (Str.ofString "Info"), bases := [(.type "object")], mro := [(.ref 135), (.type "object")], ns := 134, qualname := (Str.ofString "Info"), hasDict := true, slotNames := [], subclasses := [], abstract := false, collection := none, hasDel := false }), #[none, none, (some (.str (Str.ofString "Info") 332)), (some (.str (Str.ofString "Info") 340)), (some (.builtin "object.__new__")), (some (.bool true))]⟩) ::
  (nat_lit 136, ⟨(.type "getset_descriptor"), none, (.fields #[(.str (Str.ofString "__dict__") 386), (.ref 135), (.builtin "function.__dict__"), (.builtin "function.__dict__#set")]), #[]⟩) ::
  (nat_lit 137, ⟨(.type "getset_descriptor"), none, (.fields #[(.str (Str.ofString "__weakref__") 388), (.ref 135), (.builtin "ExceptionGroup.__weakref__"), .none]), #[]⟩) ::
  (nat_lit 147, ⟨(.type "tuple"), none, (.seq #[(.bool false)] 0), #[]⟩) ::
  (nat_lit 153, ⟨(.type "code"), none, (.fields #[(.str (Str.ofString "__init__") 405), (.str (Str.ofString "Buffer.__init__") 406), (.str (Str.ofString "/claim/cut.py") 407), (.int (95) 0), (.int (3) 0), (.int (0) 0), (.int (0) 0), (.int (3) 0), (.ref 148), (.bool true), (.int (181) 0), (.ref 149), .none, (.ref 150), (.ref 151), (.ref 152), (.int (411) 0), (.int (95) 0), (.str (Str.ofString "/claim/cut.py") 412)]), #[]⟩) ::
  (nat_lit 154, ⟨(.type "function"), none, (.func (fnOf (Str.ofString "__init__") (Str.ofString "Buffer.__init__") (prmOf (mth 16 0)) (bdyOf (mth 16 0)) ⟨.function, [((Str.ofString "self"), .local), ((Str.ofString "infos"), .local), ((Str.ofString "is_backward"), .local)], false, false, []⟩ (.ref 147) .none .none (.str (Str.ofString "joinedhand.buffer") 330) none (.ref 153) .none)), #[]⟩) ::
  (nat_lit 187, ⟨(.type "dict"), none, (.dict #[⟨PyData.keyHash P (Str.ofString "__module__"), (.str (Str.ofString "__module__") 400), (.str (Str.ofString "joinedhand.buffer") 330)⟩, ⟨PyData.keyHash P (Str.ofString "__firstlineno__"), (.str (Str.ofString "__firstlineno__") 404), (.int (93) 403)⟩, ⟨PyData.keyHash P (Str.ofString "__init__"), (.str (Str.ofString "__init__") 413), (.ref 154)⟩, ⟨PyData.keyHash P (Str.ofString "glyphs"), (.str (Str.ofString "glyphs") 419), (.ref 159)⟩, ⟨PyData.keyHash P (Str.ofString "clusters"), (.str (Str.ofString "clusters") 426), (.ref 166)⟩, ⟨PyData.keyHash P (Str.ofString "told"), (.str (Str.ofString "told") 432), (.ref 171)⟩, ⟨PyData.keyHash P (Str.ofString "next_lig"), (.str (Str.ofString "next_lig") 439), (.ref 178)⟩, ⟨PyData.keyHash P (Str.ofString "next_split"), (.str (Str.ofString "next_split") 446), (.ref 185)⟩, ⟨PyData.keyHash P (Str.ofString "__static_attributes__"), (.str (Str.ofString "__static_attributes__") 451), (.ref 186)⟩, ⟨PyData.keyHash P (Str.ofString "__dict__"), (.str (Str.ofString "__dict__") 453), (.ref 189)⟩, ⟨PyData.keyHash P (Str.ofString "__weakref__"), (.str (Str.ofString "__weakref__") 455), (.ref 190)⟩, ⟨PyData.keyHash P (Str.ofString "__doc__"), (.str (Str.ofString "__doc__") 456), .none⟩] 4), #[]⟩) ::
  (nat_lit 188, ⟨(.type "type"), none, (.cls { name := (Str.ofString "Buffer"), bases := [(.type "object")], mro := [(.ref 188), (.type "object")], ns := 187, qualname := (Str.ofString "Buffer"), hasDict := true, slotNames := [], subclasses := [], abstract := false, collection := none, hasDel := false }), #[none, none, (some (.str (Str.ofString "Buffer") 393)), (some (.str (Str.ofString "Buffer") 401)), (some (.builtin "object.__new__")), (some (.bool true))]⟩) ::
  (nat_lit 189, ⟨(.type "getset_descriptor"), none, (.fields #[(.str (Str.ofString "__dict__") 452), (.ref 188), (.builtin "function.__dict__"), (.builtin "function.__dict__#set")]), #[]⟩) ::
  (nat_lit 190, ⟨(.type "getset_descriptor"), none, (.fields #[(.str (Str.ofString "__weakref__") 454), (.ref 188), (.builtin "ExceptionGroup.__weakref__"), .none]), #[]⟩) ::
  (nat_lit 196, ⟨(.type "code"), none, (.fields #[(.str (Str.ofString "hang") 459), (.str (Str.ofString "hang") 460), (.str (Str.ofString "/claim/cut.py") 461), (.int (115) 0), (.int (3) 0), (.int (0) 0), (.int (0) 0), (.int (3) 0), (.ref 193), (.bool true), (.int (181) 0), (.ref 194), .none, .none, .none, (.ref 195), (.int (462) 0), (.int (115) 0), (.str (Str.ofString "/claim/cut.py") 463)]), #[]⟩) ::
  (nat_lit 197, ⟨(.type "function"), none, (.func (fnOf (Str.ofString "hang") (Str.ofString "hang") (prmOf (stm 17)) (bdyOf (stm 17)) ⟨.function, [((Str.ofString "buffer"), .local), ((Str.ofString "begin"), .local), ((Str.ofString "end"), .local), ((Str.ofString "stretch"), .local), ((Str.ofString "info"), .local), ((Str.ofString "least_cluster"), .local), ((Str.ofString "len"), .globalImplicit), ((Str.ofString "min"), .globalImplicit)], false, false, [((Str.ofString "fast"), (.str (Str.ofString "buffer"))), ((Str.ofString "fast"), (.str (Str.ofString "begin"))), ((Str.ofString "fast"), (.str (Str.ofString "end"))), ((Str.ofString "fast"), (.str (Str.ofString "stretch"))), ((Str.ofString "fast"), (.str (Str.ofString "info"))), ((Str.ofString "fast"), (.str (Str.ofString "least_cluster")))]⟩ .none .none .none (.str (Str.ofString "joinedhand.buffer") 330) none (.ref 196) .none)), #[]⟩) ::
  (nat_lit 199, ⟨(.type "tuple"), none, (.seq #[(.str (Str.ofString "zwj") 470), (.str (Str.ofString "zwnj") 471), (.str (Str.ofString "hidden") 472)] 0), #[]⟩) ::
  (nat_lit 212, ⟨(.type "code"), none, (.fields #[(.str (Str.ofString "neighbour") 482), (.str (Str.ofString "neighbour") 483), (.str (Str.ofString "/claim/cut.py") 484), (.int (132) 0), (.int (3) 0), (.int (0) 0), (.int (0) 0), (.int (3) 0), (.ref 207), (.bool true), (.int (181) 0), (.ref 208), .none, (.ref 209), (.ref 210), (.ref 211), (.int (489) 0), (.int (132) 0), (.str (Str.ofString "/claim/cut.py") 490)]), #[]⟩) ::
  (nat_lit 213, ⟨(.type "function"), none, (.func (fnOf (Str.ofString "neighbour") (Str.ofString "neighbour") (prmOf (stm 22)) (bdyOf (stm 22)) ⟨.function, [((Str.ofString "scene"), .local), ((Str.ofString "at"), .local), ((Str.ofString "step"), .local), ((Str.ofString "here"), .local), ((Str.ofString "len"), .globalImplicit), ((Str.ofString "passes"), .globalImplicit), ((Str.ofString "KINDS_AROUND"), .globalImplicit)], false, false, []⟩ .none .none .none (.str (Str.ofString "joinedhand.matching") 465) none (.ref 212) .none)), #[]⟩) ::
  (nat_lit 226, ⟨(.type "code"), none, (.fields #[(.str (Str.ofString "before_at") 500), (.str (Str.ofString "before_at") 501), (.str (Str.ofString "/claim/cut.py") 502), (.int (141) 0), (.int (2) 0), (.int (0) 0), (.int (0) 0), (.int (3) 0), (.ref 221), (.bool true), (.int (181) 0), (.ref 222), .none, (.ref 223), (.ref 224), (.ref 225), (.int (505) 0), (.int (141) 0), (.str (Str.ofString "/claim/cut.py") 506)]), #[]⟩) ::
  (nat_lit 227, ⟨(.type "function"), none, (.func (fnOf (Str.ofString "before_at") (Str.ofString "before_at") (prmOf (stm 24)) (bdyOf (stm 24)) ⟨.function, [((Str.ofString "scene"), .local), ((Str.ofString "at"), .local), ((Str.ofString "neighbour"), .globalImplicit)], false, false, []⟩ .none .none .none (.str (Str.ofString "joinedhand.matching") 465) none (.ref 226) .none)), #[]⟩) ::
  (nat_lit 303, ⟨(.type "code"), none, (.fields #[(.str (Str.ofString "break_ring") 619), (.str (Str.ofString "break_ring") 620), (.str (Str.ofString "/claim/cut.py") 621), (.int (206) 0), (.int (3) 0), (.int (0) 0), (.int (0) 0), (.int (3) 0), (.ref 298), (.bool true), (.int (181) 0), (.ref 299), .none, (.ref 300), (.ref 301), (.ref 302), (.int (627) 0), (.int (206) 0), (.str (Str.ofString "/claim/cut.py") 628)]), #[]⟩) ::
  (nat_lit 304, ⟨(.type "function"), none, (.func (fnOf (Str.ofString "break_ring") (Str.ofString "break_ring") (prmOf (stm 37)) (bdyOf (stm 37)) ⟨.function, [((Str.ofString "row"), .local), ((Str.ofString "child"), .local), ((Str.ofString "parent"), .local), ((Str.ofString "here"), .local), ((Str.ofString "turn"), .local), ((Str.ofString "range"), .globalImplicit), ((Str.ofString "len"), .globalImplicit), ((Str.ofString "loosen"), .globalImplicit)], false, false, []⟩ .none .none .none (.str (Str.ofString "joinedhand.cursive") 572) none (.ref 303) .none)), #[]⟩) ::
  (nat_lit 331, ⟨(.type "code"), none, (.fields #[(.str (Str.ofString "__init__") 667), (.str (Str.ofString "Anchor.__init__") 668), (.str (Str.ofString "/claim/cut.py") 669), (.int (244) 0), (.int (3) 0), (.int (0) 0), (.int (0) 0), (.int (3) 0), (.ref 326), (.bool true), (.int (181) 0), (.ref 327), .none, (.ref 328), (.ref 329), (.ref 330), (.int (673) 0), (.int (244) 0), (.str (Str.ofString "/claim/cut.py") 674)]), #[]⟩) ::
  (nat_lit 332, ⟨(.type "function"), none, (.func (fnOf (Str.ofString "__init__") (Str.ofString "Anchor.__init__") (prmOf (mth 41 0)) (bdyOf (mth 41 0)) ⟨.function, [((Str.ofString "self"), .local), ((Str.ofString "x"), .local), ((Str.ofString "y"), .local)], false, false, []⟩ .none .none .none (.str (Str.ofString "joinedhand.anchors") 653) none (.ref 331) .none)), #[]⟩) ::
  (nat_lit 341, ⟨(.type "dict"), none, (.dict #[⟨PyData.keyHash P (Str.ofString "__module__"), (.str (Str.ofString "__module__") 662), (.str (Str.ofString "joinedhand.anchors") 653)⟩, ⟨PyData.keyHash P (Str.ofString "__firstlineno__"), (.str (Str.ofString "__firstlineno__") 666), (.int (242) 665)⟩, ⟨PyData.keyHash P (Str.ofString "__init__"), (.str (Str.ofString "__init__") 675), (.ref 332)⟩, ⟨PyData.keyHash P (Str.ofString "told"), (.str (Str.ofString "told") 682), (.ref 339)⟩, ⟨PyData.keyHash P (Str.ofString "__static_attributes__"), (.str (Str.ofString "__static_attributes__") 685), (.ref 340)⟩, ⟨PyData.keyHash P (Str.ofString "__dict__"), (.str (Str.ofString "__dict__") 687), (.ref 343)⟩, ⟨PyData.keyHash P (Str.ofString "__weakref__"), (.str (Str.ofString "__weakref__") 689), (.ref 344)⟩, ⟨PyData.keyHash P (Str.ofString "__doc__"), (.str (Str.ofString "__doc__") 690), .none⟩] 4), #[]⟩) ::
  (nat_lit 342, ⟨(.type "type"), none, (.cls { name := (Str.ofString "Anchor"), bases := [(.type "object")], mro := [(.ref 342), (.type "object")], ns := 341, qualname := (Str.ofString "Anchor"), hasDict := true, slotNames := [], subclasses := [], abstract := false, collection := none, hasDel := false }), #[none, none, (some (.str (Str.ofString "Anchor") 655)), (some (.str (Str.ofString "Anchor") 663)), (some (.builtin "object.__new__")), (some (.bool true))]⟩) ::
  (nat_lit 343, ⟨(.type "getset_descriptor"), none, (.fields #[(.str (Str.ofString "__dict__") 686), (.ref 342), (.builtin "function.__dict__"), (.builtin "function.__dict__#set")]), #[]⟩) ::
  (nat_lit 344, ⟨(.type "getset_descriptor"), none, (.fields #[(.str (Str.ofString "__weakref__") 688), (.ref 342), (.builtin "ExceptionGroup.__weakref__"), .none]), #[]⟩) ::
  (nat_lit 359, ⟨(.type "code"), none, (.fields #[(.str (Str.ofString "difference") 700), (.str (Str.ofString "difference") 701), (.str (Str.ofString "/claim/cut.py") 702), (.int (252) 0), (.int (2) 0), (.int (0) 0), (.int (0) 0), (.int (3) 0), (.ref 354), (.bool true), (.int (181) 0), (.ref 355), .none, (.ref 356), (.ref 357), (.ref 358), (.int (705) 0), (.int (252) 0), (.str (Str.ofString "/claim/cut.py") 706)]), #[]⟩) ::
  (nat_lit 360, ⟨(.type "function"), none, (.func (fnOf (Str.ofString "difference") (Str.ofString "difference") (prmOf (stm 43)) (bdyOf (stm 43)) ⟨.function, [((Str.ofString "one"), .local), ((Str.ofString "other"), .local)], false, false, []⟩ .none .none .none (.str (Str.ofString "joinedhand.anchors") 653) none (.ref 359) .none)), #[]⟩) ::
  (nat_lit 400, ⟨(.type "code"), none, (.fields #[(.str (Str.ofString "__init__") 759), (.str (Str.ofString "MarkBase.__init__") 760), (.str (Str.ofString "/claim/cut.py") 761), (.int (273) 0), (.int (3) 0), (.int (0) 0), (.int (0) 0), (.int (3) 0), (.ref 395), (.bool true), (.int (181) 0), (.ref 396), .none, (.ref 397), (.ref 398), (.ref 399), (.int (765) 0), (.int (273) 0), (.str (Str.ofString "/claim/cut.py") 766)]), #[]⟩) ::
  (nat_lit 401, ⟨(.type "function"), none, (.func (fnOf (Str.ofString "__init__") (Str.ofString "MarkBase.__init__") (prmOf (mth 51 0)) (bdyOf (mth 51 0)) ⟨.function, [((Str.ofString "self"), .local), ((Str.ofString "marks"), .local), ((Str.ofString "bases"), .local)], false, false, []⟩ .none .none .none (.str (Str.ofString "joinedhand.marks") 714) none (.ref 400) .none)), #[]⟩) ::
  (nat_lit 410, ⟨(.type "dict"), none, (.dict #[⟨PyData.keyHash P (Str.ofString "__module__"), (.str (Str.ofString "__module__") 754), (.str (Str.ofString "joinedhand.marks") 714)⟩, ⟨PyData.keyHash P (Str.ofString "__firstlineno__"), (.str (Str.ofString "__firstlineno__") 758), (.int (271) 757)⟩, ⟨PyData.keyHash P (Str.ofString "__init__"), (.str (Str.ofString "__init__") 767), (.ref 401)⟩, ⟨PyData.keyHash P (Str.ofString "told"), (.str (Str.ofString "told") 774), (.ref 408)⟩, ⟨PyData.keyHash P (Str.ofString "__static_attributes__"), (.str (Str.ofString "__static_attributes__") 777), (.ref 409)⟩, ⟨PyData.keyHash P (Str.ofString "__dict__"), (.str (Str.ofString "__dict__") 779), (.ref 412)⟩, ⟨PyData.keyHash P (Str.ofString "__weakref__"), (.str (Str.ofString "__weakref__") 781), (.ref 413)⟩, ⟨PyData.keyHash P (Str.ofString "__doc__"), (.str (Str.ofString "__doc__") 782), .none⟩] 4), #[]⟩) ::
  (nat_lit 411, ⟨(.type "type"), none, (.cls { name := (Str.ofString "MarkBase"), bases := [(.type "object")], mro := [(.ref 411), (.type "object")], ns := 410, qualname := (Str.ofString "MarkBase"), hasDict := true, slotNames := [], subclasses := [], abstract := false, collection := none, hasDel := false }), #[none, none, (some (.str (Str.ofString "MarkBase") 747)), (some (.str (Str.ofString "MarkBase") 755)), (some (.builtin "object.__new__")), (some (.bool true))]⟩) ::
  (nat_lit 412, ⟨(.type "getset_descriptor"), none, (.fields #[(.str (Str.ofString "__dict__") 778), (.ref 411), (.builtin "function.__dict__"), (.builtin "function.__dict__#set")]), #[]⟩) ::
  (nat_lit 413, ⟨(.type "getset_descriptor"), none, (.fields #[(.str (Str.ofString "__weakref__") 780), (.ref 411), (.builtin "ExceptionGroup.__weakref__"), .none]), #[]⟩) ::
  (nat_lit 428, ⟨(.type "code"), none, (.fields #[(.str (Str.ofString "__init__") 797), (.str (Str.ofString "MarkComponent.__init__") 798), (.str (Str.ofString "/claim/cut.py") 799), (.int (281) 0), (.int (3) 0), (.int (0) 0), (.int (0) 0), (.int (3) 0), (.ref 423), (.bool true), (.int (181) 0), (.ref 424), .none, (.ref 425), (.ref 426), (.ref 427), (.int (803) 0), (.int (281) 0), (.str (Str.ofString "/claim/cut.py") 804)]), #[]⟩) ::
  (nat_lit 429, ⟨(.type "function"), none, (.func (fnOf (Str.ofString "__init__") (Str.ofString "MarkComponent.__init__") (prmOf (mth 52 0)) (bdyOf (mth 52 0)) ⟨.function, [((Str.ofString "self"), .local), ((Str.ofString "marks"), .local), ((Str.ofString "ligatures"), .local)], false, false, []⟩ .none .none .none (.str (Str.ofString "joinedhand.marks") 714) none (.ref 428) .none)), #[]⟩) ::
  (nat_lit 436, ⟨(.type "dict"), none, (.dict #[⟨PyData.keyHash P (Str.ofString "__module__"), (.str (Str.ofString "__module__") 792), (.str (Str.ofString "joinedhand.marks") 714)⟩, ⟨PyData.keyHash P (Str.ofString "__firstlineno__"), (.str (Str.ofString "__firstlineno__") 796), (.int (279) 795)⟩, ⟨PyData.keyHash P (Str.ofString "__init__"), (.str (Str.ofString "__init__") 805), (.ref 429)⟩, ⟨PyData.keyHash P (Str.ofString "told"), (.str (Str.ofString "told") 811), (.ref 434)⟩, ⟨PyData.keyHash P (Str.ofString "__static_attributes__"), (.str (Str.ofString "__static_attributes__") 814), (.ref 435)⟩, ⟨PyData.keyHash P (Str.ofString "__dict__"), (.str (Str.ofString "__dict__") 816), (.ref 438)⟩, ⟨PyData.keyHash P (Str.ofString "__weakref__"), (.str (Str.ofString "__weakref__") 818), (.ref 439)⟩, ⟨PyData.keyHash P (Str.ofString "__doc__"), (.str (Str.ofString "__doc__") 819), .none⟩] 4), #[]⟩) ::
  (nat_lit 437, ⟨(.type "type"), none, (.cls { name := (Str.ofString "MarkComponent"), bases := [(.type "object")], mro := [(.ref 437), (.type "object")], ns := 436, qualname := (Str.ofString "MarkComponent"), hasDict := true, slotNames := [], subclasses := [], abstract := false, collection := none, hasDel := false }), #[none, none, (some (.str (Str.ofString "MarkComponent") 785)), (some (.str (Str.ofString "MarkComponent") 793)), (some (.builtin "object.__new__")), (some (.bool true))]⟩) ::
  (nat_lit 438, ⟨(.type "getset_descriptor"), none, (.fields #[(.str (Str.ofString "__dict__") 815), (.ref 437), (.builtin "function.__dict__"), (.builtin "function.__dict__#set")]), #[]⟩) ::
  (nat_lit 439, ⟨(.type "getset_descriptor"), none, (.fields #[(.str (Str.ofString "__weakref__") 817), (.ref 437), (.builtin "ExceptionGroup.__weakref__"), .none]), #[]⟩) ::
  (nat_lit 454, ⟨(.type "code"), none, (.fields #[(.str (Str.ofString "__init__") 834), (.str (Str.ofString "MarkMark.__init__") 835), (.str (Str.ofString "/claim/cut.py") 836), (.int (295) 0), (.int (3) 0), (.int (0) 0), (.int (0) 0), (.int (3) 0), (.ref 449), (.bool true), (.int (181) 0), (.ref 450), .none, (.ref 451), (.ref 452), (.ref 453), (.int (840) 0), (.int (295) 0), (.str (Str.ofString "/claim/cut.py") 841)]), #[]⟩) ::
  (nat_lit 455, ⟨(.type "function"), none, (.func (fnOf (Str.ofString "__init__") (Str.ofString "MarkMark.__init__") (prmOf (mth 53 0)) (bdyOf (mth 53 0)) ⟨.function, [((Str.ofString "self"), .local), ((Str.ofString "marks"), .local), ((Str.ofString "others"), .local)], false, false, []⟩ .none .none .none (.str (Str.ofString "joinedhand.marks") 714) none (.ref 454) .none)), #[]⟩) ::
  (nat_lit 464, ⟨(.type "dict"), none, (.dict #[⟨PyData.keyHash P (Str.ofString "__module__"), (.str (Str.ofString "__module__") 829), (.str (Str.ofString "joinedhand.marks") 714)⟩, ⟨PyData.keyHash P (Str.ofString "__firstlineno__"), (.str (Str.ofString "__firstlineno__") 833), (.int (293) 832)⟩, ⟨PyData.keyHash P (Str.ofString "__init__"), (.str (Str.ofString "__init__") 842), (.ref 455)⟩, ⟨PyData.keyHash P (Str.ofString "told"), (.str (Str.ofString "told") 849), (.ref 462)⟩, ⟨PyData.keyHash P (Str.ofString "__static_attributes__"), (.str (Str.ofString "__static_attributes__") 852), (.ref 463)⟩, ⟨PyData.keyHash P (Str.ofString "__dict__"), (.str (Str.ofString "__dict__") 854), (.ref 466)⟩, ⟨PyData.keyHash P (Str.ofString "__weakref__"), (.str (Str.ofString "__weakref__") 856), (.ref 467)⟩, ⟨PyData.keyHash P (Str.ofString "__doc__"), (.str (Str.ofString "__doc__") 857), .none⟩] 4), #[]⟩) ::
  (nat_lit 465, ⟨(.type "type"), none, (.cls { name := (Str.ofString "MarkMark"), bases := [(.type "object")], mro := [(.ref 465), (.type "object")], ns := 464, qualname := (Str.ofString "MarkMark"), hasDict := true, slotNames := [], subclasses := [], abstract := false, collection := none, hasDel := false }), #[none, none, (some (.str (Str.ofString "MarkMark") 822)), (some (.str (Str.ofString "MarkMark") 830)), (some (.builtin "object.__new__")), (some (.bool true))]⟩) ::
  (nat_lit 466, ⟨(.type "getset_descriptor"), none, (.fields #[(.str (Str.ofString "__dict__") 853), (.ref 465), (.builtin "function.__dict__"), (.builtin "function.__dict__#set")]), #[]⟩) ::
  (nat_lit 467, ⟨(.type "getset_descriptor"), none, (.fields #[(.str (Str.ofString "__weakref__") 855), (.ref 465), (.builtin "ExceptionGroup.__weakref__"), .none]), #[]⟩) ::
  (nat_lit 475, ⟨(.type "code"), none, (.fields #[(.str (Str.ofString "scene_with") 860), (.str (Str.ofString "scene_with") 861), (.str (Str.ofString "/claim/cut.py") 862), (.int (301) 0), (.int (3) 0), (.int (0) 0), (.int (0) 0), (.int (3) 0), (.ref 470), (.bool true), (.int (181) 0), (.ref 471), .none, (.ref 472), (.ref 473), (.ref 474), (.int (867) 0), (.int (301) 0), (.str (Str.ofString "/claim/cut.py") 868)]), #[]⟩) ::
  (nat_lit 476, ⟨(.type "function"), none, (.func (fnOf (Str.ofString "scene_with") (Str.ofString "scene_with") (prmOf (stm 54)) (bdyOf (stm 54)) ⟨.function, [((Str.ofString "scene"), .local), ((Str.ofString "flag"), .local), ((Str.ofString "mark_set"), .local), ((Str.ofString "lookup"), .local), ((Str.ofString "Lookup"), .globalImplicit), ((Str.ofString "Scene"), .globalImplicit)], false, false, []⟩ .none .none .none (.str (Str.ofString "joinedhand.marks") 714) none (.ref 475) .none)), #[]⟩) ::
  (nat_lit 482, ⟨(.type "code"), none, (.fields #[(.str (Str.ofString "is_mark_at") 870), (.str (Str.ofString "is_mark_at") 871), (.str (Str.ofString "/claim/cut.py") 872), (.int (304) 0), (.int (2) 0), (.int (0) 0), (.int (0) 0), (.int (3) 0), (.ref 477), (.bool true), (.int (181) 0), (.ref 478), .none, (.ref 479), (.ref 480), (.ref 481), (.int (875) 0), (.int (304) 0), (.str (Str.ofString "/claim/cut.py") 876)]), #[]⟩) ::
  (nat_lit 483, ⟨(.type "function"), none, (.func (fnOf (Str.ofString "is_mark_at") (Str.ofString "is_mark_at") (prmOf (stm 55)) (bdyOf (stm 55)) ⟨.function, [((Str.ofString "scene"), .local), ((Str.ofString "at"), .local), ((Str.ofString "MARK_GLYPH"), .globalImplicit)], false, false, []⟩ .none .none .none (.str (Str.ofString "joinedhand.marks") 714) none (.ref 482) .none)), #[]⟩) ::
  (nat_lit 489, ⟨(.type "code"), none, (.fields #[(.str (Str.ofString "is_later_part") 878), (.str (Str.ofString "is_later_part") 879), (.str (Str.ofString "/claim/cut.py") 880), (.int (306) 0), (.int (2) 0), (.int (0) 0), (.int (0) 0), (.int (3) 0), (.ref 484), (.bool true), (.int (181) 0), (.ref 485), .none, (.ref 486), (.ref 487), (.ref 488), (.int (885) 0), (.int (306) 0), (.str (Str.ofString "/claim/cut.py") 886)]), #[]⟩) ::
  (nat_lit 490, ⟨(.type "function"), none, (.func (fnOf (Str.ofString "is_later_part") (Str.ofString "is_later_part") (prmOf (stm 56)) (bdyOf (stm 56)) ⟨.function, [((Str.ofString "scene"), .local), ((Str.ofString "at"), .local), ((Str.ofString "info"), .local), ((Str.ofString "ahead"), .local), ((Str.ofString "is_mark_at"), .globalImplicit)], false, false, []⟩ .none .none .none (.str (Str.ofString "joinedhand.marks") 714) none (.ref 489) .none)), #[]⟩) ::
  (nat_lit 496, ⟨(.type "code"), none, (.fields #[(.str (Str.ofString "base_ahead") 888), (.str (Str.ofString "base_ahead") 889), (.str (Str.ofString "/claim/cut.py") 890), (.int (312) 0), (.int (2) 0), (.int (0) 0), (.int (0) 0), (.int (3) 0), (.ref 491), (.bool true), (.int (181) 0), (.ref 492), .none, (.ref 493), (.ref 494), (.ref 495), (.int (895) 0), (.int (312) 0), (.str (Str.ofString "/claim/cut.py") 896)]), #[]⟩) ::
  (nat_lit 497, ⟨(.type "function"), none, (.func (fnOf (Str.ofString "base_ahead") (Str.ofString "base_ahead") (prmOf (stm 57)) (bdyOf (stm 57)) ⟨.function, [((Str.ofString "scene"), .local), ((Str.ofString "at"), .local), ((Str.ofString "looking"), .local), ((Str.ofString "here"), .local), ((Str.ofString "scene_with"), .globalImplicit), ((Str.ofString "IGNORE_MARKS"), .globalImplicit), ((Str.ofString "before_at"), .globalImplicit), ((Str.ofString "is_later_part"), .globalImplicit)], false, false, []⟩ .none .none .none (.str (Str.ofString "joinedhand.marks") 714) none (.ref 496) .none)), #[]⟩) ::
  (nat_lit 503, ⟨(.type "code"), none, (.fields #[(.str (Str.ofString "set_on") 898), (.str (Str.ofString "set_on") 899), (.str (Str.ofString "/claim/cut.py") 900), (.int (318) 0), (.int (5) 0), (.int (0) 0), (.int (0) 0), (.int (3) 0), (.ref 498), (.bool true), (.int (181) 0), (.ref 499), .none, (.ref 500), (.ref 501), (.ref 502), (.int (910) 0), (.int (318) 0), (.str (Str.ofString "/claim/cut.py") 911)]), #[]⟩) ::
  (nat_lit 504, ⟨(.type "function"), none, (.func (fnOf (Str.ofString "set_on") (Str.ofString "set_on") (prmOf (stm 58)) (bdyOf (stm 58)) ⟨.function, [((Str.ofString "scene"), .local), ((Str.ofString "marks"), .local), ((Str.ofString "row"), .local), ((Str.ofString "at"), .local), ((Str.ofString "place"), .local), ((Str.ofString "info"), .local), ((Str.ofString "number"), .local), ((Str.ofString "own"), .local), ((Str.ofString "anchor"), .local), ((Str.ofString "len"), .globalImplicit), ((Str.ofString "break_ring"), .globalImplicit), ((Str.ofString "difference"), .globalImplicit), ((Str.ofString "hang"), .globalImplicit)], false, false, []⟩ .none .none .none (.str (Str.ofString "joinedhand.marks") 714) none (.ref 503) .none)), #[]⟩) ::
  (nat_lit 510, ⟨(.type "code"), none, (.fields #[(.str (Str.ofString "apply_base") 913), (.str (Str.ofString "apply_base") 914), (.str (Str.ofString "/claim/cut.py") 915), (.int (330) 0), (.int (3) 0), (.int (0) 0), (.int (0) 0), (.int (3) 0), (.ref 505), (.bool true), (.int (181) 0), (.ref 506), .none, (.ref 507), (.ref 508), (.ref 509), (.int (920) 0), (.int (330) 0), (.str (Str.ofString "/claim/cut.py") 921)]), #[]⟩) ::
  (nat_lit 511, ⟨(.type "function"), none, (.func (fnOf (Str.ofString "apply_base") (Str.ofString "apply_base") (prmOf (stm 59)) (bdyOf (stm 59)) ⟨.function, [((Str.ofString "scene"), .local), ((Str.ofString "table"), .local), ((Str.ofString "at"), .local), ((Str.ofString "place"), .local), ((Str.ofString "base_ahead"), .globalImplicit), ((Str.ofString "set_on"), .globalImplicit)], false, false, []⟩ .none .none .none (.str (Str.ofString "joinedhand.marks") 714) none (.ref 510) .none)), #[]⟩) ::
  (nat_lit 517, ⟨(.type "code"), none, (.fields #[(.str (Str.ofString "component_of") 923), (.str (Str.ofString "component_of") 924), (.str (Str.ofString "/claim/cut.py") 925), (.int (337) 0), (.int (3) 0), (.int (0) 0), (.int (0) 0), (.int (3) 0), (.ref 512), (.bool true), (.int (181) 0), (.ref 513), .none, (.ref 514), (.ref 515), (.ref 516), (.int (929) 0), (.int (337) 0), (.str (Str.ofString "/claim/cut.py") 930)]), #[]⟩) ::
  (nat_lit 518, ⟨(.type "function"), none, (.func (fnOf (Str.ofString "component_of") (Str.ofString "component_of") (prmOf (stm 60)) (bdyOf (stm 60)) ⟨.function, [((Str.ofString "mark"), .local), ((Str.ofString "ligature"), .local), ((Str.ofString "count"), .local), ((Str.ofString "min"), .globalImplicit)], false, false, []⟩ .none .none .none (.str (Str.ofString "joinedhand.marks") 714) none (.ref 517) .none)), #[]⟩) ::
  (nat_lit 524, ⟨(.type "code"), none, (.fields #[(.str (Str.ofString "apply_component") 932), (.str (Str.ofString "apply_component") 933), (.str (Str.ofString "/claim/cut.py") 934), (.int (341) 0), (.int (3) 0), (.int (0) 0), (.int (0) 0), (.int (3) 0), (.ref 519), (.bool true), (.int (181) 0), (.ref 520), .none, (.ref 521), (.ref 522), (.ref 523), (.int (941) 0), (.int (341) 0), (.str (Str.ofString "/claim/cut.py") 942)]), #[]⟩) ::
  (nat_lit 525, ⟨(.type "function"), none, (.func (fnOf (Str.ofString "apply_component") (Str.ofString "apply_component") (prmOf (stm 61)) (bdyOf (stm 61)) ⟨.function, [((Str.ofString "scene"), .local), ((Str.ofString "table"), .local), ((Str.ofString "at"), .local), ((Str.ofString "row"), .local), ((Str.ofString "place"), .local), ((Str.ofString "parts"), .local), ((Str.ofString "before_at"), .globalImplicit), ((Str.ofString "scene_with"), .globalImplicit), ((Str.ofString "IGNORE_MARKS"), .globalImplicit), ((Str.ofString "len"), .globalImplicit), ((Str.ofString "set_on"), .globalImplicit), ((Str.ofString "component_of"), .globalImplicit)], false, false, []⟩ .none .none .none (.str (Str.ofString "joinedhand.marks") 714) none (.ref 524) .none)), #[]⟩) ::
  (nat_lit 531, ⟨(.type "code"), none, (.fields #[(.str (Str.ofString "are_of_one") 944), (.str (Str.ofString "are_of_one") 945), (.str (Str.ofString "/claim/cut.py") 946), (.int (352) 0), (.int (2) 0), (.int (0) 0), (.int (0) 0), (.int (3) 0), (.ref 526), (.bool true), (.int (181) 0), (.ref 527), .none, (.ref 528), (.ref 529), (.ref 530), (.int (949) 0), (.int (352) 0), (.str (Str.ofString "/claim/cut.py") 950)]), #[]⟩) ::
  (nat_lit 532, ⟨(.type "function"), none, (.func (fnOf (Str.ofString "are_of_one") (Str.ofString "are_of_one") (prmOf (stm 62)) (bdyOf (stm 62)) ⟨.function, [((Str.ofString "mark"), .local), ((Str.ofString "other"), .local)], false, false, []⟩ .none .none .none (.str (Str.ofString "joinedhand.marks") 714) none (.ref 531) .none)), #[]⟩) ::
  (nat_lit 538, ⟨(.type "code"), none, (.fields #[(.str (Str.ofString "apply_mark") 952), (.str (Str.ofString "apply_mark") 953), (.str (Str.ofString "/claim/cut.py") 954), (.int (356) 0), (.int (3) 0), (.int (0) 0), (.int (0) 0), (.int (3) 0), (.ref 533), (.bool true), (.int (181) 0), (.ref 534), .none, (.ref 535), (.ref 536), (.ref 537), (.int (961) 0), (.int (356) 0), (.str (Str.ofString "/claim/cut.py") 962)]), #[]⟩) ::
  (nat_lit 539, ⟨(.type "function"), none, (.func (fnOf (Str.ofString "apply_mark") (Str.ofString "apply_mark") (prmOf (stm 63)) (bdyOf (stm 63)) ⟨.function, [((Str.ofString "scene"), .local), ((Str.ofString "table"), .local), ((Str.ofString "at"), .local), ((Str.ofString "row"), .local), ((Str.ofString "passed"), .local), ((Str.ofString "place"), .local), ((Str.ofString "IGNORE_BASES"), .globalImplicit), ((Str.ofString "IGNORE_LIGATURES"), .globalImplicit), ((Str.ofString "IGNORE_MARKS"), .globalImplicit), ((Str.ofString "before_at"), .globalImplicit), ((Str.ofString "scene_with"), .globalImplicit), ((Str.ofString "is_mark_at"), .globalImplicit), ((Str.ofString "are_of_one"), .globalImplicit), ((Str.ofString "set_on"), .globalImplicit)], false, false, []⟩ .none .none .none (.str (Str.ofString "joinedhand.marks") 714) none (.ref 538) .none)), #[]⟩) ::
  (nat_lit 663, ⟨(.type "code"), none, (.fields #[(.str (Str.ofString "apply_position") 1161), (.str (Str.ofString "apply_position") 1162), (.str (Str.ofString "/claim/cut.py") 1163), (.int (481) 0), (.int (4) 0), (.int (0) 0), (.int (0) 0), (.int (3) 0), (.ref 658), (.bool true), (.int (181) 0), (.ref 659), .none, (.ref 660), (.ref 661), (.ref 662), (.int (1168) 0), (.int (481) 0), (.str (Str.ofString "/claim/cut.py") 1169)]), #[]⟩) ::
  (nat_lit 664, ⟨(.type "function"), none, (.func (fnOf (Str.ofString "apply_position") (Str.ofString "apply_position") (prmOf (stm 90)) (bdyOf (stm 90)) ⟨.function, [((Str.ofString "kind"), .local), ((Str.ofString "scene"), .local), ((Str.ofString "table"), .local), ((Str.ofString "at"), .local), ((Str.ofString "apply_adjust"), .globalImplicit), ((Str.ofString "apply_pair"), .globalImplicit), ((Str.ofString "apply_cursive"), .globalImplicit), ((Str.ofString "apply_base"), .globalImplicit), ((Str.ofString "apply_component"), .globalImplicit), ((Str.ofString "apply_mark"), .globalImplicit), ((Str.ofString "apply_context"), .globalImplicit), ((Str.ofString "position_at"), .globalImplicit)], false, false, []⟩ .none .none .none (.str (Str.ofString "joinedhand.gpos") 1159) none (.ref 663) .none)), #[]⟩) ::
  (nat_lit 684, ⟨(.type "code"), none, (.fields #[(.str (Str.ofString "__init__") 1195), (.str (Str.ofString "ClassDef.__init__") 1196), (.str (Str.ofString "/claim/cut.py") 1197), (.int (504) 0), (.int (2) 0), (.int (0) 0), (.int (0) 0), (.int (3) 0), (.ref 679), (.bool true), (.int (181) 0), (.ref 680), .none, (.ref 681), (.ref 682), (.ref 683), (.int (1200) 0), (.int (504) 0), (.str (Str.ofString "/claim/cut.py") 1201)]), #[]⟩) ::
  (nat_lit 685, ⟨(.type "function"), none, (.func (fnOf (Str.ofString "__init__") (Str.ofString "ClassDef.__init__") (prmOf (mth 93 0)) (bdyOf (mth 93 0)) ⟨.function, [((Str.ofString "self"), .local), ((Str.ofString "classes"), .local)], false, false, []⟩ .none .none .none (.str (Str.ofString "joinedhand.classdefs") 1181) none (.ref 684) .none)), #[]⟩) ::
  (nat_lit 691, ⟨(.type "code"), none, (.fields #[(.str (Str.ofString "class_of") 1203), (.str (Str.ofString "ClassDef.class_of") 1204), (.str (Str.ofString "/claim/cut.py") 1205), (.int (507) 0), (.int (2) 0), (.int (0) 0), (.int (0) 0), (.int (3) 0), (.ref 686), (.bool true), (.int (181) 0), (.ref 687), .none, (.ref 688), (.ref 689), (.ref 690), (.int (1208) 0), (.int (507) 0), (.str (Str.ofString "/claim/cut.py") 1209)]), #[]⟩) ::
  (nat_lit 692, ⟨(.type "function"), none, (.func (fnOf (Str.ofString "class_of") (Str.ofString "ClassDef.class_of") (prmOf (mth 93 1)) (bdyOf (mth 93 1)) ⟨.function, [((Str.ofString "self"), .local), ((Str.ofString "glyph"), .local)], false, false, []⟩ .none .none .none (.str (Str.ofString "joinedhand.classdefs") 1181) none (.ref 691) .none)), #[]⟩) ::
  (nat_lit 713, ⟨(.type "dict"), none, (.dict #[⟨PyData.keyHash P (Str.ofString "__module__"), (.str (Str.ofString "__module__") 1190), (.str (Str.ofString "joinedhand.classdefs") 1181)⟩, ⟨PyData.keyHash P (Str.ofString "__firstlineno__"), (.str (Str.ofString "__firstlineno__") 1194), (.int (502) 1193)⟩, ⟨PyData.keyHash P (Str.ofString "__init__"), (.str (Str.ofString "__init__") 1202), (.ref 685)⟩, ⟨PyData.keyHash P (Str.ofString "class_of"), (.str (Str.ofString "class_of") 1210), (.ref 692)⟩, ⟨PyData.keyHash P (Str.ofString "glyphs_of"), (.str (Str.ofString "glyphs_of") 1218), (.ref 699)⟩, ⟨PyData.keyHash P (Str.ofString "count"), (.str (Str.ofString "count") 1227), (.ref 706)⟩, ⟨PyData.keyHash P (Str.ofString "told"), (.str (Str.ofString "told") 1233), (.ref 711)⟩, ⟨PyData.keyHash P (Str.ofString "__static_attributes__"), (.str (Str.ofString "__static_attributes__") 1235), (.ref 712)⟩, ⟨PyData.keyHash P (Str.ofString "__dict__"), (.str (Str.ofString "__dict__") 1237), (.ref 715)⟩, ⟨PyData.keyHash P (Str.ofString "__weakref__"), (.str (Str.ofString "__weakref__") 1239), (.ref 716)⟩, ⟨PyData.keyHash P (Str.ofString "__doc__"), (.str (Str.ofString "__doc__") 1240), .none⟩] 4), #[]⟩) ::
  (nat_lit 714, ⟨(.type "type"), none, (.cls { name := (Str.ofString "ClassDef"), bases := [(.type "object")], mro := [(.ref 714), (.type "object")], ns := 713, qualname := (Str.ofString "ClassDef"), hasDict := true, slotNames := [], subclasses := [], abstract := false, collection := none, hasDel := false }), #[none, none, (some (.str (Str.ofString "ClassDef") 1183)), (some (.str (Str.ofString "ClassDef") 1191)), (some (.builtin "object.__new__")), (some (.bool true))]⟩) ::
  (nat_lit 715, ⟨(.type "getset_descriptor"), none, (.fields #[(.str (Str.ofString "__dict__") 1236), (.ref 714), (.builtin "function.__dict__"), (.builtin "function.__dict__#set")]), #[]⟩) ::
  (nat_lit 716, ⟨(.type "getset_descriptor"), none, (.fields #[(.str (Str.ofString "__weakref__") 1238), (.ref 714), (.builtin "ExceptionGroup.__weakref__"), .none]), #[]⟩) ::
  (nat_lit 726, ⟨(.type "tuple"), none, (.seq #[.none, .none] 0), #[]⟩) ::
  (nat_lit 732, ⟨(.type "code"), none, (.fields #[(.str (Str.ofString "__init__") 1263), (.str (Str.ofString "Gdef.__init__") 1264), (.str (Str.ofString "/claim/cut.py") 1265), (.int (527) 0), (.int (6) 0), (.int (0) 0), (.int (0) 0), (.int (3) 0), (.ref 727), (.bool true), (.int (181) 0), (.ref 728), .none, (.ref 729), (.ref 730), (.ref 731), (.int (1272) 0), (.int (527) 0), (.str (Str.ofString "/claim/cut.py") 1273)]), #[]⟩) ::
  (nat_lit 733, ⟨(.type "function"), none, (.func (fnOf (Str.ofString "__init__") (Str.ofString "Gdef.__init__") (prmOf (mth 98 0)) (bdyOf (mth 98 0)) ⟨.function, [((Str.ofString "self"), .local), ((Str.ofString "classes"), .local), ((Str.ofString "attach"), .local), ((Str.ofString "sets"), .local), ((Str.ofString "points"), .local), ((Str.ofString "carets"), .local)], false, false, []⟩ (.ref 726) .none .none (.str (Str.ofString "joinedhand.gdef") 1243) none (.ref 732) .none)), #[]⟩) ::
  (nat_lit 739, ⟨(.type "code"), none, (.fields #[(.str (Str.ofString "glyph_class") 1275), (.str (Str.ofString "Gdef.glyph_class") 1276), (.str (Str.ofString "/claim/cut.py") 1277), (.int (534) 0), (.int (2) 0), (.int (0) 0), (.int (0) 0), (.int (3) 0), (.ref 734), (.bool true), (.int (181) 0), (.ref 735), .none, (.ref 736), (.ref 737), (.ref 738), (.int (1281) 0), (.int (534) 0), (.str (Str.ofString "/claim/cut.py") 1282)]), #[]⟩) ::
  (nat_lit 740, ⟨(.type "function"), none, (.func (fnOf (Str.ofString "glyph_class") (Str.ofString "Gdef.glyph_class") (prmOf (mth 98 1)) (bdyOf (mth 98 1)) ⟨.function, [((Str.ofString "self"), .local), ((Str.ofString "glyph"), .local), ((Str.ofString "number"), .local), ((Str.ofString "BASE"), .globalImplicit), ((Str.ofString "COMPONENT"), .globalImplicit), ((Str.ofString "NO_CLASS"), .globalImplicit)], false, false, []⟩ .none .none .none (.str (Str.ofString "joinedhand.gdef") 1243) none (.ref 739) .none)), #[]⟩) ::
  (nat_lit 761, ⟨(.type "dict"), none, (.dict #[⟨PyData.keyHash P (Str.ofString "__module__"), (.str (Str.ofString "__module__") 1258), (.str (Str.ofString "joinedhand.gdef") 1243)⟩, ⟨PyData.keyHash P (Str.ofString "__firstlineno__"), (.str (Str.ofString "__firstlineno__") 1262), (.int (525) 1261)⟩, ⟨PyData.keyHash P (Str.ofString "__init__"), (.str (Str.ofString "__init__") 1274), (.ref 733)⟩, ⟨PyData.keyHash P (Str.ofString "glyph_class"), (.str (Str.ofString "glyph_class") 1283), (.ref 740)⟩, ⟨PyData.keyHash P (Str.ofString "attach_class"), (.str (Str.ofString "attach_class") 1291), (.ref 747)⟩, ⟨PyData.keyHash P (Str.ofString "is_in_set"), (.str (Str.ofString "is_in_set") 1300), (.ref 754)⟩, ⟨PyData.keyHash P (Str.ofString "told"), (.str (Str.ofString "told") 1306), (.ref 759)⟩, ⟨PyData.keyHash P (Str.ofString "__static_attributes__"), (.str (Str.ofString "__static_attributes__") 1312), (.ref 760)⟩, ⟨PyData.keyHash P (Str.ofString "__dict__"), (.str (Str.ofString "__dict__") 1314), (.ref 763)⟩, ⟨PyData.keyHash P (Str.ofString "__weakref__"), (.str (Str.ofString "__weakref__") 1316), (.ref 764)⟩, ⟨PyData.keyHash P (Str.ofString "__doc__"), (.str (Str.ofString "__doc__") 1317), .none⟩] 4), #[]⟩) ::
  (nat_lit 762, ⟨(.type "type"), none, (.cls { name := (Str.ofString "Gdef"), bases := [(.type "object")], mro := [(.ref 762), (.type "object")], ns := 761, qualname := (Str.ofString "Gdef"), hasDict := true, slotNames := [], subclasses := [], abstract := false, collection := none, hasDel := false }), #[none, none, (some (.str (Str.ofString "Gdef") 1251)), (some (.str (Str.ofString "Gdef") 1259)), (some (.builtin "object.__new__")), (some (.bool true))]⟩) ::
  (nat_lit 763, ⟨(.type "getset_descriptor"), none, (.fields #[(.str (Str.ofString "__dict__") 1313), (.ref 762), (.builtin "function.__dict__"), (.builtin "function.__dict__#set")]), #[]⟩) ::
  (nat_lit 764, ⟨(.type "getset_descriptor"), none, (.fields #[(.str (Str.ofString "__weakref__") 1315), (.ref 762), (.builtin "ExceptionGroup.__weakref__"), .none]), #[]⟩) ::
  (nat_lit 770, ⟨(.type "code"), none, (.fields #[(.str (Str.ofString "_law_pen") 1322), (.str (Str.ofString "_law_pen") 1323), (.str (Str.ofString "/claim/cut.py") 1324), (.int (549) 0), (.int (1) 0), (.int (0) 0), (.int (0) 0), (.int (3) 0), (.ref 767), (.bool true), (.int (181) 0), (.ref 768), .none, .none, .none, (.ref 769), (.int (1325) 0), (.int (549) 0), (.str (Str.ofString "/claim/cut.py") 1326)]), #[]⟩) ::
  (nat_lit 771, ⟨(.type "function"), none, (.func (fnOf (Str.ofString "_law_pen") (Str.ofString "_law_pen") (prmOf (stm 100)) (bdyOf (stm 100)) ⟨.function, [((Str.ofString "script"), .local)], false, false, [((Str.ofString "fast"), (.str (Str.ofString "script"))), ((Str.ofString "fast"), (.str (Str.ofString "cell")))]⟩ .none .none .none (.str (Str.ofString "law_pb0206_01") 1320) none (.ref 770) .none)), #[]⟩) ::
  (nat_lit 777, ⟨(.type "code"), none, (.fields #[(.str (Str.ofString "_law_draw") 1328), (.str (Str.ofString "_law_draw") 1329), (.str (Str.ofString "/claim/cut.py") 1330), (.int (551) 0), (.int (2) 0), (.int (0) 0), (.int (0) 0), (.int (3) 0), (.ref 772), (.bool true), (.int (181) 0), (.ref 773), .none, (.ref 774), (.ref 775), (.ref 776), (.int (1338) 0), (.int (551) 0), (.str (Str.ofString "/claim/cut.py") 1339)]), #[]⟩) ::
  (nat_lit 778, ⟨(.type "function"), none, (.func (fnOf (Str.ofString "_law_draw") (Str.ofString "_law_draw") (prmOf (stm 101)) (bdyOf (stm 101)) ⟨.function, [((Str.ofString "pen"), .local), ((Str.ofString "many"), .local), ((Str.ofString "digit"), .local), ((Str.ofString "spot"), .local), ((Str.ofString "cell"), .local), ((Str.ofString "great"), .local), ((Str.ofString "stirred"), .local), ((Str.ofString "int"), .globalImplicit), ((Str.ofString "sum"), .globalImplicit), ((Str.ofString "len"), .globalImplicit), ((Str.ofString "abs"), .globalImplicit)], false, false, []⟩ .none .none .none (.str (Str.ofString "law_pb0206_01") 1320) none (.ref 777) .none)), #[]⟩) ::
  (nat_lit 784, ⟨(.type "code"), none, (.fields #[(.str (Str.ofString "_law_pick") 1341), (.str (Str.ofString "_law_pick") 1342), (.str (Str.ofString "/claim/cut.py") 1343), (.int (568) 0), (.int (2) 0), (.int (0) 0), (.int (0) 0), (.int (3) 0), (.ref 779), (.bool true), (.int (181) 0), (.ref 780), .none, (.ref 781), (.ref 782), (.ref 783), (.int (1346) 0), (.int (568) 0), (.str (Str.ofString "/claim/cut.py") 1347)]), #[]⟩) ::
  (nat_lit 785, ⟨(.type "function"), none, (.func (fnOf (Str.ofString "_law_pick") (Str.ofString "_law_pick") (prmOf (stm 102)) (bdyOf (stm 102)) ⟨.function, [((Str.ofString "pen"), .local), ((Str.ofString "some"), .local), ((Str.ofString "_law_draw"), .globalImplicit), ((Str.ofString "len"), .globalImplicit)], false, false, []⟩ .none .none .none (.str (Str.ofString "law_pb0206_01") 1320) none (.ref 784) .none)), #[]⟩) ::
  (nat_lit 789, ⟨(.type "code"), none, (.fields #[(.str (Str.ofString "_law_anchors") 1349), (.str (Str.ofString "_law_anchors") 1350), (.str (Str.ofString "/claim/cut.py") 1351), (.int (570) 0), (.int (1) 0), (.int (0) 0), (.int (0) 0), (.int (3) 0), (.ref 786), (.bool true), (.int (181) 0), (.ref 787), .none, .none, .none, (.ref 788), (.int (1352) 0), (.int (570) 0), (.str (Str.ofString "/claim/cut.py") 1353)]), #[]⟩) ::
  (nat_lit 790, ⟨(.type "function"), none, (.func (fnOf (Str.ofString "_law_anchors") (Str.ofString "_law_anchors") (prmOf (stm 103)) (bdyOf (stm 103)) ⟨.function, [((Str.ofString "pen"), .cell), ((Str.ofString "range"), .globalImplicit)], false, false, [((Str.ofString "fast"), (.str (Str.ofString "pen"))), ((Str.ofString "fast"), (.str (Str.ofString "spot")))]⟩ .none .none .none (.str (Str.ofString "law_pb0206_01") 1320) none (.ref 789) .none)), #[]⟩) ::
  (nat_lit 794, ⟨(.type "code"), none, (.fields #[(.str (Str.ofString "_law_table") 1355), (.str (Str.ofString "_law_table") 1356), (.str (Str.ofString "/claim/cut.py") 1357), (.int (572) 0), (.int (3) 0), (.int (0) 0), (.int (0) 0), (.int (3) 0), (.ref 791), (.bool true), (.int (181) 0), (.ref 792), .none, .none, .none, (.ref 793), (.int (1358) 0), (.int (572) 0), (.str (Str.ofString "/claim/cut.py") 1359)]), #[]⟩) ::
  (nat_lit 795, ⟨(.type "function"), none, (.func (fnOf (Str.ofString "_law_table") (Str.ofString "_law_table") (prmOf (stm 104)) (bdyOf (stm 104)) ⟨.function, [((Str.ofString "kind"), .local), ((Str.ofString "marks"), .local), ((Str.ofString "rows"), .cell), ((Str.ofString "MarkBase"), .globalImplicit), ((Str.ofString "dict"), .globalImplicit), ((Str.ofString "MarkComponent"), .globalImplicit), ((Str.ofString "MarkMark"), .globalImplicit)], false, false, [((Str.ofString "fast"), (.str (Str.ofString "kind"))), ((Str.ofString "fast"), (.str (Str.ofString "marks"))), ((Str.ofString "fast"), (.str (Str.ofString "rows"))), ((Str.ofString "fast"), (.str (Str.ofString "glyph"))), ((Str.ofString "fast"), (.str (Str.ofString "row")))]⟩ .none .none .none (.str (Str.ofString "law_pb0206_01") 1320) none (.ref 794) .none)), #[]⟩) ::
  (nat_lit 799, ⟨(.type "code"), none, (.fields #[(.str (Str.ofString "_law_seen") 1361), (.str (Str.ofString "_law_seen") 1362), (.str (Str.ofString "/claim/cut.py") 1363), (.int (578) 0), (.int (5) 0), (.int (0) 0), (.int (0) 0), (.int (3) 0), (.ref 796), (.bool true), (.int (181) 0), (.ref 797), .none, .none, .none, (.ref 798), (.int (1364) 0), (.int (578) 0), (.str (Str.ofString "/claim/cut.py") 1365)]), #[]⟩) ::
  (nat_lit 800, ⟨(.type "function"), none, (.func (fnOf (Str.ofString "_law_seen") (Str.ofString "_law_seen") (prmOf (stm 105)) (bdyOf (stm 105)) ⟨.function, [((Str.ofString "infos"), .local), ((Str.ofString "gdef"), .local), ((Str.ofString "kind"), .local), ((Str.ofString "table"), .local), ((Str.ofString "at"), .local), ((Str.ofString "buffer"), .local), ((Str.ofString "lookup"), .local), ((Str.ofString "heard"), .local), ((Str.ofString "Buffer"), .globalImplicit), ((Str.ofString "Lookup"), .globalImplicit), ((Str.ofString "apply_position"), .globalImplicit), ((Str.ofString "Scene"), .globalImplicit)], false, false, [((Str.ofString "fast"), (.str (Str.ofString "infos"))), ((Str.ofString "fast"), (.str (Str.ofString "gdef"))), ((Str.ofString "fast"), (.str (Str.ofString "kind"))), ((Str.ofString "fast"), (.str (Str.ofString "table"))), ((Str.ofString "fast"), (.str (Str.ofString "at"))), ((Str.ofString "fast"), (.str (Str.ofString "one"))), ((Str.ofString "fast"), (.str (Str.ofString "buffer"))), ((Str.ofString "fast"), (.str (Str.ofString "lookup"))), ((Str.ofString "fast"), (.str (Str.ofString "heard")))]⟩ .none .none .none (.str (Str.ofString "law_pb0206_01") 1320) none (.ref 799) .none)), #[]⟩) :: []
def fragAt : List Addr := [2, 3, 34, 35, 42, 43, 44, 45, 55, 61, 62, 64, 65, 66, 67, 75, 76, 82, 83, 89, 90, 96, 97, 117, 118, 124, 125, 131, 132, 134, 135, 136, 137, 147, 153, 154, 187, 188, 189, 190, 196, 197, 199, 212, 213, 226, 227, 303, 304, 331, 332, 341, 342, 343, 344, 359, 360, 400, 401, 410, 411, 412, 413, 428, 429, 436, 437, 438, 439, 454, 455, 464, 465, 466, 467, 475, 476, 482, 483, 489, 490, 496, 497, 503, 504, 510, 511, 517, 518, 524, 525, 531, 532, 538, 539, 663, 664, 684, 685, 691, 692, 713, 714, 715, 716, 726, 732, 733, 739, 740, 761, 762, 763, 764, 770, 771, 777, 778, 784, 785, 789, 790, 794, 795, 799, 800]

-- Fw
abbrev Led := List (Addr × Obj)
def Off (S : List Addr) (h h' : Heap) : Prop := ∀ b o, b ∉ S → h.get? b = some o → h'.get? b = some o
theorem Off.refl (S : List Addr) (h : Heap) : Off S h h := fun _ _ _ e => e
theorem Off.trans {S : List Addr} {h h' h'' : Heap} (a : Off S h h') (b : Off S h' h'') : Off S h h'' := fun x o n e => b x o n (a x o n e)
theorem Off.mono {S S' : List Addr} {h h' : Heap} (a : Off S h h') (i : ∀ x ∈ S, x ∈ S') : Off S' h h' := fun x o n e => a x o (fun m => n (i x m)) e
theorem Off.all {h h' : Heap} (a : Off [] h h') : h.StaysIn h' := fun b o e => a b o (by simp) e
theorem Off.of {S : List Addr} {h h' : Heap} (a : h.StaysIn h') : Off S h h' := fun b o _ e => a b o e

def Dom (h h' : Heap) : Prop := ∀ b, h.get? b ≠ none → h'.get? b ≠ none
def Does (w : World) (hb : Heap) (f : Addr) (vs : List Value) (d : Nat) (S : List Addr) (pre : Heap → Prop) (post : Heap → Value → Heap → Prop) : Prop :=
  ∀ (dp un : Nat) (fr : Option (List Env)) (gd : Option (List Code)) (s : Shared) (Q : Value → Shared → Prop) (E : Value → Shared → Prop), dp + d < 900 → un + 8 * d < 9000 → hb.StaysIn s.heap → pre s.heap →
    (∀ r h' tk', Off S s.heap h' → Dom s.heap h' → post s.heap r h' → Q r { s with heap := h', toks := tk' }) →
    wpAny (model PySem.Challenge.rw_pb0206_01.row.prog w) { handled := none, depth := dp, frames := fr, guards := gd, units := un } (call (.ref f) vs) Q E s

def retOf : Flow → Value
  | .ret v => v
  | _ => .none

section
variable {prog : Program} {w : World} {A : Around} {s : Shared} {hb : Heap} {K : Frag} {p : Program} {loose : List Str} {mean : ExcName → Option Value} {mg mb : Str → Option Value} {Q E : Value → Shared → Prop}
  {name qual : Str} {params : Arguments} {body : List Stmt} {scope : Scope} {dV kV doc pm cdv ct oc : Value} {an od : Option Addr} {osl : Array (Option Value)} {f : Addr} {args : List Value} {binds : List (Str × Value)}

theorem enter (led : Led) (X₀ : K.In hb) (T : Top p loose mean mg mb hb) (hs : hb.StaysIn s.heap)
    (hled : ∀ q ∈ led, s.heap.get? q.1 = some q.2 ∧ hb.get? q.1 = none)
    (ho : K.lookup f = some ⟨oc, od, .func (fnOf name qual params body scope dV kV doc pm an cdv ct), osl⟩) (hcd : codeIn K cdv qual = true) (hroom : A.depth < recursionLimit)
    (hbind : BindsTo s (fnOf name qual params body scope dV kV doc pm an cdv ct) ⟨args, []⟩ binds) (hloc : ∀ y ∈ binds, scope.names.lookup y.1 = some .local)
    (h : ∀ g L' h₁ tk E', g = hideAll s.heap (led.map (·.1)) → Fr g L' h₁ (fun y => binds.reverse.lookup y) → News g L' h₁ led → K.In g → Top p loose mean mg mb g → s.heap.StaysIn h₁ →
      wpAny (model prog w) (A.deeper (envOf qual scope L' f cdv)) (execs body (envOf qual scope L' f cdv)) (fun fl s' => Q (retOf fl) s') E' { s with heap := h₁, toks := tk })
    (hco : scope.isCoroutine = false) (hgen : scope.isGenerator = false) (hk : scope.kind = .function)
    (hcell : ∀ x ∈ scope.names, x.2 ≠ .cell) : wpAny (model prog w) A (call (.ref f) args) Q E s := by
  have nm : ∀ b o, hb.get? b = some o → b ∉ led.map (·.1) := fun b o e q => by
    obtain ⟨r, hr, rfl⟩ := List.mem_map.mp q
    rw [(hled r hr).2] at e; cases e
  have st : hb.StaysIn (hideAll s.heap (led.map (·.1))) := fun b o e => hideAll_get _ (hs b o e) (nm b o e)
  refine wpAny_call (codeAny_call_def (fd := fnOf name qual params body scope dV kV doc pm an cdv ct) (body := body) (binds := binds) hroom ((X₀.keeps hs) _ _ ho) rfl (T.nolimit.keeps hs) (codeRec_of (X₀.keeps hs) hcd) rfl hbind hcell hloc (fun h₁ hns hk₁ => ?_) hco hgen hk)
  refine wpAny_mono (h _ s.heap.objs.size h₁ _ _ rfl ⟨hns, fun b o e => hk₁ b o (of_hideAll _ e), Nat.le_of_eq (hideAll_size _ _)⟩
    (fun q hq => ⟨hk₁ _ _ (hled q hq).1, Nat.ne_of_lt (Heap.lt_size (hled q hq).1), hideAll_none _ (List.mem_map_of_mem hq)⟩) (X₀.keeps st) (T.keeps st) hk₁) (fun fl s' hl => ?_) fun _ _ y => y
  cases fl <;> exact hl

end

theorem off_end {S : List Addr} {led news' : Led} {h g h' : Heap} {L' : Addr} {m' : Str → Option Value} (hg : g = hideAll h (led.map (·.1))) (hled : ∀ q ∈ led, h.get? q.1 = some q.2) (F' : Fr g L' h' m') (N' : News g L' h' news')
    (hS : ∀ q ∈ led, q.1 ∈ S ∨ q ∈ news') (hD : ∀ q ∈ led, q.1 ∈ news'.map (·.1)) : Off S h h' ∧ Dom h h' := by
  constructor
  · intro b o n e
    by_cases hb : b ∈ led.map (·.1)
    · obtain ⟨q, hq, rfl⟩ := List.mem_map.mp hb
      have := hled q hq
      rw [e] at this
      cases this
      exact (N' q ((hS q hq).resolve_left n)).1
    · subst hg
      exact F'.keep b o (hideAll_get _ e hb)
  · intro b e
    by_cases hb : b ∈ led.map (·.1)
    · obtain ⟨q, hq, rfl⟩ := List.mem_map.mp hb
      obtain ⟨r, hr, er⟩ := List.mem_map.mp (hD q hq)
      have := (N' r hr).1
      rw [er] at this
      rw [this]; exact fun z => nomatch z
    · subst hg
      cases q : h.get? b with
      | none => exact absurd q e
      | some o => rw [F'.keep b o (hideAll_get _ q hb)]; exact fun z => nomatch z
theorem off_pure {S : List Addr} {h h' : Heap} {L' : Addr} {m' : Str → Option Value} (F' : Fr h L' h' m') : Off S h h' ∧ Dom h h' :=
  ⟨fun b o _ e => F'.keep b o e, fun b e => by
    cases q : h.get? b with
    | none => exact absurd q e
    | some o => rw [F'.keep b o q]; exact fun z => nomatch z⟩

-- Rules
section
variable {prog : Program} {w : World} {A : Around} {E : Value → Shared → Prop} {s : Shared} {h₀ : Heap} {L D : Addr} {m : Str → Option Value} {news news' : List (Addr × Obj)} {its its' : Array Value} {n : Nat} {k : Int} {t : Tok} {v : Value}
theorem set_lit {Q : Unit → Shared → Prop} (F : Fr h₀ L s.heap m) (N : News h₀ L s.heap news) (U : Upd D (W.listOf its n) (W.listOf its' n) news news') (h0 : 0 ≤ k) (h1 : k < its.size) (hfit : k < 2 ^ 63)
    (he : its.setIfInBounds k.toNat v = its') (h : ∀ h', Fr h₀ L h' m → News h₀ L h' news' → Q () { s with heap := h' }) :
    wpAny (model prog w) A (setItem (.ref D) (.int k t) v) Q E s := by
  obtain ⟨pre, post, rfl, rfl, a, b⟩ := U.split
  have z := N (D, W.listOf its n) (List.mem_append.mpr (.inr (.head _)))
  refine ki_setAt z.1 h0 hfit h1 (h _ (F.change (Heap.SameBut.update ..) z.2.1 z.2.2) (ki_turn _ N a b he ?_))
  subst he
  simp
end
section
variable {prog : Program} {w : World} {A : Around} {E : Value → Shared → Prop} {s : Shared} {a b n : Int} {t u : Tok} {Q : Value → Shared → Prop}
theorem pow_any (hn : 0 ≤ n) (hn2 : n ≤ 1000000) (ha : a.natAbs < 2 ^ 64) (h : ∀ z, Q (.int z s.toks) { s with toks := s.toks + 1 }) : wpAny (model prog w) A (binaryOp .Pow (.int a t) (.int n u)) Q E s :=
  pow_int_small hn hn2 ha (h _)
theorem mod_any (hb : 0 < b) (h : ∀ z, 0 ≤ z → z < b → Q (.int z s.toks) { s with toks := s.toks + 1 }) : wpAny (model prog w) A (binaryOp .Mod (.int a t) (.int b u)) Q E s :=
  mod_int' (by omega) (h _ (Int.fmod_nonneg_of_pos _ hb) (Int.fmod_lt_of_pos _ hb))
theorem mul_any (ha : a.natAbs ≤ 68719476736) (hb : b.natAbs ≤ 16777216) (h : ∀ z : Int, z.natAbs ≤ 1152921504606846976 → Q (.int z s.toks) { s with toks := s.toks + 1 }) : wpAny (model prog w) A (binaryOp .Mult (.int a t) (.int b u)) Q E s := by
  refine PyProof.Rows.mul_int (h _ ?_) (IntMulOk.of_left (intBits_le_64 (by omega) (by omega)))
  · rw [Int.natAbs_mul]
    exact Nat.le_trans (Nat.mul_le_mul ha hb) (by decide)
end
theorem dep0 {d b c n : Nat} (h : d + c < n) (k : b ≤ c) : d + b < n := by omega
theorem dep1 {d a b c n : Nat} (h : d + c < n) (k : a + b ≤ c) : d + a + b < n := by omega
theorem dep2 {d a a2 b c n : Nat} (h : d + c < n) (k : a + a2 + b ≤ c) : d + a + a2 + b < n := by omega
theorem room0 {d c : Nat} (h : d + c < 900) : d < recursionLimit := by simp only [recursionLimit]; omega
theorem room1 {d c : Nat} (h : d + c < 900) : d + 1 < recursionLimit := by simp only [recursionLimit]; omega
theorem fill (w : World) (hb : Heap) : PySem.Challenge.rw_pb0206_01.name = PySem.Challenge.rw_pb0206_01.name ∧ ((frag w.params).In hb → True) := by k_fill; exact ⟨rfl, fun _ => trivial⟩

-- Data
inductive Named : List DictEntry → List (Str × Value) → Prop
  | nil : Named [] []
  | cons (h : Int) (t : Tok) (n : Str) (v : Value) {es : List DictEntry} {fs : List (Str × Value)} : Named es fs → Named (⟨h, .str n t, v⟩ :: es) ((n, v) :: fs)

theorem named_noRef : ∀ {es : List DictEntry} {fs : List (Str × Value)}, Named es fs → es.any (·.refKey) = false
  | _, _, .nil => rfl
  | _, _, .cons _ _ _ _ r => by rw [List.any_cons, named_noRef r]; rfl
theorem named_find {name : Str} : ∀ {es : List DictEntry} {fs : List (Str × Value)}, Named es fs → (es.find? (·.key.isStr name)).map (·.val) = fs.lookup name
  | _, _, .nil => rfl
  | _, _, .cons h t n v r => by
    have ih := named_find (name := name) r
    rw [List.find?_cons, List.lookup_cons]
    by_cases e : n = name
    · subst e
      simp [Value.isStr]
    · have e1 : (Value.str n t).isStr name = false := by simp [Value.isStr, e]
      have e2 : (name == n) = false := by simp [Ne.symm e]
      simp only [e1, e2]
      exact ih
theorem named_get {es : List DictEntry} {fs : List (Str × Value)} (N : Named es fs) (name : Str) : getL name es = some (fs.lookup name) := by
  have h1 := named_find (name := name) N
  unfold getL
  split
  · rename_i e he
    rw [he] at h1
    rw [← h1]; rfl
  · rename_i he
    rw [he] at h1
    rw [named_noRef N, ← h1]; rfl
def putF (name : Str) (v : Value) : List (Str × Value) → List (Str × Value)
  | [] => []
  | f :: r => if f.1 = name then (f.1, v) :: r else f :: putF name v r
theorem named_put {name : Str} {v key : Value} {hsh : Int} : ∀ {es : List DictEntry} {fs : List (Str × Value)}, Named es fs → (fs.lookup name).isSome = true → Named (putL name hsh key v es) (putF name v fs) ∧ (putL name hsh key v es).length = es.length ∧ putN name es 0 = 0
  | _, _, .nil, h => by cases h
  | _, _, .cons (es := es) (fs := fs) h t n x r, hs => by
    unfold putL putF putN
    by_cases e : n = name
    · subst e
      have e1 : (Value.str n t).isStr n = true := by simp [Value.isStr]
      simp only [e1, if_true, List.any_cons, Bool.true_or]
      exact ⟨.cons h t n v r, rfl, trivial⟩
    · have e1 : (Value.str n t).isStr name = false := by simp [Value.isStr, e]
      have e2 : (name == n) = false := by simp [Ne.symm e]
      rw [List.lookup_cons, e2] at hs
      obtain ⟨a, b, c⟩ := named_put (name := name) (v := v) (key := key) (hsh := hsh) r hs
      simp only [e1, e, if_false, List.any_cons, Bool.false_or]
      refine ⟨.cons h t n x a, by simp [b], ?_⟩
      unfold putN at c
      exact c
theorem putN_le (name : Str) (es : List DictEntry) (n : Nat) (h : putN name es 0 = 0) : putN name es n = n := by
  unfold putN at h ⊢
  split at h
  · rename_i e; rw [if_pos e]
  · cases h

inductive HasD (h : Heap) (x dx C : Addr) (fs : List (Str × Value)) : Prop where
  | mk (a : h.get? x = some (instObj C dx)) (es : List DictEntry) (n : Nat) (b : h.get? dx = some (dictOf es n)) (N : Named es fs) : HasD h x dx C fs
def Has (h : Heap) (x C : Addr) (fs : List (Str × Value)) : Prop := ∃ dx, HasD h x dx C fs
theorem Has.keep {h h' : Heap} {x C : Addr} {fs : List (Str × Value)} (H : Has h x C fs) (k : h.StaysIn h') : Has h' x C fs :=
  let ⟨dx, a, es, n, b, N⟩ := H; ⟨dx, k _ _ a, es, n, k _ _ b, N⟩
theorem HasD.keep {h h' : Heap} {x dx C : Addr} {fs : List (Str × Value)} (H : HasD h x dx C fs) (k : h.StaysIn h') : HasD h' x dx C fs :=
  let ⟨a, es, n, b, N⟩ := H; ⟨k _ _ a, es, n, k _ _ b, N⟩

section
variable {prog : Program} {w : World} {A : Around} {E : Value → Shared → Prop} {s : Shared} {K : Frag} {x dx C L : Addr} {h₀ : Heap} {m : Str → Option Value} {news news' : List (Addr × Obj)} {es : List DictEntry} {n : Nat} {name : Str} {v : Value} {fs : List (Str × Value)}

theorem get_has {expr : Bool} {Q : Value → Shared → Prop} {attr : Option Value} (F : Fr h₀ L s.heap m) (X₀ : K.In h₀) (H : Has h₀ x C fs) (hg : plainGet K C name = true) (hh : hasDictIn K C = true)
    (ha : findIn K (.ref C) name = some attr) (hn : noGet K attr = true) (hl : fs.lookup name = some v) (hv : handedIn v = true) (h : Q v { s with toks := s.toks + 1 }) :
    wpAny (model prog w) A (getAttr (.ref x) name expr) Q E s := by
  obtain ⟨dx, hx, es, n, hd, N⟩ := H.keep F.keep
  exact get_own (ox := instObj C dx) F X₀ ⟨hx, rfl, rfl, hd⟩ hg hh ha hn ((named_get N name).trans (by rw [hl])) hv h

theorem meth_has {pl : Sem Bool} {Q : Value × List Value → Shared → Prop} {f : Addr} (F : Fr h₀ L s.heap m) (X₀ : K.In h₀) (H : Has h₀ x C fs) (hg : plainGet K C name = true)
    (hf : findIn K (.ref C) name = some (some (.ref f))) (ht : isFn K (.ref f) = true) (hl : fs.lookup name = none) (h : Q (.ref f, [.ref x]) s) : wpAny (model prog w) A (getMethod (.ref x) name pl) Q E s := by
  obtain ⟨dx, hx, es, n, hd, N⟩ := H.keep F.keep
  exact method_inst (ox := instObj C dx) F X₀ ⟨hx, rfl, rfl, hd⟩ hg hf ht ((named_get N name).trans (by rw [hl])) h

theorem get_led {expr : Bool} {Q : Value → Shared → Prop} {attr : Option Value} (F : Fr h₀ L s.heap m) (X₀ : K.In h₀) (hx : h₀.get? x = some (instObj C dx)) (N : News h₀ L s.heap news) (hm : (dx, dictOf es n) ∈ news) (Nm : Named es fs) (hg : plainGet K C name = true) (hh : hasDictIn K C = true)
    (ha : findIn K (.ref C) name = some attr) (hn : noGet K attr = true) (hl : fs.lookup name = some v) (hv : handedIn v = true) (h : Q v { s with toks := s.toks + 1 }) :
    wpAny (model prog w) A (getAttr (.ref x) name expr) Q E s :=
  get_own (ox := instObj C dx) F X₀ ⟨F.keep _ _ hx, rfl, rfl, (N _ hm).1⟩ hg hh ha hn ((named_get Nm name).trans (by rw [hl])) hv h

theorem set_led {Q : Unit → Shared → Prop} {newsF : List DictEntry → List (Addr × Obj)} (F : Fr h₀ L s.heap m) (X₀ : K.In h₀) (hx : h₀.get? x = some (instObj C dx)) (N : News h₀ L s.heap news) (Nm : Named es fs)
    (hs : findIn K (.ref C) "__setattr__" = some (some (.builtin "object.__setattr__"))) (hp : plainOver K C = true) (ht : takerIn K C name = some none) (hh : hasDictIn K C = true) (hl : (fs.lookup name).isSome = true)
    (U : ∀ es', Upd dx (dictOf es n) (dictOf es' n) news (newsF es')) (hz : fs.length ≤ 1000)
    (h : ∀ h' es', Fr h₀ L h' m → News h₀ L h' (newsF es') → Named es' (putF name v fs) → Q () { s with heap := h', toks := s.toks + 2 }) :
    wpAny (model prog w) A (setAttr (.ref x) name v) Q E s := by
  obtain ⟨N1, N2, N3⟩ := named_put (v := v) (key := .str name (s.toks + 1)) (hsh := PyData.keyHash w.params name) Nm hl
  have len : ∀ {es : List DictEntry} {fs : List (Str × Value)}, Named es fs → es.length = fs.length := fun {es fs} z => by
    induction z with
    | nil => rfl
    | cons _ _ _ _ _ ih => simp [ih]
  have hm : (dx, dictOf es n) ∈ news := by
    obtain ⟨pre, post, e, _⟩ := (U []).split
    rw [e]; exact List.mem_append.mpr (.inr (.head _))
  refine set_dict (ox := instObj C dx) F X₀ N ⟨F.keep _ _ hx, rfl, rfl, (N _ hm).1⟩ rfl hs hp ht hh (by rw [named_get Nm name]; rfl) rfl (n' := putN name es n) (by rw [putN_le _ _ _ N3]; exact U _) (by rw [N2, len Nm]; exact hz) fun h' F' N' => h h' _ F' N' N1
end

-- Cut
section
variable {M : Model} {A : Around} {E : Value → Shared → Prop} {s : Shared} {env : Env}
theorem cut {st : Stmt} {rest : List Stmt} {Q : Flow → Shared → Prop} (P : Shared → Prop) (h1 : wpAny M A (exec st env) (fun fl s' => match fl with | .next => P s' | fl => Q fl s') E s)
    (h2 : ∀ s', P s' → wpAny M A (execs rest env) Q E s') : wpAny M A (execs (st :: rest) env) Q E s :=
  wpAny_execs_cons (wpAny_mono h1 (fun fl s' h => by cases fl <;> first | exact h2 _ h | exact h) fun _ _ x => x)
end
inductive Stands (s : Shared) (g : Heap) (L : Addr) (m : Str → Option Value) (news : Led) (s' : Shared) : Prop where
  | mk (h' : Heap) (tk : Nat) (e0 : s' = { s with heap := h', toks := tk }) (e1 : Fr g L h' m) (e2 : News g L h' news) : Stands s g L m news s'
theorem stands {s : Shared} {g : Heap} {L : Addr} {m : Str → Option Value} {news : Led} {h' : Heap} {tk : Nat} (F : Fr g L h' m) (N : News g L h' news) : Stands s g L m news { s with heap := h', toks := tk } := ⟨h', tk, rfl, F, N⟩
inductive Gr (w : World) (hb : Heap) : Prop where
  | mk (p : Program) (loose : List Str) (mean : ExcName → Option Value) (mg mb : Str → Option Value) (e0 : (frag w.params).In hb) (e1 : Top p loose mean mg mb hb) : Gr w hb
inductive Ex2 {A0 A1 : Type} (p : A0 → A1 → Prop) : Prop where
  | mk (x0 : A0) (x1 : A1) (h : p x0 x1) : Ex2 p
inductive Ex3 {A0 A1 A2 : Type} (p : A0 → A1 → A2 → Prop) : Prop where
  | mk (x0 : A0) (x1 : A1) (x2 : A2) (h : p x0 x1 x2) : Ex3 p
inductive Ex4 {A0 A1 A2 A3 : Type} (p : A0 → A1 → A2 → A3 → Prop) : Prop where
  | mk (x0 : A0) (x1 : A1) (x2 : A2) (x3 : A3) (h : p x0 x1 x2 x3) : Ex4 p
inductive Ex6 {A0 A1 A2 A3 A4 A5 : Type} (p : A0 → A1 → A2 → A3 → A4 → A5 → Prop) : Prop where
  | mk (x0 : A0) (x1 : A1) (x2 : A2) (x3 : A3) (x4 : A4) (x5 : A5) (h : p x0 x1 x2 x3 x4 x5) : Ex6 p
inductive Ex8 {A0 A1 A2 A3 A4 A5 A6 A7 : Type} (p : A0 → A1 → A2 → A3 → A4 → A5 → A6 → A7 → Prop) : Prop where
  | mk (x0 : A0) (x1 : A1) (x2 : A2) (x3 : A3) (x4 : A4) (x5 : A5) (x6 : A6) (x7 : A7) (h : p x0 x1 x2 x3 x4 x5 x6 x7) : Ex8 p
inductive Ex9 {A0 A1 A2 A3 A4 A5 A6 A7 A8 : Type} (p : A0 → A1 → A2 → A3 → A4 → A5 → A6 → A7 → A8 → Prop) : Prop where
  | mk (x0 : A0) (x1 : A1) (x2 : A2) (x3 : A3) (x4 : A4) (x5 : A5) (x6 : A6) (x7 : A7) (x8 : A8) (h : p x0 x1 x2 x3 x4 x5 x6 x7 x8) : Ex9 p
inductive Ex12 {A0 A1 A2 A3 A4 A5 A6 A7 A8 A9 A10 A11 : Type} (p : A0 → A1 → A2 → A3 → A4 → A5 → A6 → A7 → A8 → A9 → A10 → A11 → Prop) : Prop where
  | mk (x0 : A0) (x1 : A1) (x2 : A2) (x3 : A3) (x4 : A4) (x5 : A5) (x6 : A6) (x7 : A7) (x8 : A8) (x9 : A9) (x10 : A10) (x11 : A11) (h : p x0 x1 x2 x3 x4 x5 x6 x7 x8 x9 x10 x11) : Ex12 p
inductive An3 (a0 a1 a2 : Prop) : Prop where
  | mk (h0 : a0) (h1 : a1) (h2 : a2) : An3 a0 a1 a2
inductive An4 (a0 a1 a2 a3 : Prop) : Prop where
  | mk (h0 : a0) (h1 : a1) (h2 : a2) (h3 : a3) : An4 a0 a1 a2 a3
inductive An5 (a0 a1 a2 a3 a4 : Prop) : Prop where
  | mk (h0 : a0) (h1 : a1) (h2 : a2) (h3 : a3) (h4 : a4) : An5 a0 a1 a2 a3 a4
inductive An6 (a0 a1 a2 a3 a4 a5 : Prop) : Prop where
  | mk (h0 : a0) (h1 : a1) (h2 : a2) (h3 : a3) (h4 : a4) (h5 : a5) : An6 a0 a1 a2 a3 a4 a5
inductive An9 (a0 a1 a2 a3 a4 a5 a6 a7 a8 : Prop) : Prop where
  | mk (h0 : a0) (h1 : a1) (h2 : a2) (h3 : a3) (h4 : a4) (h5 : a5) (h6 : a6) (h7 : a7) (h8 : a8) : An9 a0 a1 a2 a3 a4 a5 a6 a7 a8
inductive Ex7 {A0 A1 A2 A3 A4 A5 A6 : Type} (p : A0 → A1 → A2 → A3 → A4 → A5 → A6 → Prop) : Prop where
  | mk (x0 : A0) (x1 : A1) (x2 : A2) (x3 : A3) (x4 : A4) (x5 : A5) (x6 : A6) (h : p x0 x1 x2 x3 x4 x5 x6) : Ex7 p
inductive An10 (a0 a1 a2 a3 a4 a5 a6 a7 a8 a9 : Prop) : Prop where
  | mk (h0 : a0) (h1 : a1) (h2 : a2) (h3 : a3) (h4 : a4) (h5 : a5) (h6 : a6) (h7 : a7) (h8 : a8) (h9 : a9) : An10 a0 a1 a2 a3 a4 a5 a6 a7 a8 a9
inductive An7 (a0 a1 a2 a3 a4 a5 a6 : Prop) : Prop where
  | mk (h0 : a0) (h1 : a1) (h2 : a2) (h3 : a3) (h4 : a4) (h5 : a5) (h6 : a6) : An7 a0 a1 a2 a3 a4 a5 a6
inductive An8 (a0 a1 a2 a3 a4 a5 a6 a7 : Prop) : Prop where
  | mk (h0 : a0) (h1 : a1) (h2 : a2) (h3 : a3) (h4 : a4) (h5 : a5) (h6 : a6) (h7 : a7) : An8 a0 a1 a2 a3 a4 a5 a6 a7
structure Bx (P : Prop) : Prop where
  out : P
def setM (m : Str → Option Value) (x : Str) (v : Value) : Str → Option Value := fun y => if y = x then some v else m y
def mapL (l : List (Str × Value)) : Str → Option Value := fun y => l.lookup y
theorem mapL_cons (x : Str) (v : Value) (l : List (Str × Value)) (y : Str) : mapL ((x, v) :: l) y = if y = x then some v else mapL l y := by
  unfold mapL
  rw [List.lookup_cons]
  by_cases e : y = x
  · rw [if_pos e]; simp [e]
  · rw [if_neg e]
    have : (y == x) = false := by simp [e]
    rw [this]
theorem Fr.cong {g h : Heap} {L : Addr} {m m' : Str → Option Value} (F : Fr g L h m) (e : m = m') : Fr g L h m' := e ▸ F
theorem Fr.put {g h : Heap} {L : Addr} {x : Str} {v : Value} {l : List (Str × Value)} (F : Fr g L h (fun y => if y = x then some v else mapL l y)) : Fr g L h (mapL ((x, v) :: l)) :=
  Mine.Fr.cong F (funext fun y => (mapL_cons x v l y).symm)
theorem Fr.putM {g h : Heap} {L : Addr} {x : Str} {v : Value} {l : List (Str × Value)} {m : Str → Option Value} (F : Fr g L h (fun y => if y = x then some v else m y)) (e : m = mapL l) : Fr g L h (mapL ((x, v) :: l)) :=
  Mine.Fr.put (e ▸ F)
theorem Fr.re {g h : Heap} {L : Addr} {x : Str} {v v0 : Value} {l : List (Str × Value)} (F : Fr g L h (fun y => if y = x then some v else mapL ((x, v0) :: l) y)) : Fr g L h (mapL ((x, v) :: l)) :=
  Mine.Fr.cong F (funext fun y => by rw [mapL_cons, mapL_cons]; by_cases e : y = x <;> simp [e])
theorem News.tl {g h : Heap} {L : Addr} {p : Addr × Obj} {l : Led} (N : News g L h (p :: l)) : News g L h l := fun q hq => N q (.tail _ hq)

section S_DrawT
-- DrawT
theorem fill0 (w : World) (hb : Heap) : PySem.Challenge.rw_pb0206_01.name = PySem.Challenge.rw_pb0206_01.name ∧ ((frag w.params).In hb → True) := by k_fill; exact ⟨rfl, fun _ => trivial⟩
theorem rows_1 : True := by
  (k_with "setItem ref int" => (k_here; (with_reducible show wpAny _ _ (setItem (Value.ref _) (Value.int _ _) _) _ _ _); k_dflt (refine' set_lit ?z1k1 ?z1k2 ?z1k3 ?z1k4 ?z1k5 ?z1k6 ?z1k7 ?_; (case z1k1 => k_asm); (case z1k2 => k_asm); (case z1k3 => k_upd); (case z1k4 => decide); (case z1k5 => simp; done); (case z1k6 => decide); (case z1k7 => rfl); k_whole); intro _ _ _; (try k_sweep)))
  (k_with "m go" => ((try dsimp only); (try k_fold); k_steps; (all_goals (try dsimp only)); (all_goals (try k_unfold)); (all_goals (try dsimp only))))
  (k_with "m fr" => first | (with_reducible assumption) | (refine' Mine.Fr.put ?z3n; (case z3n => assumption)) | assumption)
  (k_with "m go2" => ((try dsimp only); (try k_fold); (repeat' (first | (k_unfold; (try dsimp only)) | walk1 | (dsimp only; walk1))); (all_goals (try dsimp only)); (all_goals (try k_unfold)); (all_goals (try dsimp only))))
  (k_with "m nw" => first | (with_reducible assumption) | assumption | (refine' Mine.News.tl ?z5n; (case z5n => walk_at "m nw1")))
  (k_with "m nw1" => first | (with_reducible assumption) | assumption | (refine' Mine.News.tl ?z6n; (case z6n => walk_at "m nw2")))
  (k_with "m nw2" => first | (with_reducible assumption) | assumption | (refine' Mine.News.tl ?z7n; (case z7n => assumption)))
  (k_with "m st" => (refine stands ?z8f ?z8n; (case z8f => walk_at "m fr"); (case z8n => walk_at "m nw")))
  trivial

section Draw
theorem rows_2 : True := by
  (k_with "binaryOp Pow int int" => (k_here; k_dflt ((refine pow_any ?z9a ?z9b ?z9c ?_); (case z9a => decide); (case z9b => decide); (case z9c => omega); intro _)))
  (k_with "binaryOp Mod int int" => (k_here; k_dflt ((refine mod_any ?z10a ?_); (case z10a => first | omega | decide); intro _ _ _)))
  (k_with "binaryOp Mult int int" => (k_here; k_dflt ((fail_if_success (with_reducible show wpAny _ _ (binaryOp _ (Value.int 20947 _) _) _ _ _)); (fail_if_success (with_reducible show wpAny _ _ (binaryOp _ (Value.int 2 _) _) _ _ _)); (refine mul_any ?z11a ?z11b ?_); (case z11a => omega); (case z11b => omega); intro _ _)))
  trivial

abbrev penL (cells : Addr) (spot great : Int) (t1 t2 : Tok) (n : Nat) : Obj := W.listOf #[.ref cells, .int spot t1, .int great t2] n

inductive Pen (hb h : Heap) (pen cells : Addr) (k : Nat) : Prop where
  | mk (vs : List Value) (ns : List Int) (spot great : Int) (t1 t2 : Tok) (n1 n2 : Nat) (e0 : h.get? pen = some (penL cells spot great t1 t2 n1)) (e1 : h.get? cells = some (W.listOf vs.toArray n2)) (e2 : IntsAre vs ns) (e3 : ns.length ≤ 40) (e4 : 0 ≤ spot) (e5 : spot ≤ k) (e6 : hb.get? pen = none) (e7 : hb.get? cells = none) (e8 : pen ≠ cells) : Pen hb h pen cells k

theorem draw_t {w : World} {hb : Heap} (G : Gr w hb) (pen cells : Addr) (k : Nat) (many : Int) (t3 : Tok) (hm : 0 < many) (hm2 : many < 100) (hk : k < 1000000) :
    Does w hb 778 [.ref pen, .int many t3] 1 [pen] (fun h => Pen hb h pen cells k) (fun _ r h' => (∃ d t, r = .int d t ∧ 0 ≤ d ∧ d < many) ∧ Pen hb h' pen cells (k + 1)) := by
  obtain ⟨p, loose, mean, mg, mb, X₀, T₀⟩ := G
  intro dp un fr gd s Q E hdep hun hs hpre9
  obtain ⟨vs, ns, spot, great, t1, t2, n1, n2, hp, hc, hI, hlen, hsp, hsk, hp0, hc0, hpc⟩ := hpre9
  intro hQ
  have hsp2 : spot < 1000000 := by omega
  replace hpc := neN hpc
  have hroom : dp < recursionLimit := by simp only [recursionLimit]; omega
  refine' enter [(pen, penL cells spot great t1 t2 n1), (cells, W.listOf vs.toArray n2)] X₀ T₀ hs ?kl ?k6 ?k7 hroom (binds := [(Str.ofString "pen", .ref pen), (Str.ofString "many", .int many t3)]) ?k9 ?kB ?kk ?c2 ?c3 ?c4 ?c5
  (case k6 => k_is)
  (case k7 => k_is)
  (case k9 => exact BindsTo.of_eq rfl)
  (case kB => exact locs rfl)
  (case c5 => decide)
  (case c2 => exact rfl)
  (case c3 => exact rfl)
  (case c4 => exact rfl)
  (case kl => simp [hp, hc, hp0, hc0])
  intro g' L' h' tk' ek' hg' F' N' X' T' st'
  clear X₀ T₀ 
  (with_unfolding_all show wpAny _ _ (execs (_ :: _) _) _ _ _)
  change Fr g' L' h' (mapL [(Str.ofString "many", .int many t3), (Str.ofString "pen", .ref pen)]) at F'
  have done : ∀ (x : Int) (t : Tok) (h' : Heap) (tk' : Nat) (sp gr : Int) (a b : Tok) (m' : Str → Option Value), Fr g' L' h' m' → News g' L' h' [(pen, penL cells sp gr a b n1), (cells, W.listOf vs.toArray n2)] → 0 ≤ sp → sp ≤ spot + 1 →
      0 ≤ x → x < many → Q (.int x t) { s with heap := h', toks := tk' } := by
    intro x t h' tk' sp gr a b m' F N p1 p2 q1 q2
    obtain ⟨o1, o2⟩ := off_end (S := [pen]) hg' (by simp [hp, hc]) F N (by simp) (by simp)
    exact hQ _ _ _ o1 o2 ⟨⟨_, _, rfl, q1, q2⟩, vs, ns, sp, gr, a, b, n1, n2, (N _ (.head _)).1, (N _ (.tail _ (.head _))).1, hI, hlen, p1, by omega, hp0, hc0, hpc⟩
  -- 1: if pen[2] > 0
  refine cut (fun s' => Stands s g' L' (mapL [(Str.ofString "many", .int many t3), (Str.ofString "pen", .ref pen)]) [(pen, penL cells spot great t1 t2 n1), (cells, W.listOf vs.toArray n2)] s') ?_ ?_
  · walk_at "m go2"
    · exact done _ _ _ _ spot _ _ _ _ (by assumption) (by assumption) hsp (by omega) (by first | assumption | exact Int.fmod_nonneg_of_pos _ hm) (by first | assumption | exact Int.fmod_lt_of_pos _ hm)
    · walk_at "m st"
  clear F' N'
  rintro _ ⟨h1, tk1, rfl, F', N'⟩
  -- 2: spot = pen[1]
  refine cut (fun s' => Stands s g' L' (mapL [(Str.ofString "spot", .int spot t1), (Str.ofString "many", .int many t3), (Str.ofString "pen", .ref pen)]) [(pen, penL cells spot great t1 t2 n1), (cells, W.listOf vs.toArray n2)] s') ?_ ?_
  · walk_at "m go2"
    walk_at "m st"
  clear F' N'
  rintro _ ⟨h2, tk2, rfl, F', N'⟩
  -- 3: pen[1] = spot + 1
  refine cut (fun s' => Bx (∃ u1, Stands s g' L' (mapL [(Str.ofString "spot", .int spot t1), (Str.ofString "many", .int many t3), (Str.ofString "pen", .ref pen)]) [(pen, penL cells (spot + 1) great u1 t2 n1), (cells, W.listOf vs.toArray n2)] s')) ?_ ?_
  · walk_at "m go2"
    refine' ⟨⟨_, ?h⟩⟩
    case h => walk_at "m st"
  clear F' N'
  rintro _ ⟨⟨u1, h3, tk3, rfl, F', N'⟩⟩
  -- 4: cell = ..
  refine cut (fun s' => Bx (∃ c u, Stands s g' L' (mapL ((Str.ofString "cell", .int c u) :: [(Str.ofString "spot", .int spot t1), (Str.ofString "many", .int many t3), (Str.ofString "pen", .ref pen)])) [(pen, penL cells (spot + 1) great u1 t2 n1), (cells, W.listOf vs.toArray n2)] s')) ?_ ?_
  · walk_at "m go2"
    refine' ⟨⟨_, _, ?h⟩⟩
    case h => walk_at "m st"
  clear F' N'
  rintro _ ⟨⟨c, u, h4, tk4, rfl, F', N'⟩⟩
  -- 5: if pen[0] != []: cell = ..
  refine cut (fun s' => Bx (∃ c u, Stands s g' L' (mapL ((Str.ofString "cell", .int c u) :: [(Str.ofString "spot", .int spot t1), (Str.ofString "many", .int many t3), (Str.ofString "pen", .ref pen)])) [(pen, penL cells (spot + 1) great u1 t2 n1), (cells, W.listOf vs.toArray n2)] s')) ?_ ?_
  · walk_at "m go2"
    · exact ⟨⟨c, u, stands (by assumption) (Mine.News.tl (by assumption))⟩⟩
    · exfalso
      have := of_decide_eq_false (by assumption : decide (ns = []) = false)
      exact this (List.eq_nil_of_length_eq_zero (by omega))
    · exact ⟨⟨_, _, stands (Mine.Fr.re (by assumption)) (Mine.News.tl (by assumption))⟩⟩
  clear F' N' c u
  rintro _ ⟨⟨c, u, h5, tk5, rfl, F', N'⟩⟩
  -- 6: if spot < len(pen[0]) and abs(cell) >= 10 ** 18
  refine cut (fun s' => Stands s g' L' (mapL ((Str.ofString "cell", .int c u) :: [(Str.ofString "spot", .int spot t1), (Str.ofString "many", .int many t3), (Str.ofString "pen", .ref pen)])) [(pen, penL cells (spot + 1) great u1 t2 n1), (cells, W.listOf vs.toArray n2)] s') ?_ ?_
  · walk_at "m go2"
    · exact done _ _ _ _ (spot + 1) _ _ _ _ (by assumption) (by assumption) (by omega) (by omega) (by first | assumption | exact Int.fmod_nonneg_of_pos _ hm) (by first | assumption | exact Int.fmod_lt_of_pos _ hm)
    all_goals walk_at "m st"
  clear F' N'
  rintro _ ⟨h6, tk6, rfl, F', N'⟩
  -- 7: stirred
  refine cut (fun s' => Bx (∃ z v, (0 ≤ z ∧ z < 2147483629) ∧ Stands s g' L' (mapL ((Str.ofString "stirred", .int z v) :: ((Str.ofString "cell", .int c u) :: [(Str.ofString "spot", .int spot t1), (Str.ofString "many", .int many t3), (Str.ofString "pen", .ref pen)]))) [(pen, penL cells (spot + 1) great u1 t2 n1), (cells, W.listOf vs.toArray n2)] s')) ?_ ?_
  · walk_at "m go2"
    refine' ⟨⟨_, _, ⟨?h1, ?h2⟩, ?h⟩⟩
    case h => walk_at "m st"
    all_goals assumption
  clear F' N'
  rintro _ ⟨⟨z, v, hz, h7, tk7, rfl, F', N'⟩⟩
  -- 8: stirred
  have hsq : 0 ≤ 20947 * spot * spot ∧ 20947 * spot * spot ≤ 20947000000000000 := by
    have h1 : 0 ≤ 20947 * spot := by omega
    have h2 : 20947 * spot ≤ 20947000000 := by omega
    refine ⟨Int.mul_nonneg h1 hsp, Int.le_trans (Int.mul_le_mul h2 (by omega : spot ≤ 1000000) hsp (by decide)) (by decide)⟩
  refine cut (fun s' => Bx (∃ z2 v2, Stands s g' L' (mapL ((Str.ofString "stirred", .int z2 v2) :: (Str.ofString "stirred", .int z v) :: ((Str.ofString "cell", .int c u) :: [(Str.ofString "spot", .int spot t1), (Str.ofString "many", .int many t3), (Str.ofString "pen", .ref pen)]))) [(pen, penL cells (spot + 1) great u1 t2 n1), (cells, W.listOf vs.toArray n2)] s')) ?_ ?_
  · walk_at "m go2"
    refine' ⟨⟨_, _, ?h⟩⟩
    case h => walk_at "m st"
  clear F' N'
  rintro _ ⟨⟨z2, v2, h8, tk8, rfl, F', N'⟩⟩
  -- 9: return
  walk_at "m go2"
  exact done _ _ _ _ (spot + 1) _ _ _ _ (by assumption) (by assumption) (by omega) (by omega) (by first | assumption | exact Int.fmod_nonneg_of_pos _ hm) (by first | assumption | exact Int.fmod_lt_of_pos _ hm)
end Draw
end S_DrawT
theorem rows_none : True := by
  k_with_none
  trivial

-- Base
abbrev PRG : Program := PySem.Challenge.rw_pb0206_01.row.prog
def DictI (w : World) (h : Heap) (d : Addr) (kvs : List (Int × Value)) : Prop := (d == sysModules) = false ∧ h.DictOf (PySem.intKind PRG w) d kvs
theorem DictI.keep {w : World} {h h' : Heap} {d : Addr} {kvs : List (Int × Value)} (D : DictI w h d kvs) (k : h.StaysIn h') : DictI w h' d kvs :=
  let ⟨lo, o, es, ep, ho, r⟩ := D; ⟨lo, o, es, ep, k _ _ ho, r⟩
def IsL (h : Heap) (l : Addr) (vs : List Value) : Prop := ∃ n, h.get? l = some (W.listOf vs.toArray n)
theorem IsL.keep {h h' : Heap} {l : Addr} {vs : List Value} (x : IsL h l vs) (k : h.StaysIn h') : IsL h' l vs := let ⟨n, e⟩ := x; ⟨n, k _ _ e⟩
theorem IsL.isList {h : Heap} {l : Addr} {vs : List Value} (x : IsL h l vs) : h.IsList l vs.toArray := let ⟨n, e⟩ := x; PySem.IsL.isList (n := n) e
theorem intKind_at (w : World) (k : Int) (t : Tok) : (PySem.intKind PRG w).is k (.int k t) = true := by simp [PySem.intKind, Value.isInt]

section
variable {w : World} {A : Around} {E : Value → Shared → Prop} {s : Shared} {h₀ : Heap} {L d l : Addr} {m : Str → Option Value} {kvs : List (Int × Value)} {k : Int} {t : Tok} {v dflt : Value} {vs : List Value}

theorem di_method {pl : Sem Bool} {Q : Value × List Value → Shared → Prop} (F : Fr h₀ L s.heap m) (D : DictI w h₀ d kvs) (h : Q (.builtin "dict.get", [.ref d]) s) : wpAny (model PRG w) A (getMethod (.ref d) "get" pl) Q E s :=
  have hD := (D.keep F.keep).2
  getMethod_builtin hD.typeIs PySem.F.plainAttrs_dict PySem.F.slot_dict_get PySem.F.type_dict_get hD.mapOf.noDict h
theorem di_get2 {Q : Value → Shared → Prop} (F : Fr h₀ L s.heap m) (D : DictI w h₀ d kvs) (h : Q ((valueAt kvs k).getD dflt) { s with toks := s.toks + 1 }) :
    wpAny (model PRG w) A (call (.builtin "dict.get") [.ref d, .int k t, dflt]) Q E s :=
  have hD := (D.keep F.keep).2
  call_meetsIn PySem.F.slot_dict_get hD.typeIs PySem.F.entry_dict_get (PySem.F.args_dict_get_3 _ _ _) (meets_dict_get_default _ d (intKind_at w k t) D.1 dflt) ⟨_, hD.mapOf, h⟩
theorem di_in {Q : Value → Shared → Prop} (F : Fr h₀ L s.heap m) (D : DictI w h₀ d kvs) (h : Q (.bool (valueAt kvs k).isSome) { s with toks := s.toks + 1 }) :
    wpAny (model PRG w) A (compareOp .In (.int k t) (.ref d)) Q E s := wpAny_in_of (intKind_at w k t) D.1 (D.keep F.keep).2.mapOf h
theorem di_notin {Q : Value → Shared → Prop} (F : Fr h₀ L s.heap m) (D : DictI w h₀ d kvs) (h : Q (.bool (!(valueAt kvs k).isSome)) { s with toks := s.toks + 1 }) :
    wpAny (model PRG w) A (compareOp .NotIn (.int k t) (.ref d)) Q E s := wpAny_notIn_of (intKind_at w k t) D.1 (D.keep F.keep).2.mapOf h
theorem di_item {value slice : Expr} {Q : Value → Shared → Prop} (F : Fr h₀ L s.heap m) (D : DictI w h₀ d kvs) (hl : valueAt kvs k = some v) (h : Q v { s with toks := s.toks + 1 })
    (hs : subscripted slice false (.ref d) (.int k t) = operate [.ref d, .int k t] (getItem (.ref d) (.int k t)) := by with_unfolding_all rfl) : wpAny (model PRG w) A (subscriptTail value slice (.ref d) (.int k t)) Q E s :=
  have hD := (D.keep F.keep).2
  tail_any hD.typeIs slot_dict_getitem.lookup (wpAny_getItem_of (intKind_at w k t) hD.mapOf hl h) hs

theorem li_item {prog : Program} {value slice : Expr} {Q : Value → Shared → Prop} (F : Fr h₀ L s.heap m) (H : IsL h₀ l vs) (h0 : 0 ≤ k) (hfit : k < 2 ^ 63) (hx : vs[k.toNat]? = some v) (h : Q v s)
    (hs : subscripted slice false (.ref l) (.int k t) = operate [.ref l, .int k t] (getItem (.ref l) (.int k t)) := by with_unfolding_all rfl) : wpAny (model prog w) A (subscriptTail value slice (.ref l) (.int k t)) Q E s :=
  have hL := (H.keep F.keep).isList
  tail_any hL.typeIs slot_list_getitem.lookup (wpAny_getItem_list hL h0 hfit (by simpa using hx) h) hs
theorem li_len {prog : Program} {Q : Value → Shared → Prop} (F : Fr h₀ L s.heap m) (H : IsL h₀ l vs) (hfit : vs.length < 1000) (h : Q (.int vs.length (s.toks + 1)) { s with toks := s.toks + 1 + 1 }) :
    wpAny (model prog w) A (call (.builtin "len") [.ref l]) Q E s :=
  have hL := (H.keep F.keep).isList
  len_list hL (by simp; omega) (by simpa using h)

theorem newsNil {g h : Heap} {L : Addr} {m : Str → Option Value} (_F : Fr g L h m) : News g L h [] := News.nil
theorem use0 {f : Addr} {hb : Heap} {args : List Value} {dd : Nat} {pre : Heap → Prop} {post : Heap → Value → Heap → Prop} (C : Does w hb f args dd [] pre post) {dp un : Nat} {fr : Option (List Env)} {gd : Option (List Code)} {Q E : Value → Shared → Prop}
    (F : Fr h₀ L s.heap m) (hs : hb.StaysIn h₀) (hd : dp + dd < 900) (hu : un + 8 * dd < 9000) (hp : pre s.heap)
    (k : ∀ r h' tk', Fr h₀ L h' m → s.heap.StaysIn h' → Dom s.heap h' → post s.heap r h' → Q r { s with heap := h', toks := tk' }) :
    wpAny (model PRG w) { handled := none, depth := dp, frames := fr, guards := gd, units := un } (call (.ref f) args) Q E s :=
  C dp un fr gd s Q E hd hu (fun b o e => F.keep b o (hs b o e)) hp fun r h' tk' o d q =>
    k r h' tk' ⟨let ⟨oL, a, b, c, r⟩ := F.ns; ⟨oL, a, b, o _ _ (by simp) c, r⟩, fun b x e => o _ _ (by simp) (F.keep b x e), F.above⟩ o.all d q

theorem enter0 {K : Frag} {hb : Heap} {p : Program} {loose : List Str} {mean : ExcName → Option Value} {mg mb : Str → Option Value} {Q E : Value → Shared → Prop} {prog : Program} {args : List Value}
    {name qual : Str} {params : Arguments} {body : List Stmt} {scope : Scope} {dV kV doc pm cdv ct oc : Value} {an od : Option Addr} {osl : Array (Option Value)} {f : Addr} (l : List (Str × Value))
    (X₀ : K.In hb) (T : Top p loose mean mg mb hb) (hs : hb.StaysIn s.heap)
    (ho : K.lookup f = some ⟨oc, od, .func (fnOf name qual params body scope dV kV doc pm an cdv ct), osl⟩) (hcd : codeIn K cdv qual = true) (hroom : A.depth < recursionLimit)
    (hbind : BindsTo s (fnOf name qual params body scope dV kV doc pm an cdv ct) ⟨args, []⟩ l.reverse) (hloc : ∀ y ∈ l.reverse, scope.names.lookup y.1 = some .local)
    (h : ∀ L' h₁ tk, Fr s.heap L' h₁ (mapL l) → News s.heap L' h₁ [] → K.In s.heap → Top p loose mean mg mb s.heap →
      wpAny (model prog w) (A.deeper (envOf qual scope L' f cdv)) (execs body (envOf qual scope L' f cdv)) (fun fl s' => Q (retOf fl) s') (fun _ _ => False) { s with heap := h₁, toks := tk })
    (hco : scope.isCoroutine = false) (hgen : scope.isGenerator = false) (hk : scope.kind = .function)
    (hcell : ∀ x ∈ scope.names, x.2 ≠ .cell) : wpAny (model prog w) A (call (.ref f) args) Q E s :=
  enter [] X₀ T hs (fun q hq => nomatch hq) ho hcd hroom hbind hloc (fun g L' h₁ tk E' hg F N X T' _ => by
    subst hg
    have e : (fun y => List.lookup y l.reverse.reverse) = mapL l := by rw [List.reverse_reverse]; rfl
    exact wpAny_mono (h L' h₁ tk (e ▸ F) N X T') (fun _ _ x => x) fun _ _ x => x.elim) hco hgen hk hcell
end
def cls (g : Int) : Int := if 4 ≤ g ∧ g ≤ 6 then 3 else if 0 ≤ g ∧ g ≤ 3 then 1 else 0
def ClsKvs (kvs : List (Int × Value)) : Prop := ∀ g t0, 0 ≤ g → g ≤ 7 → ∃ t, (valueAt kvs g).getD (.int 0 t0) = .int (cls g) t
inductive GdefAt (w : World) (h : Heap) (x : Addr) : Prop where
  | mk (cd d : Addr) (kvs : List (Int × Value)) (a b c e : Value) (e0 : Has h x 762 [(Str.ofString "classes", .ref cd), (Str.ofString "attach", a), (Str.ofString "sets", b), (Str.ofString "points", c), (Str.ofString "carets", e)]) (e1 : Has h cd 714 [(Str.ofString "classes", .ref d)]) (e2 : DictI w h d kvs) (e3 : ClsKvs kvs) : GdefAt w h x
theorem GdefAt.keep {w : World} {h h' : Heap} {x : Addr} (D : GdefAt w h x) (k : h.StaysIn h') : GdefAt w h' x :=
  let ⟨cd, d, kvs, a, b, c, e, p, q, r, z⟩ := D; ⟨cd, d, kvs, a, b, c, e, p.keep k, q.keep k, r.keep k, z⟩
structure Rec where
  glyph : Int
  cluster : Int
  mask : Int
  uns : Bool
  lig_id : Int
  lig_part : Int
  xa : Int
  xo : Int
  yo : Int
  parent : Int
  bond : Str
def infoF (r : Rec) (t : Nat → Tok) : List (Str × Value) := [(Str.ofString "code", .int 65 (t 0)), (Str.ofString "glyph", .int r.glyph (t 1)), (Str.ofString "cluster", .int r.cluster (t 2)), (Str.ofString "mask", .int r.mask (t 3)), (Str.ofString "is_unsafe", .bool r.uns),
  (Str.ofString "lig_id", .int r.lig_id (t 5)), (Str.ofString "lig_part", .int r.lig_part (t 6)), (Str.ofString "lig_count", .int 0 (t 7)), (Str.ofString "split_id", .int 0 (t 8)), (Str.ofString "kind", .str (Str.ofString "") (t 9)),
  (Str.ofString "x_advance", .int r.xa (t 10)), (Str.ofString "y_advance", .int 0 (t 11)), (Str.ofString "x_offset", .int r.xo (t 12)), (Str.ofString "y_offset", .int r.yo (t 13)), (Str.ofString "parent", .int r.parent (t 14)), (Str.ofString "bond", .str r.bond (t 15))]
def InfoAt (h : Heap) (x dx : Addr) (r : Rec) : Prop := ∃ t, HasD h x dx 135 (infoF r t)
theorem InfoAt.keep {h h' : Heap} {x dx : Addr} {r : Rec} (I : InfoAt h x dx r) (k : h.StaysIn h') : InfoAt h' x dx r := let ⟨t, H⟩ := I; ⟨t, H.keep k⟩
theorem HasD.has {h : Heap} {x dx C : Addr} {fs : List (Str × Value)} (H : HasD h x dx C fs) : Has h x C fs := ⟨dx, H⟩
inductive LookAt (h : Heap) (x : Addr) (flag : Int) : Prop where
  | mk (a : Str × Tok) (b : Int × Tok) (c : Value) (t : Tok) (e0 : Has h x 43 [(Str.ofString "kind", .str a.1 a.2), (Str.ofString "flag", .int flag t), (Str.ofString "mark_set", .int b.1 b.2), (Str.ofString "tables", c)]) : LookAt h x flag
theorem LookAt.keep {h h' : Heap} {x : Addr} {f : Int} (D : LookAt h x f) (k : h.StaysIn h') : LookAt h' x f := let ⟨a, b, c, t, H⟩ := D; ⟨a, b, c, t, H.keep k⟩
structure RowAt (h : Heap) (row : Addr) (xs : List (Addr × Addr)) (rs : List Rec) : Prop where
  lst : IsL h row (xs.map fun x => .ref x.1)
  len : xs.length = rs.length
  few : xs.length ≤ 6
  at_ : ∀ (i : Nat) (x : Addr × Addr) (r : Rec), xs[i]? = some x → rs[i]? = some r → InfoAt h x.1 x.2 r
theorem RowAt.keep {h h' : Heap} {row : Addr} {xs : List (Addr × Addr)} {rs : List Rec} (R : RowAt h row xs rs) (k : h.StaysIn h') : RowAt h' row xs rs := ⟨R.lst.keep k, R.len, R.few, fun i x r a b => (R.at_ i x r a b).keep k⟩
inductive SceneAt (w : World) (h : Heap) (sc gd buf row lk : Addr) (flag : Int) : Prop where
  | mk (v1 : Addr) (v2 v3 : Int × Tok) (v4 v5 v6 v7 : Value) (e0 : Has h sc 65 [(Str.ofString "buffer", .ref buf), (Str.ofString "gdef", .ref gd), (Str.ofString "lookups", .ref v1), (Str.ofString "lookup", .ref lk), (Str.ofString "mask", .int v2.1 v2.2), (Str.ofString "depth", .int v3.1 v3.2), (Str.ofString "steps", v4)]) (e1 : Has h buf 188 [(Str.ofString "row", .ref row), (Str.ofString "is_backward", v5), (Str.ofString "last_lig", v6), (Str.ofString "last_split", v7)]) (e2 : GdefAt w h gd) (e3 : LookAt h lk flag) : SceneAt w h sc gd buf row lk flag
theorem SceneAt.keep {w : World} {h h' : Heap} {sc gd buf row lk : Addr} {f : Int} (D : SceneAt w h sc gd buf row lk f) (k : h.StaysIn h') : SceneAt w h' sc gd buf row lk f :=
  let ⟨a, b, c, d, e, f, g, p, q, r, z⟩ := D; ⟨a, b, c, d, e, f, g, p.keep k, q.keep k, r.keep k, z.keep k⟩

theorem enterNew {w : World} {A : Around} {s : Shared} {K : Frag} {hb : Heap} {p : Program} {loose : List Str} {mean : ExcName → Option Value} {mg mb : Str → Option Value} {Q E : Value → Shared → Prop} {prog : Program} {args : List Value}
    {name qual : Str} {params : Arguments} {body : List Stmt} {scope : Scope} {dV kV doc pm cdv ct oc : Value} {an od : Option Addr} {osl : Array (Option Value)} {C fI : Addr} (l : Addr → List (Str × Value))
    (X₀ : K.In hb) (T : Top p loose mean mg mb hb) (hs : hb.StaysIn s.heap) (hm : makesIn K C = true) (hi : findIn K (.ref C) "__init__" = some (some (.ref fI))) (hf : typeIn K (.ref fI) = some (.type "function"))
    (ho : K.lookup fI = some ⟨oc, od, .func (fnOf name qual params body scope dV kV doc pm an cdv ct), osl⟩) (hcd : codeIn K cdv qual = true) (hroom : A.depth + 1 < recursionLimit)
    (hbind : ∀ x s', (K.In s'.heap) → BindsTo s' (fnOf name qual params body scope dV kV doc pm an cdv ct) ⟨.ref x :: args, []⟩ (l x).reverse) (hloc : ∀ x, ∀ y ∈ (l x).reverse, scope.names.lookup y.1 = some .local)
    (h : ∀ x dx L' h₁ tk, s.heap.get? x = none → s.heap.get? dx = none → @LT.lt Nat _ dx x → Fr s.heap L' h₁ (mapL (l x)) → News s.heap L' h₁ [(x, instObj C dx), (dx, dictOf [] 0)] → K.In s.heap → Top p loose mean mg mb s.heap →
      wpAny (model prog w) ((A.under (.builtin "type.__call__" ⟨.ref C :: args, []⟩)).deeper (envOf qual scope L' fI cdv)) (execs body (envOf qual scope L' fI cdv)) (fun fl s' => retOf fl = .none ∧ Q (.ref x) s') (fun _ _ => False) { s with heap := h₁, toks := tk })
    (hco : scope.isCoroutine = false) (hgen : scope.isGenerator = false) (hk : scope.kind = .function)
    (hcell : ∀ x ∈ scope.names, x.2 ≠ .cell) : wpAny (model prog w) A (call (.ref C) args) Q E s := by
  obtain ⟨hh, gs, d, t, os⟩ := s
  have X : K.In hh := X₀.keeps hs
  have T1 := T.keeps hs
  have k2 : hh.StaysIn ((hh.push emptyDict).push (instObj C hh.objs.size)) := fun b o e => Heap.get?_push_of_some _ (Heap.get?_push_of_some _ e)
  refine wpAny_call (make_core (makes_of X hm) (looks_findIn X hi) (fun self => bind_fn X self hf) (.inl rfl) ?_)
  refine codeAny_call_def (fd := fnOf name qual params body scope dV kV doc pm an cdv ct) (body := body) (binds := (l (hh.objs.size + 1)).reverse) (by rw [depth_under_make]; exact hroom) ((X.keeps k2) _ _ ho) rfl (T1.nolimit.keeps k2) (codeRec_of (X.keeps k2) hcd) rfl
    (hbind _ _ (X.keeps k2)) hcell (hloc _) (fun h₁ hns hk₁ => ?_) hco hgen hk
  have e : (fun y => List.lookup y (l (hh.objs.size + 1)).reverse.reverse) = mapL (l (hh.objs.size + 1)) := by rw [List.reverse_reverse]; rfl
  have none_at : ∀ a, hh.objs.size ≤ a → hh.get? a = none := fun a ha => by
    cases q : hh.get? a with
    | none => rfl
    | some o => exact absurd (Heap.lt_size q) (Nat.not_lt.mpr ha)
  have gd : ((hh.push emptyDict).push (instObj C hh.objs.size)).get? hh.objs.size = some emptyDict := Heap.get?_push_of_some _ (Heap.get?_push_size _ rfl)
  have gx : ((hh.push emptyDict).push (instObj C hh.objs.size)).get? (hh.objs.size + 1) = some (instObj C hh.objs.size) := by
    have := Heap.get?_push_size (hh.push emptyDict) (o := instObj C hh.objs.size) rfl
    rwa [Heap.size_push] at this
  have sz : ((hh.push emptyDict).push (instObj C hh.objs.size)).objs.size = hh.objs.size + 2 := by rw [Heap.size_push, Heap.size_push]
  refine wpAny_mono (h (hh.objs.size + 1) hh.objs.size ((hh.push emptyDict).push (instObj C hh.objs.size)).objs.size h₁ _ (none_at _ (Nat.le_succ _)) (none_at _ (Nat.le_refl _)) (Nat.lt_succ_self _) ⟨by rw [← e]; exact hns, fun b o q => hk₁ b o (k2 b o q), by rw [sz]; exact Nat.le_add_right _ _⟩ (fun q hq => ?_) X T1) (fun fl s' hl => ?_) fun _ _ x => x.elim
  · rcases List.mem_cons.mp hq with rfl | hq
    · exact ⟨hk₁ _ _ gx, by rw [sz]; exact Nat.ne_of_lt (Nat.lt_succ_self _), none_at _ (Nat.le_succ _)⟩
    · rcases List.mem_cons.mp hq with rfl | hq
      · exact ⟨hk₁ _ _ gd, by rw [sz]; exact Nat.ne_of_lt (Nat.lt_succ_of_lt (Nat.lt_succ_self _)), none_at _ (Nat.le_refl _)⟩
      · nomatch hq
  · obtain ⟨e2, e3⟩ := hl
    cases fl with
    | ret v =>
      have e4 : v = .none := e2
      subst e4
      exact ⟨rfl, e3⟩
    | _ => exact ⟨rfl, e3⟩
theorem use1 {h₀ : Heap} {L : Addr} {m : Str → Option Value} {s : Shared} {w : World} {news : Led} {f : Addr} {hb : Heap} {args : List Value} {dd : Nat} {pre : Heap → Prop} {post : Heap → Value → Heap → Prop} (C : Does w hb f args dd [] pre post) {dp un : Nat} {fr : Option (List Env)} {gd : Option (List Code)} {Q E : Value → Shared → Prop}
    (F : Fr h₀ L s.heap m) (N : News h₀ L s.heap news) (hs : hb.StaysIn h₀) (hd : dp + dd < 900) (hu : un + 8 * dd < 9000) (hp : pre s.heap)
    (k : ∀ r h' tk', Fr h₀ L h' m → News h₀ L h' news → s.heap.StaysIn h' → Dom s.heap h' → post s.heap r h' → Q r { s with heap := h', toks := tk' }) :
    wpAny (model PRG w) { handled := none, depth := dp, frames := fr, guards := gd, units := un } (call (.ref f) args) Q E s :=
  use0 C F hs hd hu hp fun r h' tk' F' st dm q => k r h' tk' F' (fun p hp => ⟨st _ _ (N p hp).1, (N p hp).2⟩) st dm q
def Born (h h' : Heap) (P : Heap → Prop) : Prop := ∃ led : Led, (∀ p ∈ led, h.get? p.1 = none ∧ h'.get? p.1 = some p.2) ∧ ∀ h2, (∀ p ∈ led, h2.get? p.1 = some p.2) → P h2
theorem grow {g h h' : Heap} {L : Addr} {m : Str → Option Value} {news led : Led} (F : Fr g L h m) (N : News g L h' news) (B : ∀ p ∈ led, h.get? p.1 = none ∧ h'.get? p.1 = some p.2) : News g L h' (led ++ news) := fun p hp => by
  rcases List.mem_append.mp hp with q | q
  · obtain ⟨a, b⟩ := B p q
    refine ⟨b, fun e => ?_, ?_⟩
    · obtain ⟨o, es, ep, hL, r⟩ := F.ns
      rw [e, hL] at a; cases a
    · cases q2 : g.get? p.1 with
      | none => rfl
      | some o => rw [F.keep _ _ q2] at a; cases a
  · exact N p q
theorem led_in {g h : Heap} {L : Addr} {news led : Led} (N : News g L h (led ++ news)) : ∀ p ∈ led, h.get? p.1 = some p.2 := fun p hp => (N p (List.mem_append.mpr (.inl hp))).1
theorem scene_led {w : World} {g h : Heap} {L : Addr} {m : Str → Option Value} {news led : Led} {sc gd buf row lk sc2 lk2 : Addr} {f f2 : Int} (F : Fr g L h m) (N : News g L h (led ++ news))
    (hk : ∀ h2, (∀ p ∈ led, h2.get? p.1 = some p.2) → SceneAt w h2 sc gd buf row lk f → SceneAt w h2 sc2 gd buf row lk2 f2) (hs : SceneAt w g sc gd buf row lk f) : SceneAt w h sc2 gd buf row lk2 f2 := hk _ (led_in N) (hs.keep F.keep)

-- Comp
theorem comp_fr {h₂ h₃ : Heap} {C I : Addr} {m₃ : Str → Option Value} (hC : h₂.objs.size ≤ C) (hn : h₃.Ns C m₃) (hk : ∀ b o, b ∉ [I] → h₂.get? b = some o → h₃.get? b = some o) : Fr (hideAll h₂ [I]) C h₃ m₃ :=
  ⟨hn, fun b o e => hk b o (fun h => by rw [hideAll_none _ h] at e; cases e) (of_hideAll _ e), by rw [hideAll_size]; exact hC⟩
theorem get_raw {prog : Program} {w : World} {A : Around} {E : Value → Shared → Prop} {s : Shared} {K : Frag} {x C : Addr} {name : Str} {v : Value} {fs : List (Str × Value)} {expr : Bool} {Q : Value → Shared → Prop} {attr : Option Value} (X : K.In s.heap) (H : Has s.heap x C fs) (hg : plainGet K C name = true) (hh : hasDictIn K C = true)
    (ha : findIn K (.ref C) name = some attr) (hn : noGet K attr = true) (hl : fs.lookup name = some v) (hv : handedIn v = true) (h : Q v { s with toks := s.toks + 1 }) :
    wpAny (model prog w) A (getAttr (.ref x) name expr) Q E s := by
  obtain ⟨dx, hx, es, n, hd, N⟩ := H
  exact get_value (ox := instObj C dx) X ⟨hx, rfl, rfl, hd⟩ (plainGet_of hg).1 (findObj_own (od := dictOf es n) hh ha hn (show getL name es = some (some v) from (named_get N name).trans (by rw [hl]))) hv h

-- Turns
def trunc (C : Addr) (h : Heap) : Heap := ⟨h.objs.extract 0 C, h.life⟩
theorem trunc_get {C : Nat} {h : Heap} {b : Nat} (hb : b < C) : (trunc C h).get? b = h.get? b := by
  unfold trunc Heap.get?
  have e : (h.objs.extract 0 C)[b]? = h.objs[b]? := by
    rw [Array.getElem?_extract]
    by_cases q : b < h.objs.size
    · rw [if_pos (by omega)]; simp
    · rw [if_neg (by omega), Array.getElem?_eq_none (by omega)]
  simp only [e]
theorem trunc_lt {C : Addr} {h : Heap} {b : Addr} {o : Obj} (e : (trunc C h).get? b = some o) : @LT.lt Nat _ b C := by
  have : @LT.lt Nat _ b (trunc C h).objs.size := Heap.lt_size e
  unfold trunc at this
  simp only [Array.size_extract] at this
  omega
theorem trunc_of {C : Addr} {h : Heap} {b : Addr} {o : Obj} (e : (trunc C h).get? b = some o) : h.get? b = some o := (trunc_get (trunc_lt e)).symm.trans e
theorem trunc_size (C : Nat) (h : Heap) : (trunc C h).objs.size ≤ C := by
  unfold trunc
  simp only [Array.size_extract]
  omega

inductive Turned (g : Heap) (C : Addr) (s : Shared) (led : Led) (P : Led → Prop) (s' : Shared) : Prop where
  | mk (h : Heap) (tk : Nat) (m : Str → Option Value) (led2 : Led) (e0 : s' = { s with heap := h, toks := tk }) (e1 : Fr g C h m) (e2 : News g C h led2) (e3 : (∀ q ∈ led, q.1 ∈ led2.map (·.1))) (e4 : P led2) : Turned g C s led P s'

section
variable {prog : Program} {w : World} {A : Around} {E : Value → Shared → Prop} {env : Env}

theorem comp_block_led {elt iter : Expr} {x : Str} {px : Pos} {ifs : List Expr} {scope : Scope} {cl : List (Str × Addr)} {pos : Pos} {s₂ : Shared} {I : Addr} {fp wr : List Addr} {n : Nat} {P : Nat → Value → Prop}
    {St : Nat → Heap → Prop} (W : Walks prog w A I fp wr n P St) (hsz : n ≤ sizeLine) {g0 : Heap} {L : Addr} {m : Str → Option Value} {led rest : Led} (K : Nat → List Value → Led → Prop) {RR : Value → Addr → Result → Shared → Prop}
    (hcell : ∀ y ∈ scope.names, y.2 ≠ .cell) (hkind : scope.kind = .function) (hx : scope.names.lookup x = some .local) (hst : St 0 s₂.heap) (hfp : ∀ b ∈ fp, b < s₂.heap.objs.size)
    (hwx : ∀ i h, St i h → ∀ b ∈ fp, h.get? b ≠ none)
    (F : Fr g0 L s₂.heap m) (N : News g0 L s₂.heap (led ++ rest)) (hwr : ∀ b ∈ wr, g0.get? b = none ∧ b ≠ L ∧ b ∉ rest.map (·.1)) (hfl : ∀ b ∈ fp, b ∉ led.map (·.1)) (hrl : ∀ q ∈ rest, q.1 ∉ led.map (·.1)) (h0 : K 0 [] led)
    (hlen : ∀ i ys l, K i ys l → ys.length ≤ i)
    (turn : ∀ C i v s₃ m₃ ys led' g E', Fr g C s₃.heap m₃ → News g C s₃.heap led' → g0.StaysIn g → (∀ q ∈ rest, g.get? q.1 = some q.2) → (g.Ns L m) → K i ys led' → i < n → P i v → m₃ x = some v → (s₃.gens = s₂.gens ∧ s₃.drawn = s₂.drawn ∧ s₃.os = s₂.os) →
      wpAny (model prog w) A (forIn ifs true fun c r => if r = true then do let ok ← isTrue c (compEnvC scope cl C env) (eval c (compEnvC scope cl C env)); pure (ForInStep.yield ok) else pure (ForInStep.yield r))
        (fun ok s₄ => if ok = true then wpAny (model prog w) A (eval elt (compEnvC scope cl C env)) (fun y s₅ => Turned g C s₃ led' (K (i + 1) (ys ++ [y])) s₅) E' s₄ else Turned g C s₃ led' (K (i + 1) ys) s₄) E' s₃)
    (hRR : ∀ D C h' tk m' ys ledN, s₂.heap.get? C = none → D ≠ C → h'.Ns C m' → (∀ h'', Heap.SameBut C h' h'' → Fr g0 L h'' m ∧ ∃ nn, News g0 L h'' ((D, listOf ys.toArray nn) :: (ledN ++ rest))) → (∀ q ∈ ledN ++ rest, q.1 ≠ C ∧ q.1 ≠ D) → (∀ q ∈ ledN, ∀ r ∈ rest, q.1 ≠ r.1) → K n ys ledN → RR (.ref D) C (.ok .next) { s₂ with heap := h', toks := tk }) :
    wpAny (model prog w) A (newList []) (fun acc s₃ => wpAny (model prog w) A (newFunctionEnv scope env.globals cl [] env.qual none .none (some env)) (fun cenv s₄ =>
      codeAny (model prog w) A (.compStart (.ListComp elt [⟨.Name x px, iter, ifs, 0⟩] scope pos) 0 (.ref I) acc { cenv with scope := relabel scope env }) (RR acc cenv.locals) s₄) E s₃) E s₂ := by
  refine wpAny_newObj_type (wpAny_newFunctionEnv hcell (by intro y hy; simp at hy) (fun h₁ hns₁ hsb₁ => ?_) hkind)
  dsimp only at hns₁ hsb₁ ⊢
  generalize hH2 : s₂.heap.push { cls := .type "list", dict := none, data := .seq ([] : List Value).toArray } = H2 at hns₁ hsb₁ ⊢
  have hC : H2.objs.size = s₂.heap.objs.size + 1 := by rw [← hH2, Heap.size_push]
  have hDC : s₂.heap.objs.size ≠ H2.objs.size := by rw [hC]; exact Nat.ne_of_lt (Nat.lt_succ_self _)
  have below : ∀ b, b < s₂.heap.objs.size → b ≠ H2.objs.size ∧ b ≠ s₂.heap.objs.size := fun b hb => ⟨by rw [hC]; exact Nat.ne_of_lt (Nat.lt_succ_of_lt hb), Nat.ne_of_lt hb⟩
  have old : ∀ b o, s₂.heap.get? b = some o → h₁.get? b = some o := fun b o e => hsb₁.extBut b o (below b (Heap.lt_size e)).1 (Heap.get?_push_of_some _ (hH2 ▸ Heap.get?_push_of_some _ e))
  have hacc : h₁.PlainList s₂.heap.objs.size #[] := ⟨_, hsb₁.extBut _ _ hDC (Heap.get?_push_of_some _ (hH2 ▸ Heap.get?_push_size _ rfl))⟩
  have hst₁ : St 0 h₁ := W.frame _ _ _ hst fun b _ o e => old b o e
  have fresh : ∀ a, s₂.heap.objs.size ≤ a → s₂.heap.get? a = none := fun a ha => by
    cases e : s₂.heap.get? a with
    | none => rfl
    | some o' => exact absurd (Heap.lt_size e) (Nat.not_lt.mpr ha)
  have hCD : H2.objs.size = s₂.heap.objs.size + 1 := hC
  generalize hCe : H2.objs.size = C at *
  generalize hDe : s₂.heap.objs.size = D at *
  have hns_some : ∀ {h : Heap} {m}, h.Ns C m → h.get? C ≠ none := fun hn q => by obtain ⟨o, _, _, ho, _⟩ := hn; rw [ho] at q; cases q
  have loop : ∀ s₃ : Shared, s₃ = { s₂ with heap := h₁, toks := s₂.toks + ([] : List (Str × Value)).length } →
      codeAny (model prog w) A (.compLoop (.ListComp elt [⟨.Name x px, iter, ifs, 0⟩] scope pos) 0 (.ref I) (.ref D) (compEnvC scope cl C env)) (RR (.ref D) C) s₃ := by
    rintro s₃ rfl
    refine codeAny_compLoop_tests
      (fun k s' => Ex6 fun h' tk m' ys led' i => An10 (s' = { s₂ with heap := h', toks := tk }) (St i h') (h'.PlainList D ys) (h'.Ns C m') (K i ys.toList led') (i ≤ n) (k = n + 1 - i)
        (∀ q ∈ led', h'.get? q.1 = some q.2 ∧ q.1 ≠ C ∧ q.1 ≠ D ∧ q.1 ∉ fp ∧ (q.1 ∈ led.map (·.1) ∨ s₂.heap.get? q.1 = none)) (∀ q ∈ led, q.1 ∈ led'.map (·.1))
        (∀ b o, b ∉ wr → b ∉ led.map (·.1) → s₂.heap.get? b = some o → h'.get? b = some o)) ?_ (n + 1)
      ⟨h₁, _, _, #[], led, 0, rfl, hst₁, hacc, hns₁, h0, Nat.zero_le _, rfl, fun q hq => ⟨old _ _ (N q (List.mem_append_left _ hq)).1, ?_⟩, fun q hq => List.mem_map_of_mem hq, fun b o _ _ e => old b o e⟩
    case refine_2 =>
      have z := below _ (hDe ▸ Heap.lt_size (N q (List.mem_append_left _ hq)).1)
      exact ⟨z.1, z.2, fun hm => hfl _ hm (List.mem_map_of_mem hq), .inl (List.mem_map_of_mem hq)⟩
    rintro k s' ⟨H, tk, m', ys, led', i, rfl, hst', hacc', hn', hK, hi, rfl, hled', hsub, hk⟩
    have hfp : ∀ b ∈ fp, @LT.lt Nat _ b D := hfp
    have hwlt : ∀ b ∈ wr, @LT.lt Nat _ b D := fun b hb => hfp _ (W.sub _ hb)
    have hDC9 : @LT.lt Nat _ D C := by rw [hCD]; exact Nat.lt_succ_self _
    have hCw : C ∉ wr := fun h => absurd (hwlt _ h) (Nat.not_lt.mpr (Nat.le_of_lt hDC9))
    have hDw : D ∉ wr := fun h => absurd (hwlt _ h) (Nat.lt_irrefl _)
    by_cases hlt : i < n
    · refine W.item i _ _ _ hlt hst' fun v h₁ tk₁ hPv hst₁ hk₁ => ?_
      refine wpAny_assign_Name (wpAny_storeName_local (lookup_relabel_local hx) (hn'.at' fun o e => hk₁ _ o hCw e) (fun h₂ hn₂ hs₂ => ?_) (by simp [compEnvC, relabel, hkind]))
      have up₂ : ∀ b o, b ≠ C → b ∉ wr → H.get? b = some o → h₂.get? b = some o := fun b o hbC hbf e => hs₂.extBut b o hbC (hk₁ b o hbf e)
      have hst₂ : St (i + 1) h₂ := W.frame _ _ _ hst₁ fun b hb o e => hs₂.extBut b o (fun h => absurd (show @LT.lt Nat _ C D from (show b = C from h) ▸ hfp _ hb) (Nat.not_lt.mpr (Nat.le_of_lt hDC9))) e
      have hacc₂ : h₂.PlainList D ys := hacc'.at fun o e => up₂ _ _ hDC hDw e
      have hk₂ : ∀ b o, b ∉ wr → b ∉ led.map (·.1) → s₂.heap.get? b = some o → h₂.get? b = some o := fun b o hb hl e => up₂ b o (below b (hDe ▸ Heap.lt_size e)).1 hb (hk b o hb hl e)
      have hwl : ∀ b ∈ wr, b ∈ fp := fun b hb => W.sub _ hb
      have hled₂ : ∀ q ∈ led', h₂.get? q.1 = some q.2 := fun q hq => up₂ _ _ (hled' q hq).2.1 (fun hw => (hled' q hq).2.2.2.1 (hwl _ hw)) (hled' q hq).1
      -- what stood, stands or is in the ledger, or is the iterator's
      have dom₂ : ∀ b, h₂.get? b = none → s₂.heap.get? b = none := fun b e => by
        cases q : s₂.heap.get? b with
        | none => rfl
        | some o =>
          by_cases hb : b ∈ fp
          · exact absurd e (hwx _ _ hst₂ _ hb)
          · by_cases hl : b ∈ led.map (·.1)
            · obtain ⟨p, hp, rfl⟩ := List.mem_map.mp hl
              obtain ⟨p2, hp2, e2⟩ := List.mem_map.mp (hsub p hp)
              have := hled₂ p2 hp2
              rw [e2, e] at this; cases this
            · rw [hk₂ b o (fun hw => hb (hwl _ hw)) hl q] at e; cases e
      let g := hideAll (trunc C h₂) (led'.map (·.1))
      have g_of : ∀ {b o}, g.get? b = some o → h₂.get? b = some o := fun e => trunc_of (of_hideAll _ e)
      have g_get : ∀ {b o}, h₂.get? b = some o → @LT.lt Nat _ b C → b ∉ led'.map (·.1) → g.get? b = some o := fun e hb hl => hideAll_get _ ((trunc_get hb).trans e) hl
      have Fg : Fr g C h₂ _ := ⟨hn₂, fun b o e => g_of e, by show (hideAll _ _).objs.size ≤ C; rw [hideAll_size]; exact trunc_size _ _⟩
      have Ng : News g C h₂ led' := fun q hq => ⟨hled₂ q hq, (hled' q hq).2.1, hideAll_none _ (List.mem_map_of_mem hq)⟩
      have old_lt : ∀ {b o}, s₂.heap.get? b = some o → @LT.lt Nat _ b C := fun {b o} e => by have z : @LT.lt Nat _ b s₂.heap.objs.size := Heap.lt_size e; rw [hDe] at z; exact Nat.lt_trans z hDC9
      have out : ∀ {b o}, s₂.heap.get? b = some o → b ∉ led.map (·.1) → b ∉ led'.map (·.1) := fun {b o} e hl hm => by
        obtain ⟨p, hp, rfl⟩ := List.mem_map.mp hm
        rcases (hled' p hp).2.2.2.2 with z | z
        · exact hl z
        · rw [e] at z; cases z
      have ing : ∀ {b o}, s₂.heap.get? b = some o → b ∉ led.map (·.1) → b ∉ wr → g.get? b = some o := fun e hl hw => g_get (hk₂ _ _ hw hl e) (old_lt e) (out e hl)
      have g0g : g0.StaysIn g := fun b o e => ing (F.keep _ _ e) (fun hl => by obtain ⟨p, hp, rfl⟩ := List.mem_map.mp hl; rw [(N p (List.mem_append_left _ hp)).2.2] at e; cases e) (fun hw => by rw [(hwr _ hw).1] at e; cases e)
      have hLs : ∃ o, s₂.heap.get? L = some o := by obtain ⟨o, _, _, ho, _⟩ := F.ns; exact ⟨o, ho⟩
      have hLled : L ∉ led.map (·.1) := fun hl => by obtain ⟨p, hp, e⟩ := List.mem_map.mp hl; exact (N p (List.mem_append_left _ hp)).2.1 e
      have gL : g.Ns L m := F.ns.at' fun o e => ing e hLled (fun hw => (hwr _ hw).2.1 rfl)
      refine wpAny_mono (turn C i v { s₂ with heap := h₂, toks := tk₁ + 1 } _ ys.toList led' g _ Fg Ng g0g (fun q hq => ing (N q (List.mem_append_right _ hq)).1 (hrl q hq) (fun hw => (hwr _ hw).2.2 (List.mem_map_of_mem hq))) gL hK hlt hPv (by simp) ⟨rfl, rfl, rfl⟩) (fun ok s₄ h₄ => ?_) fun _ _ e => e
      -- a turn's end, made into the loop's
      have keep : ∀ (h₅ : Heap) (m₅ : Str → Option Value) (led2 : Led), Fr g C h₅ m₅ → News g C h₅ led2 → (∀ q ∈ led', q.1 ∈ led2.map (·.1)) →
          St (i + 1) h₅ ∧ h₅.PlainList D ys ∧ h₅.Ns C m₅ ∧ (∀ q ∈ led2, h₅.get? q.1 = some q.2 ∧ q.1 ≠ C ∧ q.1 ≠ D ∧ q.1 ∉ fp ∧ (q.1 ∈ led.map (·.1) ∨ s₂.heap.get? q.1 = none)) ∧ (∀ q ∈ led, q.1 ∈ led2.map (·.1)) ∧
          (∀ b o, b ∉ wr → b ∉ led.map (·.1) → s₂.heap.get? b = some o → h₅.get? b = some o) := by
        intro h₅ m₅ led2 F₅ N₅ hs₅
        have hDl : D ∉ led'.map (·.1) := fun hm => by obtain ⟨p, hp, e⟩ := List.mem_map.mp hm; exact (hled' p hp).2.2.1 e
        have hDg : ∀ o, h₂.get? D = some o → g.get? D = some o := fun o e => g_get e hDC9 hDl
        have fpl : ∀ b ∈ fp, b ∉ led'.map (·.1) := fun b hb hm => by obtain ⟨p, hp, rfl⟩ := List.mem_map.mp hm; exact (hled' p hp).2.2.2.1 hb
        have hfg : ∀ b ∈ fp, ∀ o, h₂.get? b = some o → g.get? b = some o := fun b hb o e => g_get e (Nat.lt_trans (hfp _ hb) hDC9) (fpl b hb)
        refine ⟨W.frame _ _ _ hst₂ fun b hb o e => F₅.keep _ _ (hfg b hb o e), hacc₂.at fun o e => F₅.keep _ _ (hDg o e), F₅.ns, fun q hq => ?_, fun q hq => ?_, fun b o hb hl e => F₅.keep _ _ (ing e hl hb)⟩
        · obtain ⟨a1, a2, a3⟩ := N₅ q hq
          refine ⟨a1, a2, fun e => ?_, fun hm => ?_, ?_⟩
          · obtain ⟨c, hc⟩ := hacc₂
            rw [e] at a3
            rw [hDg _ hc] at a3; cases a3
          · cases q2 : h₂.get? q.1 with
            | none => exact hwx _ _ hst₂ _ hm q2
            | some o => rw [hfg _ hm _ q2] at a3; cases a3
          · cases q2 : s₂.heap.get? q.1 with
            | none => exact .inr rfl
            | some o =>
              refine .inl (Classical.byContradiction fun hl => ?_)
              by_cases hw : q.1 ∈ wr
              · cases q3 : h₂.get? q.1 with
                | none => exact hwx _ _ hst₂ _ (hwl _ hw) q3
                | some o => rw [hfg _ (hwl _ hw) _ q3] at a3; cases a3
              · rw [ing q2 hl hw] at a3; cases a3
        · obtain ⟨p, hp, e⟩ := List.mem_map.mp (hsub q hq)
          rw [← e]; exact hs₅ p hp
      cases ok with
      | false =>
        simp only [Bool.false_eq_true, if_false] at h₄ ⊢
        obtain ⟨h₅, tk₅, m₅, led2, rfl, F₅, N₅, hs₅, hK₅⟩ := h₄
        obtain ⟨k1, k2, k3, k4, k5, k6⟩ := keep h₅ m₅ led2 F₅ N₅ hs₅
        exact ⟨n + 1 - (i + 1), by omega, h₅, tk₅, m₅, ys, led2, i + 1, rfl, k1, k2, k3, hK₅, hlt, rfl, k4, k5, k6⟩
      | true =>
        simp only [if_true] at h₄ ⊢
        refine wpAny_mono h₄ (fun y s₅ h₅' => ?_) fun _ _ e => e
        obtain ⟨h₅, tk₅, m₅, led2, rfl, F₅, N₅, hs₅, hK₅⟩ := h₅'
        obtain ⟨k1, k2, k3, k4, k5, k6⟩ := keep h₅ m₅ led2 F₅ N₅ hs₅
        have hys : ys.size ≤ sizeLine := by
          have := hlen _ _ _ hK
          simp at this
          omega
        refine wpAny_list_append_plain (hsz := hys) k2 fun h₆ hl₆ hs₆ => ?_
        refine ⟨n + 1 - (i + 1), by omega, h₆, tk₅, m₅, ys.push y, led2, i + 1, rfl, ?_, hl₆, k3.sameBut hs₆ (Ne.symm hDC), by simpa using hK₅, hlt, rfl, fun q hq => ⟨hs₆.extBut _ _ (k4 q hq).2.2.1 (k4 q hq).1, (k4 q hq).2⟩, k5, fun b o hb hl e => hs₆.extBut b o (below b (hDe ▸ Heap.lt_size e)).2 (k6 b o hb hl e)⟩
        exact W.frame _ _ _ k1 fun b hb o e => hs₆.extBut b o (fun h => absurd (show @LT.lt Nat _ D D from h ▸ hfp _ hb) (Nat.lt_irrefl _)) e
    · have hin : i = n := by omega
      refine W.done _ _ _ (hin ▸ hst') fun h₁ tk₁ hk₁ => ?_
      subst hin
      have hk₂ : ∀ b o, b ∉ wr → b ∉ led.map (·.1) → s₂.heap.get? b = some o → h₁.get? b = some o := fun b o hb hl e => hk₁ _ _ hb (hk b o hb hl e)
      have hLs : ∃ o, s₂.heap.get? L = some o := by obtain ⟨o, _, _, ho, _⟩ := F.ns; exact ⟨o, ho⟩
      have hLled : L ∉ led.map (·.1) := fun hl => by obtain ⟨p, hp, e⟩ := List.mem_map.mp hl; exact (N p (List.mem_append_left _ hp)).2.1 e
      obtain ⟨nn, hD1⟩ := hacc'.at fun o e => hk₁ _ o hDw e
      refine hRR D C h₁ tk₁ m' ys.toList led' (fresh _ (Nat.le_of_lt (by rw [hCD]; exact Nat.lt_succ_self _))) hDC (hn'.at' fun o e => hk₁ _ o hCw e) (fun h'' hs => ⟨⟨?_, ?_, F.above⟩, nn, ?_⟩) (fun q hq => (List.mem_append.mp hq).elim (fun hq => ⟨(hled' q hq).2.1, (hled' q hq).2.2.1⟩) fun hq => (below _ (hDe ▸ Heap.lt_size (N q (List.mem_append_right _ hq)).1))) (fun q hq r hr e => by
        rcases (hled' q hq).2.2.2.2 with z | z
        · rw [e] at z; exact hrl r hr z
        · rw [e, (N r (List.mem_append_right _ hr)).1] at z; cases z) hK
      · obtain ⟨oL, hoL⟩ := hLs
        exact F.ns.at' fun o e => hs.extBut _ _ (below _ (hDe ▸ Heap.lt_size e)).1 (hk₂ _ _ (fun hw => (hwr _ hw).2.1 rfl) hLled e)
      · intro b o e
        have e2 := F.keep _ _ e
        exact hs.extBut _ _ (below _ (hDe ▸ Heap.lt_size e2)).1 (hk₂ _ _ (fun hw => by rw [(hwr _ hw).1] at e; cases e) (fun hl => by obtain ⟨p, hp, rfl⟩ := List.mem_map.mp hl; rw [(N p (List.mem_append_left _ hp)).2.2] at e; cases e) e2)
      · have new_ok : ∀ a, s₂.heap.get? a = none → a ≠ L ∧ g0.get? a = none := fun a ha => by
          refine ⟨fun e => ?_, ?_⟩
          · obtain ⟨oL, hoL⟩ := hLs
            rw [e, hoL] at ha; cases ha
          · cases q : g0.get? a with
            | none => rfl
            | some o => rw [F.keep _ _ q] at ha; cases ha
        intro q hq
        rcases List.mem_cons.mp hq with rfl | hq
        · refine ⟨hs.extBut _ _ hDC (by simpa [PySem.W.listOf] using hD1), new_ok _ (fresh _ (Nat.le_refl _))⟩
        · rcases List.mem_append.mp hq with hq | hq
          · obtain ⟨b1, b2, b3, b4, b5⟩ := hled' q hq
            have wr1 : q.1 ∉ wr := fun h => b4 (W.sub _ h)
            refine ⟨hs.extBut _ _ b2 (hk₁ _ _ wr1 b1), ?_⟩
            rcases b5 with b5 | b5
            · obtain ⟨p, hp, e⟩ := List.mem_map.mp b5
              rw [← e]; exact (N p (List.mem_append_left _ hp)).2
            · exact new_ok _ b5
          · have e2 := (N q (List.mem_append_right _ hq)).1
            exact ⟨hs.extBut _ _ (below _ (hDe ▸ Heap.lt_size e2)).1 (hk₂ _ _ (fun hw => (hwr _ hw).2.2 (List.mem_map_of_mem hq)) (hrl q hq) e2), (N q (List.mem_append_right _ hq)).2⟩
  exact codeAny_compStart_list (loop _ rfl) (W.self 0 _ _ _ hst₁ (loop _ rfl))
end

-- Turns2
section
variable {prog : Program} {w : World} {A : Around} {E : Value → Shared → Prop} {env : Env} {s : Shared}
def SrcIs (prog : Program) (w : World) (A : Around) (s : Shared) (xv : Value) (own : List Addr) (n : Nat) (P : Nat → Value → Prop) : Prop := ∀ (Q E : Value → Shared → Prop),
  (∀ oI St, Walks prog w A s.heap.objs.size (s.heap.objs.size :: own) [s.heap.objs.size] n P St → St 0 (s.heap.push oI) → (∀ i h, St i h → ∀ b ∈ s.heap.objs.size :: own, h.get? b ≠ none) → (∀ b ∈ own, s.heap.get? b ≠ none) → Q (.ref s.heap.objs.size) { s with heap := s.heap.push oI }) →
  wpAny (model prog w) A (pyIter xv) Q E s
theorem src_list (hh : A.handled = none) {l : Addr} {items : Array Value} (hl : s.heap.IsList l items) : SrcIs prog w A s (.ref l) [l] items.size (fun i v => items[i]? = some v) := by
  intro Q E h
  have hlt : l < s.heap.objs.size := by obtain ⟨_, e, _⟩ := hl; exact Heap.lt_size e
  refine wpAny_pyIter_list hl (h _ _ (Walks.list hh _ l (Nat.ne_of_lt hlt) items) ⟨⟨_, Heap.get?_push_size _ rfl, rfl, rfl⟩, hl.at fun o e => Heap.get?_push_of_some _ e⟩ (fun i h st b hb q => ?_) (fun b hb q => ?_))
  · rcases List.mem_cons.mp hb with rfl | hb
    · obtain ⟨o, e, _⟩ := st.1; rw [e] at q; cases q
    · rw [List.mem_singleton.mp hb] at q; obtain ⟨o, e, _⟩ := st.2; rw [e] at q; cases q
  · rw [List.mem_singleton.mp hb] at q; obtain ⟨o, e, _⟩ := hl; rw [e] at q; cases q
theorem src_tuple (hh : A.handled = none) {l : Addr} {items : Array Value} (hl : s.heap.IsTuple l items) : SrcIs prog w A s (.ref l) [l] items.size (fun i v => items[i]? = some v) := by
  intro Q E h
  have hlt : l < s.heap.objs.size := by obtain ⟨_, e, _⟩ := hl; exact Heap.lt_size e
  refine wpAny_pyIter_tuple hl (h _ _ (Walks.tuple hh _ l (Nat.ne_of_lt hlt) items) ⟨⟨_, Heap.get?_push_size _ rfl, rfl, rfl⟩, hl.at fun o e => Heap.get?_push_of_some _ e⟩ (fun i h st b hb q => ?_) (fun b hb q => ?_))
  · rcases List.mem_cons.mp hb with rfl | hb
    · obtain ⟨o, e, _⟩ := st.1; rw [e] at q; cases q
    · rw [List.mem_singleton.mp hb] at q; obtain ⟨o, e, _⟩ := st.2; rw [e] at q; cases q
  · rw [List.mem_singleton.mp hb] at q; obtain ⟨o, e, _⟩ := hl; rw [e] at q; cases q
theorem src_dict (hh : A.handled = none) {d : Addr} {kvs : List (Int × Value)} (hs : (d == sysModules) = false) (hd : s.heap.DictOf (PySem.intKind prog w) d kvs) : SrcIs prog w A s (.ref d) [d] kvs.length (fun i v => ∃ k x t, kvs[i]? = some (k, x) ∧ v = .int k t) := by
  intro Q E h
  obtain ⟨o, es, ep, e1, e2⟩ := id hd
  have hlt : d < s.heap.objs.size := Heap.lt_size e1
  have hda : s.heap.DictAt (PySem.intKind prog w) d kvs ep := ⟨o, es, e1, e2⟩
  have W0 := Walks.dictKeys (prog := prog) (w := w) (A := A) (knd := PySem.intKind prog w) hh s.heap.objs.size d (Nat.ne_of_lt hlt) kvs ep
  have W : Walks prog w A s.heap.objs.size [s.heap.objs.size, d] [s.heap.objs.size] kvs.length (fun i v => ∃ k x t, kvs[i]? = some (k, x) ∧ v = .int k t) (fun i h => h.IsKeyIter s.heap.objs.size d i kvs.length ep ∧ h.DictAt (PySem.intKind prog w) d kvs ep) :=
    ⟨W0.sub, W0.frame, fun i s Q E hi st hQ => W0.item i s Q E hi st fun v h' tk hP st' hk => hQ v h' tk (by obtain ⟨k, x, a, b⟩ := hP; obtain ⟨t, rfl⟩ := Value.isInt_shape b; exact ⟨k, x, t, a, rfl⟩) st' hk, W0.done, W0.self⟩
  refine wpAny_pyIter_dict hs hda (h _ _ W ⟨⟨_, Heap.get?_push_size _ rfl, rfl, rfl⟩, hda.at fun o e => Heap.get?_push_of_some _ e⟩ (fun i h st b hb q => ?_) (fun b hb q => ?_))
  · rcases List.mem_cons.mp hb with rfl | hb
    · obtain ⟨o, e, _⟩ := st.1; rw [e] at q; cases q
    · rw [List.mem_singleton.mp hb] at q; obtain ⟨o, es, e, _⟩ := st.2; rw [e] at q; cases q
  · rw [List.mem_singleton.mp hb, e1] at q; cases q
theorem src_range (hh : A.handled = none) {r : Addr} {n : Nat} {t u v : Tok} (hr : IsRange s.heap r 0 n 1 t u v) (hn : n ≤ 1000) : SrcIs prog w A s (.ref r) [] n (fun i v => ∃ t, v = .int (i : Int) t) := by
  intro Q E h
  have fitL : ∀ (i : Int) (a : 0 ≤ i) (b : i ≤ 1000), Builtin.Range.rangeFitsLong i = true := fun i a b => by
    unfold Builtin.Range.rangeFitsLong
    rw [Bool.and_eq_true, decide_eq_true_eq, decide_eq_true_eq]
    constructor <;> omega
  have e1 : Builtin.Range.rangeSize 0 (n : Int) 1 = (n : Int) := by
    simp only [Builtin.Range.rangeSize]
    rw [if_pos (by decide)]
    split <;> omega
  have sm : Builtin.Range.small 0 n 1 = true := by
    simp only [Builtin.Range.small, e1]
    rw [fitL 0 (by decide) (by decide), fitL n (by omega) (by omega), fitL 1 (by decide) (by decide), if_pos (by decide), fitL ((n : Int) + (1 - 1)) (by omega) (by omega)]
    simp only [Bool.and_self, Bool.or_true]
  have W0 := LCg.range_walks (prog := prog) (w := w) (A := A) (I := s.heap.objs.size) hh 0 n
  have W : Walks prog w A s.heap.objs.size [s.heap.objs.size] [s.heap.objs.size] n (fun i v => ∃ t, v = .int (i : Int) t) _ :=
    ⟨W0.sub, W0.frame, fun i s Q E hi st hQ => W0.item i s Q E hi st fun v h' tk hP st' hk => hQ v h' tk (by obtain ⟨t, e⟩ := hP; exact ⟨t, by rw [e, Int.zero_add]⟩) st' hk, W0.done, W0.self⟩
  refine wpAny_pyIter_range hr sm (h _ _ W (by show IsRangeIter _ _ _ _ _; rw [e1]; simpa using Heap.get?_push_size _ rfl) (fun i h st b hb q => ?_) (fun b hb => nomatch hb))
  rw [List.mem_singleton.mp hb] at q
  have z : IsRangeIter h s.heap.objs.size _ _ _ := st
  unfold IsRangeIter at z
  rw [z] at q; cases q

inductive CompLed (prog : Program) (w : World) (A : Around) (env : Env) (g0 : Heap) (L : Addr) (m : Str → Option Value) (scope : Scope) (cl : List (Str × Addr)) (x : Str) (ifs : List Expr) (elt : Expr) (Fin : Addr → List Value → Led → Nat → Shared → Prop) (xv : Value) (s₁ : Shared) : Prop where
  | mk (own : List Addr) (n : Nat) (P : Nat → Value → Prop) (led rest : Led) (K : Nat → List Value → Led → Prop) (e0 : SrcIs prog w A s₁ xv own n P)
    (e1 : n ≤ sizeLine)
    (e2 : Fr g0 L s₁.heap m)
    (e3 : News g0 L s₁.heap (led ++ rest))
    (e4 : (∀ b ∈ own, b ∉ led.map (·.1)))
    (e5 : (∀ q ∈ rest, q.1 ∉ led.map (·.1)))
    (e6 : K 0 [] led)
    (e7 : (∀ i ys l, K i ys l → ys.length ≤ i))
    (e8 : (∀ C i v s₃ m₃ ys led' g E', Fr g C s₃.heap m₃ → News g C s₃.heap led' → g0.StaysIn g → (∀ q ∈ rest, g.get? q.1 = some q.2) → (g.Ns L m) → K i ys led' → i < n → P i v → m₃ x = some v → (s₃.gens = s₁.gens ∧ s₃.drawn = s₁.drawn ∧ s₃.os = s₁.os) →
      wpAny (model prog w) A (forIn ifs true fun c r => if r = true then do let ok ← isTrue c (compEnvC scope cl C env) (eval c (compEnvC scope cl C env)); pure (ForInStep.yield ok) else pure (ForInStep.yield r))
        (fun ok s₄ => if ok = true then wpAny (model prog w) A (eval elt (compEnvC scope cl C env)) (fun y s₅ => Turned g C s₃ led' (K (i + 1) (ys ++ [y])) s₅) E' s₄ else Turned g C s₃ led' (K (i + 1) ys) s₄) E' s₃))
    (e9 : ∀ D nn h' tk ys ledN, ((∀ q ∈ ledN ++ rest, q.1 ≠ D) ∧ ∀ q ∈ ledN, ∀ r ∈ rest, q.1 ≠ r.1) → K n ys ledN → Fin D ys (ledN ++ rest) nn { s₁ with heap := h', toks := tk }) : CompLed prog w A env g0 L m scope cl x ifs elt Fin xv s₁

theorem comp_any {elt iter : Expr} {x : Str} {px : Pos} {ifs : List Expr} {scope : Scope} {cl : List (Str × Addr)} {pos : Pos} {g0 : Heap} {L : Addr} {m : Str → Option Value} {Fin : Addr → List Value → Led → Nat → Shared → Prop} {xv : Value} {s₁ : Shared} {RR : Value → Addr → Result → Shared → Prop}
    (hcell : ∀ y ∈ scope.names, y.2 ≠ .cell) (hkind : scope.kind = .function) (hx : scope.names.lookup x = some .local)
    (h : CompLed prog w A env g0 L m scope cl x ifs elt Fin xv s₁)
    (hRR : ∀ D C h' tk m' ys nn led, g0.get? C = none → L ≠ C → h'.Ns C m' → Fr g0 L h' m → (∀ h'', Heap.SameBut C h' h'' → Fr g0 L h'' m ∧ News g0 L h'' ((D, listOf ys.toArray nn) :: led)) → (∀ h'' tk, Fin D ys led nn { s₁ with heap := h'', toks := tk }) → D ≠ C → (∀ q ∈ led, q.1 ≠ C) → RR (.ref D) C (.ok .next) { s₁ with heap := h', toks := tk }) :
    wpAny (model prog w) A (pyIter xv) (fun it s₂ => wpAny (model prog w) A (newList []) (fun acc s₃ => wpAny (model prog w) A (newFunctionEnv scope env.globals cl [] env.qual none .none (some env)) (fun cenv s₄ =>
      codeAny (model prog w) A (.compStart (.ListComp elt [⟨.Name x px, iter, ifs, 0⟩] scope pos) 0 it acc { cenv with scope := relabel scope env }) (RR acc cenv.locals) s₄) E s₃) E s₂) E s₁ := by
  obtain ⟨own, n, P, led, rest, K, hsrc, hsz, F, N, hol, hrl, h0, hlen, turn, fin⟩ := h
  refine hsrc _ _ fun oI St W st hwx hown => ?_
  have hlt : ∀ {b o}, s₁.heap.get? b = some o → @LT.lt Nat _ b s₁.heap.objs.size := fun e => Heap.lt_size e
  have F' := F.push oI
  have N' : News g0 L (s₁.heap.push oI) (led ++ rest) := fun q hq => ⟨Heap.get?_push_of_some _ (N q hq).1, (N q hq).2⟩
  have hI0 : g0.get? s₁.heap.objs.size = none := by
    cases q : g0.get? s₁.heap.objs.size with
    | none => rfl
    | some o => exact absurd (hlt (F.keep _ _ q)) (Nat.lt_irrefl _)
  have hLI : s₁.heap.objs.size ≠ L := fun e => by obtain ⟨o, _, _, ho, _⟩ := F.ns; exact absurd (hlt (e ▸ ho)) (Nat.lt_irrefl _)
  have nI : ∀ q ∈ led ++ rest, q.1 ≠ s₁.heap.objs.size := fun q hq e => absurd (hlt (e ▸ (N q hq).1)) (Nat.lt_irrefl _)
  refine comp_block_led W hsz (s₂ := { s₁ with heap := s₁.heap.push oI }) (g0 := g0) (L := L) (m := m) (led := led) (rest := rest) K (RR := RR) hcell hkind hx st ?_ hwx F' N' ?_ ?_ hrl h0 hlen turn ?_
  · intro b hb
    show b < (s₁.heap.push oI).objs.size
    rw [Heap.size_push]
    rcases List.mem_cons.mp hb with rfl | hb
    · exact Nat.lt_succ_self _
    · cases q : s₁.heap.get? b with
      | none => exact absurd q (hown b hb)
      | some o => exact Nat.lt_succ_of_lt (hlt q)
  · intro b hb
    rw [List.mem_singleton.mp hb]
    refine ⟨hI0, hLI, fun hm => ?_⟩
    obtain ⟨q, hq, e⟩ := List.mem_map.mp hm
    exact nI q (List.mem_append_right _ hq) e
  · intro b hb
    rcases List.mem_cons.mp hb with rfl | hb
    · intro hm
      obtain ⟨q, hq, e⟩ := List.mem_map.mp hm
      exact nI q (List.mem_append_left _ hq) e
    · exact hol b hb
  · intro D C h' tk m' ys ledN hC hDC hn hfr hqC hapart hK
    have hfr0 := hfr h' (Heap.SameBut.refl _ _)
    have hLC : L ≠ C := fun e => by obtain ⟨o, _, _, ho, _⟩ := F'.ns; rw [e, hC] at ho; cases ho
    have hC0 : g0.get? C = none := by
      cases q : g0.get? C with
      | none => rfl
      | some o => rw [F'.keep _ _ q] at hC; cases hC
    obtain ⟨nn, hN⟩ := hfr0.2
    refine hRR D C h' tk m' ys nn (ledN ++ rest) hC0 hLC hn hfr0.1 (fun h'' hs => ⟨(hfr h'' hs).1, ?_⟩) (fun h'' tk₂ => fin D nn h'' tk₂ ys ledN ⟨fun q hq => (hqC q hq).2, hapart⟩ hK) hDC (fun q hq => (hqC q hq).1)
    obtain ⟨nn2, hN2⟩ := (hfr h'' hs).2
    intro q hq
    rcases List.mem_cons.mp hq with rfl | hq
    · exact ⟨hs.extBut _ _ hDC (hN _ (.head _)).1, (hN _ (.head _)).2⟩
    · exact hN2 _ (.tail _ hq)

theorem ListComp_led {elt iter : Expr} {x : Str} {px : Pos} {ifs : List Expr} {scope : Scope} {cl : List (Str × Addr)} {pos : Pos} {Q : Value → Shared → Prop} {g0 : Heap} {L : Addr} {m : Str → Option Value} (_F : Fr g0 L s.heap m)
    (hclos : closureFor scope env = pure cl) (hcell : ∀ y ∈ scope.names, y.2 ≠ .cell) (hkind : scope.kind = .function)
    (hnames : ∀ y ∈ scope.names, y.2 = .local → scope.names.lookup y.1 = some .local) (hx : scope.names.lookup x = some .local)
    (h : wpAny (model prog w) A (eval iter env) (fun xv s₁ => CompLed prog w A env g0 L m scope cl x ifs elt (fun D ys led nn s' => Fr g0 L s'.heap m → News g0 L s'.heap ((D, listOf ys.toArray nn) :: led) → Q (.ref D) s') xv s₁) E s)
    (hs : ∀ x, foldedSetIterable iter env x = pure x := by intro _; rfl) :
    wpAny (model prog w) A (eval (.ListComp elt [⟨.Name x px, iter, ifs, 0⟩] scope pos) env) Q E s := by
  rw [eval_ListComp]
  refine wpAny_comprehension_free (use := none) rfl hs hclos hkind hnames (wpAny_mono h (fun xv s₁ h₁ => ?_) fun _ _ e => e)
  refine comp_any (RR := fun acc C => compPost (model prog w) A E none Q acc C) hcell hkind hx h₁ ?_
  intro D C h' tk m' ys nn led hC0 hLC hn F' hfr fin hDC hqC
  exact ⟨m', hn, fun h'' hs'' => fin h'' _ (hfr h'' hs'').1 (hfr h'' hs'').2⟩

theorem Assign_ListComp_led {elt iter : Expr} {x y : Str} {px py : Pos} {ifs : List Expr} {scope : Scope} {cl : List (Str × Addr)} {pos spos : Pos} {Q : Flow → Shared → Prop} {g0 : Heap} {m : Str → Option Value} (_F : Fr g0 env.locals s.heap m)
    (hsw : swapsWith (.ListComp elt [⟨.Name x px, iter, ifs, 0⟩] scope pos) (some (.Name y py)) spos.line env = pure true)
    (hclos : closureFor scope env = pure cl) (hcell : ∀ z ∈ scope.names, z.2 ≠ .cell) (hkind : scope.kind = .function)
    (hnames : ∀ z ∈ scope.names, z.2 = .local → scope.names.lookup z.1 = some .local) (hx : scope.names.lookup x = some .local)
    (hy : env.kindOf y = some .local) (hp : (env.scope.kind == .class || (env.scope.kind == .module && env.locals != env.globals)) = false)
    (h : wpAny (model prog w) A (eval iter env) (fun xv s₁ => CompLed prog w A env g0 env.locals m scope cl x ifs elt (fun D ys led nn s' => Fr g0 env.locals s'.heap (fun z => if z = y then some (.ref D) else m z) → News g0 env.locals s'.heap ((D, listOf ys.toArray nn) :: led) → Q .next s') xv s₁) E s)
    (hs : ∀ x, foldedSetIterable iter env x = pure x := by intro _; rfl) :
    wpAny (model prog w) A (exec (.Assign [.Name y py] (.ListComp elt [⟨.Name x px, iter, ifs, 0⟩] scope pos) spos) env) Q E s := by
  rw [exec_Assign_Name_used _ _ _ _ hsw]
  refine wpAny_bind (wpAny_standAt (wpAny_bind ?_))
  show wpAny _ A (do let _ ← comprehension (.ListComp elt [⟨.Name x px, iter, ifs, 0⟩] scope pos) scope env _ (newList []) false (eval iter env) (some (assign (.Name y py) env))) _ _ s
  refine wpAny_bind (wpAny_mono (wpAny_comprehension_free (use := some (assign (.Name y py) env)) (Q := fun _ s' => Q .next s') rfl hs hclos hkind hnames
    (wpAny_mono h (fun xv s₁ h₁ => ?_) fun _ _ e => e)) (fun _ s' hq => wpAny_pure (wpAny_pure hq)) fun _ _ e => e)
  refine comp_any (RR := fun acc C => compPost (model prog w) A E (some (assign (.Name y py) env)) (fun _ s' => Q .next s') acc C) hcell hkind hx h₁ ?_
  intro D C h' tk m' ys nn led hC0 hLC hn F' hfr fin hDC hqC
  have N' := (hfr h' (Heap.SameBut.refl _ _)).2
  show wpAny _ A (assign (.Name y py) env (.ref D)) _ _ _
  refine wpAny_assign_Name (wpAny_storeName_local hy F'.ns (fun h₂ hn₂ hs₂ => ?_) hp)
  refine ⟨m', hn.sameBut hs₂ (Ne.symm hLC), fun h₃ hs₃ => ?_⟩
  have F₂ : Fr g0 env.locals h₃ (fun z => if z = y then some (.ref D) else m z) := ⟨hn₂.sameBut hs₃ hLC, fun b o e => hs₃.extBut _ _ (fun q => by rw [q, hC0] at e; cases e) (hs₂.extBut _ _ (fun q => by rw [q] at e; exact absurd (Heap.lt_size e) (Nat.not_lt.mpr F'.above)) (F'.keep b o e)), F'.above⟩
  have N₂ : News g0 env.locals h₃ ((D, listOf ys.toArray nn) :: led) := fun q hq => by
    have qC : q.1 ≠ C := (List.mem_cons.mp hq).elim (fun e => e ▸ hDC) (hqC q)
    exact ⟨hs₃.extBut _ _ qC (hs₂.extBut _ _ (N' q hq).2.1 (N' q hq).1), (N' q hq).2⟩
  exact fin h₃ _ F₂ N₂
end
section
variable {M : Model} {A : Around} {E : Value → Shared → Prop} {s : Shared} {g : Heap} {C c : Addr} {m : Str → Option Value} {scope : Scope} {cl : List (Str × Addr)} {env : Env} {x : Str} {pos : Pos} {v : Value} {o : Obj} {Q : Value → Shared → Prop}
def CellAt (g : Heap) (c : Addr) (v : Value) : Prop := ∃ o, g.get? c = some o ∧ o.data = .cell (some v)
theorem CellAt.keep {g g' : Heap} {c : Addr} {v : Value} (x : CellAt g c v) (k : g.StaysIn g') : CellAt g' c v := let ⟨o, a, b⟩ := x; ⟨o, k _ _ a, b⟩
theorem free_g (F : Fr g C s.heap m) (hc : cl.lookup x = some c) (hm : CellAt g c v) (h : Q v s)
    (hk : (compEnvC scope cl C env).scope.kind = .function) (hx : (compEnvC scope cl C env).kindOf x = some .free) (hb : (x == ("__debug__" : Str)) = false := by decide) (hn : (x == ("__classdict__" : Str)) = false := by decide) :
    wpAny M A (eval (.Name x pos) (compEnvC scope cl C env)) Q E s := let ⟨_, a, b⟩ := hm.keep F.keep; wpAny_Name (wpAny_loadName_free hk hx hc ⟨_, a, b⟩ h hn) hb
theorem cell_g (F : Fr g C s.heap m) (hc : cl.lookup x = some c) (hm : CellAt g c v) (h : Q v s)
    (hk : (compEnvC scope cl C env).scope.kind = .function) (hx : (compEnvC scope cl C env).kindOf x = some .cell) (hb : (x == ("__debug__" : Str)) = false := by decide) :
    wpAny M A (eval (.Name x pos) (compEnvC scope cl C env)) Q E s := let ⟨_, a, b⟩ := hm.keep F.keep; wpAny_Name (wpAny_loadName_cell hk hx hc ⟨_, a, b⟩ h) hb
end
theorem turned {g h : Heap} {C : Addr} {s : Shared} {led led2 : Led} {P : Led → Prop} {tk : Nat} {m : Str → Option Value} (F : Fr g C h m) (N : News g C h led2) (k : ∀ q ∈ led, q.1 ∈ led2.map (·.1)) (p : P led2) : Turned g C s led P { s with heap := h, toks := tk } := ⟨h, tk, m, led2, rfl, F, N, k, p⟩
theorem IntsAre.snoc {n : Int} {t : Tok} : ∀ {vs : List Value} {ns : List Int}, IntsAre vs ns → IntsAre (vs ++ [.int n t]) (ns ++ [n])
  | _, _, .nil => .cons n t .nil
  | _, _, .cons a u r => .cons a u (Mine.IntsAre.snoc r)
theorem IntsAre.len : ∀ {vs : List Value} {ns : List Int}, IntsAre vs ns → vs.length = ns.length
  | _, _, .nil => rfl
  | _, _, .cons _ _ r => by simp [Mine.IntsAre.len r]
theorem take_succ_get {α : Type} {l : List α} {i : Nat} {x : α} (h : l[i]? = some x) : l.take (i + 1) = l.take i ++ [x] := by
  rw [List.take_add_one, h]; rfl

-- CellComp
theorem rows_3 : True := by
  (k_with "m lt9" => first | assumption | exact Nat.le_of_lt (by assumption) | exact Nat.lt_trans (by assumption) (by assumption))
  (k_with "m ne9" => first | assumption | exact Nat.ne_of_lt (by assumption) | exact Nat.ne_of_gt (by assumption) | exact Nat.ne_of_lt (Nat.lt_trans (by assumption) (by assumption)) | exact Nat.ne_of_gt (Nat.lt_trans (by assumption) (by assumption)))
  trivial

section
variable {prog : Program} {w : World} {A : Around} {E : Value → Shared → Prop} {env : Env}
abbrev cellNew : Obj := { cls := .type "cell", data := .cell none }
theorem newEnv_cell1 {M : Model} {scope : Scope} {globals : Addr} {cl : List (Str × Addr)} {qual x : Str} {s : Shared} {around : Env} {Q : Env → Shared → Prop} (hk : ∀ n, cellsFrom n scope.names cl = (x, n) :: cl) (hp : ∀ h, pushCells h scope.names = h.push cellNew)
    (h : Q (newEnv scope s.heap.objs.size globals ((x, s.heap.objs.size + 1) :: cl) qual none .none (some around) builtinsNs) { s with heap := (s.heap.push { cls := .type "dict", data := .dict #[] }).push cellNew }) :
    wpAny M A (newFunctionEnv scope globals cl [] qual none .none (some around)) Q E s := by
  simp only [newFunctionEnv, Option.isSome_some, if_true]
  refine wpAny_bind (wpAny_alloc ?_)
  refine wpAny_bind (wpAny_layCells _ (fun name kind cells => by cases hkc : kind == NameKind.cell <;> simp [hkc]) _ _ _ _ ?_)
  refine wpAny_bind ?_
  rw [List.forIn_nil]
  refine wpAny_pure (wpAny_pure ?_)
  rw [hk, hp]
  have e : (s.heap.push { cls := .type "dict", data := .dict #[] }).objs.size = s.heap.objs.size + 1 := Heap.size_push ..
  simp only [e]
  exact h

inductive CompCell (prog : Program) (w : World) (A : Around) (env : Env) (g0 : Heap) (L : Addr) (m : Str → Option Value) (scope : Scope) (cl : List (Str × Addr)) (x : Str) (elt : Expr) (Fin : Addr → List Value → Led → Nat → Shared → Prop) (xv : Value) (s₁ : Shared) : Prop where
  | mk (l : Addr) (items : Array Value) (rest : Led) (K : Nat → List Value → Led → Prop) (e0 : s₁.heap.IsList l items)
    (e1 : xv = .ref l)
    (e2 : items.size ≤ sizeLine)
    (e3 : Fr g0 L s₁.heap m)
    (e4 : News g0 L s₁.heap rest)
    (e5 : K 0 [] [])
    (e6 : (∀ i ys l, K i ys l → ys.length ≤ i))
    (e7 : (∀ C i v s₃ m₃ ys led' oc g E', Fr g C s₃.heap m₃ → News g C s₃.heap ((C + 1, oc) :: led') → oc.data = .cell (some v) → (∀ q ∈ led', q.1 ≠ C + 1) → g0.StaysIn g → (∀ q ∈ rest, g.get? q.1 = some q.2) → (g.Ns L m) → K i ys led' → i < items.size → items[i]? = some v → (s₃.gens = s₁.gens ∧ s₃.drawn = s₁.drawn ∧ s₃.os = s₁.os) →
      wpAny (model prog w) A (eval elt (compEnvC scope ((x, C + 1) :: cl) C env)) (fun y s₅ => Turned g C s₃ ((C + 1, oc) :: led') (fun l => ∃ l2, l = (C + 1, oc) :: l2 ∧ (∀ q ∈ l2, q.1 ≠ C + 1) ∧ K (i + 1) (ys ++ [y]) l2) s₅) E' s₃))
    (e8 : ∀ D nn h' tk ys ledN, ((∀ q ∈ ledN ++ rest, q.1 ≠ D) ∧ ∀ q ∈ ledN, ∀ r ∈ rest, q.1 ≠ r.1) → K items.size ys ledN → Fin D ys (ledN ++ rest) nn { s₁ with heap := h', toks := tk }) : CompCell prog w A env g0 L m scope cl x elt Fin xv s₁

theorem cell_loop {elt iter : Expr} {x : Str} {px : Pos} {scope : Scope} {cl : List (Str × Addr)} {pos : Pos} {g0 : Heap} {L : Addr} {m : Str → Option Value} {Fin : Addr → List Value → Led → Nat → Shared → Prop} {s₁ : Shared} {RR : Value → Addr → Result → Shared → Prop} (hh : A.handled = none)
    {l : Addr} {items : Array Value} {rest : Led} {K : Nat → List Value → Led → Prop} {I D C : Nat} {h₁ : Heap}
    (hkind : scope.kind = .function) (hx : ∀ C, (compEnvC scope ((x, C + 1) :: cl) C env).kindOf x = some .cell)
    (hl : s₁.heap.IsList l items) (hsz : items.size ≤ sizeLine) (F : Fr g0 L s₁.heap m) (N : News g0 L s₁.heap rest) (h0 : K 0 [] []) (hlen : ∀ i ys l, K i ys l → ys.length ≤ i)
    (turn : ∀ C i v s₃ m₃ ys led' oc g E', Fr g C s₃.heap m₃ → News g C s₃.heap ((C + 1, oc) :: led') → oc.data = .cell (some v) → (∀ q ∈ led', q.1 ≠ C + 1) → g0.StaysIn g → (∀ q ∈ rest, g.get? q.1 = some q.2) → (g.Ns L m) → K i ys led' → i < items.size → items[i]? = some v → (s₃.gens = s₁.gens ∧ s₃.drawn = s₁.drawn ∧ s₃.os = s₁.os) →
      wpAny (model prog w) A (eval elt (compEnvC scope ((x, C + 1) :: cl) C env)) (fun y s₅ => Turned g C s₃ ((C + 1, oc) :: led') (fun l => ∃ l2, l = (C + 1, oc) :: l2 ∧ (∀ q ∈ l2, q.1 ≠ C + 1) ∧ K (i + 1) (ys ++ [y]) l2) s₅) E' s₃)
    (fin : ∀ D nn h' tk ys ledN, ((∀ q ∈ ledN ++ rest, q.1 ≠ D) ∧ ∀ q ∈ ledN, ∀ r ∈ rest, q.1 ≠ r.1) → K items.size ys ledN → Fin D ys (ledN ++ rest) nn { s₁ with heap := h', toks := tk })
    (hRR : ∀ D C h' tk m' ys nn led, g0.get? C = none → L ≠ C → h'.Ns C m' → Fr g0 L h' m → (∀ h'', Heap.SameBut C h' h'' → Fr g0 L h'' m ∧ News g0 L h'' ((D, listOf ys.toArray nn) :: led)) → (∀ h'' tk, Fin D ys led nn { s₁ with heap := h'', toks := tk }) → RR (.ref D) C (.ok .next) { s₁ with heap := h', toks := tk })
    (hI : s₁.heap.objs.size = I) (hD : D = I + 1) (hC : C = I + 2) (old : ∀ b o, s₁.heap.get? b = some o → h₁.get? b = some o) (hit : h₁.IsListIter I l 0) (hacc : h₁.PlainList D #[]) (hns : h₁.Ns C fun _ => none) (hcl : h₁.IsCell (C + 1) none) (tk₀ : Nat) :
    codeAny (model prog w) A (.compLoop (.ListComp elt [⟨.Name x px, iter, [], 0⟩] scope pos) 0 (.ref I) (.ref D) (compEnvC scope ((x, C + 1) :: cl) C env)) (RR (.ref D) C) { s₁ with heap := h₁, toks := tk₀ } := by
  have hID : @LT.lt Nat _ I D := hD ▸ Nat.lt_succ_self I
  have hDC : @LT.lt Nat _ D C := by rw [hD, hC]; exact Nat.lt_succ_self _
  have hIC : @LT.lt Nat _ I C := Nat.lt_trans hID hDC
  have hC1 : @LT.lt Nat _ C (C + 1) := Nat.lt_succ_self C
  have hI1 : @LT.lt Nat _ I (C + 1) := Nat.lt_trans hIC hC1
  have hD1' : @LT.lt Nat _ D (C + 1) := Nat.lt_trans hDC hC1
  have hlt : ∀ {b o}, s₁.heap.get? b = some o → @LT.lt Nat _ b I := fun e => hI ▸ Heap.lt_size e
  have hll : @LT.lt Nat _ l I := by obtain ⟨_, e, _⟩ := hl; exact hlt e
  have W := Walks.list (prog := prog) (w := w) (A := A) hh I l (Nat.ne_of_lt hll) items
  have fresh : ∀ a : Nat, I ≤ a → s₁.heap.get? a = none := fun a ha => by
    cases e : s₁.heap.get? a with
    | none => rfl
    | some o' => exact absurd (hlt e) (Nat.not_lt.mpr ha)
  have newOk : ∀ a : Nat, I ≤ a → a ≠ L ∧ g0.get? a = none := fun a ha => by
    refine ⟨fun e => ?_, ?_⟩
    · obtain ⟨oL, _, _, hoL, _⟩ := F.ns
      rw [← e, fresh a ha] at hoL; cases hoL
    · cases q : g0.get? a with
      | none => rfl
      | some o => have := F.keep _ _ q; rw [fresh a ha] at this; cases this
  refine codeAny_compLoop_tests
    (fun k s' => Ex7 fun h' tk m' ys led' i v0 => An10 (s' = { s₁ with heap := h', toks := tk }) (h'.IsListIter I l i) (h'.PlainList D ys) (h'.Ns C m') (h'.IsCell (C + 1) v0) (K i ys.toList led') (i ≤ items.size) (k = items.size + 1 - i)
      (∀ q ∈ led', h'.get? q.1 = some q.2 ∧ q.1 ≠ C ∧ q.1 ≠ D ∧ q.1 ≠ C + 1 ∧ q.1 ≠ I ∧ s₁.heap.get? q.1 = none) (∀ b o, s₁.heap.get? b = some o → h'.get? b = some o)) ?_ (items.size + 1)
    ⟨h₁, _, _, #[], [], 0, none, rfl, hit, hacc, hns, hcl, h0, Nat.zero_le _, rfl, fun q hq => (nomatch hq), old⟩
  rintro k s' ⟨H, tk, m', ys, led', i, v0, rfl, hst', hacc', hn', hcl', hK, hi, rfl, hled', hk⟩
  have hlI : ∀ {h : Heap}, (∀ b o, s₁.heap.get? b = some o → h.get? b = some o) → h.IsList l items := fun k => hl.at fun o e => k _ _ e
  by_cases hlt' : i < items.size
  · refine W.item i _ _ _ hlt' ⟨hst', hlI hk⟩ fun v h₁ tk₁ hPv hst₁ hk₁ => ?_
    have hk₁ : ∀ b o, b ≠ I → H.get? b = some o → h₁.get? b = some o := fun b o hb e => hk₁ b o (fun h => hb (by simpa using h)) e
    have ne : ∀ {a b : Nat}, a ≠ b → (a : Addr) ≠ b := fun h => h
    obtain ⟨oc0, hc0, hd0⟩ := hcl'
    refine wpAny_assign_Name (wpAny_storeName_cell (v₀ := v0) hkind (hx C) (by show List.lookup x ((x, C + 1) :: cl) = _; simp) ⟨oc0, hk₁ _ _ (ne (by walk_at "m ne9")) hc0, hd0⟩ fun h₂ hv₂ hs₂ => ?_)
    obtain ⟨oc, hc2, hd2⟩ := hv₂
    have up₂ : ∀ b o, b ≠ C + 1 → b ≠ I → H.get? b = some o → h₂.get? b = some o := fun b o hbC hbf e => hs₂.extBut b o hbC (hk₁ b o hbf e)
    have hst₂ : h₂.IsListIter I l (i + 1) := hst₁.1.at fun o e => hs₂.extBut _ _ (ne (by walk_at "m ne9")) e
    have hacc₂ : h₂.PlainList D ys := hacc'.at fun o e => up₂ _ _ (ne (by walk_at "m ne9")) (ne (by walk_at "m ne9")) e
    have hns₂ : h₂.Ns C m' := hn'.at' fun o e => up₂ _ _ (ne (by walk_at "m ne9")) (ne (by walk_at "m ne9")) e
    have hk₂ : ∀ b o, s₁.heap.get? b = some o → h₂.get? b = some o := fun b o e => up₂ b o (ne (by have := hlt e; walk_at "m ne9")) (ne (by have := hlt e; walk_at "m ne9")) (hk b o e)
    have hled₂ : ∀ q ∈ led', h₂.get? q.1 = some q.2 := fun q hq => up₂ _ _ (hled' q hq).2.2.2.1 (hled' q hq).2.2.2.2.1 (hled' q hq).1
    let g := hideAll (trunc C h₂) (led'.map (·.1))
    have g_of : ∀ {b o}, g.get? b = some o → h₂.get? b = some o := fun e => trunc_of (of_hideAll _ e)
    have g_get : ∀ {b o}, h₂.get? b = some o → @LT.lt Nat _ b C → b ∉ led'.map (·.1) → g.get? b = some o := fun e hb hl => hideAll_get _ ((trunc_get hb).trans e) hl
    have Fg : Fr g C h₂ m' := ⟨hns₂, fun b o e => g_of e, by show (hideAll _ _).objs.size ≤ C; rw [hideAll_size]; exact trunc_size _ _⟩
    have gC : g.get? (C + 1) = none := by
      cases q : g.get? (C + 1) with
      | none => rfl
      | some o => have : @LT.lt Nat _ (C + 1) C := trunc_lt (of_hideAll _ q); exact absurd this (Nat.not_lt.mpr (Nat.le_succ C))
    have Ng : News g C h₂ ((C + 1, oc) :: led') := fun q hq => by
      rcases List.mem_cons.mp hq with rfl | hq
      · exact ⟨hc2, ne (by walk_at "m ne9"), gC⟩
      · exact ⟨hled₂ q hq, (hled' q hq).2.1, hideAll_none _ (List.mem_map_of_mem hq)⟩
    have ing : ∀ {b o}, s₁.heap.get? b = some o → g.get? b = some o := fun {b o} e => g_get (hk₂ _ _ e) (by have := hlt e; walk_at "m lt9") fun hm => by
      obtain ⟨p, hp, rfl⟩ := List.mem_map.mp hm
      rw [(hled' p hp).2.2.2.2.2] at e; cases e
    have g0g : g0.StaysIn g := fun b o e => ing (F.keep _ _ e)
    have gL : g.Ns L m := F.ns.at' fun o e => ing e
    have hKl := hlen _ _ _ hK
    refine wpAny_tests_nil ?_
    rw [if_pos rfl]
    refine wpAny_mono (turn C i v { s₁ with heap := h₂, toks := tk₁ } _ ys.toList led' oc g _ Fg Ng hd2 (fun q hq => (hled' q hq).2.2.2.1) g0g (fun q hq => ing (N q hq).1) gL hK hlt' hPv ⟨rfl, rfl, rfl⟩) (fun y s₅ h₅' => ?_) fun _ _ e => e
    obtain ⟨h₅, tk₅, m₅, led2, rfl, F₅, N₅, -, led3, rfl, hne3, hK₅⟩ := h₅'
    have hDl : D ∉ led'.map (·.1) := fun hm => by obtain ⟨p, hp, e⟩ := List.mem_map.mp hm; exact (hled' p hp).2.2.1 e
    have hIl : I ∉ led'.map (·.1) := fun hm => by obtain ⟨p, hp, e⟩ := List.mem_map.mp hm; exact (hled' p hp).2.2.2.2.1 e
    have hDg : ∀ o, h₂.get? D = some o → g.get? D = some o := fun o e => g_get e (by walk_at "m lt9") hDl
    have hIg : ∀ o, h₂.get? I = some o → g.get? I = some o := fun o e => g_get e (by walk_at "m lt9") hIl
    have hys : ys.size ≤ sizeLine := by simp at hKl; omega
    have hacc₅ : h₅.PlainList D ys := hacc₂.at fun o e => F₅.keep _ _ (hDg o e)
    refine wpAny_list_append_plain (hsz := hys) hacc₅ fun h₆ hl₆ hs₆ => ?_
    refine ⟨items.size + 1 - (i + 1), by omega, h₆, tk₅, m₅, ys.push y, led3, i + 1, some v, rfl, ?_, hl₆, F₅.ns.sameBut hs₆ (ne (by walk_at "m ne9")), ⟨oc, hs₆.extBut _ _ (ne (by walk_at "m ne9")) (N₅ _ (.head _)).1, hd2⟩, by simpa using hK₅, hlt', rfl, fun q hq => ?_, fun b o e => hs₆.extBut b o (ne (by have := hlt e; walk_at "m ne9")) (F₅.keep _ _ (ing e))⟩
    · exact (hst₂.at fun o e => F₅.keep _ _ (hIg o e)).at fun o e => hs₆.extBut _ _ (ne (by walk_at "m ne9")) e
    · obtain ⟨a1, a2, a3⟩ := N₅ q (.tail _ hq)
      have qD : q.1 ≠ D := fun e => by
        obtain ⟨c, hc⟩ := hacc₂
        rw [e, hDg _ hc] at a3; cases a3
      have qI : q.1 ≠ I := fun e => by
        obtain ⟨c, hc, _⟩ := hst₂
        rw [e, hIg _ hc] at a3; cases a3
      refine ⟨hs₆.extBut _ _ qD a1, a2, qD, hne3 q hq, qI, ?_⟩
      cases q2 : s₁.heap.get? q.1 with
      | none => rfl
      | some o => rw [ing q2] at a3; cases a3
  · have hin : i = items.size := by omega
    subst hin
    refine W.done _ _ _ ⟨hst', hlI hk⟩ fun h₁ tk₁ hk₁ => ?_
    have hk₁ : ∀ b o, b ≠ I → H.get? b = some o → h₁.get? b = some o := fun b o hb e => hk₁ b o (fun h => hb (by simpa using h)) e
    have ne : ∀ {a b : Nat}, a ≠ b → (a : Addr) ≠ b := fun h => h
    have hk₂ : ∀ b o, s₁.heap.get? b = some o → h₁.get? b = some o := fun b o e => hk₁ _ _ (ne (by have := hlt e; walk_at "m ne9")) (hk b o e)
    obtain ⟨nn, hD1⟩ := hacc'.at fun o e => hk₁ _ o (ne (by walk_at "m ne9")) e
    have Ff : ∀ h'', Heap.SameBut C h₁ h'' → Fr g0 L h'' m := fun h'' hs => ⟨F.ns.at' fun o e => hs.extBut _ _ (ne (by have := hlt e; walk_at "m ne9")) (hk₂ _ _ e), fun b o e => have e2 := F.keep _ _ e; hs.extBut _ _ (ne (by have := hlt e2; walk_at "m ne9")) (hk₂ _ _ e2), F.above⟩
    refine hRR D C h₁ tk₁ m' ys.toList nn (led' ++ rest) (newOk C (by walk_at "m lt9")).2 (newOk C (by walk_at "m lt9")).1.symm (hn'.at' fun o e => hk₁ _ o (ne (by walk_at "m ne9")) e) (Ff _ (Heap.SameBut.refl _ _)) (fun h'' hs => ⟨Ff h'' hs, fun q hq => ?_⟩) fun h'' tk₂ => fin D nn h'' tk₂ ys.toList led' ⟨fun q hq => ?_, fun q hq r hr e => ?_⟩ hK
    · rcases List.mem_cons.mp hq with rfl | hq
      · exact ⟨hs.extBut _ _ (ne (by walk_at "m ne9")) (by simpa [PySem.W.listOf] using hD1), newOk D (by walk_at "m lt9")⟩
      · rcases List.mem_append.mp hq with hq | hq
        · obtain ⟨b1, b2, b3, b4, b5, b6⟩ := hled' q hq
          refine ⟨hs.extBut _ _ b2 (hk₁ _ _ b5 b1), ?_⟩
          
          refine ⟨fun e => ?_, ?_⟩
          · obtain ⟨oL, _, _, hoL, _⟩ := F.ns
            rw [← e, b6] at hoL; cases hoL
          · cases q3 : g0.get? q.1 with
            | none => rfl
            | some o => have := F.keep _ _ q3; rw [b6] at this; cases this
        · have e2 := (N q hq).1
          exact ⟨hs.extBut _ _ (ne (by have := hlt e2; walk_at "m ne9")) (hk₂ _ _ e2), (N q hq).2⟩
    · rcases List.mem_append.mp hq with hq | hq
      · exact (hled' q hq).2.2.1
      · have := hlt (N q hq).1; exact ne (by walk_at "m ne9")
    · have := (hled' q hq).2.2.2.2.2
      rw [e, (N r hr).1] at this; cases this

theorem comp_cell {elt iter : Expr} {x : Str} {px : Pos} {scope : Scope} {cl : List (Str × Addr)} {pos : Pos} {g0 : Heap} {L : Addr} {m : Str → Option Value} {Fin : Addr → List Value → Led → Nat → Shared → Prop} {xv : Value} {s₁ : Shared} {RR : Value → Addr → Result → Shared → Prop} (hh : A.handled = none)
    (hcf : ∀ n, cellsFrom n scope.names cl = (x, n) :: cl) (hpc : ∀ h, pushCells h scope.names = h.push cellNew) (hkind : scope.kind = .function) (hx : ∀ C, (compEnvC scope ((x, C + 1) :: cl) C env).kindOf x = some .cell)
    (h : CompCell prog w A env g0 L m scope cl x elt Fin xv s₁)
    (hRR : ∀ D C h' tk m' ys nn led, g0.get? C = none → L ≠ C → h'.Ns C m' → Fr g0 L h' m → (∀ h'', Heap.SameBut C h' h'' → Fr g0 L h'' m ∧ News g0 L h'' ((D, listOf ys.toArray nn) :: led)) → (∀ h'' tk, Fin D ys led nn { s₁ with heap := h'', toks := tk }) → RR (.ref D) C (.ok .next) { s₁ with heap := h', toks := tk }) :
    wpAny (model prog w) A (pyIter xv) (fun it s₂ => wpAny (model prog w) A (newList []) (fun acc s₃ => wpAny (model prog w) A (newFunctionEnv scope env.globals cl [] env.qual none .none (some env)) (fun cenv s₄ =>
      codeAny (model prog w) A (.compStart (.ListComp elt [⟨.Name x px, iter, [], 0⟩] scope pos) 0 it acc { cenv with scope := relabel scope env }) (RR acc cenv.locals) s₄) E s₃) E s₂) E s₁ := by
  obtain ⟨l, items, rest, K, hl, rfl, hsz, F, N, h0, hlen, turn, fin⟩ := h
  have hlt : ∀ {b o}, s₁.heap.get? b = some o → @LT.lt Nat _ b s₁.heap.objs.size := fun e => Heap.lt_size e
  have hll : l < s₁.heap.objs.size := by obtain ⟨_, e, _⟩ := hl; exact Heap.lt_size e
  refine wpAny_pyIter_list hl ?_
  have W0 := Walks.list (prog := prog) (w := w) (A := A) hh s₁.heap.objs.size l (Nat.ne_of_lt hll) items
  refine wpAny_newObj_type (newEnv_cell1 hcf hpc ?_)
  have s1 : ∀ (h : Heap) (o : Obj), (h.push o).objs.size = h.objs.size + 1 := fun h o => Heap.size_push ..
  have eA : (s₁.heap.push { cls := .type "list_iterator", data := .fields #[.ref l, .int 0 0] }).objs.size = s₁.heap.objs.size + 1 := s1 _ _
  have eB : ((s₁.heap.push { cls := .type "list_iterator", data := .fields #[.ref l, .int 0 0] }).push { cls := .type "list", data := .seq #[] }).objs.size = s₁.heap.objs.size + 2 := (s1 _ _).trans (congrArg (· + 1) eA)
  have eC : (((s₁.heap.push { cls := .type "list_iterator", data := .fields #[.ref l, .int 0 0] }).push { cls := .type "list", data := .seq #[] }).push { cls := .type "dict", data := .dict #[] }).objs.size = ((s₁.heap.push { cls := .type "list_iterator", data := .fields #[.ref l, .int 0 0] }).push { cls := .type "list", data := .seq #[] }).objs.size + 1 := s1 _ _
  have hit0 : (((((s₁.heap.push { cls := .type "list_iterator", data := .fields #[.ref l, .int 0 0] }).push { cls := .type "list", data := .seq #[] }).push { cls := .type "dict", data := .dict #[] }).push cellNew)).IsListIter s₁.heap.objs.size l 0 :=
    ⟨_, Heap.get?_push_of_some _ (Heap.get?_push_of_some _ (Heap.get?_push_of_some _ (Heap.get?_push_size _ rfl))), rfl, rfl⟩
  have loop := cell_loop (elt := elt) (iter := iter) (px := px) (pos := pos) (A := A) (w := w) (prog := prog) hh hkind hx hl hsz F N h0 hlen turn fin (RR := RR) (fun D C h' tk m' ys nn led a b c d e f => hRR D C h' tk m' ys nn led a b c d e f) rfl eA eB
    (fun b o e => Heap.get?_push_of_some _ (Heap.get?_push_of_some _ (Heap.get?_push_of_some _ (Heap.get?_push_of_some _ e)))) hit0
    ⟨_, Heap.get?_push_of_some _ (Heap.get?_push_of_some _ (Heap.get?_push_size _ rfl))⟩ ((Heap.Ns.new _ (.type "dict")).at' fun o e => Heap.get?_push_of_some _ e) ⟨cellNew, by rw [← eC]; exact Heap.get?_push_size _ rfl, rfl⟩ s₁.toks
  exact codeAny_compStart_list loop (wpAny_pyIter_listiter hit0 loop)

theorem ListComp_cell {elt iter : Expr} {x : Str} {px : Pos} {scope : Scope} {cl : List (Str × Addr)} {pos : Pos} {Q : Value → Shared → Prop} {g0 : Heap} {L : Addr} {m : Str → Option Value} {s : Shared} (hh : A.handled = none) (_F : Fr g0 L s.heap m)
    (hclos : closureFor scope env = pure cl) (hcf : ∀ n, cellsFrom n scope.names cl = (x, n) :: cl) (hpc : ∀ h, pushCells h scope.names = h.push cellNew) (hkind : scope.kind = .function) (hx : ∀ C, (compEnvC scope ((x, C + 1) :: cl) C env).kindOf x = some .cell)
    (hnames : ∀ y ∈ scope.names, y.2 = .local → scope.names.lookup y.1 = some .local)
    (h : wpAny (model prog w) A (eval iter env) (fun xv s₁ => CompCell prog w A env g0 L m scope cl x elt (fun D ys led nn s' => Fr g0 L s'.heap m → News g0 L s'.heap ((D, listOf ys.toArray nn) :: led) → Q (.ref D) s') xv s₁) E s)
    (hs : ∀ x, foldedSetIterable iter env x = pure x := by intro _; rfl) :
    wpAny (model prog w) A (eval (.ListComp elt [⟨.Name x px, iter, [], 0⟩] scope pos) env) Q E s := by
  rw [eval_ListComp]
  refine wpAny_comprehension_free (use := none) rfl hs hclos hkind hnames (wpAny_mono h (fun xv s₁ h₁ => ?_) fun _ _ e => e)
  refine comp_cell (RR := fun acc C => compPost (model prog w) A E none Q acc C) hh hcf hpc hkind hx h₁ ?_
  intro D C h' tk m' ys nn led hC0 hLC hn F' hfr fin
  exact ⟨m', hn, fun h'' hs'' => fin h'' _ (hfr h'' hs'').1 (hfr h'' hs'').2⟩
end

section A_lines
theorem rows_4 : True := by
  (k_with "setItem ref int" => (k_here; (with_reducible show wpAny _ _ (setItem (Value.ref _) (Value.int _ _) _) _ _ _); k_dflt (refine' set_lit ?z14k1 ?z14k2 ?z14k3 ?z14k4 ?z14k5 ?z14k6 ?z14k7 ?_; (case z14k1 => k_asm); (case z14k2 => k_asm); (case z14k3 => k_upd); (case z14k4 => decide); (case z14k5 => simp; done); (case z14k6 => decide); (case z14k7 => rfl); k_whole); intro _ _ _; (try k_sweep)))
  (k_with "m fr" => first | (with_reducible assumption) | (refine' Mine.Fr.put ?z15n; (case z15n => assumption)) | assumption)
  (k_with "m go2" => ((try dsimp only); (try k_fold); (repeat' (first | (k_unfold; (try dsimp only)) | walk1 | (dsimp only; walk1))); (all_goals (try dsimp only)); (all_goals (try k_unfold)); (all_goals (try dsimp only))))
  (k_with "m nw" => first | (with_reducible assumption) | assumption | (refine' Mine.News.tl ?z17n; (case z17n => walk_at "m nw1")))
  (k_with "m nw1" => first | (with_reducible assumption) | assumption | (refine' Mine.News.tl ?z18n; (case z18n => walk_at "m nw2")))
  (k_with "m nw2" => first | (with_reducible assumption) | assumption | (refine' Mine.News.tl ?z19n; (case z19n => assumption)))
  (k_with "m st" => (refine stands ?z20f ?z20n; (case z20f => walk_at "m fr"); (case z20n => walk_at "m nw")))
  (k_with "m body" => (with_unfolding_all show wpAny _ _ (execs (_ :: _) _) _ _ _))
  (k_with "getAttr ref" => (k_here; k_dflt ((refine' get_has ?z22k1 ?z22k2 ?z22k3 ?z22k4 ?z22k5 ?z22k6 ?z22k7 ?z22k8 ?z22k9 ?_); (case z22k1 => k_asm); (case z22k2 => k_asm); (case z22k3 => assumption); (case z22k4 => k_is); (case z22k5 => k_is); (case z22k6 => k_is); (case z22k7 => k_is); (case z22k8 => exact rfl); (case z22k9 => k_handed); k_whole)))
  (k_with "getMethod ref" => (k_here; k_dflt ((refine' meth_has ?z23k1 ?z23k2 ?z23k3 ?z23k4 ?z23k5 ?z23k6 ?z23k7 ?_); (case z23k1 => k_asm); (case z23k2 => k_asm); (case z23k3 => assumption); (case z23k4 => k_is); (case z23k5 => k_is); (case z23k6 => k_is); (case z23k7 => exact rfl); k_whole)))
  (k_with "getMethod ref" => (k_here; (with_reducible show wpAny _ _ (getMethod (Value.ref _) (Str.ofString "get") _) _ _ _); k_dflt ((refine' di_method ?z24k1 ?z24k2 ?_); (case z24k1 => k_asm); (case z24k2 => assumption); k_whole)))
  (k_with "call builtin:dict.get" => (k_here; (with_reducible show wpAny _ _ (call (Value.builtin "dict.get") [Value.ref _, Value.int _ _, _]) _ _ _); k_dflt ((refine' di_get2 ?z25k1 ?z25k2 ?_); (case z25k1 => k_asm); (case z25k2 => assumption); k_whole)))
  (k_with "compareOp In int ref" => (k_here; k_dflt ((refine' di_in ?z26k1 ?z26k2 ?_); (case z26k1 => k_asm); (case z26k2 => assumption); k_whole)))
  (k_with "compareOp NotIn int ref" => (k_here; k_dflt ((refine' di_notin ?z27k1 ?z27k2 ?_); (case z27k1 => k_asm); (case z27k2 => assumption); k_whole)))
  (k_with "subscriptTail" => (k_here; (with_reducible show wpAny _ _ (subscriptTail _ _ (Value.ref _) (Value.int _ _)) _ _ _); k_dflt (first | ((refine' di_item ?z28k1 ?z28k2 ?z28k3 ?_ ?z28k4); (case z28k1 => k_asm); (case z28k2 => assumption); (case z28k3 => assumption); (case z28k4 => with_unfolding_all rfl); k_whole) | ((refine' li_item ?z28k1 ?z28k2 ?z28k3 ?z28k4 ?z28k5 ?_ ?z28k6); (case z28k1 => k_asm); (case z28k2 => assumption); (case z28k3 => first | assumption | omega); (case z28k4 => omega); (case z28k5 => first | assumption | exact rfl); (case z28k6 => with_unfolding_all rfl); k_whole))))
  (k_with "call builtin:len" => (k_here; (with_reducible show wpAny _ _ (call (Value.builtin "len") [Value.ref _]) _ _ _); k_dflt ((refine' li_len ?z29k1 ?z29k2 ?z29k3 ?_); (case z29k1 => k_asm); (case z29k2 => assumption); (case z29k3 => first | assumption | omega | (simp; omega)); k_whole)))
  (k_with "m dep" => ((try dsimp only [Around.deeper, Around.in1]); first | exact dep1 (by assumption) (by decide) | exact dep0 (by assumption) (by decide) | exact dep2 (by assumption) (by decide) | omega))
  (k_with "m pre" => ((try dsimp only); repeat' (first | exact trivial | assumption | exact Mine.Has.keep (by assumption) (Fr.keep (by assumption)) | exact Mine.DictI.keep (by assumption) (Fr.keep (by assumption)) | exact Mine.IsL.keep (by assumption) (Fr.keep (by assumption)) | exact Mine.GdefAt.keep (by assumption) (Fr.keep (by assumption)) | exact Mine.LookAt.keep (by assumption) (Fr.keep (by assumption)) | exact Mine.SceneAt.keep (by assumption) (Fr.keep (by assumption)) | exact Mine.scene_led (by assumption) (by assumption) (by assumption) (by assumption) | exact Mine.InfoAt.keep (by assumption) (Fr.keep (by assumption)) | exact Mine.RowAt.keep (by assumption) (Fr.keep (by assumption)) | apply And.intro | omega)))
  (k_with "m mem" => first | exact List.Mem.head _ | (refine List.Mem.tail _ ?z32n; (case z32n => walk_at "m mem1")))
  (k_with "m mem1" => first | exact List.Mem.head _ | (refine List.Mem.tail _ ?z33n; (case z33n => walk_at "m mem2")))
  (k_with "m mem2" => first | exact List.Mem.head _ | (refine List.Mem.tail _ ?z34n; (case z34n => walk_at "m mem3")))
  (k_with "m mem3" => first | exact List.Mem.head _ | (refine List.Mem.tail _ ?z35n; (case z35n => walk_at "m mem4")))
  (k_with "m mem4" => first | exact List.Mem.head _ | (refine List.Mem.tail _ ?z36n; (case z36n => exact List.Mem.head _)))
  (k_with "m num" => first | assumption | omega)
  trivial

section S_Flags
theorem class_of_c {w : World} {hb : Heap} (G : Gr w hb) (x d : Addr) (kvs : List (Int × Value)) (g : Int) (t : Tok) (hk : ClsKvs kvs) (h0 : 0 ≤ g) (h7 : g ≤ 7) :
    Does w hb 692 [.ref x, .int g t] 1 [] (fun h => Has h x 714 [(Str.ofString "classes", .ref d)] ∧ DictI w h d kvs) (fun _ r _ => ∃ t0, r = .int (cls g) t0) := by
  obtain ⟨p, loose, mean, mg, mb, X₀, T₀⟩ := id G
  intro dp un fr gds s Q E hdep hun hs hpre9
  obtain ⟨hx, hd⟩ := hpre9
  intro hQ
  refine' enter0 [(Str.ofString "glyph", .int g t), (Str.ofString "self", .ref x)] ?k1 ?k2 ?k3 ?k6 ?k7 ?k8 ?k9 ?kB ?kk ?c2 ?c3 ?c4 ?c5
  (case k1 => assumption)
  (case k2 => assumption)
  (case k3 => assumption)
  (case k6 => k_is)
  (case k7 => k_is)
  (case k8 => first | exact room0 (by assumption) | exact room1 (by assumption) | (simp only [recursionLimit]; omega))
  (case k9 => exact BindsTo.of_eq rfl)
  (case kB => exact locs rfl)
  (case c5 => decide)
  (case c2 => exact rfl)
  (case c3 => exact rfl)
  (case c4 => exact rfl)
  intro L' h' tk' F' N' X' T'
  clear X₀ T₀
  walk_at "m body"
  walk_at "m go2"
  exact hQ _ _ _ (off_pure (S := []) (by assumption)).1 (off_pure (S := []) (by assumption)).2 (hk _ _ h0 h7)
theorem rows_5 : True := by
  (k_with "call ref" => (k_here; (with_reducible show wpAny _ _ (call (Value.ref 692) _) _ _ _); k_dflt ((refine' use1 (class_of_c (by assumption) _ _ _ _ _ (by assumption) (by assumption) (by assumption)) ?z38k1 ?z38kN ?z38k2 ?z38k3 ?z38k4 ?z38k5 ?_); (case z38k1 => k_asm); (case z38kN => k_asm); (case z38k2 => assumption); (case z38k5 => walk_at "m pre"); (case z38k3 => walk_at "m dep"); (case z38k4 => walk_at "m dep"); intro _ _ _ _ _ _ _ post'; obtain ⟨_, e0⟩ := post'; subst e0; (try dsimp only))))
  trivial

theorem cls_range (g : Int) : 0 ≤ cls g ∧ cls g ≤ 3 := by
  unfold cls
  split
  · omega
  · split <;> omega
theorem glyph_class_c {w : World} {hb : Heap} (G : Gr w hb) (x : Addr) (g : Int) (t : Tok) (h0 : 0 ≤ g) (h7 : g ≤ 7) {c0 : Int} (hc0 : cls g = c0) :
    Does w hb 740 [.ref x, .int g t] 2 [] (fun h => GdefAt w h x) (fun _ r _ => ∃ t0, r = .int c0 t0) := by
  subst hc0
  obtain ⟨p, loose, mean, mg, mb, X₀, T₀⟩ := id G
  intro dp un fr gds s Q E hdep hun hs hpre9
  obtain ⟨cd, d, kvs, a, b, c, e, hx, hc, hd, hk⟩ := hpre9
  intro hQ
  refine' enter0 [(Str.ofString "glyph", .int g t), (Str.ofString "self", .ref x)] ?k1 ?k2 ?k3 ?k6 ?k7 ?k8 ?k9 ?kB ?kk ?c2 ?c3 ?c4 ?c5
  (case k1 => assumption)
  (case k2 => assumption)
  (case k3 => assumption)
  (case k6 => k_is)
  (case k7 => k_is)
  (case k8 => first | exact room0 (by assumption) | exact room1 (by assumption) | (simp only [recursionLimit]; omega))
  (case k9 => exact BindsTo.of_eq rfl)
  (case kB => exact locs rfl)
  (case c5 => decide)
  (case c2 => exact rfl)
  (case c3 => exact rfl)
  (case c4 => exact rfl)
  intro L' h' tk' F' N' X' T'
  clear X₀ T₀
  walk_at "m body"
  have hr := cls_range g
  walk_at "m go2"
  all_goals first
    | (exact hQ _ _ _ (off_pure (S := []) (by assumption)).1 (off_pure (S := []) (by assumption)).2 ⟨_, rfl⟩)
    | (have e0 : cls g = 0 := by omega
       exact hQ _ _ _ (off_pure (S := []) (by assumption)).1 (off_pure (S := []) (by assumption)).2 ⟨_, by rw [e0]; exact rfl⟩)
theorem rows_6 : True := by
  (k_with "call ref" => (k_here; (with_reducible show wpAny _ _ (call (Value.ref 740) _) _ _ _); k_dflt ((refine' use1 (glyph_class_c (by assumption) _ _ _ (by assumption) (by assumption) (by assumption)) ?z39k1 ?z39kN ?z39k2 ?z39k3 ?z39k4 ?z39k5 ?_); (case z39k1 => k_asm); (case z39kN => k_asm); (case z39k2 => assumption); (case z39k5 => walk_at "m pre"); (case z39k3 => walk_at "m dep"); (case z39k4 => walk_at "m dep"); intro _ _ _ _ _ _ _ post'; obtain ⟨_, e0⟩ := post'; subst e0; (try dsimp only))))
  trivial

theorem class_bit_c {w : World} {hb : Heap} (G : Gr w hb) (g : Int) (t : Tok) :
    Does w hb 83 [.int g t] 1 [] (fun _ => True) (fun _ r _ => ∃ t0, r = .int (if g = 1 then 2 else if g = 2 then 4 else if g = 3 then 8 else 0) t0) := by
  obtain ⟨p, loose, mean, mg, mb, X₀, T₀⟩ := id G
  intro dp un fr gds s Q E hdep hun hs _ hQ
  refine' enter0 [(Str.ofString "number", .int g t)] ?k1 ?k2 ?k3 ?k6 ?k7 ?k8 ?k9 ?kB ?kk ?c2 ?c3 ?c4 ?c5
  (case k1 => assumption)
  (case k2 => assumption)
  (case k3 => assumption)
  (case k6 => k_is)
  (case k7 => k_is)
  (case k8 => first | exact room0 (by assumption) | exact room1 (by assumption) | (simp only [recursionLimit]; omega))
  (case k9 => exact BindsTo.of_eq rfl)
  (case kB => exact locs rfl)
  (case c5 => decide)
  (case c2 => exact rfl)
  (case c3 => exact rfl)
  (case c4 => exact rfl)
  intro L' h' tk' F' N' X' T'
  clear X₀ T₀
  walk_at "m body"
  walk_at "m go2"
  all_goals (exact hQ _ _ _ (off_pure (S := []) (by assumption)).1 (off_pure (S := []) (by assumption)).2 ⟨_, congrArg (fun z => Value.int z _) (by (repeat' split) <;> omega)⟩)
theorem class_bit_0 {w : World} {hb : Heap} (G : Gr w hb) (t : Tok) : Does w hb 83 [.int 0 t] 1 [] (fun _ => True) (fun _ r _ => ∃ t0, r = .int 0 t0) := class_bit_c G 0 t
theorem class_bit_1 {w : World} {hb : Heap} (G : Gr w hb) (t : Tok) : Does w hb 83 [.int 1 t] 1 [] (fun _ => True) (fun _ r _ => ∃ t0, r = .int 2 t0) := class_bit_c G 1 t
theorem class_bit_3 {w : World} {hb : Heap} (G : Gr w hb) (t : Tok) : Does w hb 83 [.int 3 t] 1 [] (fun _ => True) (fun _ r _ => ∃ t0, r = .int 8 t0) := class_bit_c G 3 t
theorem rows_7 : True := by
  (k_with "call ref" => (k_here; (with_reducible show wpAny _ _ (call (Value.ref 83) _) _ _ _); k_dflt ((refine' use1 (class_bit_0 (by assumption) _) ?z40k1 ?z40kN ?z40k2 ?z40k3 ?z40k4 ?z40k5 ?_); (case z40k1 => k_asm); (case z40kN => k_asm); (case z40k2 => assumption); (case z40k5 => walk_at "m pre"); (case z40k3 => walk_at "m dep"); (case z40k4 => walk_at "m dep"); intro _ _ _ _ _ _ _ post'; obtain ⟨_, e0⟩ := post'; subst e0; (try dsimp only))))
  (k_with "call ref" => (k_here; (with_reducible show wpAny _ _ (call (Value.ref 83) _) _ _ _); k_dflt ((refine' use1 (class_bit_1 (by assumption) _) ?z41k1 ?z41kN ?z41k2 ?z41k3 ?z41k4 ?z41k5 ?_); (case z41k1 => k_asm); (case z41kN => k_asm); (case z41k2 => assumption); (case z41k5 => walk_at "m pre"); (case z41k3 => walk_at "m dep"); (case z41k4 => walk_at "m dep"); intro _ _ _ _ _ _ _ post'; obtain ⟨_, e0⟩ := post'; subst e0; (try dsimp only))))
  (k_with "call ref" => (k_here; (with_reducible show wpAny _ _ (call (Value.ref 83) _) _ _ _); k_dflt ((refine' use1 (class_bit_3 (by assumption) _) ?z42k1 ?z42kN ?z42k2 ?z42k3 ?z42k4 ?z42k5 ?_); (case z42k1 => k_asm); (case z42kN => k_asm); (case z42k2 => assumption); (case z42k5 => walk_at "m pre"); (case z42k3 => walk_at "m dep"); (case z42k4 => walk_at "m dep"); intro _ _ _ _ _ _ _ post'; obtain ⟨_, e0⟩ := post'; subst e0; (try dsimp only))))
  trivial

theorem attach_wanted_c {w : World} {hb : Heap} (G : Gr w hb) (f : Int) (t : Tok) (h0 : 0 ≤ f) (h7 : f < 256) :
    Does w hb 76 [.int f t] 1 [] (fun _ => True) (fun _ r _ => ∃ t0, r = .int 0 t0) := by
  obtain ⟨p, loose, mean, mg, mb, X₀, T₀⟩ := id G
  intro dp un fr gds s Q E hdep hun hs _ hQ
  refine' enter0 [(Str.ofString "flag", .int f t)] ?k1 ?k2 ?k3 ?k6 ?k7 ?k8 ?k9 ?kB ?kk ?c2 ?c3 ?c4 ?c5
  (case k1 => assumption)
  (case k2 => assumption)
  (case k3 => assumption)
  (case k6 => k_is)
  (case k7 => k_is)
  (case k8 => first | exact room0 (by assumption) | exact room1 (by assumption) | (simp only [recursionLimit]; omega))
  (case k9 => exact BindsTo.of_eq rfl)
  (case kB => exact locs rfl)
  (case c5 => decide)
  (case c2 => exact rfl)
  (case c3 => exact rfl)
  (case c4 => exact rfl)
  intro L' h' tk' F' N' X' T'
  clear X₀ T₀
  walk_at "m body"
  walk_at "m go2"
  have e : (f.fdiv 256).fmod 256 = 0 := by
    rw [Int.fdiv_eq_ediv_of_nonneg _ (by decide), Int.fmod_eq_emod_of_nonneg _ (by decide)]
    omega
  exact hQ _ _ _ (off_pure (S := []) (by assumption)).1 (off_pure (S := []) (by assumption)).2 ⟨_, by rw [e]; exact rfl⟩
theorem rows_8 : True := by
  (k_with "call ref" => (k_here; (with_reducible show wpAny _ _ (call (Value.ref 76) _) _ _ _); k_dflt ((refine' use1 (attach_wanted_c (by assumption) _ _ (by omega) (by omega)) ?z43k1 ?z43kN ?z43k2 ?z43k3 ?z43k4 ?z43k5 ?_); (case z43k1 => k_asm); (case z43kN => k_asm); (case z43k2 => assumption); (case z43k5 => walk_at "m pre"); (case z43k3 => walk_at "m dep"); (case z43k4 => walk_at "m dep"); intro _ _ _ _ _ _ _ post'; obtain ⟨_, e0⟩ := post'; subst e0; (try dsimp only))))
  trivial


theorem is_ignored_c {w : World} {hb : Heap} (G : Gr w hb) (gd lk : Addr) (g flag : Int) (t : Tok) (h0 : 0 ≤ g) (h7 : g ≤ 7) (hf : flag = 0 ∨ flag = 8) :
    Does w hb 90 [.ref gd, .ref lk, .int g t] 3 [] (fun h => GdefAt w h gd ∧ LookAt h lk flag) (fun _ r _ => r = .bool (decide (flag = 8 ∧ cls g = 3))) := by
  obtain ⟨p, loose, mean, mg, mb, X₀, T₀⟩ := id G
  intro dp un fr gds s Q E hdep hun hs hpre9
  obtain ⟨hg, a, b, c, t2, hl⟩ := hpre9
  intro hQ
  refine' enter0 [(Str.ofString "glyph", .int g t), (Str.ofString "lookup", .ref lk), (Str.ofString "gdef", .ref gd)] ?k1 ?k2 ?k3 ?k6 ?k7 ?k8 ?k9 ?kB ?kk ?c2 ?c3 ?c4 ?c5
  (case k1 => assumption)
  (case k2 => assumption)
  (case k3 => assumption)
  (case k6 => k_is)
  (case k7 => k_is)
  (case k8 => first | exact room0 (by assumption) | exact room1 (by assumption) | (simp only [recursionLimit]; omega))
  (case k9 => exact BindsTo.of_eq rfl)
  (case kB => exact locs rfl)
  (case c5 => decide)
  (case c2 => exact rfl)
  (case c3 => exact rfl)
  (case c4 => exact rfl)
  intro L' h' tk' F' N' X' T'
  clear X₀ T₀
  walk_at "m body"
  have hc : cls g = 0 ∨ cls g = 1 ∨ cls g = 3 := by
    unfold cls
    split
    · simp
    · split <;> simp
  have hg2 := hg
  obtain ⟨cd, d, kvs, a1, b1, c1, e1, hx1, -, -, -⟩ := hg2
  rcases hf with rfl | rfl <;> rcases hc with hc | hc | hc
  all_goals walk_at "m go2"
  all_goals (exact hQ _ _ _ (off_pure (S := []) (by assumption)).1 (off_pure (S := []) (by assumption)).2 (by simp [hc]; rfl))
end S_Flags

theorem rows_9 : True := by
  (k_with "call ref" => (k_here; (with_reducible show wpAny _ _ (call (Value.ref 692) _) _ _ _); k_dflt ((refine' use1 (class_of_c (by assumption) _ _ _ _ _ (by assumption) (by assumption) (by assumption)) ?z44k1 ?z44kN ?z44k2 ?z44k3 ?z44k4 ?z44k5 ?_); (case z44k1 => k_asm); (case z44kN => k_asm); (case z44k2 => assumption); (case z44k5 => walk_at "m pre"); (case z44k3 => walk_at "m dep"); (case z44k4 => walk_at "m dep"); intro _ _ _ _ _ _ _ post'; obtain ⟨_, e0⟩ := post'; subst e0; (try dsimp only))))
  (k_with "call ref" => (k_here; (with_reducible show wpAny _ _ (call (Value.ref 740) _) _ _ _); k_dflt ((refine' use1 (glyph_class_c (by assumption) _ _ _ (by assumption) (by assumption) (by assumption)) ?z45k1 ?z45kN ?z45k2 ?z45k3 ?z45k4 ?z45k5 ?_); (case z45k1 => k_asm); (case z45kN => k_asm); (case z45k2 => assumption); (case z45k5 => walk_at "m pre"); (case z45k3 => walk_at "m dep"); (case z45k4 => walk_at "m dep"); intro _ _ _ _ _ _ _ post'; obtain ⟨_, e0⟩ := post'; subst e0; (try dsimp only))))
  (k_with "call ref" => (k_here; (with_reducible show wpAny _ _ (call (Value.ref 83) _) _ _ _); k_dflt ((refine' use1 (class_bit_0 (by assumption) _) ?z46k1 ?z46kN ?z46k2 ?z46k3 ?z46k4 ?z46k5 ?_); (case z46k1 => k_asm); (case z46kN => k_asm); (case z46k2 => assumption); (case z46k5 => walk_at "m pre"); (case z46k3 => walk_at "m dep"); (case z46k4 => walk_at "m dep"); intro _ _ _ _ _ _ _ post'; obtain ⟨_, e0⟩ := post'; subst e0; (try dsimp only))))
  (k_with "call ref" => (k_here; (with_reducible show wpAny _ _ (call (Value.ref 83) _) _ _ _); k_dflt ((refine' use1 (class_bit_1 (by assumption) _) ?z47k1 ?z47kN ?z47k2 ?z47k3 ?z47k4 ?z47k5 ?_); (case z47k1 => k_asm); (case z47kN => k_asm); (case z47k2 => assumption); (case z47k5 => walk_at "m pre"); (case z47k3 => walk_at "m dep"); (case z47k4 => walk_at "m dep"); intro _ _ _ _ _ _ _ post'; obtain ⟨_, e0⟩ := post'; subst e0; (try dsimp only))))
  (k_with "call ref" => (k_here; (with_reducible show wpAny _ _ (call (Value.ref 83) _) _ _ _); k_dflt ((refine' use1 (class_bit_3 (by assumption) _) ?z48k1 ?z48kN ?z48k2 ?z48k3 ?z48k4 ?z48k5 ?_); (case z48k1 => k_asm); (case z48kN => k_asm); (case z48k2 => assumption); (case z48k5 => walk_at "m pre"); (case z48k3 => walk_at "m dep"); (case z48k4 => walk_at "m dep"); intro _ _ _ _ _ _ _ post'; obtain ⟨_, e0⟩ := post'; subst e0; (try dsimp only))))
  (k_with "call ref" => (k_here; (with_reducible show wpAny _ _ (call (Value.ref 76) _) _ _ _); k_dflt ((refine' use1 (attach_wanted_c (by assumption) _ _ (by omega) (by omega)) ?z49k1 ?z49kN ?z49k2 ?z49k3 ?z49k4 ?z49k5 ?_); (case z49k1 => k_asm); (case z49kN => k_asm); (case z49k2 => assumption); (case z49k5 => walk_at "m pre"); (case z49k3 => walk_at "m dep"); (case z49k4 => walk_at "m dep"); intro _ _ _ _ _ _ _ post'; obtain ⟨_, e0⟩ := post'; subst e0; (try dsimp only))))
  (k_with "call ref" => (k_here; (with_reducible show wpAny _ _ (call (Value.ref 90) _) _ _ _); k_dflt ((refine' use1 (is_ignored_c (by assumption) _ _ _ _ _ (by assumption) (by assumption) (by assumption)) ?z50k1 ?z50kN ?z50k2 ?z50k3 ?z50k4 ?z50k5 ?_); (case z50k1 => k_asm); (case z50kN => k_asm); (case z50k2 => assumption); (case z50k5 => walk_at "m pre"); (case z50k3 => walk_at "m dep"); (case z50k4 => walk_at "m dep"); intro _ _ _ _ _ _ _ post'; subst post'; (try dsimp only))))
  trivial

section S_Scene
theorem rows_10 : True := by
  (k_with "call ref" => (k_here; (with_reducible show wpAny _ _ (call (Value.ref 90) _) _ _ _); k_dflt ((refine' use1 (is_ignored_c (by assumption) _ _ _ _ _ (by assumption) (by assumption) (by assumption)) ?z51k1 ?z51kN ?z51k2 ?z51k3 ?z51k4 ?z51k5 ?_); (case z51k1 => k_asm); (case z51kN => k_asm); (case z51k2 => assumption); (case z51k5 => walk_at "m pre"); (case z51k3 => walk_at "m dep"); (case z51k4 => walk_at "m dep"); intro _ _ _ _ _ _ _ post'; subst post'; (try dsimp only))))
  trivial

theorem passes_c {w : World} {hb : Heap} (G : Gr w hb) (sc gd buf row lk : Addr) (flag : Int) (at_ : Int) (t : Tok) (vs : List Value) (x dx : Addr) (r : Rec) (hf : flag = 0 ∨ flag = 8) (h0 : 0 ≤ at_) (h1 : at_ < 6) (hg0 : 0 ≤ r.glyph) (hg7 : r.glyph ≤ 7) (hx : vs[at_.toNat]? = some (.ref x)) :
    Does w hb 97 [.ref sc, .int at_ t] 4 [] (fun h => SceneAt w h sc gd buf row lk flag ∧ IsL h row vs ∧ InfoAt h x dx r) (fun _ q _ => q = .bool (decide (flag = 8 ∧ cls r.glyph = 3))) := by
  obtain ⟨p, loose, mean, mg, mb, X₀, T₀⟩ := id G
  intro dp un fr gds s Q E hdep hun hs hpre9
  obtain ⟨hsc, hl, hi⟩ := hpre9
  intro hQ
  have hsc2 := hsc
  obtain ⟨v1, v2, v3, v4, v5, v6, v7, s1, s2, s3, s4⟩ := hsc2
  obtain ⟨ti, hi⟩ := hi
  have hi2 := hi.has
  refine' enter0 [(Str.ofString "at", .int at_ t), (Str.ofString "scene", .ref sc)] ?k1 ?k2 ?k3 ?k6 ?k7 ?k8 ?k9 ?kB ?kk ?c2 ?c3 ?c4 ?c5
  (case k1 => assumption)
  (case k2 => assumption)
  (case k3 => assumption)
  (case k6 => k_is)
  (case k7 => k_is)
  (case k8 => first | exact room0 (by assumption) | exact room1 (by assumption) | (simp only [recursionLimit]; omega))
  (case k9 => exact BindsTo.of_eq rfl)
  (case kB => exact locs rfl)
  (case c5 => decide)
  (case c2 => exact rfl)
  (case c3 => exact rfl)
  (case c4 => exact rfl)
  intro L' h' tk' F' N' X' T'
  clear X₀ T₀
  walk_at "m body"
  walk_at "m go2"
  exact hQ _ _ _ (off_pure (S := []) (by assumption)).1 (off_pure (S := []) (by assumption)).2 rfl
theorem rows_11 : True := by
  (k_with "call ref" => (k_here; (with_reducible show wpAny _ _ (call (Value.ref 97) _) _ _ _); k_dflt ((refine' use1 (passes_c (by assumption) _ _ _ _ _ _ _ _ _ _ _ _ (by assumption) (by omega) (by omega) (by assumption) (by assumption) (by assumption)) ?z52k1 ?z52kN ?z52k2 ?z52k3 ?z52k4 ?z52k5 ?_); (case z52k1 => k_asm); (case z52kN => k_asm); (case z52k2 => assumption); (case z52k5 => walk_at "m pre"); (case z52k3 => walk_at "m dep"); (case z52k4 => walk_at "m dep"); intro _ _ _ _ _ _ _ post'; subst post'; (try dsimp only))))
  trivial

theorem notin_kinds {prog : Program} {w : World} {A : Around} {E : Value → Shared → Prop} {s : Shared} {h₀ : Heap} {L : Addr} {m : Str → Option Value} {t : Tok} {Q : Value → Shared → Prop} (F : Fr h₀ L s.heap m) (X : (frag w.params).In h₀) (h : Q (.bool true) s) :
    wpAny (model prog w) A (compareOp .NotIn (.str (Str.ofString "") t) (.ref 199)) Q E s := by
  have e : s.heap.get? 199 = some ⟨.type "tuple", none, .seq #[.str (Str.ofString "zwj") 470, .str (Str.ofString "zwnj") 471, .str (Str.ofString "hidden") 472] 0, #[]⟩ := F.keep _ _ (X _ _ (by first | k_is | rfl))
  refine PySem.SeqAt.notIn_tupleAt (fun _ => false) ⟨_, e, rfl, _, rfl⟩ (fun y hy => ?_) (by simpa using h)
  have hy' : y = .str (Str.ofString "zwj") 470 ∨ y = .str (Str.ofString "zwnj") 471 ∨ y = .str (Str.ofString "hidden") 472 := by simpa using hy
  rcases hy' with rfl | rfl | rfl <;> exact fun prog w E Q hq => wpAny_eqBool_str (by rw [decide_eq_false (by decide +kernel)]; exact hq)
theorem rows_12 : True := by
  (k_with "compareOp NotIn str ref" => (k_here; k_dflt ((refine' notin_kinds ?z53k1 ?z53k2 ?_); (case z53k1 => k_asm); (case z53k2 => k_asm))))
  trivial

def nb (flag : Int) (rs : List Rec) : Nat → Int
  | 0 => -1
  | i + 1 => if flag = 8 ∧ (rs[i]?.map fun r => cls r.glyph) = some 3 then nb flag rs i else i
def Glyphs (rs : List Rec) : Prop := ∀ (i : Nat) (r : Rec), rs[i]? = some r → 0 ≤ r.glyph ∧ r.glyph ≤ 7
theorem RowAt.item {h : Heap} {row : Addr} {xs : List (Addr × Addr)} {rs : List Rec} (R : RowAt h row xs rs) {k : Int} (h0 : 0 ≤ k) (h1 : k < xs.length) :
    Ex3 fun x dx r => An4 ((xs.map fun x => Value.ref x.1)[k.toNat]? = some (.ref x)) (xs[k.toNat]? = some (x, dx)) (rs[k.toNat]? = some r) (InfoAt h x dx r) := by
  have h2 : k.toNat < xs.length := by omega
  have h3 : k.toNat < rs.length := by rw [← R.len]; exact h2
  refine ⟨(xs[k.toNat]).1, (xs[k.toNat]).2, rs[k.toNat], by simp [h2], by simp [h2], by simp [h3], ?_⟩
  exact R.at_ k.toNat _ _ (by simp [h2]) (by simp [h3])
theorem neighbour_c {w : World} {hb : Heap} (G : Gr w hb) (sc gd buf row lk : Addr) (flag : Int) (at_ : Int) (t t9 : Tok) (xs : List (Addr × Addr)) (rs : List Rec) (hf : flag = 0 ∨ flag = 8) (h0 : 0 ≤ at_) (h1 : at_ ≤ xs.length) (hgl : Glyphs rs) :
    Does w hb 213 [.ref sc, .int at_ t, .int (-1) t9] 5 [] (fun h => SceneAt w h sc gd buf row lk flag ∧ RowAt h row xs rs) (fun _ q _ => ∃ t0, q = .int (nb flag rs at_.toNat) t0) := by
  obtain ⟨p, loose, mean, mg, mb, X₀, T₀⟩ := id G
  intro dp un fr gds s Q E hdep hun hs hpre9
  obtain ⟨hsc, hR⟩ := hpre9
  intro hQ
  have hsc2 := hsc
  obtain ⟨v1, v2, v3, v4, v5, v6, v7, s1, s2, s3, s4⟩ := hsc2
  have hl := hR.lst
  have hn6 := hR.few
  refine' enter0 [(Str.ofString "step", .int (-1) t9), (Str.ofString "at", .int at_ t), (Str.ofString "scene", .ref sc)] ?k1 ?k2 ?k3 ?k6 ?k7 ?k8 ?k9 ?kB ?kk ?c2 ?c3 ?c4 ?c5
  (case k1 => assumption)
  (case k2 => assumption)
  (case k3 => assumption)
  (case k6 => k_is)
  (case k7 => k_is)
  (case k8 => first | exact room0 (by assumption) | exact room1 (by assumption) | (simp only [recursionLimit]; omega))
  (case k9 => exact BindsTo.of_eq rfl)
  (case kB => exact locs rfl)
  (case c5 => decide)
  (case c2 => exact rfl)
  (case c3 => exact rfl)
  (case c4 => exact rfl)
  intro L' h' tk' F' N' X' T'
  clear X₀ T₀
  walk_at "m body"
  refine cut (fun s' => Bx (∃ t2, Stands s s.heap L' (mapL [(Str.ofString "here", .int (at_ - 1) t2), (Str.ofString "step", .int (-1) t9), (Str.ofString "at", .int at_ t), (Str.ofString "scene", .ref sc)]) [] s')) ?_ ?_
  · walk_at "m go2"
    exact ⟨⟨_, stands (Mine.Fr.put (by assumption)) (by assumption)⟩⟩
  clear F' N'
  rintro _ ⟨⟨t2, h1', tk1, rfl, F', N'⟩⟩
  refine cut (fun s' => Bx (nb flag rs at_.toNat = -1 ∧ ∃ m, Stands s s.heap L' m [] s')) ?_ ?_
  · refine PyProof.Rows.While_inv2 (fun n m news => news = [] ∧ ∃ (here : Int) (t2 : Tok), m = mapL [(Str.ofString "here", .int here t2), (Str.ofString "step", .int (-1) t9), (Str.ofString "at", .int at_ t), (Str.ofString "scene", .ref sc)] ∧ -1 ≤ here ∧ here < at_ ∧ n = (here + 1).toNat ∧ nb flag rs at_.toNat = nb flag rs (here + 1).toNat) F' N' ⟨rfl, at_ - 1, t2, rfl, by omega, by omega, rfl, by congr 1; omega⟩ ?_ (fun _ _ h => h.elim)
    rintro n m news h2 tk2 F2 N2 ⟨rfl, here, t3, rfl, a1, a2, rfl, a4⟩
    by_cases hh : here = -1
    · subst hh
      clear F' N'
      walk_at "m go2"
      exact ⟨⟨a4, _, stands (by assumption) (by assumption)⟩⟩
    · obtain ⟨x, dx, r, hx1, hx2, hx3, hx4⟩ := hR.item (k := here) (by omega) (by omega)
      obtain ⟨g0, g7⟩ := hgl _ _ hx3
      obtain ⟨ti, hi⟩ := id hx4
      have hi2 := hi.has
      have hnx : nb flag rs (here + 1).toNat = if flag = 8 ∧ cls r.glyph = 3 then nb flag rs here.toNat else here := by
        rw [show (here + 1).toNat = here.toNat + 1 by omega, nb, hx3]
        simp only [Option.map_some, Option.some.injEq]
        split
        · rfl
        · omega
      clear F' N'
      by_cases hcl : flag = 8 ∧ cls r.glyph = 3
      · rw [if_pos hcl] at hnx
        walk_at "m go2"
        · have ez : nb flag rs at_.toNat = nb flag rs (here + -1 + 1).toNat := by
            rw [a4, hnx]
            congr 1
            omega
          exact ⟨_, _, _, _, (here + -1 + 1).toNat, rfl, Mine.Fr.re (by assumption), by assumption, by omega, rfl, here + -1, _, rfl, by omega, by omega, rfl, ez⟩
        · exfalso; simp only [List.length_map] at *; omega
      · rw [if_neg hcl] at hnx
        walk_at "m go2"
        · show Q (retOf (Flow.ret (Value.int here t3))) _
          have ez : nb flag rs at_.toNat = here := by rw [a4, hnx]
          exact hQ _ _ _ (off_pure (S := []) (by assumption)).1 (off_pure (S := []) (by assumption)).2 ⟨t3, by rw [ez]; exact rfl⟩
        · exfalso; simp only [List.length_map] at *; omega
  rintro _ ⟨⟨hnb, m5, h5, tk5, rfl, F5, N5⟩⟩
  clear F' N'
  walk_at "m go2"
  exact hQ _ _ _ (off_pure (S := []) (by assumption)).1 (off_pure (S := []) (by assumption)).2 ⟨_, by rw [hnb]; exact rfl⟩
end S_Scene

theorem rows_13 : True := by
  (k_with "call ref" => (k_here; (with_reducible show wpAny _ _ (call (Value.ref 97) _) _ _ _); k_dflt ((refine' use1 (passes_c (by assumption) _ _ _ _ _ _ _ _ _ _ _ _ (by assumption) (by omega) (by omega) (by assumption) (by assumption) (by assumption)) ?z54k1 ?z54kN ?z54k2 ?z54k3 ?z54k4 ?z54k5 ?_); (case z54k1 => k_asm); (case z54kN => k_asm); (case z54k2 => assumption); (case z54k5 => walk_at "m pre"); (case z54k3 => walk_at "m dep"); (case z54k4 => walk_at "m dep"); intro _ _ _ _ _ _ _ post'; subst post'; (try dsimp only))))
  (k_with "call ref" => (k_here; (with_reducible show wpAny _ _ (call (Value.ref 213) _) _ _ _); k_dflt ((refine' use1 (neighbour_c (by assumption) _ _ _ _ _ _ _ _ _ _ _ (by assumption) (by assumption) (by assumption) (by assumption)) ?z55k1 ?z55kN ?z55k2 ?z55k3 ?z55k4 ?z55k5 ?_); (case z55k1 => k_asm); (case z55kN => k_asm); (case z55k2 => assumption); (case z55k5 => walk_at "m pre"); (case z55k3 => walk_at "m dep"); (case z55k4 => walk_at "m dep"); intro _ _ _ _ _ _ _ post'; obtain ⟨_, e0⟩ := post'; subst e0; (try dsimp only))))
  trivial

section S_News
inductive Made (h h' : Heap) (r : Value) (C : Addr) (fs : List (Str × Value)) : Prop where
  | mk (x dx : Addr) (e0 : r = .ref x) (e1 : h.get? x = none) (e2 : h.get? dx = none) (e3 : @LT.lt Nat _ dx x) (e4 : HasD h' x dx C fs) : Made h h' r C fs
theorem made_of {g h h' : Heap} {L : Addr} {x dx C : Addr} {es : List DictEntry} {n : Nat} {fs : List (Str × Value)} {news : Led} (fx : h.get? x = none) (fd : h.get? dx = none) (l : @LT.lt Nat _ dx x) (N : News g L h' ((x, instObj C dx) :: (dx, dictOf es n) :: news)) (Nm : Named es fs) : Made h h' (.ref x) C fs :=
  ⟨x, dx, rfl, fx, fd, l, (N _ (.head _)).1, es, n, (N _ (.tail _ (.head _))).1, Nm⟩
theorem made_mem {g h h' : Heap} {L : Addr} {x dx C : Addr} {es : List DictEntry} {n : Nat} {fs : List (Str × Value)} {news : Led} (fx : h.get? x = none) (fd : h.get? dx = none) (l : @LT.lt Nat _ dx x) (N : News g L h' news) (m1 : (x, instObj C dx) ∈ news) (m2 : (dx, dictOf es n) ∈ news) (Nm : Named es fs) : Made h h' (.ref x) C fs :=
  ⟨x, dx, rfl, fx, fd, l, (N _ m1).1, es, n, (N _ m2).1, Nm⟩
theorem new_anchor {w : World} {hb : Heap} (G : Gr w hb) (v1 v2 : Value) :
    Does w hb 342 [v1, v2] 3 [] (fun _ => True) (fun h r h' => Made h h' r 342 [(Str.ofString "x", v1), (Str.ofString "y", v2)]) := by
  obtain ⟨p, loose, mean, mg, mb, X₀, T₀⟩ := id G
  intro dp un fr gds s Q E hdep hun hs _ hQ
  refine' enterNew (fun x => [(Str.ofString "y", v2), (Str.ofString "x", v1), (Str.ofString "self", .ref x)]) ?k1 ?k2 ?k3 ?k4 ?k5 ?k5b ?k6 ?k7 ?k8 ?k9 ?kB ?kk ?c2 ?c3 ?c4 ?c5
  (case k1 => assumption)
  (case k2 => assumption)
  (case k3 => assumption)
  (case k4 => k_is)
  (case k5 => k_is)
  (case k5b => k_is)
  (case k6 => k_is)
  (case k7 => k_is)
  (case k8 => first | exact room0 (by assumption) | exact room1 (by assumption) | (simp only [recursionLimit]; omega))
  (case k9 => intro x s' X9; first | exact BindsTo.of_eq rfl | exact binds_K X9 rfl (by k_is) rfl rfl rfl)
  (case kB => intro x; exact locs rfl)
  (case c5 => decide)
  (case c2 => exact rfl)
  (case c3 => exact rfl)
  (case c4 => exact rfl)
  intro x dx L' h' tk' fx fdx l1 F' N' X' T'
  clear X₀ T₀
  walk_at "m body"
  walk_at "m go2"
  exact hQ _ _ _ (off_pure (S := []) (by assumption)).1 (off_pure (S := []) (by assumption)).2 (made_of fx fdx l1 (by assumption) (by repeat constructor))
theorem new_lookup {w : World} {hb : Heap} (G : Gr w hb) (v1 v2 v3 v4 : Value) :
    Does w hb 43 [v1, v2, v3, v4] 3 [] (fun _ => True) (fun h r h' => Made h h' r 43 [(Str.ofString "kind", v1), (Str.ofString "flag", v2), (Str.ofString "mark_set", v3), (Str.ofString "tables", v4)]) := by
  obtain ⟨p, loose, mean, mg, mb, X₀, T₀⟩ := id G
  intro dp un fr gds s Q E hdep hun hs _ hQ
  refine' enterNew (fun x => [(Str.ofString "tables", v4), (Str.ofString "mark_set", v3), (Str.ofString "flag", v2), (Str.ofString "kind", v1), (Str.ofString "self", .ref x)]) ?k1 ?k2 ?k3 ?k4 ?k5 ?k5b ?k6 ?k7 ?k8 ?k9 ?kB ?kk ?c2 ?c3 ?c4 ?c5
  (case k1 => assumption)
  (case k2 => assumption)
  (case k3 => assumption)
  (case k4 => k_is)
  (case k5 => k_is)
  (case k5b => k_is)
  (case k6 => k_is)
  (case k7 => k_is)
  (case k8 => first | exact room0 (by assumption) | exact room1 (by assumption) | (simp only [recursionLimit]; omega))
  (case k9 => intro x s' X9; first | exact BindsTo.of_eq rfl | exact binds_K X9 rfl (by k_is) rfl rfl rfl)
  (case kB => intro x; exact locs rfl)
  (case c5 => decide)
  (case c2 => exact rfl)
  (case c3 => exact rfl)
  (case c4 => exact rfl)
  intro x dx L' h' tk' fx fdx l1 F' N' X' T'
  clear X₀ T₀
  walk_at "m body"
  walk_at "m go2"
  exact hQ _ _ _ (off_pure (S := []) (by assumption)).1 (off_pure (S := []) (by assumption)).2 (made_of fx fdx l1 (by assumption) (by repeat constructor))
theorem new_base {w : World} {hb : Heap} (G : Gr w hb) (v1 v2 : Value) :
    Does w hb 411 [v1, v2] 3 [] (fun _ => True) (fun h r h' => Made h h' r 411 [(Str.ofString "marks", v1), (Str.ofString "bases", v2)]) := by
  obtain ⟨p, loose, mean, mg, mb, X₀, T₀⟩ := id G
  intro dp un fr gds s Q E hdep hun hs _ hQ
  refine' enterNew (fun x => [(Str.ofString "bases", v2), (Str.ofString "marks", v1), (Str.ofString "self", .ref x)]) ?k1 ?k2 ?k3 ?k4 ?k5 ?k5b ?k6 ?k7 ?k8 ?k9 ?kB ?kk ?c2 ?c3 ?c4 ?c5
  (case k1 => assumption)
  (case k2 => assumption)
  (case k3 => assumption)
  (case k4 => k_is)
  (case k5 => k_is)
  (case k5b => k_is)
  (case k6 => k_is)
  (case k7 => k_is)
  (case k8 => first | exact room0 (by assumption) | exact room1 (by assumption) | (simp only [recursionLimit]; omega))
  (case k9 => intro x s' X9; first | exact BindsTo.of_eq rfl | exact binds_K X9 rfl (by k_is) rfl rfl rfl)
  (case kB => intro x; exact locs rfl)
  (case c5 => decide)
  (case c2 => exact rfl)
  (case c3 => exact rfl)
  (case c4 => exact rfl)
  intro x dx L' h' tk' fx fdx l1 F' N' X' T'
  clear X₀ T₀
  walk_at "m body"
  walk_at "m go2"
  exact hQ _ _ _ (off_pure (S := []) (by assumption)).1 (off_pure (S := []) (by assumption)).2 (made_of fx fdx l1 (by assumption) (by repeat constructor))
theorem new_comp {w : World} {hb : Heap} (G : Gr w hb) (v1 v2 : Value) :
    Does w hb 437 [v1, v2] 3 [] (fun _ => True) (fun h r h' => Made h h' r 437 [(Str.ofString "marks", v1), (Str.ofString "ligatures", v2)]) := by
  obtain ⟨p, loose, mean, mg, mb, X₀, T₀⟩ := id G
  intro dp un fr gds s Q E hdep hun hs _ hQ
  refine' enterNew (fun x => [(Str.ofString "ligatures", v2), (Str.ofString "marks", v1), (Str.ofString "self", .ref x)]) ?k1 ?k2 ?k3 ?k4 ?k5 ?k5b ?k6 ?k7 ?k8 ?k9 ?kB ?kk ?c2 ?c3 ?c4 ?c5
  (case k1 => assumption)
  (case k2 => assumption)
  (case k3 => assumption)
  (case k4 => k_is)
  (case k5 => k_is)
  (case k5b => k_is)
  (case k6 => k_is)
  (case k7 => k_is)
  (case k8 => first | exact room0 (by assumption) | exact room1 (by assumption) | (simp only [recursionLimit]; omega))
  (case k9 => intro x s' X9; first | exact BindsTo.of_eq rfl | exact binds_K X9 rfl (by k_is) rfl rfl rfl)
  (case kB => intro x; exact locs rfl)
  (case c5 => decide)
  (case c2 => exact rfl)
  (case c3 => exact rfl)
  (case c4 => exact rfl)
  intro x dx L' h' tk' fx fdx l1 F' N' X' T'
  clear X₀ T₀
  walk_at "m body"
  walk_at "m go2"
  exact hQ _ _ _ (off_pure (S := []) (by assumption)).1 (off_pure (S := []) (by assumption)).2 (made_of fx fdx l1 (by assumption) (by repeat constructor))
theorem new_mark {w : World} {hb : Heap} (G : Gr w hb) (v1 v2 : Value) :
    Does w hb 465 [v1, v2] 3 [] (fun _ => True) (fun h r h' => Made h h' r 465 [(Str.ofString "marks", v1), (Str.ofString "others", v2)]) := by
  obtain ⟨p, loose, mean, mg, mb, X₀, T₀⟩ := id G
  intro dp un fr gds s Q E hdep hun hs _ hQ
  refine' enterNew (fun x => [(Str.ofString "others", v2), (Str.ofString "marks", v1), (Str.ofString "self", .ref x)]) ?k1 ?k2 ?k3 ?k4 ?k5 ?k5b ?k6 ?k7 ?k8 ?k9 ?kB ?kk ?c2 ?c3 ?c4 ?c5
  (case k1 => assumption)
  (case k2 => assumption)
  (case k3 => assumption)
  (case k4 => k_is)
  (case k5 => k_is)
  (case k5b => k_is)
  (case k6 => k_is)
  (case k7 => k_is)
  (case k8 => first | exact room0 (by assumption) | exact room1 (by assumption) | (simp only [recursionLimit]; omega))
  (case k9 => intro x s' X9; first | exact BindsTo.of_eq rfl | exact binds_K X9 rfl (by k_is) rfl rfl rfl)
  (case kB => intro x; exact locs rfl)
  (case c5 => decide)
  (case c2 => exact rfl)
  (case c3 => exact rfl)
  (case c4 => exact rfl)
  intro x dx L' h' tk' fx fdx l1 F' N' X' T'
  clear X₀ T₀
  walk_at "m body"
  walk_at "m go2"
  exact hQ _ _ _ (off_pure (S := []) (by assumption)).1 (off_pure (S := []) (by assumption)).2 (made_of fx fdx l1 (by assumption) (by repeat constructor))
theorem new_cls {w : World} {hb : Heap} (G : Gr w hb) (v1 : Value) :
    Does w hb 714 [v1] 3 [] (fun _ => True) (fun h r h' => Made h h' r 714 [(Str.ofString "classes", v1)]) := by
  obtain ⟨p, loose, mean, mg, mb, X₀, T₀⟩ := id G
  intro dp un fr gds s Q E hdep hun hs _ hQ
  refine' enterNew (fun x => [(Str.ofString "classes", v1), (Str.ofString "self", .ref x)]) ?k1 ?k2 ?k3 ?k4 ?k5 ?k5b ?k6 ?k7 ?k8 ?k9 ?kB ?kk ?c2 ?c3 ?c4 ?c5
  (case k1 => assumption)
  (case k2 => assumption)
  (case k3 => assumption)
  (case k4 => k_is)
  (case k5 => k_is)
  (case k5b => k_is)
  (case k6 => k_is)
  (case k7 => k_is)
  (case k8 => first | exact room0 (by assumption) | exact room1 (by assumption) | (simp only [recursionLimit]; omega))
  (case k9 => intro x s' X9; first | exact BindsTo.of_eq rfl | exact binds_K X9 rfl (by k_is) rfl rfl rfl)
  (case kB => intro x; exact locs rfl)
  (case c5 => decide)
  (case c2 => exact rfl)
  (case c3 => exact rfl)
  (case c4 => exact rfl)
  intro x dx L' h' tk' fx fdx l1 F' N' X' T'
  clear X₀ T₀
  walk_at "m body"
  walk_at "m go2"
  exact hQ _ _ _ (off_pure (S := []) (by assumption)).1 (off_pure (S := []) (by assumption)).2 (made_of fx fdx l1 (by assumption) (by repeat constructor))
def rec0 (g c : Int) : Rec := ⟨g, c, 0, false, 0, 0, 0, 0, 0, 0, Str.ofString ""⟩
theorem made_info {h h' : Heap} {v : Value} {r : Rec} {t0 t1 t2 t3 t5 t6 t7 t8 t9 t10 t11 t12 t13 t14 t15 : Tok} (H : Made h h' v 135 [(Str.ofString "code", .int 65 t0), (Str.ofString "glyph", .int r.glyph t1), (Str.ofString "cluster", .int r.cluster t2), (Str.ofString "mask", .int r.mask t3), (Str.ofString "is_unsafe", .bool r.uns), (Str.ofString "lig_id", .int r.lig_id t5), (Str.ofString "lig_part", .int r.lig_part t6), (Str.ofString "lig_count", .int 0 t7), (Str.ofString "split_id", .int 0 t8), (Str.ofString "kind", .str (Str.ofString "") t9), (Str.ofString "x_advance", .int r.xa t10), (Str.ofString "y_advance", .int 0 t11), (Str.ofString "x_offset", .int r.xo t12), (Str.ofString "y_offset", .int r.yo t13), (Str.ofString "parent", .int r.parent t14), (Str.ofString "bond", .str r.bond t15)]) : ∃ t, Made h h' v 135 (infoF r t) :=
  ⟨fun i => List.getD [t0, t1, t2, t3, t0, t5, t6, t7, t8, t9, t10, t11, t12, t13, t14, t15] i t0, H⟩
theorem new_info {w : World} {hb : Heap} (G : Gr w hb) (g c : Int) (t0 t1 t2 : Tok) :
    Does w hb 135 [.int 65 t0, .int g t1, .int c t2] 3 [] (fun _ => True) (fun h r h' => ∃ t, Made h h' r 135 (infoF (rec0 g c) t)) := by
  obtain ⟨p, loose, mean, mg, mb, X₀, T₀⟩ := id G
  intro dp un fr gds s Q E hdep hun hs _ hQ
  refine' enterNew (fun x => [(Str.ofString "cluster", .int c t2), (Str.ofString "glyph", .int g t1), (Str.ofString "code", .int 65 t0), (Str.ofString "self", .ref x)]) ?k1 ?k2 ?k3 ?k4 ?k5 ?k5b ?k6 ?k7 ?k8 ?k9 ?kB ?kk ?c2 ?c3 ?c4 ?c5
  (case k1 => assumption)
  (case k2 => assumption)
  (case k3 => assumption)
  (case k4 => k_is)
  (case k5 => k_is)
  (case k5b => k_is)
  (case k6 => k_is)
  (case k7 => k_is)
  (case k8 => first | exact room0 (by assumption) | exact room1 (by assumption) | (simp only [recursionLimit]; omega))
  (case k9 => intro x s' X9; first | exact BindsTo.of_eq rfl | exact binds_K X9 rfl (by k_is) rfl rfl rfl)
  (case kB => intro x; exact locs rfl)
  (case c5 => decide)
  (case c2 => exact rfl)
  (case c3 => exact rfl)
  (case c4 => exact rfl)
  intro x dx L' h' tk' fx fdx l1 F' N' X' T'
  clear X₀ T₀
  walk_at "m body"
  walk_at "m go2"
  exact hQ _ _ _ (off_pure (S := []) (by assumption)).1 (off_pure (S := []) (by assumption)).2 (made_info (r := rec0 g c) (made_of fx fdx l1 (by assumption) (by repeat constructor)))
theorem new_buffer {w : World} {hb : Heap} (G : Gr w hb) (v1 : Value) :
    Does w hb 188 [v1] 3 [] (fun _ => True) (fun h r h' => ∃ v2 v3 v4, Made h h' r 188 [(Str.ofString "row", v1), (Str.ofString "is_backward", v2), (Str.ofString "last_lig", v3), (Str.ofString "last_split", v4)]) := by
  obtain ⟨p, loose, mean, mg, mb, X₀, T₀⟩ := id G
  intro dp un fr gds s Q E hdep hun hs _ hQ
  refine' enterNew (fun x => [(Str.ofString "is_backward", .bool false), (Str.ofString "infos", v1), (Str.ofString "self", .ref x)]) ?k1 ?k2 ?k3 ?k4 ?k5 ?k5b ?k6 ?k7 ?k8 ?k9 ?kB ?kk ?c2 ?c3 ?c4 ?c5
  (case k1 => assumption)
  (case k2 => assumption)
  (case k3 => assumption)
  (case k4 => k_is)
  (case k5 => k_is)
  (case k5b => k_is)
  (case k6 => k_is)
  (case k7 => k_is)
  (case k8 => first | exact room0 (by assumption) | exact room1 (by assumption) | (simp only [recursionLimit]; omega))
  (case k9 => intro x s' X9; first | exact BindsTo.of_eq rfl | exact binds_K X9 rfl (by k_is) rfl rfl rfl)
  (case kB => intro x; exact locs rfl)
  (case c5 => decide)
  (case c2 => exact rfl)
  (case c3 => exact rfl)
  (case c4 => exact rfl)
  intro x dx L' h' tk' fx fdx l1 F' N' X' T'
  clear X₀ T₀
  walk_at "m body"
  walk_at "m go2"
  exact hQ _ _ _ (off_pure (S := []) (by assumption)).1 (off_pure (S := []) (by assumption)).2 ⟨_, _, _, made_of fx fdx l1 (by assumption) (by repeat constructor)⟩
theorem new_scene6 {w : World} {hb : Heap} (G : Gr w hb) (v1 v2 v3 v4 v5 v6 : Value) :
    Does w hb 65 [v1, v2, v3, v4, v5, v6] 3 [] (fun _ => True) (fun h r h' => ∃ v7, Made h h' r 65 [(Str.ofString "buffer", v1), (Str.ofString "gdef", v2), (Str.ofString "lookups", v3), (Str.ofString "lookup", v4), (Str.ofString "mask", v5), (Str.ofString "depth", v6), (Str.ofString "steps", v7)]) := by
  obtain ⟨p, loose, mean, mg, mb, X₀, T₀⟩ := id G
  intro dp un fr gds s Q E hdep hun hs _ hQ
  refine' enterNew (fun x => [(Str.ofString "depth", v6), (Str.ofString "mask", v5), (Str.ofString "lookup", v4), (Str.ofString "lookups", v3), (Str.ofString "gdef", v2), (Str.ofString "buffer", v1), (Str.ofString "self", .ref x)]) ?k1 ?k2 ?k3 ?k4 ?k5 ?k5b ?k6 ?k7 ?k8 ?k9 ?kB ?kk ?c2 ?c3 ?c4 ?c5
  (case k1 => assumption)
  (case k2 => assumption)
  (case k3 => assumption)
  (case k4 => k_is)
  (case k5 => k_is)
  (case k5b => k_is)
  (case k6 => k_is)
  (case k7 => k_is)
  (case k8 => first | exact room0 (by assumption) | exact room1 (by assumption) | (simp only [recursionLimit]; omega))
  (case k9 => intro x s' X9; first | exact BindsTo.of_eq rfl | exact binds_K X9 rfl (by k_is) rfl rfl rfl)
  (case kB => intro x; exact locs rfl)
  (case c5 => decide)
  (case c2 => exact rfl)
  (case c3 => exact rfl)
  (case c4 => exact rfl)
  intro x dx L' h' tk' fx fdx l1 F' N' X' T'
  clear X₀ T₀
  walk_at "m body"
  walk_at "m go2"
  exact hQ _ _ _ (off_pure (S := []) (by assumption)).1 (off_pure (S := []) (by assumption)).2 ⟨_, made_mem fx fdx l1 (by assumption) (by walk_at "m mem") (by walk_at "m mem") (by repeat constructor)⟩
theorem new_gdef {w : World} {hb : Heap} (G : Gr w hb) (v1 v2 v3 : Value) :
    Does w hb 762 [v1, v2, v3] 3 [] (fun _ => True) (fun h r h' => ∃ v4 v5, Made h h' r 762 [(Str.ofString "classes", v1), (Str.ofString "attach", v2), (Str.ofString "sets", v3), (Str.ofString "points", v4), (Str.ofString "carets", v5)]) := by
  obtain ⟨p, loose, mean, mg, mb, X₀, T₀⟩ := id G
  intro dp un fr gds s Q E hdep hun hs _ hQ
  refine' enterNew (fun x => [(Str.ofString "carets", .none), (Str.ofString "points", .none), (Str.ofString "sets", v3), (Str.ofString "attach", v2), (Str.ofString "classes", v1), (Str.ofString "self", .ref x)]) ?k1 ?k2 ?k3 ?k4 ?k5 ?k5b ?k6 ?k7 ?k8 ?k9 ?kB ?kk ?c2 ?c3 ?c4 ?c5
  (case k1 => assumption)
  (case k2 => assumption)
  (case k3 => assumption)
  (case k4 => k_is)
  (case k5 => k_is)
  (case k5b => k_is)
  (case k6 => k_is)
  (case k7 => k_is)
  (case k8 => first | exact room0 (by assumption) | exact room1 (by assumption) | (simp only [recursionLimit]; omega))
  (case k9 => intro x s' X9; first | exact BindsTo.of_eq rfl | exact binds_K X9 rfl (by k_is) rfl rfl rfl)
  (case kB => intro x; exact locs rfl)
  (case c5 => decide)
  (case c2 => exact rfl)
  (case c3 => exact rfl)
  (case c4 => exact rfl)
  intro x dx L' h' tk' fx fdx l1 F' N' X' T'
  clear X₀ T₀
  walk_at "m body"
  walk_at "m go2"
  exact hQ _ _ _ (off_pure (S := []) (by assumption)).1 (off_pure (S := []) (by assumption)).2 ⟨_, _, made_mem fx fdx l1 (by assumption) (by walk_at "m mem") (by walk_at "m mem") (by repeat constructor)⟩
theorem made_grow {g h h' : Heap} {L : Addr} {m : Str → Option Value} {news : Led} {C : Addr} {fs : List (Str × Value)} {r : Value} (F : Fr g L h m) (N : News g L h' news) (M : Made h h' r C fs) :
    Ex4 fun x dx es n => An6 (r = .ref x) (@LT.lt Nat _ dx x) (h.get? x = none) (h.get? dx = none) (Named es fs) (News g L h' ((x, instObj C dx) :: (dx, dictOf es n) :: news)) := by
  obtain ⟨x, dx, rfl, a, b, c, d, es, n, e, f⟩ := M
  refine ⟨x, dx, es, n, rfl, c, a, b, f, grow (led := [(x, instObj C dx), (dx, dictOf es n)]) F N fun p hp => ?_⟩
  rcases List.mem_cons.mp hp with rfl | hp
  · exact ⟨a, d⟩
  · rcases List.mem_cons.mp hp with rfl | hp
    · exact ⟨b, e⟩
    · nomatch hp
theorem born_of {h h' : Heap} {L : Addr} {led : Led} {P : Heap → Prop} (N : News h L h' led) (p : ∀ h2, (∀ p ∈ led, h2.get? p.1 = some p.2) → P h2) : Born h h' P := ⟨led, fun q hq => ⟨(N q hq).2.2, (N q hq).1⟩, p⟩
theorem has_led {h : Heap} {led : Led} {x dx C : Addr} {es : List DictEntry} {n : Nat} {fs : List (Str × Value)} (hin : ∀ p ∈ led, h.get? p.1 = some p.2) (m1 : (x, instObj C dx) ∈ led) (m2 : (dx, dictOf es n) ∈ led) (Nm : Named es fs) : Has h x C fs := ⟨dx, hin _ m1, es, n, hin _ m2, Nm⟩
end S_News

theorem rows_14 : True := by
  (k_with "call ref" => (k_here; (with_reducible show wpAny _ _ (call (Value.ref 43) _) _ _ _); k_dflt ((refine' use1 (new_lookup (by assumption) _ _ _ _) ?z56k1 ?z56kN ?z56k2 ?z56k3 ?z56k4 ?z56k5 ?_); (case z56k1 => k_asm); (case z56kN => k_asm); (case z56k2 => assumption); (case z56k5 => walk_at "m pre"); (case z56k3 => walk_at "m dep"); (case z56k4 => walk_at "m dep"); intro _ _ _ _ N' _ _ post'; obtain ⟨x9, dx9, es9, n9, e0, lt9, fx9, fdx9, nm9, N9⟩ := made_grow (by assumption) N' post'; clear N'; subst e0; (try dsimp only); revert post' x9 dx9 es9 n9 lt9 fx9 fdx9 nm9 N9; intros)))
  (k_with "call ref" => (k_here; (with_reducible show wpAny _ _ (call (Value.ref 65) _) _ _ _); k_dflt ((refine' use1 (new_scene6 (by assumption) _ _ _ _ _ _) ?z57k1 ?z57kN ?z57k2 ?z57k3 ?z57k4 ?z57k5 ?_); (case z57k1 => k_asm); (case z57kN => k_asm); (case z57k2 => assumption); (case z57k5 => walk_at "m pre"); (case z57k3 => walk_at "m dep"); (case z57k4 => walk_at "m dep"); intro _ _ _ _ N' _ _ post'; obtain ⟨_, post'⟩ := post'; obtain ⟨x9, dx9, es9, n9, e0, lt9, fx9, fdx9, nm9, N9⟩ := made_grow (by assumption) N' post'; clear N'; subst e0; (try dsimp only); revert post' x9 dx9 es9 n9 lt9 fx9 fdx9 nm9 N9; intros)))
  trivial

section S_Reads
theorem boolv {a b : Bool} (h : a = true ↔ b = true) : Value.bool a = Value.bool b := by cases a <;> cases b <;> simp_all
theorem before_at_c {w : World} {hb : Heap} (G : Gr w hb) (sc gd buf row lk : Addr) (flag : Int) (at_ : Int) (t : Tok) (xs : List (Addr × Addr)) (rs : List Rec) (hf : flag = 0 ∨ flag = 8) (h0 : 0 ≤ at_) (h1 : at_ ≤ xs.length) (hgl : Glyphs rs) :
    Does w hb 227 [.ref sc, .int at_ t] 6 [] (fun h => SceneAt w h sc gd buf row lk flag ∧ RowAt h row xs rs) (fun _ q _ => ∃ t0, q = .int (nb flag rs at_.toNat) t0) := by
  obtain ⟨p, loose, mean, mg, mb, X₀, T₀⟩ := id G
  intro dp un fr gds s Q E hdep hun hs hpre9
  obtain ⟨hsc, hR⟩ := hpre9
  intro hQ
  refine' enter0 [(Str.ofString "at", .int at_ t), (Str.ofString "scene", .ref sc)] ?k1 ?k2 ?k3 ?k6 ?k7 ?k8 ?k9 ?kB ?kk ?c2 ?c3 ?c4 ?c5
  (case k1 => assumption)
  (case k2 => assumption)
  (case k3 => assumption)
  (case k6 => k_is)
  (case k7 => k_is)
  (case k8 => first | exact room0 (by assumption) | exact room1 (by assumption) | (simp only [recursionLimit]; omega))
  (case k9 => exact BindsTo.of_eq rfl)
  (case kB => exact locs rfl)
  (case c5 => decide)
  (case c2 => exact rfl)
  (case c3 => exact rfl)
  (case c4 => exact rfl)
  intro L' h' tk' F' N' X' T'
  clear X₀ T₀
  walk_at "m body"
  walk_at "m go2"
  exact hQ _ _ _ (off_pure (S := []) (by assumption)).1 (off_pure (S := []) (by assumption)).2 ⟨_, rfl⟩
theorem is_mark_at_c {w : World} {hb : Heap} (G : Gr w hb) (sc gd buf row lk : Addr) (flag : Int) (at_ : Int) (t : Tok) (vs : List Value) (x dx : Addr) (r : Rec) (h0 : 0 ≤ at_) (h1 : at_ < 6) (hg0 : 0 ≤ r.glyph) (hg7 : r.glyph ≤ 7) (hx : vs[at_.toNat]? = some (.ref x)) {c0 : Int} (hc0 : cls r.glyph = c0) :
    Does w hb 483 [.ref sc, .int at_ t] 4 [] (fun h => SceneAt w h sc gd buf row lk flag ∧ IsL h row vs ∧ InfoAt h x dx r) (fun _ q _ => q = .bool (decide (c0 = 3))) := by
  obtain ⟨p, loose, mean, mg, mb, X₀, T₀⟩ := id G
  intro dp un fr gds s Q E hdep hun hs hpre9
  obtain ⟨hsc, hl, hi⟩ := hpre9
  intro hQ
  have hsc2 := hsc
  obtain ⟨v1, v2, v3, v4, v5, v6, v7, s1, s2, s3, s4⟩ := hsc2
  obtain ⟨cd, d, kvs, a1, b1, c1, e1, hx1, -, -, -⟩ := id s3
  obtain ⟨ti, hi⟩ := hi
  have hi2 := hi.has
  refine' enter0 [(Str.ofString "at", .int at_ t), (Str.ofString "scene", .ref sc)] ?k1 ?k2 ?k3 ?k6 ?k7 ?k8 ?k9 ?kB ?kk ?c2 ?c3 ?c4 ?c5
  (case k1 => assumption)
  (case k2 => assumption)
  (case k3 => assumption)
  (case k6 => k_is)
  (case k7 => k_is)
  (case k8 => first | exact room0 (by assumption) | exact room1 (by assumption) | (simp only [recursionLimit]; omega))
  (case k9 => exact BindsTo.of_eq rfl)
  (case kB => exact locs rfl)
  (case c5 => decide)
  (case c2 => exact rfl)
  (case c3 => exact rfl)
  (case c4 => exact rfl)
  intro L' h' tk' F' N' X' T'
  clear X₀ T₀
  walk_at "m body"
  walk_at "m go2"
  exact hQ _ _ _ (off_pure (S := []) (by assumption)).1 (off_pure (S := []) (by assumption)).2 (by refine boolv ?_; simp)
theorem is_later_part_c {w : World} {hb : Heap} (G : Gr w hb) (sc gd buf row lk : Addr) (flag : Int) (at_ : Int) (t : Tok) (vs : List Value) (x dx : Addr) (r : Rec) (h0 : 0 ≤ at_) (h1 : at_ < 6) (hx : vs[at_.toNat]? = some (.ref x)) :
    Does w hb 490 [.ref sc, .int at_ t] 4 [] (fun h => SceneAt w h sc gd buf row lk flag ∧ IsL h row vs ∧ InfoAt h x dx r) (fun _ q _ => q = .bool false) := by
  obtain ⟨p, loose, mean, mg, mb, X₀, T₀⟩ := id G
  intro dp un fr gds s Q E hdep hun hs hpre9
  obtain ⟨hsc, hl, hi⟩ := hpre9
  intro hQ
  have hsc2 := hsc
  obtain ⟨v1, v2, v3, v4, v5, v6, v7, s1, s2, s3, s4⟩ := hsc2
  obtain ⟨ti, hi⟩ := hi
  have hi2 := hi.has
  refine' enter0 [(Str.ofString "at", .int at_ t), (Str.ofString "scene", .ref sc)] ?k1 ?k2 ?k3 ?k6 ?k7 ?k8 ?k9 ?kB ?kk ?c2 ?c3 ?c4 ?c5
  (case k1 => assumption)
  (case k2 => assumption)
  (case k3 => assumption)
  (case k6 => k_is)
  (case k7 => k_is)
  (case k8 => first | exact room0 (by assumption) | exact room1 (by assumption) | (simp only [recursionLimit]; omega))
  (case k9 => exact BindsTo.of_eq rfl)
  (case kB => exact locs rfl)
  (case c5 => decide)
  (case c2 => exact rfl)
  (case c3 => exact rfl)
  (case c4 => exact rfl)
  intro L' h' tk' F' N' X' T'
  clear X₀ T₀
  walk_at "m body"
  walk_at "m go2"
  all_goals (exact hQ _ _ _ (off_pure (S := []) (by assumption)).1 (off_pure (S := []) (by assumption)).2 rfl)
theorem are_of_one_c {w : World} {hb : Heap} (G : Gr w hb) (x dx y dy : Addr) (r q : Rec) :
    Does w hb 532 [.ref x, .ref y] 1 [] (fun h => InfoAt h x dx r ∧ InfoAt h y dy q) (fun _ v _ => v = .bool (if r.lig_id = q.lig_id then decide (r.lig_id = 0 ∨ r.lig_part = q.lig_part) else decide ((r.lig_id > 0 ∧ r.lig_part = 0) ∨ (q.lig_id > 0 ∧ q.lig_part = 0)))) := by
  obtain ⟨p, loose, mean, mg, mb, X₀, T₀⟩ := id G
  intro dp un fr gds s Q E hdep hun hs hpre9
  obtain ⟨⟨t1, h1⟩, ⟨t2, h2⟩⟩ := hpre9
  intro hQ
  have k1 := h1.has
  have k2 := h2.has
  refine' enter0 [(Str.ofString "other", .ref y), (Str.ofString "mark", .ref x)] ?k1 ?k2 ?k3 ?k6 ?k7 ?k8 ?k9 ?kB ?kk ?c2 ?c3 ?c4 ?c5
  (case k1 => assumption)
  (case k2 => assumption)
  (case k3 => assumption)
  (case k6 => k_is)
  (case k7 => k_is)
  (case k8 => first | exact room0 (by assumption) | exact room1 (by assumption) | (simp only [recursionLimit]; omega))
  (case k9 => exact BindsTo.of_eq rfl)
  (case kB => exact locs rfl)
  (case c5 => decide)
  (case c2 => exact rfl)
  (case c3 => exact rfl)
  (case c4 => exact rfl)
  intro L' h' tk' F' N' X' T'
  clear X₀ T₀
  walk_at "m body"
  walk_at "m go2"
  all_goals (exact hQ _ _ _ (off_pure (S := []) (by assumption)).1 (off_pure (S := []) (by assumption)).2 (by refine boolv ?_; first | (simp_all; done) | (simp; omega) | (simp [*]; done) | (simp [*]; omega) | grind))
theorem component_of_c {w : World} {hb : Heap} (G : Gr w hb) (x dx y dy : Addr) (r q : Rec) (n : Int) (t : Tok) (hn : 0 < n) (hr : r.lig_part.natAbs < 1000) :
    Does w hb 518 [.ref x, .ref y, .int n t] 1 [] (fun h => InfoAt h x dx r ∧ InfoAt h y dy q) (fun _ v _ => ∃ t0, v = .int (if q.lig_id ≠ 0 ∧ q.lig_id = r.lig_id ∧ r.lig_part > 0 then min n r.lig_part - 1 else n - 1) t0) := by
  obtain ⟨p, loose, mean, mg, mb, X₀, T₀⟩ := id G
  intro dp un fr gds s Q E hdep hun hs hpre9
  obtain ⟨⟨t1, h1⟩, ⟨t2, h2⟩⟩ := hpre9
  intro hQ
  have k1 := h1.has
  have k2 := h2.has
  refine' enter0 [(Str.ofString "count", .int n t), (Str.ofString "ligature", .ref y), (Str.ofString "mark", .ref x)] ?k1 ?k2 ?k3 ?k6 ?k7 ?k8 ?k9 ?kB ?kk ?c2 ?c3 ?c4 ?c5
  (case k1 => assumption)
  (case k2 => assumption)
  (case k3 => assumption)
  (case k6 => k_is)
  (case k7 => k_is)
  (case k8 => first | exact room0 (by assumption) | exact room1 (by assumption) | (simp only [recursionLimit]; omega))
  (case k9 => exact BindsTo.of_eq rfl)
  (case kB => exact locs rfl)
  (case c5 => decide)
  (case c2 => exact rfl)
  (case c3 => exact rfl)
  (case c4 => exact rfl)
  intro L' h' tk' F' N' X' T'
  clear X₀ T₀
  walk_at "m body"
  walk_at "m go2"
  all_goals (exact hQ _ _ _ (off_pure (S := []) (by assumption)).1 (off_pure (S := []) (by assumption)).2 ⟨_, congrArg (fun z => Value.int z _) (by (repeat' split) <;> omega)⟩)
end S_Reads

theorem rows_15 : True := by
  (k_with "call ref" => (k_here; (with_reducible show wpAny _ _ (call (Value.ref 227) _) _ _ _); k_dflt ((refine' use1 (before_at_c (by assumption) _ _ _ _ _ _ _ _ _ _ (by assumption) (by assumption) (by assumption) (by assumption)) ?z58k1 ?z58kN ?z58k2 ?z58k3 ?z58k4 ?z58k5 ?_); (case z58k1 => k_asm); (case z58kN => k_asm); (case z58k2 => assumption); (case z58k5 => walk_at "m pre"); (case z58k3 => walk_at "m dep"); (case z58k4 => walk_at "m dep"); intro _ _ _ _ _ _ _ post'; obtain ⟨_, e0⟩ := post'; subst e0; (try dsimp only))))
  (k_with "call ref" => (k_here; (with_reducible show wpAny _ _ (call (Value.ref 483) _) _ _ _); k_dflt ((refine' use1 (is_mark_at_c (by assumption) _ _ _ _ _ _ _ _ _ _ _ _ (by walk_at "m num") (by walk_at "m num") (by assumption) (by assumption) (by assumption) (by assumption)) ?z59k1 ?z59kN ?z59k2 ?z59k3 ?z59k4 ?z59k5 ?_); (case z59k1 => k_asm); (case z59kN => k_asm); (case z59k2 => assumption); (case z59k5 => walk_at "m pre"); (case z59k3 => walk_at "m dep"); (case z59k4 => walk_at "m dep"); intro _ _ _ _ _ _ _ post'; subst post'; (try dsimp only))))
  (k_with "call ref" => (k_here; (with_reducible show wpAny _ _ (call (Value.ref 490) _) _ _ _); k_dflt ((refine' use1 (is_later_part_c (by assumption) _ _ _ _ _ _ _ _ _ _ _ _ (by walk_at "m num") (by walk_at "m num") (by assumption)) ?z60k1 ?z60kN ?z60k2 ?z60k3 ?z60k4 ?z60k5 ?_); (case z60k1 => k_asm); (case z60kN => k_asm); (case z60k2 => assumption); (case z60k5 => walk_at "m pre"); (case z60k3 => walk_at "m dep"); (case z60k4 => walk_at "m dep"); intro _ _ _ _ _ _ _ post'; subst post'; (try dsimp only))))
  trivial

section S_Sub
theorem scene_with_c {w : World} {hb : Heap} (G : Gr w hb) (sc gd buf row lk : Addr) (flag flag2 : Int) (t : Tok) (m0 : Int × Tok) :
    Does w hb 476 [.ref sc, .int flag2 t, .int m0.1 m0.2] 6 [] (fun h => SceneAt w h sc gd buf row lk flag) (fun h q h' => ∃ sc2 lk2, q = .ref sc2 ∧ Born h h' (fun h2 => SceneAt w h2 sc gd buf row lk flag → SceneAt w h2 sc2 gd buf row lk2 flag2)) := by
  obtain ⟨p, loose, mean, mg, mb, X₀, T₀⟩ := id G
  intro dp un fr gds s Q E hdep hun hs hsc hQ
  have hsc2 := hsc
  obtain ⟨v1, v2, v3, v4, v5, v6, v7, s1, s2, s3, s4⟩ := hsc2
  obtain ⟨a, b, c, t4, s5⟩ := id s4
  refine' enter0 [(Str.ofString "mark_set", .int m0.1 m0.2), (Str.ofString "flag", .int flag2 t), (Str.ofString "scene", .ref sc)] ?k1 ?k2 ?k3 ?k6 ?k7 ?k8 ?k9 ?kB ?kk ?c2 ?c3 ?c4 ?c5
  (case k1 => assumption)
  (case k2 => assumption)
  (case k3 => assumption)
  (case k6 => k_is)
  (case k7 => k_is)
  (case k8 => first | exact room0 (by assumption) | exact room1 (by assumption) | (simp only [recursionLimit]; omega))
  (case k9 => exact BindsTo.of_eq rfl)
  (case kB => exact locs rfl)
  (case c5 => decide)
  (case c2 => exact rfl)
  (case c3 => exact rfl)
  (case c4 => exact rfl)
  intro L' h' tk' F' N' X' T'
  clear X₀ T₀
  walk_at "m body"
  walk_at "m go2"
  exact hQ _ _ _ (off_pure (S := []) (by assumption)).1 (off_pure (S := []) (by assumption)).2 ⟨_, _, rfl, born_of (by assumption) fun h2 hin hsc' => by
    obtain ⟨_, _, _, _, u5, u6, u7, r1, r2, r3, r4⟩ := hsc'
    exact ⟨v1, v2, v3, _, u5, u6, u7, has_led hin (by walk_at "m mem") (by walk_at "m mem") (by assumption), r2, r3, a, m0, _, _, has_led hin (by walk_at "m mem") (by walk_at "m mem") (by assumption)⟩⟩
theorem rows_16 : True := by
  (k_with "call ref" => (k_here; (with_reducible show wpAny _ _ (call (Value.ref 476) _) _ _ _); k_dflt ((refine' use1 (scene_with_c (by assumption) _ _ _ _ _ _ _ _ (_, _)) ?z61k1 ?z61kN ?z61k2 ?z61k3 ?z61k4 ?z61k5 ?_); (case z61k1 => k_asm); (case z61kN => k_asm); (case z61k2 => assumption); (case z61k5 => walk_at "m pre"); (case z61k3 => walk_at "m dep"); (case z61k4 => walk_at "m dep"); intro _ _ _ _ N' _ _ post'; obtain ⟨_, _, e0, _, hl9, hk9⟩ := post'; subst e0; have N9 := grow (by assumption) N' hl9; clear N'; skip; (try dsimp only); revert hl9 hk9 N9; intros)))
  trivial

theorem nb_range (flag : Int) (rs : List Rec) : ∀ n : Nat, -1 ≤ nb flag rs n ∧ nb flag rs n < n
  | 0 => by unfold nb; omega
  | n + 1 => by
    have := nb_range flag rs n
    unfold nb
    split <;> omega
theorem base_ahead_c {w : World} {hb : Heap} (G : Gr w hb) (sc gd buf row lk : Addr) (flag : Int) (at_ : Int) (t : Tok) (xs : List (Addr × Addr)) (rs : List Rec) (h0 : 0 ≤ at_) (h1 : at_ < xs.length) (hgl : Glyphs rs) :
    Does w hb 497 [.ref sc, .int at_ t] 10 [] (fun h => SceneAt w h sc gd buf row lk flag ∧ RowAt h row xs rs) (fun _ q _ => ∃ t0, q = .int (nb 8 rs at_.toNat) t0) := by
  obtain ⟨p, loose, mean, mg, mb, X₀, T₀⟩ := id G
  intro dp un fr gds s Q E hdep hun hs hpre9
  obtain ⟨hsc, hR⟩ := hpre9
  intro hQ
  have hl := hR.lst
  have hn6 := hR.few
  have h1e : at_ ≤ xs.length := by omega
  have hf8 : (8:Int) = 0 ∨ (8:Int) = 8 := .inr rfl
  refine' enter0 [(Str.ofString "at", .int at_ t), (Str.ofString "scene", .ref sc)] ?k1 ?k2 ?k3 ?k6 ?k7 ?k8 ?k9 ?kB ?kk ?c2 ?c3 ?c4 ?c5
  (case k1 => assumption)
  (case k2 => assumption)
  (case k3 => assumption)
  (case k6 => k_is)
  (case k7 => k_is)
  (case k8 => first | exact room0 (by assumption) | exact room1 (by assumption) | (simp only [recursionLimit]; omega))
  (case k9 => exact BindsTo.of_eq rfl)
  (case kB => exact locs rfl)
  (case c5 => decide)
  (case c2 => exact rfl)
  (case c3 => exact rfl)
  (case c4 => exact rfl)
  intro L' h' tk' F' N' X' T'
  clear X₀ T₀
  walk_at "m body"
  refine cut (fun s' => Bx (Ex3 fun (sc2 lk2 : Addr) (led : Led) => (∀ h2, (∀ p ∈ led, h2.get? p.1 = some p.2) → SceneAt w h2 sc gd buf row lk flag → SceneAt w h2 sc2 gd buf row lk2 8) ∧ Stands s s.heap L' (mapL [(Str.ofString "looking", .ref sc2), (Str.ofString "at", .int at_ t), (Str.ofString "scene", .ref sc)]) (led ++ []) s')) ?_ ?_
  · walk_at "m go2"
    exact ⟨⟨_, _, _, by assumption, stands (Mine.Fr.put (by assumption)) (by assumption)⟩⟩
  clear F' N'
  rintro _ ⟨⟨sc2, lk2, led, hs2, h1', tk1, rfl, F', N'⟩⟩
  have hsl : ∀ (g : Heap), SceneAt w g sc gd buf row lk flag → SceneAt w g sc gd buf row lk flag := fun _ z => z
  refine cut (fun s' => Bx (∃ t2, Stands s s.heap L' (mapL [(Str.ofString "here", .int (nb 8 rs at_.toNat) t2), (Str.ofString "looking", .ref sc2), (Str.ofString "at", .int at_ t), (Str.ofString "scene", .ref sc)]) (led ++ []) s')) ?_ ?_
  · walk_at "m go2"
    exact ⟨⟨_, stands (Mine.Fr.put (by assumption)) (by assumption)⟩⟩
  clear F' N'
  rintro _ ⟨⟨t2, h2', tk2, rfl, F', N'⟩⟩
  have hnb := nb_range 8 rs at_.toNat
  refine cut (fun s' => Bx (Stands s s.heap L' (mapL [(Str.ofString "here", .int (nb 8 rs at_.toNat) t2), (Str.ofString "looking", .ref sc2), (Str.ofString "at", .int at_ t), (Str.ofString "scene", .ref sc)]) (led ++ []) s')) ?_ ?_
  · refine PyProof.Rows.While_inv2 (n₀ := 0) (fun n m news => news = led ++ [] ∧ m = mapL [(Str.ofString "here", .int (nb 8 rs at_.toNat) t2), (Str.ofString "looking", .ref sc2), (Str.ofString "at", .int at_ t), (Str.ofString "scene", .ref sc)]) F' N' ⟨rfl, rfl⟩ ?_ (fun _ _ h => h.elim)
    rintro n m news h3 tk3 F3 N3 ⟨rfl, rfl⟩
    clear F' N'
    by_cases hz : nb 8 rs at_.toNat = -1
    · walk_at "m go2"
      all_goals first
        | exact ⟨stands (by assumption) (by assumption)⟩
        | (exfalso; omega)
    · obtain ⟨x, dx, r, hx1, hx2, hx3, hx4⟩ := hR.item (k := nb 8 rs at_.toNat) (by omega) (by omega)
      walk_at "m go2"
      all_goals first
        | exact ⟨stands (by assumption) (by assumption)⟩
        | (exfalso; omega)
  clear F' N'
  rintro _ ⟨⟨h3', tk3, rfl, F', N'⟩⟩
  walk_at "m go2"
  exact hQ _ _ _ (off_pure (S := []) (by assumption)).1 (off_pure (S := []) (by assumption)).2 ⟨_, rfl⟩
end S_Sub

theorem rows_17 : True := by
  (k_with "call ref" => (k_here; (with_reducible show wpAny _ _ (call (Value.ref 476) _) _ _ _); k_dflt ((refine' use1 (scene_with_c (by assumption) _ _ _ _ _ _ _ _ (_, _)) ?z62k1 ?z62kN ?z62k2 ?z62k3 ?z62k4 ?z62k5 ?_); (case z62k1 => k_asm); (case z62kN => k_asm); (case z62k2 => assumption); (case z62k5 => walk_at "m pre"); (case z62k3 => walk_at "m dep"); (case z62k4 => walk_at "m dep"); intro _ _ _ _ N' _ _ post'; obtain ⟨_, _, e0, _, hl9, hk9⟩ := post'; subst e0; have N9 := grow (by assumption) N' hl9; clear N'; skip; (try dsimp only); revert hl9 hk9 N9; intros)))
  trivial

section S_Ring
theorem new_head {g h : Heap} {L a : Addr} {o : Obj} {r : Led} (N : News g L h ((a, o) :: r)) : g.get? a = none ∧ h.get? a = some o := ⟨(N _ (.head _)).2.2, (N _ (.head _)).1⟩
theorem difference_c {w : World} {hb : Heap} (G : Gr w hb) (x y : Addr) (a b c d : Int) (t1 t2 t3 t4 : Tok) :
    Does w hb 360 [.ref x, .ref y] 1 [] (fun h => Has h x 342 [(Str.ofString "x", .int a t1), (Str.ofString "y", .int b t2)] ∧ Has h y 342 [(Str.ofString "x", .int c t3), (Str.ofString "y", .int d t4)])
      (fun h q h' => ∃ z t5 t6, q = .ref z ∧ h.get? z = none ∧ h'.get? z = some ⟨.type "tuple", none, .seq #[.int (a - c) t5, .int (b - d) t6] 0, #[]⟩) := by
  obtain ⟨p, loose, mean, mg, mb, X₀, T₀⟩ := id G
  intro dp un fr gds s Q E hdep hun hs hpre9
  obtain ⟨h1, h2⟩ := hpre9
  intro hQ
  refine' enter0 [(Str.ofString "other", .ref y), (Str.ofString "one", .ref x)] ?k1 ?k2 ?k3 ?k6 ?k7 ?k8 ?k9 ?kB ?kk ?c2 ?c3 ?c4 ?c5
  (case k1 => assumption)
  (case k2 => assumption)
  (case k3 => assumption)
  (case k6 => k_is)
  (case k7 => k_is)
  (case k8 => first | exact room0 (by assumption) | exact room1 (by assumption) | (simp only [recursionLimit]; omega))
  (case k9 => exact BindsTo.of_eq rfl)
  (case kB => exact locs rfl)
  (case c5 => decide)
  (case c2 => exact rfl)
  (case c3 => exact rfl)
  (case c4 => exact rfl)
  intro L' h' tk' F' N' X' T'
  clear X₀ T₀
  walk_at "m body"
  walk_at "m go2"
  exact hQ _ _ _ (off_pure (S := []) (by assumption)).1 (off_pure (S := []) (by assumption)).2 ⟨_, _, _, rfl, new_head (by assumption)⟩
theorem fitL (i : Int) (a : 0 ≤ i) (b : i ≤ 1000) : Builtin.Range.rangeFitsLong i = true := by
  unfold Builtin.Range.rangeFitsLong
  rw [Bool.and_eq_true, decide_eq_true_eq, decide_eq_true_eq]
  constructor <;> omega
theorem break_ring_c {w : World} {hb : Heap} (G : Gr w hb) (row : Addr) (at_ place : Int) (t t2 : Tok) (vs : List Value) (x dx : Addr) (r : Rec) (h0 : 0 ≤ place) (h1 : place < vs.length) (h6 : vs.length ≤ 6) (hx : vs[place.toNat]? = some (.ref x)) (hp : r.parent = 0) :
    Does w hb 304 [.ref row, .int at_ t, .int place t2] 1 [] (fun h => IsL h row vs ∧ InfoAt h x dx r) (fun _ q _ => q = .none) := by
  obtain ⟨p, loose, mean, mg, mb, X₀, T₀⟩ := id G
  intro dp un fr gds s Q E hdep hun hs hpre9
  obtain ⟨hl, ti, hi⟩ := hpre9
  intro hQ
  have hi2 := hi.has
  refine' enter0 [(Str.ofString "parent", .int place t2), (Str.ofString "child", .int at_ t), (Str.ofString "row", .ref row)] ?k1 ?k2 ?k3 ?k6 ?k7 ?k8 ?k9 ?kB ?kk ?c2 ?c3 ?c4 ?c5
  (case k1 => assumption)
  (case k2 => assumption)
  (case k3 => assumption)
  (case k6 => k_is)
  (case k7 => k_is)
  (case k8 => first | exact room0 (by assumption) | exact room1 (by assumption) | (simp only [recursionLimit]; omega))
  (case k9 => exact BindsTo.of_eq rfl)
  (case kB => exact locs rfl)
  (case c5 => decide)
  (case c2 => exact rfl)
  (case c3 => exact rfl)
  (case c4 => exact rfl)
  intro L' h' tk' F' N' X' T'
  clear X₀ T₀
  walk_at "m body"
  refine cut (fun s' => Bx (∃ t3, Stands s s.heap L' (mapL [(Str.ofString "here", .int place t3), (Str.ofString "parent", .int place t2), (Str.ofString "child", .int at_ t), (Str.ofString "row", .ref row)]) [] s')) ?_ ?_
  · walk_at "m go2"
    exact ⟨⟨_, stands (Mine.Fr.put (by assumption)) (by assumption)⟩⟩
  clear F' N'
  rintro _ ⟨⟨t3, h1', tk1, rfl, F', N'⟩⟩
  refine cut (fun s' => Bx (∃ m, Stands s s.heap L' m [] s')) ?_ ?_
  · refine For_invVF F' rfl rfl ?_
    refine wpAny_mono (Q := fun xv s1 => Bx (Ex4 fun r0 a1 a2 a3 => An3 (xv = .ref r0) (IsRange s1.heap r0 0 (vs.length : Nat) 1 a1 a2 a3) (Stands s s.heap L' (mapL [(Str.ofString "here", .int place t3), (Str.ofString "parent", .int place t2), (Str.ofString "child", .int at_ t), (Str.ofString "row", .ref row)]) [] s1))) ?_ ?_ (fun _ _ z => z)
    · walk_at "m go2"
      exact ⟨⟨_, _, _, _, rfl, by assumption, stands (by assumption) (by assumption)⟩⟩
    clear F' N'
    rintro _ _ ⟨⟨r0, a1, a2, a3, rfl, hr, h4, tk4, rfl, F', N'⟩⟩
    refine' kow_range (n := vs.length) [] ?kh ?k1 ?k2 ?k3 ?k4 ?k5 ?k6 ?k7
    case kh => rfl
    case k1 => exact hr
    case k4 => exact F'
    case k5 => exact N'
    · have e1 : Builtin.Range.rangeSize 0 (vs.length : Nat) 1 = (vs.length : Nat) := by
        simp only [Builtin.Range.rangeSize]
        rw [if_pos (by decide), if_pos (by omega)]
        omega
      simp only [Builtin.Range.small, e1]
      rw [fitL 0 (by decide) (by decide), fitL (vs.length : Nat) (by omega) (by omega), fitL 1 (by decide) (by decide), if_pos (by decide), fitL ((vs.length : Nat) + (1 - 1)) (by omega) (by omega)]
      simp only [Bool.and_self, Bool.or_true]
    · simp only [Builtin.Range.rangeSize]
      rw [if_pos (by decide), if_pos (by omega)]
      omega
    · clear F' N'
      intro k tk0 u h2 tk2 I oI k0 k1 F2 N2 _
      walk_at "m go2"
      all_goals first
        | (exfalso; omega)
        | (exact hQ _ _ _ (off_pure (S := []) (by assumption)).1 (off_pure (S := []) (by assumption)).2 rfl)
    · intro u h2 tk2 F2 N2
      exact ⟨⟨_, stands (by assumption) (by assumption)⟩⟩
  clear F' N'
  rintro _ ⟨⟨m5, h5, tk5, rfl, F5, N5⟩⟩
  walk_at "m go2"
  exact hQ _ _ _ (off_pure (S := []) (by assumption)).1 (off_pure (S := []) (by assumption)).2 rfl
end S_Ring

-- Row
def snap (h : Heap) (S : List Addr) : Led := S.map fun a => (a, (h.get? a).getD ⟨.none, none, .freed, #[]⟩)
theorem snap_map (h : Heap) (S : List Addr) : (snap h S).map (·.1) = S := by simp [snap, Function.comp_def]
structure RowD (g : Heap) (row : Addr) (xs : List (Addr × Addr)) (rs : List Rec) (led : Led) : Prop where
  lst : IsL g row (xs.map fun x => .ref x.1)
  len : xs.length = rs.length
  few : xs.length ≤ 6
  nod : (xs.map (·.2)).Nodup
  dom : led.map (·.1) = xs.map (·.2)
  inst : ∀ x ∈ xs, g.get? x.1 = some (instObj 135 x.2)
  at_ : ∀ (i : Nat) (r : Rec) (p : Addr × Obj), rs[i]? = some r → led[i]? = some p → ∃ t es n, p.2 = dictOf es n ∧ Named es (infoF r t)
theorem RowD.ledlen {g : Heap} {row : Addr} {xs : List (Addr × Addr)} {rs : List Rec} {led : Led} (R : RowD g row xs rs led) : led.length = xs.length := by
  have := congrArg List.length R.dom
  simpa using this
theorem RowD.item {g : Heap} {row : Addr} {xs : List (Addr × Addr)} {rs : List Rec} {led : Led} (R : RowD g row xs rs led) {i : Nat} {x dx : Addr} {r : Rec} (hx : xs[i]? = some (x, dx)) (hr : rs[i]? = some r) :
    Ex3 fun t es n => An4 (g.get? x = some (instObj 135 dx)) (led[i]? = some (dx, dictOf es n)) ((dx, dictOf es n) ∈ led) (Named es (infoF r t)) := by
  have hi : i < xs.length := (List.getElem?_eq_some_iff.mp hx).1
  have hl : i < led.length := by rw [R.ledlen]; exact hi
  obtain ⟨t, es, n, a, b⟩ := R.at_ i r led[i] hr (by simp [hl])
  have e1 : (led[i]).1 = dx := by
    have := congrArg (fun l => l[i]?) R.dom
    simp [hl, hx] at this
    exact this
  have e2 : led[i]? = some (dx, dictOf es n) := by
    rw [List.getElem?_eq_getElem hl]
    exact congrArg some (Prod.ext e1 a)
  exact ⟨t, es, n, R.inst _ (List.mem_of_getElem? hx), e2, List.mem_of_getElem? e2, b⟩
theorem RowD.rowAt {g h : Heap} {row : Addr} {xs : List (Addr × Addr)} {rs : List Rec} {led : Led} (R : RowD g row xs rs led) (k : g.StaysIn h) (hl : ∀ p ∈ led, h.get? p.1 = some p.2) : RowAt h row xs rs := by
  refine ⟨R.lst.keep k, R.len, R.few, fun i x r hx hr => ?_⟩
  obtain ⟨t, es, n, a, b, c, d⟩ := R.item (x := x.1) (dx := x.2) hx hr
  exact ⟨t, k _ _ a, es, n, hl _ c, d⟩
theorem RowD.keep {g g' : Heap} {row : Addr} {xs : List (Addr × Addr)} {rs : List Rec} {led : Led} (R : RowD g row xs rs led) (k : g.StaysIn g') : RowD g' row xs rs led := ⟨R.lst.keep k, R.len, R.few, R.nod, R.dom, fun x hx => k _ _ (R.inst x hx), R.at_⟩
theorem rowD_of {g h : Heap} {row : Addr} {xs : List (Addr × Addr)} {rs : List Rec} (R : RowAt h row xs rs) (nod : (xs.map (·.2)).Nodup) (hg : IsL g row (xs.map fun x => .ref x.1)) (hi : ∀ x ∈ xs, g.get? x.1 = some (instObj 135 x.2)) : RowD g row xs rs (snap h (xs.map (·.2))) := by
  refine ⟨hg, R.len, R.few, nod, snap_map _ _, hi, fun i r p hr hp => ?_⟩
  unfold snap at hp
  rw [List.getElem?_map, List.getElem?_map] at hp
  cases q : xs[i]? with
  | none => rw [q] at hp; cases hp
  | some x =>
    rw [q] at hp
    obtain ⟨t, a, es, n, b, c⟩ := R.at_ i x r q hr
    simp only [Option.map_some, Option.some.injEq] at hp
    subst hp
    exact ⟨t, es, n, by simp [b], c⟩
theorem snap_in {h : Heap} {row : Addr} {xs : List (Addr × Addr)} {rs : List Rec} (R : RowAt h row xs rs) : ∀ p ∈ snap h (xs.map (·.2)), h.get? p.1 = some p.2 := by
  intro p hp
  unfold snap at hp
  rw [List.map_map] at hp
  obtain ⟨x, hx, rfl⟩ := List.mem_map.mp hp
  obtain ⟨i, hi, e⟩ := List.mem_iff_getElem.mp hx
  have hr : i < rs.length := by rw [← R.len]; exact hi
  obtain ⟨t, a, es, n, b, c⟩ := R.at_ i x rs[i] (by simp [hi, e]) (by simp [hr])
  simp [b]
theorem RowD.put {g : Heap} {row : Addr} {xs : List (Addr × Addr)} {rs : List Rec} {led : Led} (R : RowD g row xs rs led) {i : Nat} {dx : Addr} {r' : Rec} {t' : Nat → Tok} {es' : List DictEntry} {n : Nat} {x : Addr} (hx : xs[i]? = some (x, dx)) (Nm : Named es' (infoF r' t')) :
    RowD g row xs (rs.set i r') (led.set i (dx, dictOf es' n)) := by
  have hi : i < xs.length := (List.getElem?_eq_some_iff.mp hx).1
  have hl : i < led.length := by rw [R.ledlen]; exact hi
  refine ⟨R.lst, by simpa using R.len, R.few, R.nod, ?_, R.inst, fun j r p hr hp => ?_⟩
  · rw [← R.dom]
    apply List.ext_getElem?
    intro j
    rw [List.getElem?_map, List.getElem?_map, List.getElem?_set]
    by_cases e : i = j
    · subst e
      have := congrArg (fun l => l[i]?) R.dom
      simp [hl, hx] at this
      simp [hl, hi, this]
    · simp [e]
  · rw [List.getElem?_set] at hr hp
    by_cases e : i = j
    · subst e
      rw [if_pos rfl] at hr hp
      split at hr
      · split at hp
        · cases hr; cases hp; exact ⟨t', es', n, rfl, Nm⟩
        · exact absurd hl (by assumption)
      · cases hr
    · rw [if_neg e] at hr hp
      exact R.at_ j r p hr hp
theorem upd_at {dx : Addr} {o o' : Obj} {rest : Led} (hr : ∀ q ∈ rest, q.1 ≠ dx) : ∀ {led : Led} {i : Nat}, (led.map (·.1)).Nodup → led[i]? = some (dx, o) → Upd dx o o' (led ++ rest) (led.set i (dx, o') ++ rest)
  | [], _, _, h => by simp at h
  | p :: l, 0, nd, h => by
    simp only [List.getElem?_cons_zero, Option.some.injEq] at h
    subst h
    refine .head fun q hq => ?_
    rcases List.mem_append.mp hq with hq | hq
    · simp only [List.map_cons, List.nodup_cons] at nd
      exact fun e => nd.1 (e ▸ List.mem_map_of_mem hq)
    · exact hr q hq
  | p :: l, i + 1, nd, h => by
    simp only [List.getElem?_cons_succ] at h
    simp only [List.map_cons, List.nodup_cons] at nd
    refine .tail (fun e => nd.1 ?_) (upd_at hr nd.2 h)
    rw [e]
    exact List.mem_map_of_mem (f := (·.1)) (List.mem_of_getElem? h)
section
variable {prog : Program} {w : World} {A : Around} {E : Value → Shared → Prop} {s : Shared} {K : Frag} {L row x dx : Addr} {g : Heap} {m : Str → Option Value} {led own rest : Led} {xs : List (Addr × Addr)} {rs : List Rec} {r r' : Rec} {i : Nat} {name : Str} {v : Value}
theorem set_row {Q : Unit → Shared → Prop} (F : Fr g L s.heap m) (X₀ : K.In g) (N : News g L s.heap (led ++ rest)) (R : RowD g row xs rs led) (hx : xs[i]? = some (x, dx)) (hr : rs[i]? = some r) (hrest : ∀ q ∈ rest, ∀ es n, q.2 ≠ dictOf es n)
    (hs : findIn K (.ref 135) "__setattr__" = some (some (.builtin "object.__setattr__"))) (hp : plainOver K 135 = true) (ht : takerIn K 135 name = some none) (hh : hasDictIn K 135 = true)
    (hf : ∀ t, ((infoF r t).lookup name).isSome = true ∧ ∃ t', putF name v (infoF r t) = infoF r' t')
    (h : ∀ h' led', Fr g L h' m → News g L h' (led' ++ rest) → RowD g row xs (rs.set i r') led' → (rs.set i r')[i]? = some r' → Q () { s with heap := h', toks := s.toks + 2 }) :
    wpAny (model prog w) A (setAttr (.ref x) name v) Q E s := by
  obtain ⟨t, es, n, a, b, c, d⟩ := R.item hx hr
  obtain ⟨l1, t', l2⟩ := hf t
  have nd : (led.map (·.1)).Nodup := by rw [R.dom]; exact R.nod
  have hne : ∀ q ∈ rest, q.1 ≠ dx := fun q hq e => by
    have e1 := (N q (List.mem_append_right _ hq)).1
    have e2 := (N _ (List.mem_append_left _ c)).1
    rw [e] at e1
    have : q.2 = dictOf es n := Option.some.inj (e1.symm.trans e2)
    exact hrest q hq _ _ this
  refine set_led (newsF := fun es' => led.set i (dx, dictOf es' n) ++ rest) F X₀ a N d hs hp ht hh l1 (fun es' => upd_at hne nd b) (by simp [infoF]) fun h' es' F' N' Nm => h h' _ F' N' (R.put hx (t' := t') (r' := r') ?_) (by rw [List.getElem?_set]; simp [(List.getElem?_eq_some_iff.mp hr).1])
  rw [← l2]; exact Nm
theorem News.re {g h : Heap} {L : Addr} {l l' : Led} (N : News g L h l) (k : ∀ p ∈ l', p ∈ l) : News g L h l' := fun p hp => N p (k p hp)
theorem enterR {K : Frag} {hb : Heap} {p : Program} {loose : List Str} {mean : ExcName → Option Value} {mg mb : Str → Option Value} {Q E : Value → Shared → Prop} {prog : Program} {args : List Value}
    {name qual : Str} {params : Arguments} {body : List Stmt} {scope : Scope} {dV kV doc pm cdv ct oc : Value} {an od : Option Addr} {osl : Array (Option Value)} {f : Addr} (l : List (Str × Value)) (xs : List (Addr × Addr)) (rs : List Rec) (row : Addr)
    (X₀ : K.In hb) (T : Top p loose mean mg mb hb) (hs : hb.StaysIn s.heap) (hR : RowAt s.heap row xs rs) (nod : (xs.map (·.2)).Nodup) (hb0 : ∀ x ∈ xs, hb.get? x.2 = none) (hrow : IsL (hideAll s.heap (xs.map (·.2))) row (xs.map fun x => .ref x.1)) (hin : ∀ x ∈ xs, (hideAll s.heap (xs.map (·.2))).get? x.1 = some (instObj 135 x.2))
    (ho : K.lookup f = some ⟨oc, od, .func (fnOf name qual params body scope dV kV doc pm an cdv ct), osl⟩) (hcd : codeIn K cdv qual = true) (hroom : A.depth < recursionLimit)
    (hbind : BindsTo s (fnOf name qual params body scope dV kV doc pm an cdv ct) ⟨args, []⟩ l.reverse) (hloc : ∀ y ∈ l.reverse, scope.names.lookup y.1 = some .local)
    (h : ∀ L' h₁ tk g led, g = hideAll s.heap (xs.map (·.2)) → Fr g L' h₁ (mapL l) → News g L' h₁ (led ++ []) → RowD g row xs rs led → K.In g → Top p loose mean mg mb g → hb.StaysIn g →
      wpAny (model prog w) (A.deeper (envOf qual scope L' f cdv)) (execs body (envOf qual scope L' f cdv)) (fun fl s' => Q (retOf fl) s') (fun _ _ => False) { s with heap := h₁, toks := tk })
    (hco : scope.isCoroutine = false) (hgen : scope.isGenerator = false) (hk : scope.kind = .function)
    (hcell : ∀ x ∈ scope.names, x.2 ≠ .cell) : wpAny (model prog w) A (call (.ref f) args) Q E s :=
  enter (snap s.heap (xs.map (·.2))) X₀ T hs (fun q hq => ⟨snap_in hR q hq, by
      have : q.1 ∈ (snap s.heap (xs.map (·.2))).map (·.1) := List.mem_map_of_mem hq
      rw [snap_map] at this
      obtain ⟨x, hx, e⟩ := List.mem_map.mp this
      rw [← e]; exact hb0 x hx⟩) ho hcd hroom hbind hloc (fun g L' h₁ tk E' hg F N X T' _ => by
    rw [snap_map] at hg
    subst hg
    have e : (fun y => List.lookup y l.reverse.reverse) = mapL l := by rw [List.reverse_reverse]; rfl
    exact wpAny_mono (h L' h₁ tk _ _ rfl (e ▸ F) (by rw [List.append_nil]; exact N) (rowD_of hR nod hrow hin) X T' fun b o e => hideAll_get _ (hs _ _ e) fun hm => by obtain ⟨x, hx, e2⟩ := List.mem_map.mp hm; have z := hb0 x hx; rw [e2, e] at z; cases z) (fun _ _ x => x) fun _ _ x => x.elim) hco hgen hk hcell
theorem endR {h h' : Heap} {L' : Addr} {m' : Str → Option Value} {led news : Led} {row : Addr} {xs : List (Addr × Addr)} {rs rs' : List Rec} (F' : Fr (hideAll h (xs.map (·.2))) L' h' m') (N' : News (hideAll h (xs.map (·.2))) L' h' news) (hm : ∀ p ∈ led, p ∈ news) (R : RowD (hideAll h (xs.map (·.2))) row xs rs' led) (hR : RowAt h row xs rs) :
    Off (xs.map (·.2)) h h' ∧ Dom h h' ∧ RowAt h' row xs rs' := by
  have N1 : News (hideAll h (xs.map (·.2))) L' h' led := fun p hp => N' p (hm p hp)
  have z := off_end (S := xs.map (·.2)) (led := snap h (xs.map (·.2))) (g := hideAll h (xs.map (·.2))) (by rw [snap_map]) (snap_in hR) F' N1 (fun q hq => .inl (by
    have := List.mem_map_of_mem (f := (·.1)) hq
    rwa [snap_map] at this)) (fun q hq => by
    have := List.mem_map_of_mem (f := (·.1)) hq
    rw [snap_map] at this
    rw [R.dom]; exact this)
  exact ⟨z.1, z.2, R.rowAt F'.keep fun p hp => (N1 p hp).1⟩
theorem finR {s : Shared} {Q : Value → Shared → Prop} {post : Value → Heap → Prop} {r : Value} {tk : Nat} {g h' : Heap} {L' : Addr} {m' : Str → Option Value} {led news : Led} {row : Addr} {xs : List (Addr × Addr)} {rs rs' : List Rec}
    (hQ : ∀ r h' tk', Off (xs.map (·.2)) s.heap h' → Dom s.heap h' → post r h' → Q r { s with heap := h', toks := tk' }) (hg : g = hideAll s.heap (xs.map (·.2))) (F' : Fr g L' h' m') (N' : News g L' h' news) (R : RowD g row xs rs' led) (hm : ∀ p ∈ led, p ∈ news) (hR : RowAt s.heap row xs rs)
    (hp : RowAt h' row xs rs' → post r h') : Q r { s with heap := h', toks := tk } := by
  subst hg
  obtain ⟨a, b, c⟩ := endR F' N' hm R hR
  exact hQ _ _ _ a b (hp c)
theorem useR {w : World} {f row : Addr} {hb : Heap} {args : List Value} {dd : Nat} {pre : Heap → Prop} {post : Heap → Value → Heap → Prop} {xs : List (Addr × Addr)} {rs : List Rec} {led rest : Led} (C : Does w hb f args dd (xs.map (·.2)) pre post) {dp un : Nat} {fr : Option (List Env)} {gd : Option (List Code)} {Q E : Value → Shared → Prop}
    (F : Fr g L s.heap m) (N : News g L s.heap (led ++ rest)) (R : RowD g row xs rs led) (hrest : ∀ q ∈ rest, ∀ es n, q.2 ≠ dictOf es n) (hs : hb.StaysIn g) (hd : dp + dd < 900) (hu : un + 8 * dd < 9000) (hp : RowAt s.heap row xs rs → g.StaysIn (hideAll s.heap (xs.map (·.2))) → pre s.heap)
    (k : ∀ r h' tk', Fr g L h' m → (∀ q ∈ rest, h'.get? q.1 = some q.2) → (∀ rs', RowAt h' row xs rs' → ∃ led', RowD g row xs rs' led' ∧ News g L h' (led' ++ rest)) → Dom s.heap h' → post s.heap r h' → Q r { s with heap := h', toks := tk' }) :
    wpAny (model PRG w) { handled := none, depth := dp, frames := fr, guards := gd, units := un } (call (.ref f) args) Q E s := by
  have notS : ∀ b o, g.get? b = some o → b ∉ xs.map (·.2) := fun b o e hm => by
    rw [← R.dom] at hm
    obtain ⟨q, hq, rfl⟩ := List.mem_map.mp hm
    rw [(N q (List.mem_append_left _ hq)).2.2] at e; cases e
  have hL : L ∉ xs.map (·.2) := fun hm => by
    rw [← R.dom] at hm
    obtain ⟨q, hq, e⟩ := List.mem_map.mp hm
    exact (N q (List.mem_append_left _ hq)).2.1 e
  have hne : ∀ q ∈ rest, q.1 ∉ xs.map (·.2) := fun q hq hm => by
    rw [← R.dom] at hm
    obtain ⟨p, hpp, e⟩ := List.mem_map.mp hm
    obtain ⟨i, hi, ei⟩ := List.mem_iff_getElem.mp hpp
    have hi2 : i < rs.length := by rw [← R.len, ← R.ledlen]; exact hi
    obtain ⟨t, es, n, a, b⟩ := R.at_ i rs[i] p (by simp [hi2]) (by simp [hi, ei])
    have e1 := (N q (List.mem_append_right _ hq)).1
    have e2 := (N p (List.mem_append_left _ hpp)).1
    rw [e, e1] at e2
    exact hrest q hq es n ((Option.some.inj e2).trans a)
  refine C dp un fr gd s Q E hd hu (fun b o e => F.keep b o (hs b o e)) (hp (R.rowAt F.keep fun p hp => (N p (List.mem_append_left _ hp)).1) fun b o e => hideAll_get _ (F.keep _ _ e) (notS b o e)) fun r h' tk' o d q => ?_
  have F' : Fr g L h' m := ⟨F.ns.at' fun o' e => o _ _ hL e, fun b x e => o _ _ (notS b x e) (F.keep b x e), F.above⟩
  refine k r h' tk' F' (fun q hq => o _ _ (hne q hq) (N q (List.mem_append_right _ hq)).1) (fun rs' hR' => ?_) d q
  have RD := rowD_of (g := g) hR' R.nod R.lst R.inst
  refine ⟨_, RD, fun p hp => ?_⟩
  rcases List.mem_append.mp hp with hp | hp
  · refine ⟨snap_in hR' p hp, ?_⟩
    have hm := List.mem_map_of_mem (f := (·.1)) hp
    rw [snap_map, ← R.dom] at hm
    obtain ⟨q, hq, e⟩ := List.mem_map.mp hm
    exact e ▸ (N q (List.mem_append_left _ hq)).2
  · exact ⟨o _ _ (hne p hp) (N p (List.mem_append_right _ hp)).1, (N p (List.mem_append_right _ hp)).2⟩
end
structure RowPre (hb h : Heap) (row : Addr) (xs : List (Addr × Addr)) (rs : List Rec) : Prop where
  rowAt : RowAt h row xs rs
  nod : (xs.map (·.2)).Nodup
  hb0 : ∀ x ∈ xs, hb.get? x.2 = none
  lst : IsL (hideAll h (xs.map (·.2))) row (xs.map fun x => .ref x.1)
  inst : ∀ x ∈ xs, (hideAll h (xs.map (·.2))).get? x.1 = some (instObj 135 x.2)
theorem RowD.pre {hb g h h' : Heap} {L row : Addr} {xs : List (Addr × Addr)} {rs : List Rec} {led news : Led} (R : RowD g row xs rs led) (N : News g L h' news) (hs : hb.StaysIn g) (a : RowAt h row xs rs) (k : g.StaysIn (hideAll h (xs.map (·.2)))) (hm : ∀ p ∈ led, p ∈ news) : RowPre hb h row xs rs := by
  refine ⟨a, R.nod, fun x hx => ?_, R.lst.keep k, fun x hx => k _ _ (R.inst x hx)⟩
  have hm2 := List.mem_map_of_mem (f := (·.2)) hx
  rw [← R.dom] at hm2
  obtain ⟨q, hq, e⟩ := List.mem_map.mp hm2
  have z := (N q (hm q hq)).2.2
  cases q2 : hb.get? x.2 with
  | none => rfl
  | some o => rw [e, hs _ _ q2] at z; cases z

-- Loop
section
variable {prog : Program} {w : World} {A : Around} {E : Value → Shared → Prop} {env : Env} {s : Shared}
def LoopEnd (g0 : Heap) (L : Addr) (I : Addr) (oI : Obj) (J : (Str → Option Value) → Led → Prop) (s₁ : Shared) (Qr : Value → Shared → Prop) (Qb : Shared → Prop) (f : Flow) (s₂ : Shared) : Prop :=
  match f with
  | .ret v => Qr v s₂
  | .brk => Qb s₂
  | _ => ∃ h tk m news, s₂ = { s₁ with heap := h, toks := tk } ∧ Fr g0 L h m ∧ News g0 L h ((I, oI) :: news) ∧ (∀ p ∈ news, p.1 ≠ I) ∧ J m news
def ForIs (prog : Program) (w : World) (A : Around) (s : Shared) (xv : Value) (own : List Addr) (n : Nat) (P : Nat → Value → Prop) : Prop := ∀ (Q E : Value → Shared → Prop),
  (∀ oI St, Walks prog w A s.heap.objs.size (s.heap.objs.size :: own) [s.heap.objs.size] n P St → St 0 (s.heap.push oI) → (∀ i h, St i h → ∃ o, h.get? s.heap.objs.size = some o ∧ ∀ es n, o ≠ dictOf es n) → (∀ b ∈ own, s.heap.get? b ≠ none) →
    (∀ target i v (s' : Shared) (Q : Unit → Shared → Prop) (E : Value → Shared → Prop), St i s'.heap → Q () s' → wpAny (model prog w) A (letOwnedTupleGo target (.ref s.heap.objs.size) v) Q E s') → Q (.ref s.heap.objs.size) { s with heap := s.heap.push oI }) →
  wpAny (model prog w) A (pyIter xv) Q E s
theorem for_list (hh : A.handled = none) {l : Addr} {items : Array Value} (hl : s.heap.IsList l items) : ForIs prog w A s (.ref l) [l] items.size (fun i v => items[i]? = some v) := by
  intro Q E h
  have hlt : l < s.heap.objs.size := by obtain ⟨_, e, _⟩ := hl; exact Heap.lt_size e
  refine wpAny_pyIter_list hl (h _ _ (Walks.list hh _ l (Nat.ne_of_lt hlt) items) ⟨⟨_, Heap.get?_push_size _ rfl, rfl, rfl⟩, hl.at fun o e => Heap.get?_push_of_some _ e⟩ (fun i h st => ?_) (fun b hb q => ?_) fun target i v s' Q E st q => letGo_listiter st.1 q)
  · obtain ⟨o, e, a, b⟩ := st.1
    exact ⟨o, e, fun es n q => by rw [q] at a; exact absurd (Value.type.inj a) (by decide)⟩
  · rw [List.mem_singleton.mp hb] at q; obtain ⟨o, e, _⟩ := hl; rw [e] at q; cases q
theorem for_dict (hh : A.handled = none) {d : Addr} {kvs : List (Int × Value)} (hs : (d == sysModules) = false) (hd : s.heap.DictOf (PySem.intKind prog w) d kvs) : ForIs prog w A s (.ref d) [d] kvs.length (fun i v => ∃ k x t, kvs[i]? = some (k, x) ∧ v = .int k t) := by
  intro Q E h
  obtain ⟨o, es, ep, e1, e2⟩ := id hd
  have hlt : d < s.heap.objs.size := Heap.lt_size e1
  have hda : s.heap.DictAt (PySem.intKind prog w) d kvs ep := ⟨o, es, e1, e2⟩
  have W0 := Walks.dictKeys (prog := prog) (w := w) (A := A) (knd := PySem.intKind prog w) hh s.heap.objs.size d (Nat.ne_of_lt hlt) kvs ep
  have W : Walks prog w A s.heap.objs.size [s.heap.objs.size, d] [s.heap.objs.size] kvs.length (fun i v => ∃ k x t, kvs[i]? = some (k, x) ∧ v = .int k t) (fun i h => h.IsKeyIter s.heap.objs.size d i kvs.length ep ∧ h.DictAt (PySem.intKind prog w) d kvs ep) :=
    ⟨W0.sub, W0.frame, fun i s Q E hi st hQ => W0.item i s Q E hi st fun v h' tk hP st' hk => hQ v h' tk (by obtain ⟨k, x, a, b⟩ := hP; obtain ⟨t, rfl⟩ := Value.isInt_shape b; exact ⟨k, x, t, a, rfl⟩) st' hk, W0.done, W0.self⟩
  refine wpAny_pyIter_dict hs hda (h _ _ W ⟨⟨_, Heap.get?_push_size _ rfl, rfl, rfl⟩, hda.at fun o e => Heap.get?_push_of_some _ e⟩ (fun i h st => ?_) (fun b hb q => ?_) fun target i v s' Q E st q => letGo_keyiter st.1 q)
  · obtain ⟨o, e, a, b⟩ := st.1
    exact ⟨o, e, fun es n q => by rw [q] at a; exact absurd (Value.type.inj a) (by decide)⟩
  · rw [List.mem_singleton.mp hb, e1] at q; cases q

inductive ForLed (prog : Program) (w : World) (A : Around) (env : Env) (g0 : Heap) (x : Str) (body : List Stmt) (Q : Flow → Shared → Prop) (E : Value → Shared → Prop) (xv : Value) (s₁ : Shared) : Prop where
  | mk (own0 : List Addr) (n : Nat) (P : Nat → Value → Prop) (m : Str → Option Value) (news : Led) (J : Nat → (Str → Option Value) → Led → Prop) (e0 : ForIs prog w A s₁ xv own0 n P)
    (e1 : Fr g0 env.locals s₁.heap m)
    (e2 : News g0 env.locals s₁.heap news)
    (e3 : (∀ i m l, J i m l → ∀ b ∈ own0, g0.get? b = none → ∃ o, s₁.heap.get? b = some o ∧ (b, o) ∈ l))
    (e4 : (env.locals ∉ own0))
    (e5 : J 0 m news)
    (e6 : (∀ i v m₁ news₁ h₁ tk₁ I oI, i < n → P i v → J i m₁ news₁ → (∀ es n, oI ≠ dictOf es n) → (∀ p ∈ news₁, p.1 ≠ I) → Fr g0 env.locals h₁ (fun y => if y = x then some v else m₁ y) → News g0 env.locals h₁ ((I, oI) :: news₁) →
        wpAny (model prog w) A (execs body env) (LoopEnd g0 env.locals I oI (J (i + 1)) { s₁ with heap := h₁, toks := tk₁ } (fun v s' => Q (.ret v) s') fun s' => Q .next s') E { s₁ with heap := h₁, toks := tk₁ }))
    (e7 : ∀ h' tk m' news', Fr g0 env.locals h' m' → News g0 env.locals h' news' → J n m' news' → Q .next { s₁ with heap := h', toks := tk }) : ForLed prog w A env g0 x body Q E xv s₁
theorem For_led {x : Str} {px pos : Pos} {iter : Expr} {body : List Stmt} {Q : Flow → Shared → Prop} {g0 : Heap} {m0 : Str → Option Value} (F₀ : Fr g0 env.locals s.heap m0) (hx : env.kindOf x = some .local) (hp : (env.scope.kind == .class || (env.scope.kind == .module && env.locals != env.globals)) = false)
    (h : wpAny (model prog w) A (eval iter env) (fun xv s₁ => ForLed prog w A env g0 x body Q E xv s₁) E s)
    (hs : ∀ x, foldedSetIterable iter env x = pure x := by intro _; rfl)
    (hE : PassesOwn (model prog w) A env E := by passes_own) :
    wpAny (model prog w) A (exec (.For (.Name x px) iter body [] pos) env) Q E s := by
  refine For_turns F₀ (wpAny_mono h (fun xv s₁ h₁ => ?_) fun _ _ e => e) hs hE
  obtain ⟨own0, n, P, m, news, J, hsrc, F, N, hJo, hLo, h0, step, fin⟩ := h₁
  refine hsrc _ _ fun oI0 St W st hI hown hgo => ?_
  have hlt : ∀ {b o}, s₁.heap.get? b = some o → @LT.lt Nat _ b s₁.heap.objs.size := fun e => Heap.lt_size e
  generalize hIe : s₁.heap.objs.size = I at *
  have hI0 : g0.get? I = none := by
    cases q : g0.get? I with
    | none => rfl
    | some o => exact absurd (hlt (F.keep _ _ q)) (Nat.lt_irrefl _)
  have hLI : env.locals ≠ I := fun e => by obtain ⟨o, _, _, ho, _⟩ := F.ns; exact absurd (hlt (e ▸ ho)) (Nat.lt_irrefl _)
  have hnI : ∀ p ∈ news, p.1 ≠ I := fun p hp e => absurd (hlt (e ▸ (N p hp).1)) (Nat.lt_irrefl _)
  refine ⟨I, I :: own0, [I], n, _, _, St, m, news, J, rfl, KTurns.ofWalks W (hgo _), ?_, ?_, ?_, st, F.push oI0, fun q hq => ⟨Heap.get?_push_of_some _ (N q hq).1, (N q hq).2⟩, h0, ?_, ?_⟩
  · intro hm
    rcases List.mem_cons.mp hm with e | hm
    · exact hLI e
    · exact hLo hm
  · intro b hb; rw [List.mem_singleton.mp hb]; exact hI0
  · intro p hp hm; exact hnI p hp (List.mem_singleton.mp hm)
  · intro i v m₁ news₁ h₁ tk₁ own hi hPv hJ hw hof ho hin hst F₁ N₁
    obtain ⟨oI, eI, hoI⟩ := hI _ _ hst
    have mI : (I, oI) ∈ own := hin I (.head _) hI0 oI eI
    have hw' : ∀ p ∈ news₁, p.1 ≠ I := fun p hp e => hw p hp (List.mem_singleton.mpr e)
    have N₁' : News g0 env.locals h₁ ((I, oI) :: news₁) := fun p hp => (List.mem_cons.mp hp).elim (fun e => e ▸ N₁ _ (List.mem_append_left _ mI)) fun hp => N₁ _ (List.mem_append_right _ hp)
    refine wpAny_assign_Name (wpAny_storeName_local hx F₁.ns (fun h₂ hn₂ hs₂ => ?_) hp)
    have N₂ : News g0 env.locals h₂ ((I, oI) :: news₁) := fun p hp => ⟨hs₂.extBut _ _ (N₁' p hp).2.1 (N₁' p hp).1, (N₁' p hp).2⟩
    refine wpAny_mono (step i v m₁ news₁ h₂ _ I oI hi hPv hJ hoI hw' (F₁.set hn₂ hs₂) N₂) (fun f s₃ h₃ => ?_) fun _ _ e => e
    have key : ∀ {h₅ : Heap} {m₂ : Str → Option Value} {news₂ : Led}, News g0 env.locals h₅ ((I, oI) :: news₂) → J (i + 1) m₂ news₂ → News g0 env.locals h₅ (own ++ news₂) := by
      intro h₅ m₂ news₂ N₅ J₅ p hp
      rcases List.mem_append.mp hp with hp | hp
      · have p1 := N₁ p (List.mem_append_left _ hp)
        rcases List.mem_cons.mp (hof p hp) with e | e
        · have : p = (I, oI) := by
            have e1 := p1.1
            rw [e, eI] at e1
            exact Prod.ext e (Option.some.inj e1).symm
          rw [this]; exact N₅ _ (.head _)
        · obtain ⟨o, e1, e2⟩ := hJo _ _ _ J₅ p.1 e p1.2.2
          obtain ⟨o', e1', e2'⟩ := hJo _ _ _ hJ p.1 e p1.2.2
          have z := (N₁ _ (List.mem_append_right _ e2')).1
          have : p.2 = o := by
            have z' := p1.1
            rw [z] at z'
            have h9 : o = o' := Option.some.inj (e1.symm.trans e1')
            rw [h9]; exact (Option.some.inj z').symm
          exact ⟨by rw [this]; exact (N₅ _ (.tail _ e2)).1, p1.2⟩
      · exact N₅ _ (.tail _ hp)
    cases f with
    | ret v => exact h₃
    | brk => exact h₃
    | cont =>
      obtain ⟨h₅, tk, m₂, news₂, rfl, F₅, N₅, a₅, J₅⟩ := h₃
      exact ⟨rfl, h₅, tk, m₂, news₂, rfl, F₅, key N₅ J₅, fun p hp e => a₅ p hp (List.mem_singleton.mp e), J₅⟩
    | next =>
      obtain ⟨h₅, tk, m₂, news₂, rfl, F₅, N₅, a₅, J₅⟩ := h₃
      exact ⟨rfl, h₅, tk, m₂, news₂, rfl, F₅, key N₅ J₅, fun p hp e => a₅ p hp (List.mem_singleton.mp e), J₅⟩
  · intro h' tk m' news' F' N' _ hJ
    exact fin h' tk m' news' F' N' hJ
end
theorem loopEnd {g0 h : Heap} {L I : Addr} {oI : Obj} {J : (Str → Option Value) → Led → Prop} {s₁ : Shared} {Qr : Value → Shared → Prop} {Qb : Shared → Prop} {tk : Nat} {m : Str → Option Value} {news : Led} (F : Fr g0 L h m) (N : News g0 L h ((I, oI) :: news)) (ne : ∀ p ∈ news, p.1 ≠ I) (j : J m news) :
    LoopEnd g0 L I oI J s₁ Qr Qb .next { s₁ with heap := h, toks := tk } := ⟨h, tk, m, news, rfl, F, N, ne, j⟩
theorem RowD.ne {g : Heap} {row I : Addr} {xs : List (Addr × Addr)} {rs rs' : List Rec} {led led' : Led} (R : RowD g row xs rs led) (R' : RowD g row xs rs' led') (h : ∀ p ∈ led', p.1 ≠ I) : ∀ p ∈ led, p.1 ≠ I := fun p hp => by
  have hm := List.mem_map_of_mem (f := (·.1)) hp
  rw [R.dom, ← R'.dom] at hm
  obtain ⟨q, hq, e⟩ := List.mem_map.mp hm
  rw [← e]; exact h q hq
theorem setM_mapL (x : Str) (v : Value) (l : List (Str × Value)) : mapL ((x, v) :: l) = fun y => if y = x then some v else mapL l y := funext fun y => mapL_cons x v l y

section C_lines
theorem rows_18 : True := by
  (k_with "eval Name" => (k_here; (with_reducible show wpAny _ _ (eval (Expr.Name _ _) (compEnvC _ _ _ _)) _ _ _); k_dflt (first | (refine' ldVarK (Fr.ns ?z63F) ?z63x ?_; (case z63F => k_asm); (case z63x => first | assumption | exact rfl); k_whole) | (refine' LCgL.ld_global ?z63a ?z63b ?z63c ?z63d ?_; (case z63a => k_asm); (case z63b => k_asm); (case z63c => k_asm); (case z63d => k_is); k_whole) | (refine' LCgL.ld_built ?z63a ?z63b ?z63c ?z63d ?z63e ?z63f ?_; (case z63a => k_asm); (case z63b => k_asm); (case z63c => k_asm); (case z63d => k_is); (case z63e => boot_by_name); (case z63f => decide); k_whole) | (refine' free_g ?z63F ?z63c ?z63m ?_ ?z63a ?z63b; (case z63F => k_asm); (case z63a => rfl); (case z63b => rfl); (case z63c => rfl); (case z63m => assumption); k_whole) | (refine' cell_g ?z63F ?z63c ?z63m ?_ ?z63a ?z63b; (case z63F => k_asm); (case z63a => rfl); (case z63b => rfl); (case z63c => rfl); (case z63m => assumption); k_whole))))
  (k_with "eval ListComp" => (k_here; k_dflt ((refine' ListComp_led ?z64a0 ?z64a1 ?z64a2 ?z64a3 ?z64a4 ?z64a5 ?_ ?z64a6); (case z64a0 => k_asm); (case z64a1 => with_unfolding_all rfl); (case z64a2 => decide); (case z64a3 => rfl); (case z64a4 => decide); (case z64a5 => rfl); (case z64a6 => intro _; rfl))))
  (k_with "exec Assign cons ListComp" => (k_here; k_dflt ((refine' Assign_ListComp_led ?z65a0 ?z65b0 ?z65a1 ?z65a2 ?z65a3 ?z65a4 ?z65a5 ?z65b1 ?z65b2 ?_ ?z65a6); (case z65a0 => k_asm); (case z65b0 => with_unfolding_all rfl); (case z65a1 => with_unfolding_all rfl); (case z65a2 => decide); (case z65a3 => rfl); (case z65a4 => decide); (case z65a5 => rfl); (case z65b1 => rfl); (case z65b2 => rfl); (case z65a6 => intro _; rfl))))
  (k_with "call builtin:min" => (k_here; (with_reducible show wpAny _ _ (call (Value.builtin _) [Value.ref _]) _ _ _); k_dflt ((refine' kso_min ?z66k1 ?z66k2 ?z66k3 ?z66k4 ?z66k5 ?z66k6 ?_); (case z66k1 => k_asm); (case z66k2 => k_asm); (case z66k3 => assumption); (case z66k4 => assumption); (case z66k5 => first | assumption | omega); (case z66k6 => rfl); intro _ _ _ _ _ _ _ _; (try k_sweep))))
  (k_with "exec For" => (k_here; k_dflt ((refine' For_led ?z67a0 ?z67a1 ?z67a2 ?_ ?z67a3 ?z67a4); (case z67a0 => k_asm); (case z67a1 => rfl); (case z67a2 => rfl); (case z67a3 => intro _; rfl); (case z67a4 => passes_own))))
  (k_with "m in" => first | assumption | exact List.Mem.head _ | (refine' List.Mem.tail _ ?_; walk_at "m in") | (refine' List.mem_append_left _ ?_; walk_at "m in") | (refine' List.mem_append_right _ ?_; walk_at "m in"))
  (k_with "m sub" => first | exact List.forall_mem_nil _ | (refine' List.forall_mem_cons.mpr (And.intro ?_ ?_); (next => walk_at "m in"); (next => walk_at "m sub")) | (refine' List.forall_mem_append.mpr (And.intro ?_ ?_); (next => walk_at "m sub"); (next => walk_at "m sub")) | (intro q hq; walk_at "m in"))
  trivial

section S_Hang
theorem toNat_less {b e : Int} (h0 : 0 ≤ b) (h1 : 0 ≤ e) : (e - b).toNat = e.toNat - b.toNat := by
  obtain ⟨m, rfl⟩ := Int.eq_ofNat_of_zero_le h0
  obtain ⟨n, rfl⟩ := Int.eq_ofNat_of_zero_le h1
  exact Int.toNat_sub n m
theorem pick_plain {vs : List Value} {b e : Int} (h0 : 0 ≤ b) (h1 : b ≤ e) (h2 : e ≤ vs.length) : (slicePick vs.toArray (some b) (some e) none).toList = (vs.drop b.toNat).take (e.toNat - b.toNat) := by
  have q : sliceBounds (some b) (some e) none vs.toArray.size = (((b.toNat : Nat) : Int), ((e.toNat : Nat) : Int), 1) := by
    simp only [sliceBounds, Option.getD_none, show (1 : Int) > 0 by decide, if_true, if_neg (show ¬ (b < 0) by omega), if_neg (show ¬ (e < 0) by omega)]
    have h3 : (vs.toArray.size : Int) = vs.length := by simp
    have e1 : max 0 (min b (vs.toArray.size : Int)) = (b.toNat : Int) := by rw [h3, Int.min_eq_left (Int.le_trans h1 h2), Int.max_eq_right h0, Int.toNat_of_nonneg h0]
    have e2 : max 0 (min e (vs.toArray.size : Int)) = (e.toNat : Int) := by rw [h3, Int.min_eq_left h2, Int.max_eq_right (Int.le_trans h0 h1), Int.toNat_of_nonneg (Int.le_trans h0 h1)]
    refine Prod.ext ?_ (Prod.ext ?_ rfl) <;> simp only [] <;> first | exact e1 | exact e2 | omega
  rw [kmk_pick_nat _ q]
theorem led_len {prog : Program} {w : World} {A : Around} {E : Value → Shared → Prop} {s : Shared} {g : Heap} {L l : Addr} {news : Led} {vs : List Value} {n : Nat} {Q : Value → Shared → Prop} (N : News g L s.heap news) (hm : (l, listOf vs.toArray n) ∈ news) (hfit : vs.length < 1000) (h : Q (.int vs.length (s.toks + 1)) { s with toks := s.toks + 1 + 1 }) :
    wpAny (model prog w) A (call (.builtin "len") [.ref l]) Q E s :=
  have hL := PySem.IsL.isList (n := n) (N _ hm).1
  len_list hL (by simp; omega) (by simpa using h)
def leastC (rs : List Rec) : Int := (rs.map (·.cluster)).min?.getD 0
theorem leastC_is {rs : List Rec} {c : Int} (h1 : c ∈ rs.map (·.cluster)) (h2 : ∀ a ∈ rs.map (·.cluster), c ≤ a) : leastC rs = c := by
  unfold leastC
  rw [List.min?_eq_some_iff.mpr ⟨h1, h2⟩]; rfl
def hangL (rs : List Rec) (b : Nat) (c : Int) : Nat → List Rec
  | 0 => rs
  | i + 1 => match (hangL rs b c i)[b + i]? with
    | some r => if r.cluster ≠ c then (hangL rs b c i).set (b + i) { r with uns := true } else hangL rs b c i
    | none => hangL rs b c i
def hangD (rs : List Rec) (b e : Nat) : List Rec := if e - b < 2 then rs else hangL rs b (leastC ((rs.drop b).take (e - b))) (e - b)
theorem hangL_len (rs : List Rec) (b : Nat) (c : Int) : ∀ i, (hangL rs b c i).length = rs.length
  | 0 => rfl
  | i + 1 => by
    unfold hangL
    split
    · split
      · rw [List.length_set]; exact hangL_len rs b c i
      · exact hangL_len rs b c i
    · exact hangL_len rs b c i
theorem rows_19 : True := by
  (k_with "call builtin:len" => (k_here; (with_reducible show wpAny _ _ (call (Value.builtin "len") [Value.ref _]) _ _ _); k_dflt ((refine' led_len ?z70k1 ?z70k2 ?z70k3 ?_); (case z70k1 => k_asm); (case z70k2 => first | assumption | walk_at "m mem"); (case z70k3 => walk_at "m num"))))
  (k_with "subscriptTail Name Slice ref ref" => (k_here; k_dflt ((refine' kmk_slice_lit ?z71k1 ?z71k2 ?z71k3 ?z71k4 ?z71k5 ?z71k6 ?_ ?z71k7 ?z71k8 ?z71k9); (case z71k1 => k_asm); (case z71k2 => k_asm); (case z71k3 => exact Mine.IsL.isList (Mine.IsL.keep (by assumption) (Fr.keep (by assumption)))); (case z71k4 => exact IsPart.int _ _); (case z71k5 => exact IsPart.int _ _); (case z71k6 => exact pick_plain (by omega) (by omega) (by first | assumption | (simp only [List.length_map]; omega))); (case z71k7 => with_unfolding_all rfl); (case z71k8 => intro _; with_unfolding_all rfl); (case z71k9 => first | assumption | (simp [sizeLine]; omega)); intro _ _ _ _ _)))
  (k_with "call builtin:min" => (k_here; (with_reducible show wpAny _ _ (call (Value.builtin _) [Value.ref _]) _ _ _); k_dflt ((refine' kso_min ?z72k1 ?z72k2 ?z72k3 ?z72k4 ?z72k5 ?z72k6 ?_); (case z72k1 => k_asm); (case z72k2 => k_asm); (case z72k3 => assumption); (case z72k4 => assumption); (case z72k5 => first | assumption | omega); (case z72k6 => rfl); intro _ _ _ _ _ _ a9 b9; (have e9 := leastC_is a9 b9); subst e9; (try dsimp only); revert a9 b9; intros)))
  trivial

theorem set_uns {r : Rec} {b : Bool} (t : Nat → Tok) : ((infoF r t).lookup (Str.ofString "is_unsafe")).isSome = true ∧ ∃ t', putF (Str.ofString "is_unsafe") (.bool b) (infoF r t) = infoF { r with uns := b } t' := ⟨rfl, t, rfl⟩
theorem rows_20 : True := by
  (k_with "getAttr ref" => (k_here; k_dflt (first | ((refine' get_has ?z73k1 ?z73k2 ?z73k3 ?z73k4 ?z73k5 ?z73k6 ?z73k7 ?z73k8 ?z73k9 ?_); (case z73k1 => k_asm); (case z73k2 => k_asm); (case z73k3 => assumption); (case z73k4 => k_is); (case z73k5 => k_is); (case z73k6 => k_is); (case z73k7 => k_is); (case z73k8 => exact rfl); (case z73k9 => k_handed); k_whole) | ((refine' get_led ?z73k1 ?z73k2 ?z73k3 ?z73kN ?z73kM ?z73kD ?z73k4 ?z73k5 ?z73k6 ?z73k7 ?z73k8 ?z73k9 ?_); (case z73k1 => k_asm); (case z73k2 => k_asm); (case z73k3 => assumption); (case z73kN => k_asm); (case z73kM => assumption); (case z73kD => assumption); (case z73k4 => k_is); (case z73k5 => k_is); (case z73k6 => k_is); (case z73k7 => k_is); (case z73k8 => exact rfl); (case z73k9 => k_handed); k_whole))))
  (k_with "setAttr ref" => (k_here; k_dflt ((refine' set_row ?z74k1 ?z74k2 ?z74k3 ?z74k4 ?z74k5 ?z74k6 ?z74k7 ?z74s1 ?z74s2 ?z74s3 ?z74s4 ?z74s5 ?_); (case z74k1 => k_asm); (case z74k2 => k_asm); (case z74k3 => k_asm); (case z74k4 => assumption); (case z74k5 => assumption); (case z74k6 => assumption); (case z74k7 => assumption); (case z74s1 => k_is); (case z74s2 => k_is); (case z74s3 => k_is); (case z74s4 => k_is); (case z74s5 => intro t; exact set_uns t); intro _ _ _ _ _ _; (try k_sweep))))
  trivial

theorem hang_c {w : World} {hb : Heap} (G : Gr w hb) (buf row : Addr) (v5 v6 v7 : Value) (b e : Int) (t t2 : Tok) (xs : List (Addr × Addr)) (rs : List Rec) (h0 : 0 ≤ b) (h1 : b < e) (h2 : e ≤ xs.length) :
    Does w hb 197 [.ref buf, .int b t, .int e t2] 6 (xs.map (·.2)) (fun h => RowPre hb h row xs rs ∧ Has (hideAll h (xs.map (·.2))) buf 188 [(Str.ofString "row", .ref row), (Str.ofString "is_backward", v5), (Str.ofString "last_lig", v6), (Str.ofString "last_split", v7)])
      (fun _ q h' => q = .none ∧ RowAt h' row xs (hangD rs b.toNat e.toNat)) := by
  obtain ⟨p, loose, mean, mg, mb, X₀, T₀⟩ := id G
  intro dp un fr gds s Q E hdep hun hs hpre9
  obtain ⟨hR, hB⟩ := hpre9
  intro hQ
  refine' enterR [(Str.ofString "end", .int e t2), (Str.ofString "begin", .int b t), (Str.ofString "buffer", .ref buf)] xs rs row ?k1 ?k2 ?k3 hR.rowAt hR.nod hR.hb0 hR.lst hR.inst ?k6 ?k7 ?k8 ?k9 ?kB ?kk ?c2 ?c3 ?c4 ?c5
  (case k1 => assumption)
  (case k2 => assumption)
  (case k3 => assumption)
  (case k6 => k_is)
  (case k7 => k_is)
  (case k8 => first | exact room0 (by assumption) | exact room1 (by assumption) | (simp only [recursionLimit]; omega))
  (case k9 => exact BindsTo.of_eq rfl)
  (case kB => exact locs rfl)
  (case c5 => decide)
  (case c2 => exact rfl)
  (case c3 => exact rfl)
  (case c4 => exact rfl)
  intro L' h' tk' g led hg F' N' RD X' T' hsg
  clear X₀ T₀
  walk_at "m body"
  have hl := RD.lst
  have hn6 := RD.few
  rw [← hg] at hB
  refine cut (fun s' => Bx (Ex2 fun sl n3 => Stands s g L' (mapL [(Str.ofString "stretch", .ref sl), (Str.ofString "end", .int e t2), (Str.ofString "begin", .int b t), (Str.ofString "buffer", .ref buf)]) ((sl, listOf (((xs.map fun x => Value.ref x.1).drop b.toNat).take (e.toNat - b.toNat)).toArray n3) :: (led ++ [])) s')) ?_ ?_
  · walk_at "m go2"
    exact ⟨⟨_, _, stands (Mine.Fr.put (by assumption)) (by assumption)⟩⟩
  clear F' N'
  rintro _ ⟨⟨sl, n3, h1', tk1, rfl, F', N'⟩⟩
  have K1 : (e - b).toNat = e.toNat - b.toNat := toNat_less h0 (Int.le_trans h0 (Int.le_of_lt h1))
  have K3 : e.toNat ≤ xs.length := Int.toNat_le.mpr h2
  have hz : ((xs.map fun x => Value.ref x.1).drop b.toNat |>.take (e.toNat - b.toNat)).length = e.toNat - b.toNat := by
    rw [List.length_take, List.length_drop, List.length_map]; exact Nat.min_eq_left (Nat.sub_le_sub_right K3 _)
  have hzi : ∀ i v, ((xs.map fun x => Value.ref x.1).drop b.toNat |>.take (e.toNat - b.toNat))[i]? = some v → ∃ x dx r, xs[b.toNat + i]? = some (x, dx) ∧ rs[b.toNat + i]? = some r ∧ v = .ref x ∧ i < e.toNat - b.toNat := by
    intro i v hv
    have hi : i < e.toNat - b.toNat := by rw [← hz]; exact (List.getElem?_eq_some_iff.mp hv).1
    have hi2 : b.toNat + i < xs.length := Nat.lt_of_lt_of_le (Nat.add_lt_of_lt_sub' hi) K3
    have hi3 : b.toNat + i < rs.length := by rw [← RD.len]; exact hi2
    refine ⟨(xs[b.toNat + i]).1, (xs[b.toNat + i]).2, rs[b.toNat + i], by simp [hi2], by simp [hi3], ?_, hi⟩
    rw [List.getElem?_take, if_pos hi, List.getElem?_drop] at hv
    simp [hi2] at hv
    exact hv.symm
  generalize ((xs.map fun x => Value.ref x.1).drop b.toNat |>.take (e.toNat - b.toNat)) = zs at *
  have hslm : (sl, listOf zs.toArray n3) ∈ (sl, listOf zs.toArray n3) :: (led ++ []) := .head _
  by_cases hsm : e - b < 2
  · walk_at "m go2"
    all_goals first
      | (exfalso; omega)
      | skip
    · have ed : hangD rs b.toNat e.toNat = rs := by unfold hangD; rw [if_pos (by rw [← K1]; clear hz hzi hn6 hslm; omega)]
      exact finR hQ hg (by assumption) (by assumption) (by assumption) (by walk_at "m sub") hR.rowAt (fun hz => ⟨rfl, by rw [ed]; exact hz⟩)
  refine cut (fun s' => Bx (Stands s g L' (mapL [(Str.ofString "stretch", .ref sl), (Str.ofString "end", .int e t2), (Str.ofString "begin", .int b t), (Str.ofString "buffer", .ref buf)]) ((sl, listOf zs.toArray n3) :: (led ++ [])) s')) ?_ ?_
  · walk_at "m go2"
    all_goals first
      | (exfalso; omega)
      | exact ⟨stands (by assumption) (by assumption)⟩
  clear F' N'
  rintro _ ⟨⟨h2', tk2, rfl, F', N'⟩⟩
  have hfin : ∀ i ys, (∃ ns, IntsAre ys ns ∧ ns = ((rs.drop b.toNat).take i).map (·.cluster) ∧ ys.length = i) → i = zs.length → IntsAre ys (((rs.drop b.toNat).take (e.toNat - b.toNat)).map (·.cluster)) := by
    rintro i ys ⟨ns, h1, h2, h3⟩ rfl
    rw [h2, hz] at h1
    exact h1
  have hne : 0 < (((rs.drop b.toNat).take (e.toNat - b.toNat)).map (·.cluster)).length := by
    have := RD.len
    simp; omega
  refine cut (fun s' => Bx (∃ tc, Stands s g L' (mapL [(Str.ofString "least_cluster", .int (leastC ((rs.drop b.toNat).take (e.toNat - b.toNat))) tc), (Str.ofString "stretch", .ref sl), (Str.ofString "end", .int e t2), (Str.ofString "begin", .int b t), (Str.ofString "buffer", .ref buf)]) ((sl, listOf zs.toArray n3) :: (led ++ [])) s')) ?_ ?_
  · walk_at "m go2"
    refine ⟨[sl], zs.toArray.size, _, [], (sl, listOf zs.toArray n3) :: (led ++ []), (fun i ys l => l = [] ∧ ∃ ns, IntsAre ys ns ∧ ns = ((rs.drop b.toNat).take i).map (·.cluster) ∧ ys.length = i), src_list rfl (PySem.IsL.isList (n := n3) (N' _ hslm).1), ?_, F', N', (fun b _ h => nomatch h), (fun q _ h => nomatch h), ⟨rfl, [], .nil, rfl, rfl⟩, ?_, ?_, ?_⟩
    · simp [sizeLine]; omega
    · rintro i ys l ⟨-, ns, -, -, h3⟩; omega
    · intro C i v s₃ m₃ ys led' g' E' F3 N3 gg grest gL hK hi hP hm _
      obtain ⟨rfl, ns, hK1, hK2, hK3⟩ := hK
      refine wpAny_tests_nil ?_
      rw [if_pos rfl]
      obtain ⟨x, dx, r, hx1, hx2, rfl, hi2⟩ := hzi i v (by simpa using hP)
      obtain ⟨ti, es, n9, a1, a2, a3, a4⟩ := RD.item hx1 hx2
      have hH : Has g' x 135 (infoF r ti) := ⟨dx, gg _ _ a1, es, n9, grest (dx, dictOf es n9) (by simp [a3]), a4⟩
      have X3 : (frag w.params).In g' := X'.keeps gg
      clear F' N'
      walk_at "m go2"
      refine turned (by assumption) (by assumption) (fun q h => nomatch h) ⟨rfl, _, Mine.IntsAre.snoc hK1, ?_, by simp [hK3]⟩
      rw [hK2, take_succ_get (x := r) (by rw [List.getElem?_drop]; exact hx2)]
      simp
    · rintro D nn h4 tk4 ys ledN hDn ⟨rfl, hK⟩ F4 N4
      have hI := hfin _ ys hK (by simp)
      have hDl : h4.IsList D ys.toArray := PySem.IsL.isList (n := nn) (N4 _ (.head _)).1
      clear F' N'
      walk_at "m go2"
      exact ⟨⟨_, stands (Mine.Fr.put (by assumption)) (Mine.News.re (by assumption) fun p hp => by simpa using Or.inr (by simpa using hp))⟩⟩
  clear F' N'
  rintro _ ⟨⟨tc, h3', tk3, rfl, F', N'⟩⟩
  refine cut (fun s' => Bx (Ex2 fun m led' => Stands s g L' m (led' ++ []) s' ∧ RowD g row xs (hangD rs b.toNat e.toNat) led')) ?_ ?_
  · walk_at "m go2"
    have hzl : (hangL rs b.toNat (leastC ((rs.drop b.toNat).take (e.toNat - b.toNat))) zs.toArray.size) = hangD rs b.toNat e.toNat := by
      unfold hangD
      rw [if_neg (by rw [← K1]; exact fun h => hsm (by clear hz hzi hn6 hslm; omega))]
      simp [hz]
    refine ⟨[sl], zs.toArray.size, _, _, _, (fun i m l => m = m ∧ ∃ led', l = led' ++ [(sl, listOf zs.toArray n3)] ∧ RowD g row xs (hangL rs b.toNat (leastC ((rs.drop b.toNat).take (e.toNat - b.toNat))) i) led' ∧ ∃ vi, m = fun y => if y = Str.ofString "info" then vi else mapL [(Str.ofString "least_cluster", .int (leastC ((rs.drop b.toNat).take (e.toNat - b.toNat))) tc), (Str.ofString "stretch", .ref sl), (Str.ofString "end", .int e t2), (Str.ofString "begin", .int b t), (Str.ofString "buffer", .ref buf)] y), for_list rfl (PySem.IsL.isList (n := n3) (N' _ hslm).1), F', Mine.News.re (l' := led ++ [(sl, listOf zs.toArray n3)]) N' (fun p hp => by simp at hp ⊢; exact hp.symm), ?_, ?_, ⟨rfl, led, rfl, RD, none, ?_⟩, ?_, ?_⟩
    · rintro i m l ⟨-, led', rfl, -⟩ b hb -
      rw [List.mem_singleton.mp hb]
      exact ⟨_, (N' _ hslm).1, by simp⟩
    · intro h
      exact (N' _ hslm).2.1 (List.mem_singleton.mp h).symm
    · funext y
      split
      · rename_i e0; subst e0; exact rfl
      · rfl
    · rintro i v m₁ news₁ h₁ tk₁ I oI hi hP ⟨-, led', rfl, RD', vi, rfl⟩ hoI hnI F5 N5
      obtain ⟨x, dx, r0, hx1, hx2, rfl, hi2⟩ := hzi i v (by simpa using hP)
      have hlen := hangL_len rs b.toNat (leastC ((rs.drop b.toNat).take (e.toNat - b.toNat))) i
      obtain ⟨r, hr⟩ : ∃ r, (hangL rs b.toNat (leastC ((rs.drop b.toNat).take (e.toNat - b.toNat))) i)[b.toNat + i]? = some r := by
        have : b.toNat + i < rs.length := (List.getElem?_eq_some_iff.mp hx2).1
        exact ⟨_, List.getElem?_eq_getElem (by omega)⟩
      have hstep : hangL rs b.toNat (leastC ((rs.drop b.toNat).take (e.toNat - b.toNat))) (i + 1) = if r.cluster ≠ leastC ((rs.drop b.toNat).take (e.toNat - b.toNat)) then (hangL rs b.toNat (leastC ((rs.drop b.toNat).take (e.toNat - b.toNat))) i).set (b.toNat + i) { r with uns := true } else hangL rs b.toNat (leastC ((rs.drop b.toNat).take (e.toNat - b.toNat))) i := by
        rw [hangL, hr]
      clear hlen
      generalize leastC ((rs.drop b.toNat).take (e.toNat - b.toNat)) = c at *
      obtain ⟨ti, es, n9, a1, a2, a3, a4⟩ := RD'.item hx1 hr
      have F6 : Fr g L' h₁ (mapL [(Str.ofString "info", .ref x), (Str.ofString "least_cluster", .int c tc), (Str.ofString "stretch", .ref sl), (Str.ofString "end", .int e t2), (Str.ofString "begin", .int b t), (Str.ofString "buffer", .ref buf)]) := Mine.Fr.cong F5 (by funext y; rw [mapL_cons]; by_cases e9 : y = Str.ofString "info" <;> simp [e9])
      have N6 : News g L' h₁ (led' ++ [(sl, listOf zs.toArray n3), (I, oI)]) := Mine.News.re N5 ((by walk_at "m sub"))
      have hre : ∀ q ∈ [(sl, listOf zs.toArray n3), (I, oI)], ∀ es n, q.2 ≠ dictOf es n := by
        intro q hq es n
        simp at hq
        rcases hq with rfl | rfl
        · intro h; exact absurd (Value.type.inj (congrArg Obj.cls h)) (by decide)
        · exact hoI es n
      have hm6 : (dx, dictOf es n9) ∈ led' ++ [(sl, listOf zs.toArray n3), (I, oI)] := by simp [a3]
      clear F' N' F5 N5
      by_cases hc : r.cluster = c
      · rw [if_neg (by simpa using hc)] at hstep
        walk_at "m go2"
        all_goals first
          | (exfalso; omega)
          | (refine' loopEnd (news := led' ++ [(sl, listOf zs.toArray n3)]) ?F ?N ?ne ?J
             case F => assumption
             case N => exact Mine.News.re (by assumption) ((by walk_at "m sub"))
             case ne => exact hnI
             case J => exact ⟨rfl, led', rfl, hstep ▸ RD', some (.ref x), setM_mapL _ _ _⟩)
      · rw [if_pos hc] at hstep
        walk_at "m go2"
        all_goals first
          | (exfalso; omega)
          | skip
        rename_i led9 F9 N9 R9 H9
        refine' loopEnd (news := led9 ++ [(sl, listOf zs.toArray n3)]) ?F ?N ?ne ?J
        case F => assumption
        case N => exact Mine.News.re (by assumption) ((by walk_at "m sub"))
        case ne =>
          intro p hp
          rcases List.mem_append.mp hp with hp | hp
          · exact RowD.ne (by assumption) RD' (fun p hp => hnI p (by simp [hp])) p hp
          · exact hnI p (by simp at hp; simp [hp])
        case J => exact ⟨rfl, led9, rfl, hstep ▸ (by assumption), some (.ref x), setM_mapL _ _ _⟩
    · rintro h5 tk5 m5 news5 F5 N5 ⟨-, led', rfl, RD', -⟩
      exact ⟨⟨_, led', stands F5 (Mine.News.re N5 fun p hp => by simp at hp ⊢; exact .inl hp), hzl ▸ RD'⟩⟩
  clear F' N'
  rintro _ ⟨⟨m5, led5, ⟨h5, tk5, rfl, F', N'⟩, RD5⟩⟩
  clear RD
  walk_at "m go2"
  exact finR hQ hg (by assumption) (by assumption) (by assumption) (by walk_at "m sub") hR.rowAt (fun hz => ⟨rfl, hz⟩)
end S_Hang

-- RowW
abbrev sN (n : String) : Str := Str.ofString n
theorem set_xo {r : Rec} {a : Int} {u : Tok} (t : Nat → Tok) : ((infoF r t).lookup (Str.ofString "x_offset")).isSome = true ∧ ∃ t', putF (Str.ofString "x_offset") (.int a u) (infoF r t) = infoF { r with xo := a } t' := ⟨rfl, fun i => if i = 12 then u else t i, rfl⟩
theorem set_yo {r : Rec} {a : Int} {u : Tok} (t : Nat → Tok) : ((infoF r t).lookup (Str.ofString "y_offset")).isSome = true ∧ ∃ t', putF (Str.ofString "y_offset") (.int a u) (infoF r t) = infoF { r with yo := a } t' := ⟨rfl, fun i => if i = 13 then u else t i, rfl⟩
theorem set_par {r : Rec} {a : Int} {u : Tok} (t : Nat → Tok) : ((infoF r t).lookup (Str.ofString "parent")).isSome = true ∧ ∃ t', putF (Str.ofString "parent") (.int a u) (infoF r t) = infoF { r with parent := a } t' := ⟨rfl, fun i => if i = 14 then u else t i, rfl⟩
theorem set_bond {r : Rec} {a : Str} {u : Tok} (t : Nat → Tok) : ((infoF r t).lookup (Str.ofString "bond")).isSome = true ∧ ∃ t', putF (Str.ofString "bond") (.str a u) (infoF r t) = infoF { r with bond := a } t' := ⟨rfl, fun i => if i = 15 then u else t i, rfl⟩
theorem set_mask {r : Rec} {a : Int} {u : Tok} (t : Nat → Tok) : ((infoF r t).lookup (Str.ofString "mask")).isSome = true ∧ ∃ t', putF (Str.ofString "mask") (.int a u) (infoF r t) = infoF { r with mask := a } t' := ⟨rfl, fun i => if i = 3 then u else t i, rfl⟩
theorem set_lig {r : Rec} {a : Int} {u : Tok} (t : Nat → Tok) : ((infoF r t).lookup (Str.ofString "lig_id")).isSome = true ∧ ∃ t', putF (Str.ofString "lig_id") (.int a u) (infoF r t) = infoF { r with lig_id := a } t' := ⟨rfl, fun i => if i = 5 then u else t i, rfl⟩
theorem set_part {r : Rec} {a : Int} {u : Tok} (t : Nat → Tok) : ((infoF r t).lookup (Str.ofString "lig_part")).isSome = true ∧ ∃ t', putF (Str.ofString "lig_part") (.int a u) (infoF r t) = infoF { r with lig_part := a } t' := ⟨rfl, fun i => if i = 6 then u else t i, rfl⟩
theorem set_xa {r : Rec} {a : Int} {u : Tok} (t : Nat → Tok) : ((infoF r t).lookup (Str.ofString "x_advance")).isSome = true ∧ ∃ t', putF (Str.ofString "x_advance") (.int a u) (infoF r t) = infoF { r with xa := a } t' := ⟨rfl, fun i => if i = 10 then u else t i, rfl⟩
theorem IsTup.keep {h h' : Heap} {a : Addr} {items : Array Value} (x : IsTup h a items) (k : h.StaysIn h') : IsTup h' a items := x.keeps k
inductive AncAt (h : Heap) (v : Value) (p : Int × Int) : Prop where
  | mk (x : Addr) (t t' : Tok) (e0 : v = .ref x) (e1 : Has h x 342 [(sN "x", .int p.1 t), (sN "y", .int p.2 t')]) : AncAt h v p
theorem AncAt.keep {h h' : Heap} {v : Value} {p : Int × Int} (x : AncAt h v p) (k : h.StaysIn h') : AncAt h' v p := let ⟨a, t, t', b, c⟩ := x; ⟨a, t, t', b, c.keep k⟩
def OptAt (h : Heap) (v : Value) : Option (Int × Int) → Prop
  | none => v = .none
  | some p => AncAt h v p
theorem OptAt.keep {h h' : Heap} {v : Value} {p : Option (Int × Int)} (x : OptAt h v p) (k : h.StaysIn h') : OptAt h' v p := by
  cases p with
  | none => exact x
  | some p => exact AncAt.keep x k
def CellsAt (h : Heap) (vs : List Value) (cs : List (Option (Int × Int))) : Prop := vs.length = cs.length ∧ ∀ (i : Nat) v c, vs[i]? = some v → cs[i]? = some c → OptAt h v c
theorem CellsAt.keep {h h' : Heap} {vs : List Value} {cs : List (Option (Int × Int))} (x : CellsAt h vs cs) (k : h.StaysIn h') : CellsAt h' vs cs := ⟨x.1, fun i v c a b => (x.2 i v c a b).keep k⟩
inductive TupCells (h : Heap) (v : Value) (cs : List (Option (Int × Int))) : Prop where
  | mk (t : Addr) (vs : List Value) (e0 : v = .ref t) (e1 : IsTup h t vs.toArray) (e2 : CellsAt h vs cs) : TupCells h v cs
theorem TupCells.keep {h h' : Heap} {v : Value} {cs : List (Option (Int × Int))} (x : TupCells h v cs) (k : h.StaysIn h') : TupCells h' v cs := let ⟨t, vs, a, b, c⟩ := x; ⟨t, vs, a, b.keeps k, c.keep k⟩
inductive MarkV (h : Heap) (v : Value) (p : Int × (Int × Int)) : Prop where
  | mk (t : Addr) (u : Tok) (a : Value) (e0 : v = .ref t) (e1 : IsTup h t #[.int p.1 u, a]) (e2 : AncAt h a p.2) : MarkV h v p
theorem MarkV.keep {h h' : Heap} {v : Value} {p : Int × (Int × Int)} (x : MarkV h v p) (k : h.StaysIn h') : MarkV h' v p := let ⟨t, u, a, b, c, d⟩ := x; ⟨t, u, a, b, c.keeps k, d.keep k⟩
def Tab {α : Type} (w : World) (h : Heap) (d : Addr) (P : Heap → Value → α → Prop) (l : List (Int × α)) : Prop := ∃ kvs : List (Int × Value), DictI w h d kvs ∧ (kvs.map (·.1)) = l.map (·.1) ∧ ∀ (i : Nat) (v : Value) (a : α), (kvs[i]?).map (fun x => x.2) = some v → (l[i]?).map (fun x => x.2) = some a → P h v a
theorem Tab.keep {α : Type} {w : World} {h h' : Heap} {d : Addr} {P : Heap → Value → α → Prop} {l : List (Int × α)} (hP : ∀ v a, P h v a → P h' v a) (x : Tab w h d P l) (k : h.StaysIn h') : Tab w h' d P l := let ⟨kvs, a, b, c⟩ := x; ⟨kvs, a.keep k, b, fun i v a e f => hP _ _ (c i v a e f)⟩
theorem assoc_lookup {α : Type} {l : List (Int × α)} {g : Int} : ∀ {kvs : List (Int × Value)}, kvs.map (·.1) = l.map (·.1) → (valueAt kvs g).isSome = (l.lookup g).isSome ∧ (∀ v a, valueAt kvs g = some v → l.lookup g = some a → ∃ i : Nat, (kvs[i]?).map (fun x => x.2) = some v ∧ (l[i]?).map (fun x => x.2) = some a) := by
  induction l with
  | nil =>
    intro kvs h
    have : kvs = [] := by simpa using h
    subst this
    exact ⟨rfl, fun v a e => nomatch e⟩
  | cons p l ih =>
    obtain ⟨p1, p2⟩ := p
    intro kvs h
    cases kvs with
    | nil => simp at h
    | cons q kvs =>
      simp only [List.map_cons, List.cons.injEq] at h
      obtain ⟨h1, h2⟩ := h
      obtain ⟨i1, i2⟩ := ih h2
      by_cases e : p1 = g
      · have e1 : valueAt (q :: kvs) g = some q.2 := by
          unfold valueAt; rw [List.find?_cons]; simp [h1, e]
        have e2 : ((p1, p2) :: l).lookup g = some p2 := by rw [List.lookup_cons]; simp [e]
        refine ⟨by rw [e1, e2]; rfl, fun v a ev ea => ⟨0, ?_, ?_⟩⟩
        · rw [e1] at ev; cases ev; rfl
        · rw [e2] at ea; cases ea; rfl
      · have e1 : valueAt (q :: kvs) g = valueAt kvs g := by
          unfold valueAt; rw [List.find?_cons]; simp [h1, e]
        have e2 : ((p1, p2) :: l).lookup g = l.lookup g := by
          have e3 : (g == p1) = false := by simp [Ne.symm e]
          rw [List.lookup_cons, e3]
        rw [e1, e2]
        refine ⟨i1, fun v a ev ea => ?_⟩
        obtain ⟨i, a1, a2⟩ := i2 v a ev ea
        exact ⟨i + 1, by simpa using a1, by simpa using a2⟩
theorem Tab.get {α : Type} {w : World} {h : Heap} {d : Addr} {P : Heap → Value → α → Prop} {l : List (Int × α)} (x : Tab w h d P l) (g : Int) : ∃ kvs, DictI w h d kvs ∧ (valueAt kvs g).isSome = (l.lookup g).isSome ∧ ∀ a, l.lookup g = some a → ∃ v, valueAt kvs g = some v ∧ P h v a := by
  obtain ⟨kvs, a, b, c⟩ := x
  obtain ⟨h1, h2⟩ := assoc_lookup (g := g) b
  refine ⟨kvs, a, h1, fun a e => ?_⟩
  rw [e] at h1
  cases q : valueAt kvs g with
  | none => rw [q] at h1; cases h1
  | some v =>
    obtain ⟨i, e1, e2⟩ := h2 v a q e
    exact ⟨v, rfl, c i v a e1 e2⟩
section
variable {prog : Program} {w : World} {A : Around} {E : Value → Shared → Prop} {s : Shared} {h₀ : Heap} {L l : Addr} {m : Str → Option Value} {k : Int} {t : Tok} {v : Value} {vs : List Value}
theorem tu_item {value slice : Expr} {Q : Value → Shared → Prop} (F : Fr h₀ L s.heap m) (H : IsTup h₀ l vs.toArray) (h0 : 0 ≤ k) (hfit : k < 2 ^ 63) (hx : vs[k.toNat]? = some v) (h : Q v s)
    (hs : subscripted slice false (.ref l) (.int k t) = operate [.ref l, .int k t] (getItem (.ref l) (.int k t)) := by with_unfolding_all rfl) : wpAny (model prog w) A (subscriptTail value slice (.ref l) (.int k t)) Q E s := by
  have hL := H.keeps F.keep
  have hlt : k.toNat < vs.length := (List.getElem?_eq_some_iff.mp hx).1
  have hj : seqIndex? k vs.toArray.size = some k.toNat := by
    unfold seqIndex?
    have h3 : ¬ (k < 0) := by omega
    simp only [if_neg h3, List.size_toArray]
    rw [if_pos (by simp; omega)]
  refine tail_any (T := "tuple") hL.typeIs slot_tuple_getitem.lookup (getItem_tuple hL (by omega) hfit hj (by simpa using hx) h) hs
theorem tu_len {Q : Value → Shared → Prop} (F : Fr h₀ L s.heap m) (H : IsTup h₀ l vs.toArray) (hfit : vs.length < 1000) (h : Q (.int vs.length (s.toks + 1)) { s with toks := s.toks + 1 + 1 }) :
    wpAny (model prog w) A (call (.builtin "len") [.ref l]) Q E s := len_tuple (H.keeps F.keep) (by simp; omega) (by simpa using h)
end
theorem RowD.infoAt {g h : Heap} {L row : Addr} {xs : List (Addr × Addr)} {rs : List Rec} {led news : Led} {i : Nat} {x dx : Addr} {r : Rec} (R : RowD g row xs rs led) (k : g.StaysIn h) (N : News g L h news) (hm : ∀ p ∈ led, p ∈ news) (hx : xs[i]? = some (x, dx)) (hr : rs[i]? = some r) : InfoAt h x dx r := by
  obtain ⟨t, es, n, a, b, c, d⟩ := R.item hx hr
  exact ⟨t, k _ _ a, es, n, (N _ (hm _ c)).1, d⟩
theorem RowD.rowAtN {g h : Heap} {L row : Addr} {m : Str → Option Value} {xs : List (Addr × Addr)} {rs : List Rec} {led news : Led} (R : RowD g row xs rs led) (F : Fr g L h m) (N : News g L h news) (hm : ∀ p ∈ led, p ∈ news) : RowAt h row xs rs := R.rowAt F.keep fun p hp => (N p (hm p hp)).1
theorem nodict_nil : ∀ q ∈ ([] : Led), ∀ es n, q.2 ≠ dictOf es n := fun _ h => nomatch h
theorem nodict_cons {p : Addr × Obj} {l : Led} (hp : p.2.cls ≠ .type "dict") (h : ∀ q ∈ l, ∀ es n, q.2 ≠ dictOf es n) : ∀ q ∈ p :: l, ∀ es n, q.2 ≠ dictOf es n := fun q hq es n e => (List.mem_cons.mp hq).elim (fun z => hp (by rw [← z, e])) (fun z => h q z es n e)
theorem News.swap {g h : Heap} {L : Addr} {a b : Led} (N : News g L h (a ++ b)) : News g L h (b ++ a) := fun p hp => N p (by rcases List.mem_append.mp hp with h | h <;> simp [h])
theorem tup_two {h : Heap} {z : Addr} {a b : Value} {n : Nat} (e : h.get? z = some ⟨.type "tuple", none, .seq #[a, b] n, #[]⟩) : IsTup h z #[a, b] := ⟨_, e, rfl, n, rfl⟩
def setD (rs : List Rec) (at_ place : Nat) (own : Int × Int) : Option (Int × Int) → List Rec
  | none => rs
  | some a => match rs[at_]? with
    | some r => hangD (rs.set at_ { r with xo := a.1 - own.1, yo := a.2 - own.2, parent := (place : Int) - at_, bond := sN "mark" }) place (at_ + 1)
    | none => rs
def heard (at_ : Nat) : Option (Int × Int) → Int
  | none => -1
  | some _ => (at_ : Int) + 1
theorem break_ring_d {w : World} {hb : Heap} (G : Gr w hb) (row : Addr) (at_ place : Int) (t t2 : Tok) (xs : List (Addr × Addr)) (x dx : Addr) (r : Rec) (hx : xs[place.toNat]? = some (x, dx)) (hp : r.parent = 0) (h0 : 0 ≤ place) (h1 : place < xs.length) (h6 : xs.length ≤ 6) :
    Does w hb 304 [.ref row, .int at_ t, .int place t2] 1 [] (fun h => IsL h row (xs.map fun x => .ref x.1) ∧ InfoAt h x dx r) (fun _ q _ => q = .none) :=
  break_ring_c G row at_ place t t2 _ x dx r h0 (by simpa using h1) (by simpa using h6) (by rw [List.getElem?_map, hx]; rfl) hp
theorem grow1 {g h h' : Heap} {L z : Addr} {o : Obj} {m : Str → Option Value} {news : Led} (a : h.get? z = none) (b : h'.get? z = some o) (F : Fr g L h m) (N : News g L h' news) : News g L h' (news ++ [(z, o)]) := Mine.News.swap (grow (led := [(z, o)]) F N fun p hp => by rw [List.mem_singleton.mp hp]; exact ⟨a, b⟩)
section
variable {w : World} {A : Around} {E : Value → Shared → Prop} {s : Shared} {h₀ : Heap} {L d : Addr} {m : Str → Option Value} {kvs : List (Int × Value)} {k : Int} {t : Tok}
theorem di_in' {b : Bool} {Q : Value → Shared → Prop} (F : Fr h₀ L s.heap m) (D : DictI w h₀ d kvs) (hb : (valueAt kvs k).isSome = b) (h : Q (.bool b) { s with toks := s.toks + 1 }) :
    wpAny (model PRG w) A (compareOp .In (.int k t) (.ref d)) Q E s := di_in F D (by rw [hb]; exact h)
theorem di_notin' {b : Bool} {Q : Value → Shared → Prop} (F : Fr h₀ L s.heap m) (D : DictI w h₀ d kvs) (hb : (valueAt kvs k).isSome = b) (h : Q (.bool (!b)) { s with toks := s.toks + 1 }) :
    wpAny (model PRG w) A (compareOp .NotIn (.int k t) (.ref d)) Q E s := di_notin F D (by rw [hb]; exact h)
end
def tailD (rs : List Rec) (at_ place : Nat) (m : Int × (Int × Int)) (cs : List (Option (Int × Int))) : Int × List Rec :=
  match cs[m.1.toNat]? with
  | none => (-1, rs)
  | some c => (heard at_ c, setD rs at_ place m.2 c)
def placeD (rs : List Rec) (at_ : Nat) (place : Int) (m : Int × (Int × Int)) (f : Rec → Option (List (Option (Int × Int)))) : Int × List Rec :=
  if place < 0 then (-1, rs) else match rs[place.toNat]? with
  | none => (-1, rs)
  | some rp => match f rp with
    | none => (-1, rs)
    | some cs => tailD rs at_ place.toNat m cs
def baseD (ms : List (Int × (Int × (Int × Int)))) (bs : List (Int × List (Option (Int × Int)))) (rs : List Rec) (at_ : Nat) : Int × List Rec :=
  match rs[at_]? with
  | none => (-1, rs)
  | some r => match ms.lookup r.glyph with
    | none => (-1, rs)
    | some m => placeD rs at_ (nb 8 rs at_) m fun rp => bs.lookup rp.glyph
def partOf (r q : Rec) (n : Int) : Int := if q.lig_id ≠ 0 ∧ q.lig_id = r.lig_id ∧ r.lig_part > 0 then min n r.lig_part - 1 else n - 1
def compD (ms : List (Int × (Int × (Int × Int)))) (bs : List (Int × List (List (Option (Int × Int))))) (rs : List Rec) (at_ : Nat) : Int × List Rec :=
  match rs[at_]? with
  | none => (-1, rs)
  | some r => match ms.lookup r.glyph with
    | none => (-1, rs)
    | some m => placeD rs at_ (nb 8 rs at_) m fun rp => (bs.lookup rp.glyph).bind fun ps => ps[(partOf r rp ps.length).toNat]?
def ofOne (r q : Rec) : Bool := if r.lig_id = q.lig_id then decide (r.lig_id = 0 ∨ r.lig_part = q.lig_part) else decide ((r.lig_id > 0 ∧ r.lig_part = 0) ∨ (q.lig_id > 0 ∧ q.lig_part = 0))
def markD (ms : List (Int × (Int × (Int × Int)))) (bs : List (Int × List (Option (Int × Int)))) (rs : List Rec) (at_ : Nat) : Int × List Rec :=
  match rs[at_]? with
  | none => (-1, rs)
  | some r => match ms.lookup r.glyph with
    | none => (-1, rs)
    | some m => placeD rs at_ (nb 0 rs at_) m fun rp => if cls rp.glyph = 3 ∧ ofOne r rp = true then bs.lookup rp.glyph else none
structure Good (rs : List Rec) : Prop where
  gl : Glyphs rs
  par : ∀ (i : Nat) r, rs[i]? = some r → r.parent = 0
  part : ∀ (i : Nat) r, rs[i]? = some r → r.lig_part.natAbs < 1000
structure GoodM (ms : List (Int × (Int × (Int × Int)))) : Prop where
  rng : ∀ g m, ms.lookup g = some m → 0 ≤ m.1 ∧ m.1 < 3
inductive PartsAt (h : Heap) (v : Value) (ps : List (List (Option (Int × Int)))) : Prop where
  | mk (l : Addr) (vs : List Value) (e0 : v = .ref l) (e1 : IsL h l vs) (e2 : vs.length = ps.length) (e3 : ∀ (i : Nat) v p, vs[i]? = some v → ps[i]? = some p → TupCells h v p) : PartsAt h v ps
theorem PartsAt.keep {h h' : Heap} {v : Value} {ps : List (List (Option (Int × Int)))} (x : PartsAt h v ps) (k : h.StaysIn h') : PartsAt h' v ps := let ⟨l, vs, a, b, c, d⟩ := x; ⟨l, vs, a, b.keep k, c, fun i v p e f => (d i v p e f).keep k⟩
theorem is_mark_at_d {w : World} {hb : Heap} (G : Gr w hb) (sc gd buf row lk : Addr) (flag : Int) (at_ : Int) (t : Tok) (xs : List (Addr × Addr)) (x dx : Addr) (r : Rec) (hx : xs[at_.toNat]? = some (x, dx)) {b : Bool} (hb0 : decide (cls r.glyph = 3) = b) (h0 : 0 ≤ at_) (h1 : at_ < 6) (hg : 0 ≤ r.glyph ∧ r.glyph ≤ 7) :
    Does w hb 483 [.ref sc, .int at_ t] 4 [] (fun h => SceneAt w h sc gd buf row lk flag ∧ IsL h row (xs.map fun x => .ref x.1) ∧ InfoAt h x dx r) (fun _ q _ => q = .bool b) :=
  hb0 ▸ is_mark_at_c G sc gd buf row lk flag at_ t _ x dx r h0 h1 hg.1 hg.2 (by rw [List.getElem?_map, hx]; rfl) rfl
theorem are_of_one_d {w : World} {hb : Heap} (G : Gr w hb) (x dx y dy : Addr) (r q : Rec) {b : Bool} (hb0 : ofOne r q = b) :
    Does w hb 532 [.ref x, .ref y] 1 [] (fun h => InfoAt h x dx r ∧ InfoAt h y dy q) (fun _ v _ => v = .bool b) := hb0 ▸ are_of_one_c G x dx y dy r q
theorem component_of_d {w : World} {hb : Heap} (G : Gr w hb) (x dx y dy : Addr) (r q : Rec) (n : Int) (t : Tok) {k : Int} (hk : partOf r q n = k) (hr : r.lig_part.natAbs < 1000) (hn : 0 < n) :
    Does w hb 518 [.ref x, .ref y, .int n t] 1 [] (fun h => InfoAt h x dx r ∧ InfoAt h y dy q) (fun _ v _ => ∃ t0, v = .int k t0) := hk ▸ component_of_c G x dx y dy r q n t hn hr
theorem before_at_d {w : World} {hb : Heap} (G : Gr w hb) (sc gd buf row lk : Addr) (flag : Int) (at_ : Int) (t : Tok) (xs : List (Addr × Addr)) (rs : List Rec) (hgl : Glyphs rs) {p0 : Int} (hp : nb flag rs at_.toNat = p0) (hf : flag = 0 ∨ flag = 8) (h0 : 0 ≤ at_) (h1 : at_ < xs.length) :
    Does w hb 227 [.ref sc, .int at_ t] 6 [] (fun h => SceneAt w h sc gd buf row lk flag ∧ RowAt h row xs rs) (fun _ q _ => ∃ t0, q = .int p0 t0) := hp ▸ before_at_c G sc gd buf row lk flag at_ t xs rs hf h0 (by omega) hgl

-- DictPairs
theorem keys_miss : typeLookup (.type "list") "keys" = pure none := am_miss_of_fast (by decide +kernel)
theorem plain_update_loop : plainId "dict.update.loop" = true := by decide +kernel
theorem entry_update_loop : entryFor table "dict.update.loop" = some Builtin.«dict.update.loop» := entryFor_of_fast (by kernel_rfl)
section
variable {prog : Program} {w : World} {A : Around} {E : Value → Shared → Prop} {s : Shared}
theorem keys_none {a : Addr} {o : Obj} {xs : Array Value} {k : Nat} {Q : Option Value → Shared → Prop} (hx : s.heap.get? a = some o) (hc : o.cls = .type "list") (hdat : o.data = .seq xs k) (hd : o.dict = none) (hA : A.handled = none)
    (h : ∀ h' tk, (∀ b ob, s.heap.get? b = some ob → h'.get? b = some ob) → Q none { s with heap := h', toks := tk }) : wpAny (model prog w) A (getAttr? (.ref a) "keys") Q E s := by
  obtain ⟨c, dct, dat, sl⟩ := o
  simp only at hc hdat hd
  subst hc hdat hd
  obtain ⟨hp, g, d, tk, os⟩ := s
  have hT : ∀ tk', (⟨hp, g, d, tk', os⟩ : Shared).TypeIs (.ref a) "list" := fun _ => ⟨_, hx, rfl⟩
  have f1 := sub_AttributeError
  have f3 := F.slot_list_getattribute.lookup
  have f4 := F.slot_list_getattribute.bind (.ref a)
  have f5 := am_list_getattr_none
  have hmiss := keys_miss
  unfold getAttr? getAttrBy? getAttrBy
  repeat (any_goals (first | assumption | exact hT _ | ((with_reducible show wpAny _ _ (call (Value.builtin "list.__getattribute__") _ _) _ _ _); refine call_meets F.slot_list_getattribute (hT _) am_entry_list_getattribute (F.args_list_getattribute_2 _ _) (meets_getattribute_miss_list a xs k sl "keys" _ hmiss (by decide +kernel) (by size_fits)) ⟨hx, hA, fun h' tk' e hx' => ?_⟩) | wp_step))
  obtain ⟨t', u', he⟩ := hx'.there
  show wpAny _ _ (getattributeRaised _ _ _ _ _ _ _) _ _ _
  unfold getattributeRaised
  repeat (any_goals (first | assumption | wp_step))
  exact h _ _ hx'.keeps
def PairsAt (h : Heap) (items : Array Value) (kvs : List (Int × Value)) : Prop := items.size = kvs.length ∧ ∀ (i : Nat) v, items[i]? = some v → ∃ t k tk x, v = .ref t ∧ h.IsTuple t #[.int k tk, x] ∧ kvs[i]? = some (k, x)
theorem pair_items {t : Addr} {xs : Array Value} {Q : List Value → Shared → Prop} (ht : s.heap.IsTuple t xs) (h : Q xs.toList s) : wpAny (model prog w) A (Builtin.Dict.pairItems (.ref t)) Q E s := by
  obtain ⟨o, ho, hc, n, hd⟩ := id ht
  unfold Builtin.Dict.pairItems
  refine wpAny_bind (wpAny_typeOf ht.typeIs ?_)
  rw [if_pos (by decide)]
  refine wpAny_bind ?_
  unfold seqItems?
  refine wpAny_bind (wpAny_load ho ?_)
  rw [hd]
  exact wpAny_pure (wpAny_pure h)
theorem update_loop {R : Result → Shared → Prop} {items : Array Value} {kvs : List (Int × Value)} {l d I : Addr} {res : Value} (hh : A.handled = none) (hlI : l ≠ I) (hdI : d ≠ I) (hdl : d ≠ l) (nd : (kvs.map (·.1)).Nodup) (hz : kvs.length ≤ 1000) :
    ∀ (k i : Nat) (s : Shared), items.size - i = k → i ≤ items.size → s.heap.IsListIter I l i → s.heap.IsList l items → s.heap.DictOf (PySem.intKind prog w) d (kvs.take i) → PairsAt s.heap items kvs →
    (∀ h' tk, h'.DictOf (PySem.intKind prog w) d kvs → (∀ b o, b ≠ d → b ≠ I → s.heap.get? b = some o → h'.get? b = some o) → R (.ok (.ret res)) { s with heap := h', toks := tk }) →
    codeAny (model prog w) A (.builtin "dict.update.loop" ⟨[.ref d, .ref I, rawInt i, res], []⟩) R s := by
  have hA1 : A.in1.handled = none := hh
  intro k
  induction k with
  | zero =>
    intro i s hk hi hit hl hd hp hR
    have hin : i = items.size := by omega
    refine codeAny_builtin entry_update_loop ?_
    rw [Around.under_plainId plain_update_loop _]
    show wpAny _ A.in1 (pyNext (.ref I) >>= _) _ _ s
    refine wpAny_bind (wpAny_pyNext_list_end hA1 hit hl (by simp [hin]) fun h' he => ?_)
    show wpAny _ A.in1 (Builtin.Dict.addKeywords d [] >>= _) _ _ _
    refine wpAny_bind (wpAny_pure (wpAny_pure (hR h' s.toks ?_ fun b o _ hb e => he b o hb e)))
    rw [hin, hp.1, List.take_length] at hd
    obtain ⟨o, es, ep, a, b⟩ := hd
    exact ⟨o, es, ep, he _ _ hdI a, b⟩
  | succ k ih =>
    intro i s hk hi hit hl hd hp hR
    have hlt : i < items.size := by omega
    obtain ⟨v, hv⟩ : ∃ v, items[i]? = some v := ⟨_, Array.getElem?_eq_getElem hlt⟩
    obtain ⟨t, kk, tk, x, rfl, ht, hkv⟩ := hp.2 i v hv
    refine codeAny_builtin entry_update_loop ?_
    rw [Around.under_plainId plain_update_loop _]
    show wpAny _ A.in1 (pyNext (.ref I) >>= _) _ _ s
    refine wpAny_bind (wpAny_pyNext_list_item hit hl hv fun h₁ hit₁ hs₁ => ?_)
    have tne : ∀ {t xs}, s.heap.IsTuple t xs → t ≠ d ∧ t ≠ I := fun {t xs} ht => by
      obtain ⟨o, ho, hc, _⟩ := ht
      constructor
      · rintro rfl
        obtain ⟨o', es, ep, a, b, _⟩ := hd
        rw [ho] at a; cases a
        have := b.1
        rw [hc] at this
        exact absurd (Value.type.inj this) (by decide)
      · rintro rfl
        obtain ⟨o', a, b, _⟩ := hit
        rw [ho] at a; cases a
        rw [hc] at b
        exact absurd (Value.type.inj b) (by decide)
    have ht₁ : h₁.IsTuple t #[.int kk tk, x] := ht.extBut hs₁.extBut (tne ht).2
    have hd₁ : h₁.DictOf (PySem.intKind prog w) d (kvs.take i) := by
      obtain ⟨o, es, ep, a, b⟩ := hd
      exact ⟨o, es, ep, hs₁.extBut _ _ hdI a, b⟩
    show wpAny _ A.in1 ((holding [Value.ref t] _) >>= _) _ _ _
    refine wpAny_bind (wpAny_holding ?_)
    refine wpAny_bind (wpAny_tryCatch (pair_items ht₁ ?_))
    show wpAny _ A.in1 (holding [Value.int kk tk, x] (dictSet d (.int kk tk) x)) _ _ _
    refine wpAny_holding (wpAny_dictSet_pairs (knd := PySem.intKind prog w) (k := kk) (hsz := by rw [List.length_take, sizeLine_eq]; omega) (by simp [PySem.intKind, Value.isInt]) hd₁ fun h₂ hd₂ hs₂ => ?_)
    have est : stored (kvs.take i) kk x = kvs.take (i + 1) := by
      rw [take_succ_get hkv]
      unfold stored
      rw [if_neg]
      intro hany
      obtain ⟨q, hq, e⟩ := List.any_eq_true.mp hany
      have e' : q.1 = kk := of_decide_eq_true e
      obtain ⟨j, hj, ej⟩ := List.mem_iff_getElem.mp hq
      have hj2 : j < kvs.length := by rw [List.length_take] at hj; omega
      have hj1 : j < i := by rw [List.length_take] at hj; omega
      have h1 : kvs[j]? = some q := by
        rw [List.getElem_take] at ej
        rw [← ej]; exact List.getElem?_eq_getElem _
      have h2 : (kvs.map (·.1))[j]? = some kk := by rw [List.getElem?_map, h1, ← e']; rfl
      have h3 : (kvs.map (·.1))[i]? = some kk := by rw [List.getElem?_map, hkv]; rfl
      have := (List.getElem?_inj (by simpa using hj2) nd).mp (h2.trans h3.symm)
      omega
    rw [est] at hd₂
    refine wpAny_pure ⟨plainId_quiet plain_update_loop _, ?_⟩
    have hit₂ : h₂.IsListIter I l (i + 1) := hit₁.extBut hs₂.extBut (Ne.symm hdI)
    have hl₂ : h₂.IsList l items := (hl.extBut hs₁.extBut hlI).extBut hs₂.extBut (Ne.symm hdl)
    have hp₂ : PairsAt h₂ items kvs := ⟨hp.1, fun j u hu => by
      obtain ⟨t2, k2, tk2, x2, e1, e2, e3⟩ := hp.2 j u hu
      exact ⟨t2, k2, tk2, x2, e1, (e2.extBut hs₁.extBut (tne e2).2).extBut hs₂.extBut (tne e2).1, e3⟩⟩
    refine ih (i + 1) { s with heap := h₂, toks := s.toks + 1 } (by omega) (by omega) hit₂ hl₂ hd₂ hp₂ fun h' tk' a b => ?_
    exact hR h' tk' a fun b' o hb1 hb2 e => b b' o hb1 hb2 (hs₂.extBut _ _ hb1 (hs₁.extBut _ _ hb2 e))
theorem call_dict_pairs {l : Addr} {o : Obj} {xs : Array Value} {c : Nat} {kvs : List (Int × Value)} {Q : Value → Shared → Prop} (hx : s.heap.get? l = some o) (hc : o.cls = .type "list") (hdat : o.data = .seq xs c) (hdn : o.dict = none) (hA : A.handled = none) (hp : PairsAt s.heap xs kvs) (nd : (kvs.map (·.1)).Nodup) (hz : kvs.length ≤ 1000)
    (h : ∀ h' tk, h'.DictOf (PySem.intKind prog w) s.heap.objs.size kvs → (∀ b o, s.heap.get? b = some o → h'.get? b = some o) → Q (.ref s.heap.objs.size) { s with heap := h', toks := tk }) :
    wpAny (model prog w) A (call (.type "dict") [.ref l]) Q E s := by
  refine callType_codes (Q₁ := fun obj s₁ => obj = .ref s.heap.objs.size ∧ s₁ = { s with heap := s.heap.push { cls := .type "dict", data := .dict #[] } }) F.kt_called_dict (F.kt_typeCall_dict_1 _) F.entry_dict_init (kt_code_dict_new _ ⟨rfl, rfl⟩) ?_
  rintro obj s₁ ⟨rfl, rfl⟩
  have hnew : (s.heap.push { cls := .type "dict", data := .dict #[] }).DictOf (PySem.intKind prog w) s.heap.objs.size [] := Heap.DictOf.new s.heap
  have hlt : @LT.lt Nat _ l s.heap.objs.size := Heap.lt_size hx
  have hx1 : (s.heap.push { cls := .type "dict", data := .dict #[] }).get? l = some o := Heap.get?_push_of_some _ hx
  have hnone : s.heap.get? s.heap.objs.size = none := Heap.get?_none_of_le (Nat.le_refl _)
  refine ⟨hnew.typeIs, F.args_dict_init_2 _ _, ?_⟩
  unfold Builtin.«dict.__init__»
  refine wpAny_bind ?_
  unfold Builtin.Dict.selfAndRest
  refine wpAny_bind (wpAny_notOrdered_dict hnew.typeIs ?_)
  show wpAny _ _ (pure (s.heap.objs.size, [Value.ref l])) _ _ _
  refine wpAny_pure ?_
  show wpAny _ _ (Builtin.Dict.updateFrom "dict.__init__" s.heap.objs.size (.ref l) [] .none) _ _ _
  unfold Builtin.Dict.updateFrom
  have hT : ({ s with heap := s.heap.push { cls := .type "dict", data := .dict #[] } } : Shared).TypeIs (.ref l) "list" := ⟨_, hx1, hc⟩
  refine wpAny_bind (wpAny_typeOf hT ?_)
  rw [if_pos (by decide)]
  refine wpAny_bind (keys_none (s := { s with heap := s.heap.push { cls := .type "dict", data := .dict #[] } }) hx1 hc hdat hdn (by exact hA) fun h₁ tk₁ k₁ => ?_)
  have hl1 : h₁.IsList l xs := ⟨o, k₁ _ _ hx1, hc, c, hdat⟩
  simp only [Option.isNone_none, if_true]
  refine wpAny_bind (wpAny_rule (wpAny_bind (wpAny_pyIter_list hl1 ?_)))
  have hd1 : h₁.DictOf (PySem.intKind prog w) s.heap.objs.size [] := by
    obtain ⟨o, es, ep, a, b⟩ := hnew
    exact ⟨o, es, ep, k₁ _ _ a, b⟩
  have hdlt : @LT.lt Nat _ s.heap.objs.size h₁.objs.size := by obtain ⟨_, _, _, a, _⟩ := hd1; exact Heap.lt_size a
  have hllt : @LT.lt Nat _ l h₁.objs.size := Nat.lt_trans hlt hdlt
  refine wpAny_pure ⟨plainId_quiet plain_update_loop _, ?_⟩
  refine update_loop (items := xs) (kvs := kvs) (l := l) ?_ (Nat.ne_of_lt hllt) (Nat.ne_of_lt hdlt) (Nat.ne_of_gt hlt) nd hz _ 0 _ rfl (Nat.zero_le _) ⟨_, Heap.get?_push_size _ rfl, rfl, rfl⟩ (hl1.at fun o e => Heap.get?_push_of_some _ e) ?_ ⟨hp.1, fun i v hv => ?_⟩ ?_
  · exact hA
  · obtain ⟨o, es, ep, a, b⟩ := hd1
    exact ⟨o, es, ep, Heap.get?_push_of_some _ a, by simpa using b⟩
  · obtain ⟨t, k, tk, x, e1, e2, e3⟩ := hp.2 i v hv
    exact ⟨t, k, tk, x, e1, e2.at fun o e => Heap.get?_push_of_some _ (k₁ _ _ (Heap.get?_push_of_some _ e)), e3⟩
  · intro h' tk' hd' hk'
    refine ⟨rfl, h h' tk' hd' fun b o e => ?_⟩
    have e1 := k₁ _ _ (Heap.get?_push_of_some { cls := .type "dict", data := .dict #[] } e)
    exact hk' b o (fun q => by rw [q, hnone] at e; cases e) (Nat.ne_of_lt (Heap.lt_size e1)) (Heap.get?_push_of_some _ e1)
end
def tupO (vs : List Value) : Obj := ⟨.type "tuple", none, .seq vs.toArray 0, #[]⟩
theorem tupO_tup {h : Heap} {t : Addr} {vs : List Value} (e : h.get? t = some (tupO vs)) : IsTup h t vs.toArray := ⟨_, e, rfl, 0, rfl⟩
def Sup (l : Led) (P : Heap → Prop) : Prop := ∀ h, (∀ q ∈ l, h.get? q.1 = some q.2) → P h
theorem Sup.mono {l l' : Led} {P : Heap → Prop} (x : Sup l P) (k : ∀ q ∈ l, q ∈ l') : Sup l' P := fun h a => x h fun q hq => a q (k q hq)
theorem Sup.news {l news : Led} {P : Heap → Prop} {g h : Heap} {L : Addr} (x : Sup l P) (N : News g L h news) (k : ∀ q ∈ l, q ∈ news) : P h := x h fun q hq => (N q (k q hq)).1
def TabK {α : Type} (P : Heap → Value → α → Prop) (base : Led) (l : List (Int × α)) (ys : List Value) (led : Led) : Prop := ∃ kvs : List (Int × Value), kvs.map (·.1) = l.map (·.1) ∧ ys.length = kvs.length ∧
  (∀ (j : Nat) v, ys[j]? = some v → ∃ t k tk x, v = .ref t ∧ (t, tupO [.int k tk, x]) ∈ led ∧ kvs[j]? = some (k, x)) ∧
  ∀ (j : Nat) (v : Value) (a : α), (kvs[j]?).map (fun x => x.2) = some v → (l[j]?).map (fun x => x.2) = some a → Sup (led ++ base) (fun h => P h v a)
theorem TabK.nil {α : Type} {P : Heap → Value → α → Prop} {base led : Led} : TabK P base [] [] led := ⟨[], rfl, rfl, fun j v h => by simp at h, fun j v a h => by simp at h⟩
theorem snoc_get {α : Type} {l : List α} {a b : α} {j : Nat} (h : (l ++ [a])[j]? = some b) : (j < l.length ∧ l[j]? = some b) ∨ (j = l.length ∧ a = b) := by
  by_cases hj : j < l.length
  · rw [List.getElem?_append_left hj] at h; exact .inl ⟨hj, h⟩
  · have h1 : j < (l ++ [a]).length := (List.getElem?_eq_some_iff.mp h).1
    simp at h1
    obtain rfl : j = l.length := by omega
    simp at h
    exact .inr ⟨rfl, h⟩
theorem TabK.len {α : Type} {P : Heap → Value → α → Prop} {base led : Led} {l : List (Int × α)} {ys : List Value} (x : TabK P base l ys led) : ys.length = l.length := by
  obtain ⟨kvs, a, b, _⟩ := x
  have := congrArg List.length a
  simp at this
  omega
theorem TabK.snoc {α : Type} {P : Heap → Value → α → Prop} {base led led' : Led} {l : List (Int × α)} {ys : List Value} {t : Addr} {k : Int} {tk : Tok} {x : Value} {a : α} (T : TabK P base l ys led) (sub : ∀ q ∈ led, q ∈ led') (hm : (t, tupO [.int k tk, x]) ∈ led') (hS : Sup (led' ++ base) (fun h => P h x a)) :
    TabK P base (l ++ [(k, a)]) (ys ++ [.ref t]) led' := by
  have hlen := T.len
  obtain ⟨kvs, h1, h2, h3, h4⟩ := T
  refine ⟨kvs ++ [(k, x)], by simp [h1], by simp [h2], fun j v hv => ?_, fun j v b hv hb => ?_⟩
  · rcases snoc_get hv with ⟨hj, e⟩ | ⟨rfl, e⟩
    · obtain ⟨t2, k2, tk2, x2, e1, e2, e3⟩ := h3 j v e
      exact ⟨t2, k2, tk2, x2, e1, sub _ e2, by rw [List.getElem?_append_left (by omega)]; exact e3⟩
    · exact ⟨t, k, tk, x, e.symm, hm, by rw [h2]; simp⟩
  · cases e1 : (kvs ++ [(k, x)])[j]? with
    | none => rw [e1] at hv; cases hv
    | some p =>
      cases e2 : (l ++ [(k, a)])[j]? with
      | none => rw [e2] at hb; cases hb
      | some q =>
        rw [e1] at hv; rw [e2] at hb
        simp only [Option.map_some, Option.some.injEq] at hv hb
        have hkl : kvs.length = l.length := by omega
        rcases snoc_get e1 with ⟨hj, e⟩ | ⟨rfl, e⟩
        · rcases snoc_get e2 with ⟨_, e'⟩ | ⟨hj2, _⟩
          · refine Sup.mono (h4 j v b (by rw [e]; simp [hv]) (by rw [e']; simp [hb])) fun r hr => ?_
            rcases List.mem_append.mp hr with hr | hr
            · exact List.mem_append_left _ (sub _ hr)
            · exact List.mem_append_right _ hr
          · omega
        · rcases snoc_get e2 with ⟨hj2, _⟩ | ⟨_, e'⟩
          · omega
          · rw [← e] at hv; rw [← e'] at hb
            subst hv; subst hb
            exact hS
section
variable {w : World} {A : Around} {E : Value → Shared → Prop} {s : Shared} {K : Frag} {p : Program} {loose : List Str} {mean : ExcName → Option Value} {mg mb : Str → Option Value}
theorem dict_led {α : Type} {P : Heap → Value → α → Prop} {base led news : Led} {l : List (Int × α)} {ys : List Value} {g : Heap} {L D : Addr} {nn : Nat} {m : Str → Option Value} {Q : Value → Shared → Prop} (F : Fr g L s.heap m) (T₀ : Top p loose mean mg mb g) (N : News g L s.heap ((D, W.listOf ys.toArray nn) :: news)) (T : TabK P base l ys led) (hl : ∀ q ∈ led, q ∈ news)
    (nd : (l.map (·.1)).Nodup) (hz : l.length ≤ 1000) (hA : A.handled = none)
    (h : ∀ d od h' tk, Fr g L h' m → News g L h' ((d, od) :: news) → (∀ q ∈ news, q.1 ≠ d) → od.cls = .type "dict" → Sup ((d, od) :: (led ++ base)) (fun h => Tab w h d P l) → Q (.ref d) { s with heap := h', toks := tk }) :
    wpAny (model PRG w) A (call (.type "dict") [.ref D]) Q E s := by
  have hlen := T.len
  obtain ⟨kvs, h1, h2, h3, h4⟩ := id T
  have hpa : PairsAt s.heap ys.toArray kvs := ⟨by simpa using h2, fun i v hv => by
    obtain ⟨t, k, tk, x, e1, e2, e3⟩ := h3 i v (by simpa using hv)
    exact ⟨t, k, tk, x, e1, tupO_tup (N _ (.tail _ (hl _ e2))).1, e3⟩⟩
  refine call_dict_pairs (c := nn) (N _ (.head _)).1 rfl rfl rfl hA hpa (by rw [h1]; exact nd) (by omega) fun h' tk hd hk => ?_
  obtain ⟨od, es, ep, e1, e2, e3⟩ := id hd
  have F' : Fr g L h' m := F.keeps hk
  have hbig : sysModules < g.objs.size := modules_low T₀.nolimit
  have hns : (s.heap.objs.size == sysModules) = false := F.notModules hbig
  have hlt : ∀ {b o}, s.heap.get? b = some o → b ≠ s.heap.objs.size := fun e => Nat.ne_of_lt (Heap.lt_size e)
  refine h _ od h' tk F' (fun q hq => ?_) (fun q hq => hlt (N q (.tail _ hq)).1) e2.1 fun h9 hin => ?_
  · rcases List.mem_cons.mp hq with rfl | hq
    · refine ⟨e1, fun e => ?_, ?_⟩
      · obtain ⟨o, _, _, ho, _⟩ := F.ns
        exact hlt ho e.symm
      · cases q : g.get? s.heap.objs.size with
        | none => rfl
        | some o => exact absurd rfl (hlt (F.keep _ _ q))
    · exact ⟨hk _ _ (N q (.tail _ hq)).1, (N q (.tail _ hq)).2⟩
  · exact ⟨kvs, ⟨hns, od, es, ep, hin _ (.head _), e2, e3⟩, h1, fun i v a hv ha => h4 i v a hv ha h9 fun q hq => hin q (.tail _ hq)⟩
end

section R_lines
theorem rows_21 : True := by
  (k_with "m inl" => first | assumption | exact List.mem_append_left _ (by assumption) | exact List.mem_append_right _ (List.mem_append_left _ (by assumption)) | exact List.mem_append_right _ (by assumption) | exact List.mem_cons_of_mem _ (List.mem_append_left _ (by assumption)))
  (k_with "m cls" => (intro e; first | exact absurd (Value.type.inj e) (by decide) | (cases e; done)))
  (k_with "getAttr ref" => (k_here; k_dflt (first | ((refine' get_has ?z77k1 ?z77k2 ?z77k3 ?z77k4 ?z77k5 ?z77k6 ?z77k7 ?z77k8 ?z77k9 ?_); (case z77k1 => k_asm); (case z77k2 => k_asm); (case z77k3 => assumption); (case z77k4 => k_is); (case z77k5 => k_is); (case z77k6 => k_is); (case z77k7 => k_is); (case z77k8 => exact rfl); (case z77k9 => k_handed); k_whole) | ((refine' get_led ?z77k1 ?z77k2 ?z77k3 ?z77kN ?z77kM ?z77kD ?z77k4 ?z77k5 ?z77k6 ?z77k7 ?z77k8 ?z77k9 ?_); (case z77k1 => k_asm); (case z77k2 => k_asm); (case z77k3 => assumption); (case z77kN => k_asm); (case z77kM => walk_at "m inl"); (case z77kD => assumption); (case z77k4 => k_is); (case z77k5 => k_is); (case z77k6 => k_is); (case z77k7 => k_is); (case z77k8 => exact rfl); (case z77k9 => k_handed); k_whole))))
  (k_with "m set" => (intro t; first | with_reducible exact set_uns t | with_reducible exact set_xo t | with_reducible exact set_yo t | with_reducible exact set_par t | with_reducible exact set_bond t | with_reducible exact set_mask t | with_reducible exact set_lig t | with_reducible exact set_part t | with_reducible exact set_xa t))
  (k_with "m rest" => first | assumption | exact nodict_nil | (refine nodict_cons (by walk_at "m cls") ?_; first | assumption | exact nodict_nil | (refine nodict_cons (by walk_at "m cls") ?_; first | assumption | exact nodict_nil)))
  (k_with "setAttr ref" => (k_here; k_dflt ((refine' set_row ?z80k1 ?z80k2 ?z80k3 ?z80k4 ?z80k5 ?z80k6 ?z80k7 ?z80s1 ?z80s2 ?z80s3 ?z80s4 ?z80s5 ?_); (case z80k1 => k_asm); (case z80k2 => k_asm); (case z80k3 => k_asm); (case z80k4 => assumption); (case z80k5 => assumption); (case z80k6 => assumption); (case z80k7 => walk_at "m rest"); (case z80s1 => k_is); (case z80s2 => k_is); (case z80s3 => k_is); (case z80s4 => k_is); (case z80s5 => walk_at "m set"); intro _ _ _ _ R9 H9; (try dsimp only at R9 H9); (try k_sweep); revert R9 H9; intros)))
  (k_with "assign Tuple" => (k_here; (with_reducible show wpAny _ _ (assign (Expr.Tuple _ _ _) _ (Value.ref _)) _ _ _); k_dflt ((refine' unpackN_ ?z81F ?z81N ?z81T ?z81k1 ?z81k2 ?z81k3 ?_); (case z81F => k_asm); (case z81N => k_asm); (case z81T => first | assumption | exact Mine.IsTup.keep (by assumption) (Fr.keep (by assumption))); (case z81k1 => exact rfl); (case z81k2 => exact rfl); (case z81k3 => exact rfl); intro _ _ _; (try k_sweep); (try dsimp only))))
  (k_with "subscriptTail" => (k_here; (with_reducible show wpAny _ _ (subscriptTail _ _ (Value.ref _) (Value.int _ _)) _ _ _); k_dflt (first | ((refine' di_item ?z82k1 ?z82k2 ?z82k3 ?_ ?z82k4); (case z82k1 => k_asm); (case z82k2 => assumption); (case z82k3 => assumption); (case z82k4 => with_unfolding_all rfl); k_whole) | ((refine' tu_item ?z82k1 ?z82k2 ?z82k3 ?z82k4 ?z82k5 ?_ ?z82k6); (case z82k1 => k_asm); (case z82k2 => assumption); (case z82k3 => first | assumption | omega); (case z82k4 => omega); (case z82k5 => first | assumption | exact rfl); (case z82k6 => with_unfolding_all rfl); k_whole) | ((refine' li_item ?z82k1 ?z82k2 ?z82k3 ?z82k4 ?z82k5 ?_ ?z82k6); (case z82k1 => k_asm); (case z82k2 => assumption); (case z82k3 => first | assumption | omega); (case z82k4 => omega); (case z82k5 => first | assumption | exact rfl); (case z82k6 => with_unfolding_all rfl); k_whole))))
  (k_with "call builtin:len" => (k_here; (with_reducible show wpAny _ _ (call (Value.builtin "len") [Value.ref _]) _ _ _); k_dflt (first | ((refine' tu_len ?z83k1 ?z83k2 ?z83k3 ?_); (case z83k1 => k_asm); (case z83k2 => assumption); (case z83k3 => first | assumption | omega | (simp; omega)); k_whole) | ((refine' li_len ?z83k1 ?z83k2 ?z83k3 ?_); (case z83k1 => k_asm); (case z83k2 => assumption); (case z83k3 => first | assumption | omega | (simp; omega)); k_whole))))
  (k_with "m pre" => ((try dsimp only); repeat' (first | exact trivial | assumption | exact Mine.Has.keep (by assumption) (Fr.keep (by assumption)) | exact Mine.DictI.keep (by assumption) (Fr.keep (by assumption)) | exact Mine.IsL.keep (by assumption) (Fr.keep (by assumption)) | exact Mine.GdefAt.keep (by assumption) (Fr.keep (by assumption)) | exact Mine.LookAt.keep (by assumption) (Fr.keep (by assumption)) | exact Mine.SceneAt.keep (by assumption) (Fr.keep (by assumption)) | exact Mine.scene_led (by assumption) (by assumption) (by assumption) (by assumption) | exact Mine.InfoAt.keep (by assumption) (Fr.keep (by assumption)) | exact Mine.RowAt.keep (by assumption) (Fr.keep (by assumption)) | exact Mine.RowD.infoAt (by assumption) (Fr.keep (by assumption)) (by assumption) (by walk_at "m sub") (by assumption) (by assumption) | exact Mine.RowD.rowAtN (by assumption) (by assumption) (by assumption) (by walk_at "m sub") | apply And.intro | omega)))
  (k_with "m preR" => repeat' (first | exact RowD.pre (by assumption) (by assumption) (by assumption) (by assumption) (by assumption) (by walk_at "m sub") | exact Mine.Has.keep (by assumption) (by assumption) | exact Mine.SceneAt.keep (by assumption) (by assumption) | exact Mine.Tab.keep (fun _ _ z => Mine.MarkV.keep z (by assumption)) (by assumption) (by assumption) | exact Mine.Tab.keep (fun _ _ z => Mine.TupCells.keep z (by assumption)) (by assumption) (by assumption) | exact Mine.Tab.keep (fun _ _ z => Mine.PartsAt.keep z (by assumption)) (by assumption) (by assumption) | exact Mine.TupCells.keep (by assumption) (by assumption) | apply And.intro))
  (k_with "compareOp In int ref" => (k_here; k_dflt ((refine' di_in' ?z86k1 ?z86k2 ?z86k3 ?_); (case z86k1 => k_asm); (case z86k2 => assumption); (case z86k3 => assumption); (try dsimp only [Bool.not_true, Bool.not_false]); k_whole)))
  (k_with "compareOp NotIn int ref" => (k_here; k_dflt ((refine' di_notin' ?z87k1 ?z87k2 ?z87k3 ?_); (case z87k1 => k_asm); (case z87k2 => assumption); (case z87k3 => assumption); (try dsimp only [Bool.not_true, Bool.not_false]); k_whole)))
  (k_with "m flag" => first | exact .inl rfl | exact .inr rfl)
  (k_with "call ref" => (k_here; (with_reducible show wpAny _ _ (call (Value.ref 304) _) _ _ _); k_dflt ((refine' use1 (break_ring_d (by assumption) _ _ _ _ _ _ _ _ _ (by assumption) (by assumption) (by walk_at "m num") (by walk_at "m num") (by walk_at "m num")) ?z89k1 ?z89kN ?z89k2 ?z89k3 ?z89k4 ?z89k5 ?_); (case z89k1 => k_asm); (case z89kN => k_asm); (case z89k2 => assumption); (case z89k5 => walk_at "m pre"); (case z89k3 => walk_at "m dep"); (case z89k4 => walk_at "m dep"); intro _ _ _ _ _ _ _ post'; subst post'; (try dsimp only))))
  (k_with "call ref" => (k_here; (with_reducible show wpAny _ _ (call (Value.ref 360) _) _ _ _); k_dflt ((refine' use1 (difference_c (by assumption) _ _ _ _ _ _ _ _ _ _) ?z90k1 ?z90kN ?z90k2 ?z90k3 ?z90k4 ?z90k5 ?_); (case z90k1 => k_asm); (case z90kN => k_asm); (case z90k2 => assumption); (case z90k5 => walk_at "m pre"); (case z90k3 => walk_at "m dep"); (case z90k4 => walk_at "m dep"); intro _ _ _ _ N' _ _ post'; obtain ⟨_, _, _, e0, hz1, hz2⟩ := post'; subst e0; have N9 := grow1 hz1 hz2 (by assumption) N'; clear N'; simp only [List.append_assoc, List.nil_append] at N9; have HT := tup_two hz2; clear hz2; skip; (try dsimp only); revert hz1 N9 HT; intros)))
  (k_with "call ref" => (k_here; (with_reducible show wpAny _ _ (call (Value.ref 197) _) _ _ _); k_dflt ((refine' useR (hang_c (by assumption) _ _ _ _ _ _ _ _ _ _ _ (by walk_at "m num") (by walk_at "m num") (by walk_at "m num")) ?z91kF ?z91kN ?z91kR ?z91kQ ?z91k2 ?z91k3 ?z91k4 ?z91k5 ?_); (case z91kR => assumption); (case z91kF => k_asm); (case z91kN => first | k_asm | (refine Mine.News.re (l' := _ ++ []) (by assumption) ?_; intro p hp; simp only [List.append_nil] at hp; simp [hp])); (case z91kQ => walk_at "m rest"); (case z91k2 => assumption); (case z91k3 => walk_at "m dep"); (case z91k4 => walk_at "m dep"); (case z91k5 => (intro hA9 hK9; walk_at "m preR")); intro _ _ _ _ _ RR' _ post'; obtain ⟨e0, post'⟩ := post'; subst e0; obtain ⟨led9, RD9, N9⟩ := RR' _ post'; clear RR'; skip; (try dsimp only); revert post' led9 RD9 N9; intros)))
  (k_with "call ref" => (k_here; (with_reducible show wpAny _ _ (call (Value.ref 483) _) _ _ _); k_dflt ((refine' use1 (is_mark_at_d (by assumption) _ _ _ _ _ _ _ _ _ _ _ _ (by assumption) (by assumption) (by walk_at "m num") (by walk_at "m num") (by assumption)) ?z92k1 ?z92kN ?z92k2 ?z92k3 ?z92k4 ?z92k5 ?_); (case z92k1 => k_asm); (case z92kN => k_asm); (case z92k2 => assumption); (case z92k5 => walk_at "m pre"); (case z92k3 => walk_at "m dep"); (case z92k4 => walk_at "m dep"); intro _ _ _ _ _ _ _ post'; subst post'; (try dsimp only))))
  (k_with "call ref" => (k_here; (with_reducible show wpAny _ _ (call (Value.ref 532) _) _ _ _); k_dflt ((refine' use1 (are_of_one_d (by assumption) _ _ _ _ _ _ (by assumption)) ?z93k1 ?z93kN ?z93k2 ?z93k3 ?z93k4 ?z93k5 ?_); (case z93k1 => k_asm); (case z93kN => k_asm); (case z93k2 => assumption); (case z93k5 => walk_at "m pre"); (case z93k3 => walk_at "m dep"); (case z93k4 => walk_at "m dep"); intro _ _ _ _ _ _ _ post'; subst post'; (try dsimp only))))
  (k_with "call ref" => (k_here; (with_reducible show wpAny _ _ (call (Value.ref 518) _) _ _ _); k_dflt ((refine' use1 (component_of_d (by assumption) _ _ _ _ _ _ _ _ (by assumption) (by assumption) (by walk_at "m num")) ?z94k1 ?z94kN ?z94k2 ?z94k3 ?z94k4 ?z94k5 ?_); (case z94k1 => k_asm); (case z94kN => k_asm); (case z94k2 => assumption); (case z94k5 => walk_at "m pre"); (case z94k3 => walk_at "m dep"); (case z94k4 => walk_at "m dep"); intro _ _ _ _ _ _ _ post'; obtain ⟨_, e0⟩ := post'; subst e0; (try dsimp only))))
  (k_with "call ref" => (k_here; (with_reducible show wpAny _ _ (call (Value.ref 227) _) _ _ _); k_dflt ((refine' use1 (before_at_d (by assumption) _ _ _ _ _ _ _ _ _ _ (by assumption) (by assumption) (by walk_at "m flag") (by walk_at "m num") (by walk_at "m num")) ?z95k1 ?z95kN ?z95k2 ?z95k3 ?z95k4 ?z95k5 ?_); (case z95k1 => k_asm); (case z95kN => k_asm); (case z95k2 => assumption); (case z95k5 => walk_at "m pre"); (case z95k3 => walk_at "m dep"); (case z95k4 => walk_at "m dep"); intro _ _ _ _ _ _ _ post'; obtain ⟨_, e0⟩ := post'; subst e0; (try dsimp only))))
  trivial

section S_SetOn
theorem set_on_c {w : World} {hb : Heap} (G : Gr w hb) (sc gd buf row lk : Addr) (flag : Int) (at_ place : Int) (t t2 : Tok) (xs : List (Addr × Addr)) (rs : List Rec) (mk tr : Addr) (r rp : Rec) (n : Int) (own : Int × Int) (ms : List (Int × (Int × (Int × Int)))) (cs : List (Option (Int × Int))) (c : Option (Int × Int))
    (h0 : 0 ≤ place) (h1 : place < at_) (h2 : at_ < xs.length) (hr : rs[at_.toNat]? = some r) (hrp : rs[place.toNat]? = some rp) (hpar : rp.parent = 0) (hm : ms.lookup r.glyph = some (n, own)) (hn0 : 0 ≤ n) (hc : cs[n.toNat]? = some c) (hc3 : cs.length = 3) :
    Does w hb 504 [.ref sc, .ref mk, .ref tr, .int at_ t, .int place t2] 8 (xs.map (·.2)) (fun h => RowPre hb h row xs rs ∧ SceneAt w (hideAll h (xs.map (·.2))) sc gd buf row lk flag ∧ Tab w (hideAll h (xs.map (·.2))) mk MarkV ms ∧ TupCells (hideAll h (xs.map (·.2))) (.ref tr) cs)
      (fun _ q h' => (∃ t', q = .int (heard at_.toNat c) t') ∧ RowAt h' row xs (setD rs at_.toNat place.toNat own c)) := by
  obtain ⟨p, loose, mean, mg, mb, X₀, T₀⟩ := id G
  intro dp un fr gds s Q E hdep hun hs hpre9
  obtain ⟨hR, hsc, hmk, htr⟩ := hpre9
  intro hQ
  refine' enterR [(Str.ofString "place", .int place t2), (Str.ofString "at", .int at_ t), (Str.ofString "row", .ref tr), (Str.ofString "marks", .ref mk), (Str.ofString "scene", .ref sc)] xs rs row ?k1 ?k2 ?k3 hR.rowAt hR.nod hR.hb0 hR.lst hR.inst ?k6 ?k7 ?k8 ?k9 ?kB ?kk ?c2 ?c3 ?c4 ?c5
  (case k1 => assumption)
  (case k2 => assumption)
  (case k3 => assumption)
  (case k6 => k_is)
  (case k7 => k_is)
  (case k8 => first | exact room0 (by assumption) | exact room1 (by assumption) | (simp only [recursionLimit]; omega))
  (case k9 => exact BindsTo.of_eq rfl)
  (case kB => exact locs rfl)
  (case c5 => decide)
  (case c2 => exact rfl)
  (case c3 => exact rfl)
  (case c4 => exact rfl)
  intro L' h' tk' g led hg F' N' RD X' T' hsg
  clear X₀ T₀
  walk_at "m body"
  rw [← hg] at hsc hmk htr
  have hl := RD.lst
  have hn6 := RD.few
  obtain ⟨v1, v2, v3, v4, v5, v6, v7, s1, s2, s3, s4⟩ := id hsc
  obtain ⟨kvs, hd, -, hdv⟩ := hmk.get r.glyph
  obtain ⟨vm, hv1, tm, u, va, rfl, htm, xo, tx, ty, rfl, hown⟩ := hdv _ hm
  obtain ⟨tr', vs, e1, htu, hlen, hcell⟩ := htr
  cases e1
  have hv3 : vs.length = 3 := by omega
  have hn3 : n < 3 := by have := (List.getElem?_eq_some_iff.mp hc).1; omega
  obtain ⟨v, hv⟩ : ∃ v, vs[n.toNat]? = some v := ⟨_, List.getElem?_eq_getElem (by omega)⟩
  have hcv := hcell _ _ _ hv hc
  obtain ⟨x, dx, r', hx1, hx2, hx3, -⟩ := (RD.rowAtN F' N' (by walk_at "m sub")).item (k := at_) (by omega) (by omega)
  obtain ⟨xp, dxp, rp', hp1, hp2, hp3, -⟩ := (RD.rowAtN F' N' (by walk_at "m sub")).item (k := place) (by omega) (by omega)
  obtain rfl : r = r' := by rw [hr] at hx3; exact Option.some.inj hx3
  obtain rfl : rp = rp' := by rw [hrp] at hp3; exact Option.some.inj hp3
  obtain ⟨ti, es, n9, a1, a2, a3, a4⟩ := RD.item hx2 hr
  cases c with
  | none =>
    have hcv' : v = .none := hcv
    subst hcv'
    walk_at "m go2"
    all_goals first
      | (exfalso; omega)
      | (exact finR hQ hg (by assumption) (by assumption) (by assumption) (by walk_at "m sub") hR.rowAt (fun hz => ⟨⟨_, rfl⟩, hz⟩))
  | some a =>
    obtain ⟨xa, ta, tb, rfl, hanc⟩ := hcv
    walk_at "m go2"
    all_goals first
      | (exfalso; omega)
      | skip
    refine finR hQ hg (by assumption) (by assumption) (by assumption) (by walk_at "m sub") hR.rowAt (fun hz => ⟨⟨_, congrArg (fun z => Value.int z _) ?_⟩, ?_⟩)
    · show at_ + 1 = heard at_.toNat (some a)
      show at_ + 1 = (at_.toNat : Int) + 1
      omega
    · have e : setD rs at_.toNat place.toNat own (some a) = hangD (rs.set at_.toNat { r with xo := a.1 - own.1, yo := a.2 - own.2, parent := place - at_, bond := sN "mark" }) place.toNat (at_ + 1).toNat := by
        unfold setD
        rw [hr]
        dsimp only
        rw [show (at_ + 1).toNat = at_.toNat + 1 by omega, show ((place.toNat : Int) - at_.toNat) = place - at_ by omega]
      simp only [List.set_set] at hz
      rw [e]
      exact hz
end S_SetOn

section S_Apply
theorem base_ahead_d {w : World} {hb : Heap} (G : Gr w hb) (sc gd buf row lk : Addr) (flag : Int) (at_ : Int) (t : Tok) (xs : List (Addr × Addr)) (rs : List Rec) (hgl : Glyphs rs) (h0 : 0 ≤ at_) (h1 : at_ < xs.length) {p0 : Int} (hp : nb 8 rs at_.toNat = p0) :
    Does w hb 497 [.ref sc, .int at_ t] 10 [] (fun h => SceneAt w h sc gd buf row lk flag ∧ RowAt h row xs rs) (fun _ q _ => ∃ t0, q = .int p0 t0) := hp ▸ base_ahead_c G sc gd buf row lk flag at_ t xs rs h0 h1 hgl
theorem set_on_d {w : World} {hb : Heap} (G : Gr w hb) (sc gd buf row lk : Addr) (flag : Int) (at_ place : Int) (t t2 : Tok) (xs : List (Addr × Addr)) (rs : List Rec) (mk tr : Addr) (r rp : Rec) (n : Int) (own : Int × Int) (ms : List (Int × (Int × (Int × Int)))) (cs : List (Option (Int × Int))) (c : Option (Int × Int))
    (hr : rs[at_.toNat]? = some r) (hrp : rs[place.toNat]? = some rp) (hpar : rp.parent = 0) (hm : ms.lookup r.glyph = some (n, own)) (hn0 : 0 ≤ n) (hc : cs[n.toNat]? = some c) (hc3 : cs.length = 3) (h0 : 0 ≤ place) (h1 : place < at_) (h2 : at_ < xs.length) :
    Does w hb 504 [.ref sc, .ref mk, .ref tr, .int at_ t, .int place t2] 8 (xs.map (·.2)) (fun h => RowPre hb h row xs rs ∧ SceneAt w (hideAll h (xs.map (·.2))) sc gd buf row lk flag ∧ Tab w (hideAll h (xs.map (·.2))) mk MarkV ms ∧ TupCells (hideAll h (xs.map (·.2))) (.ref tr) cs)
      (fun _ q h' => (∃ t', q = .int (heard at_.toNat c) t') ∧ RowAt h' row xs (setD rs at_.toNat place.toNat own c)) := set_on_c G sc gd buf row lk flag at_ place t t2 xs rs mk tr r rp n own ms cs c h0 h1 h2 hr hrp hpar hm hn0 hc hc3
theorem rows_22 : True := by
  (k_with "call ref" => (k_here; (with_reducible show wpAny _ _ (call (Value.ref 497) _) _ _ _); k_dflt ((refine' use1 (base_ahead_d (by assumption) _ _ _ _ _ _ _ _ _ _ (by assumption) (by walk_at "m num") (by walk_at "m num") (by assumption)) ?z96k1 ?z96kN ?z96k2 ?z96k3 ?z96k4 ?z96k5 ?_); (case z96k1 => k_asm); (case z96kN => k_asm); (case z96k2 => assumption); (case z96k5 => walk_at "m pre"); (case z96k3 => walk_at "m dep"); (case z96k4 => walk_at "m dep"); intro _ _ _ _ _ _ _ post'; obtain ⟨_, e0⟩ := post'; subst e0; (try dsimp only))))
  (k_with "call ref" => (k_here; (with_reducible show wpAny _ _ (call (Value.ref 504) _) _ _ _); k_dflt ((refine' useR (set_on_d (by assumption) _ _ _ _ _ _ _ _ _ _ _ _ _ _ _ _ _ _ _ _ _ (by assumption) (by assumption) (by assumption) (by assumption) (by assumption) (by assumption) (by assumption) (by walk_at "m num") (by walk_at "m num") (by walk_at "m num")) ?z97kF ?z97kN ?z97kR ?z97kQ ?z97k2 ?z97k3 ?z97k4 ?z97k5 ?_); (case z97kR => assumption); (case z97kF => k_asm); (case z97kN => first | k_asm | (refine Mine.News.re (l' := _ ++ []) (by assumption) ?_; intro p hp; simp only [List.append_nil] at hp; simp [hp])); (case z97kQ => walk_at "m rest"); (case z97k2 => assumption); (case z97k3 => walk_at "m dep"); (case z97k4 => walk_at "m dep"); (case z97k5 => (intro hA9 hK9; walk_at "m preR")); intro _ _ _ _ _ RR' _ post'; obtain ⟨⟨_, e0⟩, post'⟩ := post'; subst e0; obtain ⟨led9, RD9, N9⟩ := RR' _ post'; clear RR'; skip; (try dsimp only); revert post' led9 RD9 N9; intros)))
  trivial

theorem apply_base_c {w : World} {hb : Heap} (G : Gr w hb) (sc gd buf row lk : Addr) (flag : Int) (at_ : Int) (t : Tok) (xs : List (Addr × Addr)) (rs : List Rec) (tb mk bd : Addr) (ms : List (Int × (Int × (Int × Int)))) (bs : List (Int × List (Option (Int × Int))))
    (h0 : 0 ≤ at_) (h2 : at_ < xs.length) (hg : Good rs) (hms : GoodM ms) (hbs : ∀ g cs, bs.lookup g = some cs → cs.length = 3) :
    Does w hb 511 [.ref sc, .ref tb, .int at_ t] 12 (xs.map (·.2)) (fun h => RowPre hb h row xs rs ∧ SceneAt w (hideAll h (xs.map (·.2))) sc gd buf row lk flag ∧ Tab w (hideAll h (xs.map (·.2))) mk MarkV ms ∧ Tab w (hideAll h (xs.map (·.2))) bd TupCells bs ∧ Has (hideAll h (xs.map (·.2))) tb 411 [(Str.ofString "marks", .ref mk), (Str.ofString "bases", .ref bd)])
      (fun _ q h' => (∃ t', q = .int (baseD ms bs rs at_.toNat).1 t') ∧ RowAt h' row xs (baseD ms bs rs at_.toNat).2) := by
  obtain ⟨p, loose, mean, mg, mb, X₀, T₀⟩ := id G
  intro dp un fr gds s Q E hdep hun hs hpre9
  obtain ⟨hR, hsc, hmk, hbd, htb⟩ := hpre9
  intro hQ
  have hgd := hg
  clear hg
  refine' enterR [(Str.ofString "at", .int at_ t), (Str.ofString "table", .ref tb), (Str.ofString "scene", .ref sc)] xs rs row ?k1 ?k2 ?k3 hR.rowAt hR.nod hR.hb0 hR.lst hR.inst ?k6 ?k7 ?k8 ?k9 ?kB ?kk ?c2 ?c3 ?c4 ?c5
  (case k1 => assumption)
  (case k2 => assumption)
  (case k3 => assumption)
  (case k6 => k_is)
  (case k7 => k_is)
  (case k8 => first | exact room0 (by assumption) | exact room1 (by assumption) | (simp only [recursionLimit]; omega))
  (case k9 => exact BindsTo.of_eq rfl)
  (case kB => exact locs rfl)
  (case c5 => decide)
  (case c2 => exact rfl)
  (case c3 => exact rfl)
  (case c4 => exact rfl)
  intro L' h' tk' g led hg F' N' RD X' T' hsg
  clear X₀ T₀
  walk_at "m body"
  rw [← hg] at hsc hmk hbd htb
  have hl := RD.lst
  have hn6 := RD.few
  have hgl := hgd.gl
  obtain ⟨v1, v2, v3, v4, v5, v6, v7, s1, s2, s3, s4⟩ := id hsc
  obtain ⟨x, dx, r, hx1, hx2, hx3, -⟩ := (RD.rowAtN F' N' (by walk_at "m sub")).item (k := at_) (by omega) (by omega)
  obtain ⟨ti, es, n9, a1, a2, a3, a4⟩ := RD.item hx2 hx3
  obtain ⟨kvs, hd, hdi, -⟩ := hmk.get r.glyph
  have hres : baseD ms bs rs at_.toNat = match ms.lookup r.glyph with
    | none => (-1, rs)
    | some m => placeD rs at_.toNat (nb 8 rs at_.toNat) m fun rp => bs.lookup rp.glyph := by unfold baseD; simp only [hx3] <;> (cases ms.lookup r.glyph <;> rfl)
  generalize baseD ms bs rs at_.toNat = res at *
  cases hmm : ms.lookup r.glyph with
  | none =>
    rw [hmm] at hdi hres
    dsimp only at hres
    simp only [Option.isSome_none] at hdi
    subst hres
    walk_at "m go2"
    all_goals (exact finR hQ hg (by assumption) (by assumption) (by assumption) (by walk_at "m sub") hR.rowAt (fun hz => ⟨⟨_, rfl⟩, hz⟩))
  | some mm =>
    rw [hmm] at hdi hres
    dsimp only at hres
    simp only [Option.isSome_some] at hdi
    have hnr := nb_range 8 rs at_.toNat
    obtain ⟨p0, hp0⟩ : ∃ p0, nb 8 rs at_.toNat = p0 := ⟨_, rfl⟩
    rw [hp0] at hres hnr
    by_cases hneg : p0 < 0
    · have ez : res = (-1, rs) := by rw [hres]; unfold placeD; rw [if_pos hneg]
      subst ez
      walk_at "m go2"
      all_goals first
        | (exfalso; omega)
        | (exact finR hQ hg (by assumption) (by assumption) (by assumption) (by walk_at "m sub") hR.rowAt (fun hz => ⟨⟨_, rfl⟩, hz⟩))
    · obtain ⟨xp, dxp, rp, hp1, hp2, hp3, -⟩ := (RD.rowAtN F' N' (by walk_at "m sub")).item (k := p0) (by omega) (by omega)
      obtain ⟨ti2, es2, n2, b1, b2, b3, b4⟩ := RD.item hp2 hp3
      obtain ⟨kvb, hdb, hdib, hdvb⟩ := hbd.get rp.glyph
      have hpar := hgd.par _ _ hp3
      unfold placeD at hres
      rw [if_neg hneg, hp3] at hres
      dsimp only at hres
      cases hbb : bs.lookup rp.glyph with
      | none =>
        rw [hbb] at hdib hres
        simp only [Option.isSome_none] at hdib
        dsimp only at hres
        subst hres
        walk_at "m go2"
        all_goals first
          | (exfalso; omega)
          | (exact finR hQ hg (by assumption) (by assumption) (by assumption) (by walk_at "m sub") hR.rowAt (fun hz => ⟨⟨_, rfl⟩, hz⟩))
      | some cs =>
        obtain ⟨vb, hvb, htc⟩ := hdvb _ hbb
        obtain ⟨tr, vs, rfl, -, -⟩ := id htc
        rw [hbb] at hdib hres
        simp only [Option.isSome_some] at hdib
        dsimp only at hres
        have hc3 := hbs _ _ hbb
        obtain ⟨mn, mo⟩ := mm
        have hmr := hms.rng _ _ hmm
        have hn0 : 0 ≤ mn := hmr.1
        obtain ⟨c, hc⟩ : ∃ c, cs[mn.toNat]? = some c := ⟨_, List.getElem?_eq_getElem (by have := hmr.2; omega)⟩
        unfold tailD at hres
        dsimp only at hres
        rw [hc] at hres
        dsimp only at hres
        subst hres
        walk_at "m go2"
        all_goals first
          | (exfalso; omega)
          | (exact finR hQ hg (by assumption) (by assumption) (by assumption) (by walk_at "m sub") hR.rowAt (fun hz => ⟨⟨_, rfl⟩, hz⟩))
          | skip
end S_Apply

theorem rows_23 : True := by
  (k_with "call ref" => (k_here; (with_reducible show wpAny _ _ (call (Value.ref 497) _) _ _ _); k_dflt ((refine' use1 (base_ahead_d (by assumption) _ _ _ _ _ _ _ _ _ _ (by assumption) (by walk_at "m num") (by walk_at "m num") (by assumption)) ?z98k1 ?z98kN ?z98k2 ?z98k3 ?z98k4 ?z98k5 ?_); (case z98k1 => k_asm); (case z98kN => k_asm); (case z98k2 => assumption); (case z98k5 => walk_at "m pre"); (case z98k3 => walk_at "m dep"); (case z98k4 => walk_at "m dep"); intro _ _ _ _ _ _ _ post'; obtain ⟨_, e0⟩ := post'; subst e0; (try dsimp only))))
  (k_with "call ref" => (k_here; (with_reducible show wpAny _ _ (call (Value.ref 504) _) _ _ _); k_dflt ((refine' useR (set_on_d (by assumption) _ _ _ _ _ _ _ _ _ _ _ _ _ _ _ _ _ _ _ _ _ (by assumption) (by assumption) (by assumption) (by assumption) (by assumption) (by assumption) (by assumption) (by walk_at "m num") (by walk_at "m num") (by walk_at "m num")) ?z99kF ?z99kN ?z99kR ?z99kQ ?z99k2 ?z99k3 ?z99k4 ?z99k5 ?_); (case z99kR => assumption); (case z99kF => k_asm); (case z99kN => first | k_asm | (refine Mine.News.re (l' := _ ++ []) (by assumption) ?_; intro p hp; simp only [List.append_nil] at hp; simp [hp])); (case z99kQ => walk_at "m rest"); (case z99k2 => assumption); (case z99k3 => walk_at "m dep"); (case z99k4 => walk_at "m dep"); (case z99k5 => (intro hA9 hK9; walk_at "m preR")); intro _ _ _ _ _ RR' _ post'; obtain ⟨⟨_, e0⟩, post'⟩ := post'; subst e0; obtain ⟨led9, RD9, N9⟩ := RR' _ post'; clear RR'; skip; (try dsimp only); revert post' led9 RD9 N9; intros)))
  (k_with "call ref" => (k_here; (with_reducible show wpAny _ _ (call (Value.ref 511) _) _ _ _); k_dflt ((refine' useR (apply_base_c (by assumption) _ _ _ _ _ _ _ _ _ _ _ _ _ _ _ (by walk_at "m num") (by walk_at "m num") (by assumption) (by assumption) (by assumption)) ?z100kF ?z100kN ?z100kR ?z100kQ ?z100k2 ?z100k3 ?z100k4 ?z100k5 ?_); (case z100kR => assumption); (case z100kF => k_asm); (case z100kN => first | k_asm | (refine Mine.News.re (l' := _ ++ []) (by assumption) ?_; intro p hp; simp only [List.append_nil] at hp; simp [hp])); (case z100kQ => walk_at "m rest"); (case z100k2 => assumption); (case z100k3 => walk_at "m dep"); (case z100k4 => walk_at "m dep"); (case z100k5 => (intro hA9 hK9; walk_at "m preR")); intro _ _ _ _ _ RR' _ post'; obtain ⟨⟨_, e0⟩, post'⟩ := post'; subst e0; obtain ⟨led9, RD9, N9⟩ := RR' _ post'; clear RR'; skip; (try dsimp only); revert post' led9 RD9 N9; intros)))
  trivial

section S_ApplyC
theorem apply_component_c {w : World} {hb : Heap} (G : Gr w hb) (sc gd buf row lk : Addr) (flag : Int) (at_ : Int) (t : Tok) (xs : List (Addr × Addr)) (rs : List Rec) (tb mk bd : Addr) (ms : List (Int × (Int × (Int × Int)))) (bs : List (Int × List (List (Option (Int × Int)))))
    (h0 : 0 ≤ at_) (h2 : at_ < xs.length) (hg : Good rs) (hms : GoodM ms) (hbs : ∀ g ps, bs.lookup g = some ps → ps.length = 2 ∧ ∀ p ∈ ps, p.length = 3) :
    Does w hb 525 [.ref sc, .ref tb, .int at_ t] 12 (xs.map (·.2)) (fun h => RowPre hb h row xs rs ∧ SceneAt w (hideAll h (xs.map (·.2))) sc gd buf row lk flag ∧ Tab w (hideAll h (xs.map (·.2))) mk MarkV ms ∧ Tab w (hideAll h (xs.map (·.2))) bd PartsAt bs ∧ Has (hideAll h (xs.map (·.2))) tb 437 [(Str.ofString "marks", .ref mk), (Str.ofString "ligatures", .ref bd)])
      (fun _ q h' => (∃ t', q = .int (compD ms bs rs at_.toNat).1 t') ∧ RowAt h' row xs (compD ms bs rs at_.toNat).2) := by
  obtain ⟨p, loose, mean, mg, mb, X₀, T₀⟩ := id G
  intro dp un fr gds s Q E hdep hun hs hpre9
  obtain ⟨hR, hsc, hmk, hbd, htb⟩ := hpre9
  intro hQ
  have hgd := hg
  clear hg
  refine' enterR [(Str.ofString "at", .int at_ t), (Str.ofString "table", .ref tb), (Str.ofString "scene", .ref sc)] xs rs row ?k1 ?k2 ?k3 hR.rowAt hR.nod hR.hb0 hR.lst hR.inst ?k6 ?k7 ?k8 ?k9 ?kB ?kk ?c2 ?c3 ?c4 ?c5
  (case k1 => assumption)
  (case k2 => assumption)
  (case k3 => assumption)
  (case k6 => k_is)
  (case k7 => k_is)
  (case k8 => first | exact room0 (by assumption) | exact room1 (by assumption) | (simp only [recursionLimit]; omega))
  (case k9 => exact BindsTo.of_eq rfl)
  (case kB => exact locs rfl)
  (case c5 => decide)
  (case c2 => exact rfl)
  (case c3 => exact rfl)
  (case c4 => exact rfl)
  intro L' h' tk' g led hg F' N' RD X' T' hsg
  clear X₀ T₀
  walk_at "m body"
  rw [← hg] at hsc hmk hbd htb
  have hl := RD.lst
  have hn6 := RD.few
  have hgl := hgd.gl
  obtain ⟨v1, v2, v3, v4, v5, v6, v7, s1, s2, s3, s4⟩ := id hsc
  obtain ⟨x, dx, r, hx1, hx2, hx3, -⟩ := (RD.rowAtN F' N' (by walk_at "m sub")).item (k := at_) (by omega) (by omega)
  obtain ⟨ti, es, n9, a1, a2, a3, a4⟩ := RD.item hx2 hx3
  obtain ⟨kvs, hd, hdi, -⟩ := hmk.get r.glyph
  have hres : compD ms bs rs at_.toNat = match ms.lookup r.glyph with
    | none => (-1, rs)
    | some m => placeD rs at_.toNat (nb 8 rs at_.toNat) m fun rp => (bs.lookup rp.glyph).bind fun ps => ps[(partOf r rp ps.length).toNat]? := by unfold compD; simp only [hx3] <;> (cases ms.lookup r.glyph <;> rfl)
  generalize compD ms bs rs at_.toNat = res at *
  cases hmm : ms.lookup r.glyph with
  | none =>
    rw [hmm] at hdi hres
    dsimp only at hres
    simp only [Option.isSome_none] at hdi
    subst hres
    walk_at "m go2"
    all_goals (exact finR hQ hg (by assumption) (by assumption) (by assumption) (by walk_at "m sub") hR.rowAt (fun hz => ⟨⟨_, rfl⟩, hz⟩))
  | some mm =>
    rw [hmm] at hdi hres
    dsimp only at hres
    simp only [Option.isSome_some] at hdi
    have hnr := nb_range 8 rs at_.toNat
    obtain ⟨p0, hp0⟩ : ∃ p0, nb 8 rs at_.toNat = p0 := ⟨_, rfl⟩
    rw [hp0] at hres hnr
    by_cases hneg : p0 < 0
    · have ez : res = (-1, rs) := by rw [hres]; unfold placeD; rw [if_pos hneg]
      subst ez
      walk_at "m go2"
      all_goals first
        | (exfalso; omega)
        | (exact finR hQ hg (by assumption) (by assumption) (by assumption) (by walk_at "m sub") hR.rowAt (fun hz => ⟨⟨_, rfl⟩, hz⟩))
    · obtain ⟨xp, dxp, rp, hp1, hp2, hp3, -⟩ := (RD.rowAtN F' N' (by walk_at "m sub")).item (k := p0) (by omega) (by omega)
      obtain ⟨ti2, es2, n2, b1, b2, b3, b4⟩ := RD.item hp2 hp3
      obtain ⟨kvb, hdb, hdib, hdvb⟩ := hbd.get rp.glyph
      have hpar := hgd.par _ _ hp3
      unfold placeD at hres
      rw [if_neg hneg, hp3] at hres
      dsimp only at hres
      cases hbb : bs.lookup rp.glyph with
      | none =>
        rw [hbb] at hdib hres
        simp only [Option.isSome_none] at hdib
        dsimp only [Option.bind] at hres
        subst hres
        walk_at "m go2"
        all_goals first
          | (exfalso; omega)
          | (exact finR hQ hg (by assumption) (by assumption) (by assumption) (by walk_at "m sub") hR.rowAt (fun hz => ⟨⟨_, rfl⟩, hz⟩))
      | some ps =>
        obtain ⟨vb, hvb, htc⟩ := hdvb _ hbb
        obtain ⟨pl, pvs, rfl, hpl, hpn, hpi⟩ := id htc
        rw [hbb] at hdib hres
        simp only [Option.isSome_some] at hdib
        dsimp only [Option.bind] at hres
        have hb2 := hbs _ _ hbb
        have hp2 : pvs.length = 2 := by omega
        have hrl := hgd.part _ _ hx3
        obtain ⟨k, hk⟩ : ∃ k, partOf r rp pvs.length = k := ⟨_, rfl⟩
        have hkr : 0 ≤ k ∧ k < 2 := by
          rw [← hk, hp2]
          unfold partOf
          split <;> omega
        rw [← hpn, hk] at hres
        obtain ⟨cs, hcs⟩ : ∃ cs, ps[k.toNat]? = some cs := ⟨_, List.getElem?_eq_getElem (by omega)⟩
        obtain ⟨vc, hvc⟩ : ∃ vc, pvs[k.toNat]? = some vc := ⟨_, List.getElem?_eq_getElem (by omega)⟩
        have htc2 := hpi _ _ _ hvc hcs
        obtain ⟨tr, vs, rfl, -, -⟩ := id htc2
        have hc3 := hb2.2 _ (List.mem_of_getElem? hcs)
        rw [hcs] at hres
        dsimp only at hres
        obtain ⟨mn, mo⟩ := mm
        have hmr := hms.rng _ _ hmm
        have hn0 : 0 ≤ mn := hmr.1
        obtain ⟨c, hc⟩ : ∃ c, cs[mn.toNat]? = some c := ⟨_, List.getElem?_eq_getElem (by have := hmr.2; omega)⟩
        unfold tailD at hres
        dsimp only at hres
        rw [hc] at hres
        dsimp only at hres
        subst hres
        walk_at "m go2"
        all_goals first
          | (exfalso; omega)
          | (exact finR hQ hg (by assumption) (by assumption) (by assumption) (by walk_at "m sub") hR.rowAt (fun hz => ⟨⟨_, rfl⟩, hz⟩))
          | skip
end S_ApplyC

theorem rows_24 : True := by
  (k_with "call ref" => (k_here; (with_reducible show wpAny _ _ (call (Value.ref 525) _) _ _ _); k_dflt ((refine' useR (apply_component_c (by assumption) _ _ _ _ _ _ _ _ _ _ _ _ _ _ _ (by walk_at "m num") (by walk_at "m num") (by assumption) (by assumption) (by assumption)) ?z101kF ?z101kN ?z101kR ?z101kQ ?z101k2 ?z101k3 ?z101k4 ?z101k5 ?_); (case z101kR => assumption); (case z101kF => k_asm); (case z101kN => first | k_asm | (refine Mine.News.re (l' := _ ++ []) (by assumption) ?_; intro p hp; simp only [List.append_nil] at hp; simp [hp])); (case z101kQ => walk_at "m rest"); (case z101k2 => assumption); (case z101k3 => walk_at "m dep"); (case z101k4 => walk_at "m dep"); (case z101k5 => (intro hA9 hK9; walk_at "m preR")); intro _ _ _ _ _ RR' _ post'; obtain ⟨⟨_, e0⟩, post'⟩ := post'; subst e0; obtain ⟨led9, RD9, N9⟩ := RR' _ post'; clear RR'; skip; (try dsimp only); revert post' led9 RD9 N9; intros)))
  trivial

section S_ApplyM
theorem apply_mark_c {w : World} {hb : Heap} (G : Gr w hb) (sc gd buf row lk : Addr) (at_ : Int) (t : Tok) (xs : List (Addr × Addr)) (rs : List Rec) (tb mk bd : Addr) (ms : List (Int × (Int × (Int × Int)))) (bs : List (Int × List (Option (Int × Int))))
    (h0 : 0 ≤ at_) (h2 : at_ < xs.length) (hg : Good rs) (hms : GoodM ms) (hbs : ∀ g cs, bs.lookup g = some cs → cs.length = 3) :
    Does w hb 539 [.ref sc, .ref tb, .int at_ t] 12 (xs.map (·.2)) (fun h => RowPre hb h row xs rs ∧ SceneAt w (hideAll h (xs.map (·.2))) sc gd buf row lk 0 ∧ Tab w (hideAll h (xs.map (·.2))) mk MarkV ms ∧ Tab w (hideAll h (xs.map (·.2))) bd TupCells bs ∧ Has (hideAll h (xs.map (·.2))) tb 465 [(Str.ofString "marks", .ref mk), (Str.ofString "others", .ref bd)])
      (fun _ q h' => (∃ t', q = .int (markD ms bs rs at_.toNat).1 t') ∧ RowAt h' row xs (markD ms bs rs at_.toNat).2) := by
  obtain ⟨p, loose, mean, mg, mb, X₀, T₀⟩ := id G
  intro dp un fr gds s Q E hdep hun hs hpre9
  obtain ⟨hR, hsc, hmk, hbd, htb⟩ := hpre9
  intro hQ
  have hgd := hg
  clear hg
  refine' enterR [(Str.ofString "at", .int at_ t), (Str.ofString "table", .ref tb), (Str.ofString "scene", .ref sc)] xs rs row ?k1 ?k2 ?k3 hR.rowAt hR.nod hR.hb0 hR.lst hR.inst ?k6 ?k7 ?k8 ?k9 ?kB ?kk ?c2 ?c3 ?c4 ?c5
  (case k1 => assumption)
  (case k2 => assumption)
  (case k3 => assumption)
  (case k6 => k_is)
  (case k7 => k_is)
  (case k8 => first | exact room0 (by assumption) | exact room1 (by assumption) | (simp only [recursionLimit]; omega))
  (case k9 => exact BindsTo.of_eq rfl)
  (case kB => exact locs rfl)
  (case c5 => decide)
  (case c2 => exact rfl)
  (case c3 => exact rfl)
  (case c4 => exact rfl)
  intro L' h' tk' g led hg F' N' RD X' T' hsg
  clear X₀ T₀
  walk_at "m body"
  rw [← hg] at hsc hmk hbd htb
  have hl := RD.lst
  have hn6 := RD.few
  have hgl := hgd.gl
  obtain ⟨v1, v2, v3, v4, v5, v6, v7, s1, s2, s3, s4⟩ := id hsc
  obtain ⟨la, lb, lc, lt, s5⟩ := id s4
  obtain ⟨x, dx, r, hx1, hx2, hx3, -⟩ := (RD.rowAtN F' N' (by walk_at "m sub")).item (k := at_) (by omega) (by omega)
  obtain ⟨ti, es, n9, a1, a2, a3, a4⟩ := RD.item hx2 hx3
  obtain ⟨kvs, hd, hdi, -⟩ := hmk.get r.glyph
  have hres : markD ms bs rs at_.toNat = match ms.lookup r.glyph with
    | none => (-1, rs)
    | some m => placeD rs at_.toNat (nb 0 rs at_.toNat) m fun rp => if cls rp.glyph = 3 ∧ ofOne r rp = true then bs.lookup rp.glyph else none := by unfold markD; simp only [hx3] <;> (cases ms.lookup r.glyph <;> rfl)
  generalize markD ms bs rs at_.toNat = res at *
  cases hmm : ms.lookup r.glyph with
  | none =>
    rw [hmm] at hdi hres
    dsimp only at hres
    simp only [Option.isSome_none] at hdi
    subst hres
    walk_at "m go2"
    all_goals (exact finR hQ hg (by assumption) (by assumption) (by assumption) (by walk_at "m sub") hR.rowAt (fun hz => ⟨⟨_, rfl⟩, hz⟩))
  | some mm =>
    rw [hmm] at hdi hres
    dsimp only at hres
    simp only [Option.isSome_some] at hdi
    have hnr := nb_range 0 rs at_.toNat
    obtain ⟨p0, hp0⟩ : ∃ p0, nb 0 rs at_.toNat = p0 := ⟨_, rfl⟩
    rw [hp0] at hres hnr
    by_cases hneg : p0 < 0
    · have ez : res = (-1, rs) := by rw [hres]; unfold placeD; rw [if_pos hneg]
      subst ez
      walk_at "m go2"
      all_goals first
        | (exfalso; omega)
        | (exact finR hQ hg (by assumption) (by assumption) (by assumption) (by walk_at "m sub") hR.rowAt (fun hz => ⟨⟨_, rfl⟩, hz⟩))
    · obtain ⟨xp, dxp, rp, hp1, hp2, hp3, -⟩ := (RD.rowAtN F' N' (by walk_at "m sub")).item (k := p0) (by omega) (by omega)
      obtain ⟨ti2, es2, n2, b1, b2, b3, b4⟩ := RD.item hp2 hp3
      obtain ⟨kvb, hdb, hdib, hdvb⟩ := hbd.get rp.glyph
      have hpar := hgd.par _ _ hp3
      unfold placeD at hres
      rw [if_neg hneg, hp3] at hres
      dsimp only at hres
      have hgr := hgl _ _ hp3
      obtain ⟨bo, hbo⟩ : ∃ b, ofOne r rp = b := ⟨_, rfl⟩
      by_cases hc3 : cls rp.glyph = 3 ∧ ofOne r rp = true
      · rw [if_pos hc3] at hres
        have hcb : decide (cls rp.glyph = 3) = true := by simp [hc3.1]
        have hob : ofOne r rp = true := hc3.2
        clear hbo
        cases hbb : bs.lookup rp.glyph with
        | none =>
          rw [hbb] at hdib hres
          simp only [Option.isSome_none] at hdib
          dsimp only at hres
          subst hres
          walk_at "m go2"
          all_goals first
            | (exfalso; omega)
            | (exact finR hQ hg (by assumption) (by assumption) (by assumption) (by walk_at "m sub") hR.rowAt (fun hz => ⟨⟨_, rfl⟩, hz⟩))
        | some cs =>
          obtain ⟨vb, hvb, htc⟩ := hdvb _ hbb
          obtain ⟨tr, vs, rfl, -, -⟩ := id htc
          rw [hbb] at hdib hres
          simp only [Option.isSome_some] at hdib
          dsimp only at hres
          have hcs3 := hbs _ _ hbb
          obtain ⟨mn, mo⟩ := mm
          have hmr := hms.rng _ _ hmm
          have hn0 : 0 ≤ mn := hmr.1
          obtain ⟨c, hc⟩ : ∃ c, cs[mn.toNat]? = some c := ⟨_, List.getElem?_eq_getElem (by have := hmr.2; omega)⟩
          unfold tailD at hres
          dsimp only at hres
          rw [hc] at hres
          dsimp only at hres
          subst hres
          walk_at "m go2"
          all_goals first
            | (exfalso; omega)
            | (exact finR hQ hg (by assumption) (by assumption) (by assumption) (by walk_at "m sub") hR.rowAt (fun hz => ⟨⟨_, rfl⟩, hz⟩))
            | skip

      · rw [if_neg hc3] at hres
        dsimp only at hres
        subst hres
        by_cases hcl : cls rp.glyph = 3
        · have hcb : decide (cls rp.glyph = 3) = true := by simp [hcl]
          have hob : ofOne r rp = false := by
            cases q : ofOne r rp with
            | false => rfl
            | true => exact absurd ⟨hcl, q⟩ hc3
          clear hbo
          walk_at "m go2"
          all_goals first
            | (exfalso; omega)
            | (exact finR hQ hg (by assumption) (by assumption) (by assumption) (by walk_at "m sub") hR.rowAt (fun hz => ⟨⟨_, rfl⟩, hz⟩))
            | skip
        · have hcb : decide (cls rp.glyph = 3) = false := by simp [hcl]
          walk_at "m go2"
          all_goals first
            | (exfalso; omega)
            | (exact finR hQ hg (by assumption) (by assumption) (by assumption) (by walk_at "m sub") hR.rowAt (fun hz => ⟨⟨_, rfl⟩, hz⟩))
            | skip
end S_ApplyM

theorem rows_25 : True := by
  (k_with "call ref" => (k_here; (with_reducible show wpAny _ _ (call (Value.ref 539) _) _ _ _); k_dflt ((refine' useR (apply_mark_c (by assumption) _ _ _ _ _ _ _ _ _ _ _ _ _ _ (by walk_at "m num") (by walk_at "m num") (by assumption) (by assumption) (by assumption)) ?z102kF ?z102kN ?z102kR ?z102kQ ?z102k2 ?z102k3 ?z102k4 ?z102k5 ?_); (case z102kR => assumption); (case z102kF => k_asm); (case z102kN => first | k_asm | (refine Mine.News.re (l' := _ ++ []) (by assumption) ?_; intro p hp; simp only [List.append_nil] at hp; simp [hp])); (case z102kQ => walk_at "m rest"); (case z102k2 => assumption); (case z102k3 => walk_at "m dep"); (case z102k4 => walk_at "m dep"); (case z102k5 => (intro hA9 hK9; walk_at "m preR")); intro _ _ _ _ _ RR' _ post'; obtain ⟨⟨_, e0⟩, post'⟩ := post'; subst e0; obtain ⟨led9, RD9, N9⟩ := RR' _ post'; clear RR'; skip; (try dsimp only); revert post' led9 RD9 N9; intros)))
  trivial

section S_ApplyP
theorem apply_position_base {w : World} {hb : Heap} (G : Gr w hb) (sc gd buf row lk : Addr) (flag : Int) (at_ : Int) (t tk0 : Tok) (xs : List (Addr × Addr)) (rs : List Rec) (tb mk bd : Addr) (ms : List (Int × (Int × (Int × Int)))) (bs : List (Int × List (Option (Int × Int))))
    (h0 : 0 ≤ at_) (h2 : at_ < xs.length) (hgd : Good rs) (hms : GoodM ms) (hbs : ∀ g cs, bs.lookup g = some cs → cs.length = 3) :
    Does w hb 664 [.str (sN "base") tk0, .ref sc, .ref tb, .int at_ t] 14 (xs.map (·.2)) (fun h => RowPre hb h row xs rs ∧ SceneAt w (hideAll h (xs.map (·.2))) sc gd buf row lk flag ∧ Tab w (hideAll h (xs.map (·.2))) mk MarkV ms ∧ Tab w (hideAll h (xs.map (·.2))) bd TupCells bs ∧ Has (hideAll h (xs.map (·.2))) tb 411 [(Str.ofString "marks", .ref mk), (Str.ofString "bases", .ref bd)])
      (fun _ q h' => (∃ t', q = .int (baseD ms bs rs at_.toNat).1 t') ∧ RowAt h' row xs (baseD ms bs rs at_.toNat).2) := by
  obtain ⟨p, loose, mean, mg, mb, X₀, T₀⟩ := id G
  intro dp un fr gds s Q E hdep hun hs hpre9
  obtain ⟨hR, hsc, hmk, hbd, htb⟩ := hpre9
  intro hQ
  refine' enterR [(Str.ofString "at", .int at_ t), (Str.ofString "table", .ref tb), (Str.ofString "scene", .ref sc), (Str.ofString "kind", .str (sN "base") tk0)] xs rs row ?k1 ?k2 ?k3 hR.rowAt hR.nod hR.hb0 hR.lst hR.inst ?k6 ?k7 ?k8 ?k9 ?kB ?kk ?c2 ?c3 ?c4 ?c5
  (case k1 => assumption)
  (case k2 => assumption)
  (case k3 => assumption)
  (case k6 => k_is)
  (case k7 => k_is)
  (case k8 => first | exact room0 (by assumption) | exact room1 (by assumption) | (simp only [recursionLimit]; omega))
  (case k9 => exact BindsTo.of_eq rfl)
  (case kB => exact locs rfl)
  (case c5 => decide)
  (case c2 => exact rfl)
  (case c3 => exact rfl)
  (case c4 => exact rfl)
  intro L' h' tk' g led hg F' N' RD X' T' hsg
  clear X₀ T₀
  walk_at "m body"
  rw [← hg] at hsc hmk hbd htb
  walk_at "m go2"
  exact finR hQ hg (by assumption) (by assumption) (by assumption) (by walk_at "m sub") hR.rowAt (fun hz => ⟨⟨_, rfl⟩, hz⟩)
theorem apply_position_component {w : World} {hb : Heap} (G : Gr w hb) (sc gd buf row lk : Addr) (flag : Int) (at_ : Int) (t tk0 : Tok) (xs : List (Addr × Addr)) (rs : List Rec) (tb mk bd : Addr) (ms : List (Int × (Int × (Int × Int)))) (bs : List (Int × List (List (Option (Int × Int)))))
    (h0 : 0 ≤ at_) (h2 : at_ < xs.length) (hgd : Good rs) (hms : GoodM ms) (hbs : ∀ g ps, bs.lookup g = some ps → ps.length = 2 ∧ ∀ p ∈ ps, p.length = 3) :
    Does w hb 664 [.str (sN "component") tk0, .ref sc, .ref tb, .int at_ t] 14 (xs.map (·.2)) (fun h => RowPre hb h row xs rs ∧ SceneAt w (hideAll h (xs.map (·.2))) sc gd buf row lk flag ∧ Tab w (hideAll h (xs.map (·.2))) mk MarkV ms ∧ Tab w (hideAll h (xs.map (·.2))) bd PartsAt bs ∧ Has (hideAll h (xs.map (·.2))) tb 437 [(Str.ofString "marks", .ref mk), (Str.ofString "ligatures", .ref bd)])
      (fun _ q h' => (∃ t', q = .int (compD ms bs rs at_.toNat).1 t') ∧ RowAt h' row xs (compD ms bs rs at_.toNat).2) := by
  obtain ⟨p, loose, mean, mg, mb, X₀, T₀⟩ := id G
  intro dp un fr gds s Q E hdep hun hs hpre9
  obtain ⟨hR, hsc, hmk, hbd, htb⟩ := hpre9
  intro hQ
  refine' enterR [(Str.ofString "at", .int at_ t), (Str.ofString "table", .ref tb), (Str.ofString "scene", .ref sc), (Str.ofString "kind", .str (sN "component") tk0)] xs rs row ?k1 ?k2 ?k3 hR.rowAt hR.nod hR.hb0 hR.lst hR.inst ?k6 ?k7 ?k8 ?k9 ?kB ?kk ?c2 ?c3 ?c4 ?c5
  (case k1 => assumption)
  (case k2 => assumption)
  (case k3 => assumption)
  (case k6 => k_is)
  (case k7 => k_is)
  (case k8 => first | exact room0 (by assumption) | exact room1 (by assumption) | (simp only [recursionLimit]; omega))
  (case k9 => exact BindsTo.of_eq rfl)
  (case kB => exact locs rfl)
  (case c5 => decide)
  (case c2 => exact rfl)
  (case c3 => exact rfl)
  (case c4 => exact rfl)
  intro L' h' tk' g led hg F' N' RD X' T' hsg
  clear X₀ T₀
  walk_at "m body"
  rw [← hg] at hsc hmk hbd htb
  walk_at "m go2"
  exact finR hQ hg (by assumption) (by assumption) (by assumption) (by walk_at "m sub") hR.rowAt (fun hz => ⟨⟨_, rfl⟩, hz⟩)
theorem apply_position_mark {w : World} {hb : Heap} (G : Gr w hb) (sc gd buf row lk : Addr) (at_ : Int) (t tk0 : Tok) (xs : List (Addr × Addr)) (rs : List Rec) (tb mk bd : Addr) (ms : List (Int × (Int × (Int × Int)))) (bs : List (Int × List (Option (Int × Int))))
    (h0 : 0 ≤ at_) (h2 : at_ < xs.length) (hgd : Good rs) (hms : GoodM ms) (hbs : ∀ g cs, bs.lookup g = some cs → cs.length = 3) :
    Does w hb 664 [.str (sN "mark") tk0, .ref sc, .ref tb, .int at_ t] 14 (xs.map (·.2)) (fun h => RowPre hb h row xs rs ∧ SceneAt w (hideAll h (xs.map (·.2))) sc gd buf row lk 0 ∧ Tab w (hideAll h (xs.map (·.2))) mk MarkV ms ∧ Tab w (hideAll h (xs.map (·.2))) bd TupCells bs ∧ Has (hideAll h (xs.map (·.2))) tb 465 [(Str.ofString "marks", .ref mk), (Str.ofString "others", .ref bd)])
      (fun _ q h' => (∃ t', q = .int (markD ms bs rs at_.toNat).1 t') ∧ RowAt h' row xs (markD ms bs rs at_.toNat).2) := by
  obtain ⟨p, loose, mean, mg, mb, X₀, T₀⟩ := id G
  intro dp un fr gds s Q E hdep hun hs hpre9
  obtain ⟨hR, hsc, hmk, hbd, htb⟩ := hpre9
  intro hQ
  refine' enterR [(Str.ofString "at", .int at_ t), (Str.ofString "table", .ref tb), (Str.ofString "scene", .ref sc), (Str.ofString "kind", .str (sN "mark") tk0)] xs rs row ?k1 ?k2 ?k3 hR.rowAt hR.nod hR.hb0 hR.lst hR.inst ?k6 ?k7 ?k8 ?k9 ?kB ?kk ?c2 ?c3 ?c4 ?c5
  (case k1 => assumption)
  (case k2 => assumption)
  (case k3 => assumption)
  (case k6 => k_is)
  (case k7 => k_is)
  (case k8 => first | exact room0 (by assumption) | exact room1 (by assumption) | (simp only [recursionLimit]; omega))
  (case k9 => exact BindsTo.of_eq rfl)
  (case kB => exact locs rfl)
  (case c5 => decide)
  (case c2 => exact rfl)
  (case c3 => exact rfl)
  (case c4 => exact rfl)
  intro L' h' tk' g led hg F' N' RD X' T' hsg
  clear X₀ T₀
  walk_at "m body"
  rw [← hg] at hsc hmk hbd htb
  walk_at "m go2"
  exact finR hQ hg (by assumption) (by assumption) (by assumption) (by walk_at "m sub") hR.rowAt (fun hz => ⟨⟨_, rfl⟩, hz⟩)
end S_ApplyP

section S_Copy
theorem set_lc {r : Rec} {u : Tok} (t : Nat → Tok) : ((infoF r t).lookup (Str.ofString "lig_count")).isSome = true ∧ ∃ t', putF (Str.ofString "lig_count") (.int 0 u) (infoF r t) = infoF r t' := ⟨rfl, fun i => if i = 7 then u else t i, rfl⟩
theorem set_sp {r : Rec} {u : Tok} (t : Nat → Tok) : ((infoF r t).lookup (Str.ofString "split_id")).isSome = true ∧ ∃ t', putF (Str.ofString "split_id") (.int 0 u) (infoF r t) = infoF r t' := ⟨rfl, fun i => if i = 8 then u else t i, rfl⟩
theorem set_kd {r : Rec} {u : Tok} (t : Nat → Tok) : ((infoF r t).lookup (Str.ofString "kind")).isSome = true ∧ ∃ t', putF (Str.ofString "kind") (.str (Str.ofString "") u) (infoF r t) = infoF r t' := ⟨rfl, fun i => if i = 9 then u else t i, rfl⟩
theorem set_ya {r : Rec} {u : Tok} (t : Nat → Tok) : ((infoF r t).lookup (Str.ofString "y_advance")).isSome = true ∧ ∃ t', putF (Str.ofString "y_advance") (.int 0 u) (infoF r t) = infoF r t' := ⟨rfl, fun i => if i = 11 then u else t i, rfl⟩
theorem set_new {prog : Program} {w : World} {A : Around} {E : Value → Shared → Prop} {s : Shared} {K : Frag} {x dx L : Addr} {h₀ : Heap} {m : Str → Option Value} {es : List DictEntry} {n : Nat} {name : Str} {v : Value} {r r' : Rec} {t : Nat → Tok} {Q : Unit → Shared → Prop} (F : Fr h₀ L s.heap m) (X₀ : K.In h₀) (N : News h₀ L s.heap [(x, instObj 135 dx), (dx, dictOf es n)]) (Nm : Named es (infoF r t)) (hlt : @LT.lt Nat _ dx x)
    (hs : findIn K (.ref 135) "__setattr__" = some (some (.builtin "object.__setattr__"))) (hp : plainOver K 135 = true) (ht : takerIn K 135 name = some none) (hh : hasDictIn K 135 = true)
    (hf : ∀ t, ((infoF r t).lookup name).isSome = true ∧ ∃ t', putF name v (infoF r t) = infoF r' t')
    (h : ∀ h' es' t', Fr h₀ L h' m → News h₀ L h' [(x, instObj 135 dx), (dx, dictOf es' n)] → Named es' (infoF r' t') → Q () { s with heap := h', toks := s.toks + 2 }) :
    wpAny (model prog w) A (setAttr (.ref x) name v) Q E s := by
  obtain ⟨l1, t', l2⟩ := hf t
  obtain ⟨N1, N2, N3⟩ := named_put (v := v) (key := .str name (s.toks + 1)) (hsh := PyData.keyHash w.params name) Nm l1
  have len : ∀ {es : List DictEntry} {fs : List (Str × Value)}, Named es fs → es.length = fs.length := fun {es fs} z => by
    induction z with
    | nil => rfl
    | cons _ _ _ _ _ ih => simp [ih]
  have hne : x ≠ dx := fun e => by rw [e] at hlt; exact absurd hlt (Nat.lt_irrefl _)
  refine set_dict (ox := instObj 135 dx) F X₀ N ⟨(N _ (.head _)).1, rfl, rfl, (N _ (.tail _ (.head _))).1⟩ rfl hs hp ht hh (by rw [named_get Nm name]; simpa using l1) rfl (n' := putN name es n) (by rw [putN_le _ _ _ N3]; exact .tail hne (.head fun _ h => nomatch h)) (by rw [N2, len Nm]; simp [infoF]) fun h' F' N' => h h' _ t' F' N' ?_
  rw [← l2]; exact N1
theorem rows_26 : True := by
  (k_with "m set" => (intro t; first | with_reducible exact set_uns t | with_reducible exact set_xo t | with_reducible exact set_yo t | with_reducible exact set_par t | with_reducible exact set_bond t | with_reducible exact set_mask t | with_reducible exact set_lig t | with_reducible exact set_part t | with_reducible exact set_xa t | with_reducible exact set_lc t | with_reducible exact set_sp t | with_reducible exact set_kd t | with_reducible exact set_ya t))
  (k_with "setAttr ref" => (k_here; k_dflt ((refine' set_new ?z104k1 ?z104k2 ?z104k3 ?z104k4 ?z104k5 ?z104s1 ?z104s2 ?z104s3 ?z104s4 ?z104s5 ?_); (case z104k1 => k_asm); (case z104k2 => k_asm); (case z104k3 => k_asm); (case z104k4 => assumption); (case z104k5 => assumption); (case z104s1 => k_is); (case z104s2 => k_is); (case z104s3 => k_is); (case z104s4 => k_is); (case z104s5 => walk_at "m set"); intro _ _ _ _ _ R9; (try dsimp only at R9); (try k_sweep); revert R9; intros)))
  (k_with "call ref" => (k_here; (with_reducible show wpAny _ _ (call (Value.ref 135) _) _ _ _); k_dflt ((refine' use1 (new_info (by assumption) _ _ _ _ _) ?z105k1 ?z105kN ?z105k2 ?z105k3 ?z105k4 ?z105k5 ?_); (case z105k1 => k_asm); (case z105kN => k_asm); (case z105k2 => assumption); (case z105k5 => walk_at "m pre"); (case z105k3 => walk_at "m dep"); (case z105k4 => walk_at "m dep"); intro _ _ _ _ N' _ _ post'; obtain ⟨_, post'⟩ := post'; obtain ⟨x9, dx9, es9, n9, e0, lt9, fx9, fdx9, nm9, N9⟩ := made_grow (by assumption) N' post'; clear N'; subst e0; (try dsimp only); revert post' x9 dx9 es9 n9 lt9 fx9 fdx9 nm9 N9; intros)))
  trivial

theorem made_news {h h' : Heap} {L x dx C : Addr} {es : List DictEntry} {n : Nat} {fs : List (Str × Value)} {news : Led} (N : News h L h' news) (m1 : (x, instObj C dx) ∈ news) (m2 : (dx, dictOf es n) ∈ news) (Nm : Named es fs) (l : @LT.lt Nat _ dx x) : Made h h' (.ref x) C fs :=
  ⟨x, dx, rfl, (N _ m1).2.2, (N _ m2).2.2, l, (N _ m1).1, es, n, (N _ m2).1, Nm⟩
theorem copied_c {w : World} {hb : Heap} (G : Gr w hb) (x dx : Addr) (r : Rec) :
    Does w hb 125 [.ref x] 5 [] (fun h => InfoAt h x dx r) (fun h q h' => ∃ t, Made h h' q 135 (infoF r t)) := by
  obtain ⟨p, loose, mean, mg, mb, X₀, T₀⟩ := id G
  intro dp un fr gds s Q E hdep hun hs hpre9
  obtain ⟨ti, hi⟩ := hpre9
  intro hQ
  have hi2 := hi.has
  refine' enter0 [(Str.ofString "self", .ref x)] ?k1 ?k2 ?k3 ?k6 ?k7 ?k8 ?k9 ?kB ?kk ?c2 ?c3 ?c4 ?c5
  (case k1 => assumption)
  (case k2 => assumption)
  (case k3 => assumption)
  (case k6 => k_is)
  (case k7 => k_is)
  (case k8 => first | exact room0 (by assumption) | exact room1 (by assumption) | (simp only [recursionLimit]; omega))
  (case k9 => exact BindsTo.of_eq rfl)
  (case kB => exact locs rfl)
  (case c5 => decide)
  (case c2 => exact rfl)
  (case c3 => exact rfl)
  (case c4 => exact rfl)
  intro L' h' tk' F' N' X' T'
  clear X₀ T₀
  walk_at "m body"
  walk_at "m go2"
  exact hQ _ _ _ (off_pure (S := []) (by assumption)).1 (off_pure (S := []) (by assumption)).2 ⟨_, made_news (by assumption) (.head _) (.tail _ (.head _)) (by assumption) (by assumption)⟩
theorem told_c {w : World} {hb : Heap} (G : Gr w hb) (x dx : Addr) (r : Rec) :
    Does w hb 132 [.ref x] 2 [] (fun h => InfoAt h x dx r) (fun h q h' => ∃ z t1 t2 t3 t4 t5 t6, q = .ref z ∧ h.get? z = none ∧ h'.get? z = some ⟨.type "tuple", none, .seq #[.int r.glyph t1, .int r.cluster t2, .int r.xa t3, .int 0 t4, .int r.xo t5, .int r.yo t6] 0, #[]⟩) := by
  obtain ⟨p, loose, mean, mg, mb, X₀, T₀⟩ := id G
  intro dp un fr gds s Q E hdep hun hs hpre9
  obtain ⟨ti, hi⟩ := hpre9
  intro hQ
  have hi2 := hi.has
  refine' enter0 [(Str.ofString "self", .ref x)] ?k1 ?k2 ?k3 ?k6 ?k7 ?k8 ?k9 ?kB ?kk ?c2 ?c3 ?c4 ?c5
  (case k1 => assumption)
  (case k2 => assumption)
  (case k3 => assumption)
  (case k6 => k_is)
  (case k7 => k_is)
  (case k8 => first | exact room0 (by assumption) | exact room1 (by assumption) | (simp only [recursionLimit]; omega))
  (case k9 => exact BindsTo.of_eq rfl)
  (case kB => exact locs rfl)
  (case c5 => decide)
  (case c2 => exact rfl)
  (case c3 => exact rfl)
  (case c4 => exact rfl)
  intro L' h' tk' F' N' X' T'
  clear X₀ T₀
  walk_at "m body"
  walk_at "m go2"
  exact hQ _ _ _ (off_pure (S := []) (by assumption)).1 (off_pure (S := []) (by assumption)).2 ⟨_, _, _, _, _, _, _, rfl, new_head (by assumption)⟩
end S_Copy

end R_lines
-- Pen
theorem rows_27 : True := by
  (k_with "m in" => first | assumption | exact List.Mem.head _ | (refine' List.Mem.tail _ ?_; walk_at "m in") | (refine' List.mem_append_left _ ?_; walk_at "m in") | (refine' List.mem_append_right _ ?_; walk_at "m in"))
  (k_with "m sub" => first | exact List.forall_mem_nil _ | (refine' List.forall_mem_cons.mpr (And.intro ?_ ?_); (next => walk_at "m in"); (next => walk_at "m sub")) | (refine' List.forall_mem_append.mpr (And.intro ?_ ?_); (next => walk_at "m sub"); (next => walk_at "m sub")) | (intro q hq; walk_at "m in"))
  trivial

section
variable {prog : Program} {w : World} {A : Around} {s : Shared} {hb : Heap} {K : Frag} {p : Program} {loose : List Str} {mean : ExcName → Option Value} {mg mb : Str → Option Value} {Q E : Value → Shared → Prop}
  {name qual : Str} {params : Arguments} {body : List Stmt} {scope : Scope} {dV kV doc pm cdv ct oc : Value} {an od : Option Addr} {osl : Array (Option Value)} {f : Addr} {args : List Value} {binds : List (Str × Value)}
theorem enterC (led : Led) (X₀ : K.In hb) (T : Top p loose mean mg mb hb) (hs : hb.StaysIn s.heap)
    (hled : ∀ q ∈ led, s.heap.get? q.1 = some q.2 ∧ hb.get? q.1 = none)
    (ho : K.lookup f = some ⟨oc, od, .func (fnOf name qual params body scope dV kV doc pm an cdv ct), osl⟩) (hcd : codeIn K cdv qual = true) (hroom : A.depth < recursionLimit)
    (hbind : BindsTo s (fnOf name qual params body scope dV kV doc pm an cdv ct) ⟨args, []⟩ binds)
    (hkind : ∀ n, ∀ x ∈ binds, scope.names.lookup x.1 = some .local ∨ (scope.names.lookup x.1 = some .cell ∧ ((cellsFrom n scope.names []).lookup x.1).isSome = true))
    (hnd : ((cellsFrom 0 scope.names []).map (·.1)).Nodup)
    (h : ∀ g L' h₁ tk cells, g = hideAll s.heap (led.map (·.1)) → Fr g L' h₁ (bindL (envOfC qual scope L' f cdv).kindOf binds fun _ => none) → News g L' h₁ (cells ++ led) →
      CellsAre (bindC (envOfC qual scope L' f cdv).kindOf binds fun _ => none) (cellsFrom (L' + 1) scope.names []) cells → K.In g → Top p loose mean mg mb g → hb.StaysIn g → (∀ q ∈ cells, s.heap.get? q.1 = none) →
      wpAny (model prog w) (A.deeper (envOfC qual scope L' f cdv)) (execs body (envOfC qual scope L' f cdv)) (fun fl s' => Q (retOf fl) s') (fun _ _ => False) { s with heap := h₁, toks := tk })
    (hco : scope.isCoroutine = false) (hgen : scope.isGenerator = false) (hk : scope.kind = .function) : wpAny (model prog w) A (call (.ref f) args) Q E s := by
  have nm : ∀ b o, hb.get? b = some o → b ∉ led.map (·.1) := fun b o e q => by
    obtain ⟨r, hr, rfl⟩ := List.mem_map.mp q
    rw [(hled r hr).2] at e; cases e
  have st : hb.StaysIn (hideAll s.heap (led.map (·.1))) := fun b o e => hideAll_get _ (hs b o e) (nm b o e)
  refine wpAny_call ?_
  refine codeAny_call_function (fd := fnOf name qual params body scope dV kV doc pm an cdv ct) (body := body) hroom ((X₀.keeps hs) _ _ ho) rfl hco hgen rfl (codeRec_of (X₀.keeps hs) hcd) (hbind _ _ _ _ ?_)
  refine wpAny_newFunctionEnv_cells hk (hkind _) fun env' he s' x => ?_
  subst he
  refine ⟨(T.nolimit.keeps hs).keeps x.toInCall.keep, codeAny_func ?_⟩
  obtain ⟨h₁, tk, rfl, _⟩ := x.done
  have hk₁ := x.toInCall.keep
  obtain ⟨cells, NC, Y⟩ := Cl.news (h₀ := s.heap) (Nat.le_refl _) fun n c hm => ⟨x.cell n c (lookup_of_mem_nodup (cellsFrom_names scope.names 0 (s.heap.objs.size + 1) [] [] rfl ▸ hnd) hm), x.above n c hm⟩
  refine wpAny_mono (h _ s.heap.objs.size h₁ tk cells rfl ⟨x.toInCall.ns, fun b o e => hk₁ b o (of_hideAll _ e), Nat.le_of_eq (hideAll_size _ _)⟩ (fun q hq => ?_) Y (X₀.keeps st) (T.keeps st) st fun q hq => (NC q hq).2.2) (fun fl s' hl => ?_) fun _ _ y => y.elim
  · rcases List.mem_append.mp hq with hq | hq
    · refine ⟨(NC q hq).1, (NC q hq).2.1, ?_⟩
      cases e : (hideAll s.heap (led.map (·.1))).get? q.1 with
      | none => rfl
      | some o => have := of_hideAll _ e; rw [(NC q hq).2.2] at this; cases this
    · exact ⟨hk₁ _ _ (hled q hq).1, Nat.ne_of_lt (Heap.lt_size (hled q hq).1), hideAll_none _ (List.mem_map_of_mem hq)⟩
  · cases fl <;> exact hl
end
inductive CellsO (oc : Obj) : Prop where
  | mk (vs : List Value) (ns : List Int) (n2 : Nat) (e0 : oc = W.listOf vs.toArray n2) (e1 : IntsAre vs ns) (e2 : ns.length ≤ 40) : CellsO oc
inductive PenS (cells : Addr) (o : Obj) (k : Nat) : Prop where
  | mk (spot great : Int) (t1 t2 : Tok) (n1 : Nat) (e0 : o = penL cells spot great t1 t2 n1) (e1 : 0 ≤ spot) (e2 : spot ≤ k) : PenS cells o k
theorem PenS.le {cells : Addr} {o : Obj} {k k' : Nat} (x : PenS cells o k) (h : k ≤ k') : PenS cells o k' := let ⟨a, b, c, d, e, f, g, z⟩ := x; ⟨a, b, c, d, e, f, g, by omega⟩
structure PenC (hb : Heap) (pen cells : Addr) (oc : Obj) : Prop where
  co : CellsO oc
  p0 : hb.get? pen = none
  c0 : hb.get? cells = none
  ne : pen ≠ cells
theorem PenC.pen {hb h : Heap} {pen cells : Addr} {oc o : Obj} {k : Nat} (C : PenC hb pen cells oc) (P : PenS cells o k) (e1 : h.get? pen = some o) (e2 : h.get? cells = some oc) : Pen hb h pen cells k := by
  obtain ⟨vs, ns, n2, a, b, c⟩ := C.co
  obtain ⟨spot, great, t1, t2, n1, d, e, f⟩ := P
  exact ⟨vs, ns, spot, great, t1, t2, n1, n2, by rw [e1, d], by rw [e2, a], b, c, e, f, C.p0, C.c0, C.ne⟩
theorem pen_back {hb h : Heap} {pen cells : Addr} {k : Nat} (P : Pen hb h pen cells k) : ∃ o, h.get? pen = some o ∧ PenS cells o k := by
  obtain ⟨vs, ns, spot, great, t1, t2, n1, n2, a, b, c, d, e, f, _⟩ := P
  exact ⟨_, a, spot, great, t1, t2, n1, rfl, e, f⟩
theorem useP {w : World} {f : Addr} {hb g : Heap} {L pen cells : Addr} {m : Str → Option Value} {s : Shared} {args : List Value} {dd k k' : Nat} {pre : Heap → Prop} {post : Heap → Value → Heap → Prop} {o oc : Obj} {rest : Led}
    (C : Does w hb f args dd [pen] (fun h => Pen hb h pen cells k ∧ pre h) (fun h r h' => Pen hb h' pen cells k' ∧ post h r h')) {dp un : Nat} {fr : Option (List Env)} {gd : Option (List Code)} {Q E : Value → Shared → Prop}
    (F : Fr g L s.heap m) (N : News g L s.heap ((pen, o) :: rest)) (P : PenS cells o k) (PC : PenC hb pen cells oc) (hne : ∀ q ∈ rest, q.1 ≠ pen) (hc : s.heap.get? cells = some oc) (hs : hb.StaysIn g) (hd : dp + dd < 900) (hu : un + 8 * dd < 9000) (hp : (∀ b, b ≠ pen → (hideAll s.heap [pen]).get? b = s.heap.get? b) → g.StaysIn (hideAll s.heap [pen]) → pre s.heap)
    (kk : ∀ r h' tk' o', Fr g L h' m → News g L h' ((pen, o') :: rest) → PenS cells o' k' → (∀ b o, b ≠ pen → s.heap.get? b = some o → h'.get? b = some o) → Dom s.heap h' → post s.heap r h' → Q r { s with heap := h', toks := tk' }) :
    wpAny (model PRG w) { handled := none, depth := dp, frames := fr, guards := gd, units := un } (call (.ref f) args) Q E s := by
  have hpen := N _ (.head _)
  have gp : ∀ b o, g.get? b = some o → b ≠ pen := fun b o e q => by rw [q, hpen.2.2] at e; cases e
  have hid : ∀ b, b ≠ pen → (hideAll s.heap [pen]).get? b = s.heap.get? b := fun b hb => by
    cases q : s.heap.get? b with
    | none =>
      cases q2 : (hideAll s.heap [pen]).get? b with
      | none => rfl
      | some o => have := of_hideAll _ q2; rw [q] at this; cases this
    | some o => exact hideAll_get _ q (by simpa using hb)
  refine C dp un fr gd s Q E hd hu (fun b o e => F.keep b o (hs b o e)) ⟨PC.pen P hpen.1 hc, hp hid fun b o e => (hid b (gp b o e)).trans (F.keep b o e)⟩ fun r h' tk' off d q => ?_
  have F' : Fr g L h' m := ⟨F.ns.at' fun o' e => off _ _ (by simpa using Ne.symm hpen.2.1) e, fun b x e => off _ _ (by simpa using gp b x e) (F.keep b x e), F.above⟩
  obtain ⟨o', e1, e2⟩ := pen_back q.1
  refine kk r h' tk' o' F' (fun q hq => ?_) e2 (fun b o hb e => off _ _ (by simpa using hb) e) d q.2
  rcases List.mem_cons.mp hq with rfl | hq
  · exact ⟨e1, hpen.2⟩
  · exact ⟨off _ _ (by simpa using hne q hq) (N q (.tail _ hq)).1, (N q (.tail _ hq)).2⟩
theorem draw_p {w : World} {hb : Heap} (G : Gr w hb) (pen cells : Addr) (k : Nat) (many : Int) (t3 : Tok) (hm : 0 < many) (hm2 : many < 100) (hk : k < 1000000) :
    Does w hb 778 [.ref pen, .int many t3] 1 [pen] (fun h => Pen hb h pen cells k ∧ True) (fun _ r h' => Pen hb h' pen cells (k + 1) ∧ ∃ d t, r = .int d t ∧ 0 ≤ d ∧ d < many) :=
  fun dp un fr gd s Q E a b c d e => draw_t G pen cells k many t3 hm hm2 hk dp un fr gd s Q E a b c d.1 fun r h' tk' o d q => e r h' tk' o d ⟨q.2, q.1⟩
theorem useA {w : World} {f : Addr} {hb g : Heap} {L : Addr} {m : Str → Option Value} {s : Shared} {args : List Value} {dd : Nat} {S : List Addr} {pre : Heap → Prop} {post : Heap → Value → Heap → Prop} {dl rest : Led} (C : Does w hb f args dd S pre post) {dp un : Nat} {fr : Option (List Env)} {gd : Option (List Code)} {Q E : Value → Shared → Prop}
    (F : Fr g L s.heap m) (N : News g L s.heap (dl ++ rest)) (hS : dl.map (·.1) = S) (hne : ∀ q ∈ rest, q.1 ∉ S) (hs : hb.StaysIn g) (hd : dp + dd < 900) (hu : un + 8 * dd < 9000)
    (hp : g.StaysIn (hideAll s.heap S) → (∀ q ∈ rest, (hideAll s.heap S).get? q.1 = some q.2) → pre s.heap)
    (k : ∀ r h' tk', Fr g L h' m → News g L h' rest → (∀ a ∈ S, a ≠ L ∧ g.get? a = none) → (∀ b o, b ∉ S → s.heap.get? b = some o → h'.get? b = some o) → Dom s.heap h' → post s.heap r h' → Q r { s with heap := h', toks := tk' }) :
    wpAny (model PRG w) { handled := none, depth := dp, frames := fr, guards := gd, units := un } (call (.ref f) args) Q E s := by
  have hSN : ∀ a ∈ S, a ≠ L ∧ g.get? a = none := fun a ha => by
    rw [← hS] at ha
    obtain ⟨q, hq, rfl⟩ := List.mem_map.mp ha
    exact (N q (List.mem_append_left _ hq)).2
  have gp : ∀ b o, g.get? b = some o → b ∉ S := fun b o e q => by rw [(hSN b q).2] at e; cases e
  refine C dp un fr gd s Q E hd hu (fun b o e => F.keep b o (hs b o e)) (hp (fun b o e => hideAll_get _ (F.keep b o e) (gp b o e)) fun q hq => hideAll_get _ (N q (List.mem_append_right _ hq)).1 (hne q hq)) fun r h' tk' off d q => ?_
  have F' : Fr g L h' m := ⟨F.ns.at' fun o' e => off _ _ (fun hL => (hSN _ hL).1 rfl) e, fun b x e => off _ _ (gp b x e) (F.keep b x e), F.above⟩
  exact k r h' tk' F' (fun q hq => ⟨off _ _ (hne q hq) (N q (List.mem_append_right _ hq)).1, (N q (List.mem_append_right _ hq)).2⟩) hSN (fun b o hb e => off _ _ hb e) d q
theorem pen_open {hb h : Heap} {pen cells : Addr} {k : Nat} (P : Pen hb h pen cells k) : ∃ o oc, h.get? pen = some o ∧ h.get? cells = some oc ∧ PenS cells o k ∧ PenC hb pen cells oc := by
  obtain ⟨vs, ns, spot, great, t1, t2, n1, n2, a, b, c, d, e, f, g1, g2, g3⟩ := P
  exact ⟨_, _, a, b, ⟨spot, great, t1, t2, n1, rfl, e, f⟩, ⟨vs, ns, n2, rfl, c, d⟩, g1, g2, g3⟩
section
variable {prog : Program} {w : World} {A : Around} {s : Shared} {hb : Heap} {K : Frag} {p : Program} {loose : List Str} {mean : ExcName → Option Value} {mg mb : Str → Option Value} {Q E : Value → Shared → Prop}
  {name qual : Str} {params : Arguments} {body : List Stmt} {scope : Scope} {dV kV doc pm cdv ct oc : Value} {an od : Option Addr} {osl : Array (Option Value)} {f : Addr} {args : List Value}
theorem enterP {pen cells : Addr} {o ocl : Obj} (l : List (Str × Value)) (X₀ : K.In hb) (T : Top p loose mean mg mb hb) (hs : hb.StaysIn s.heap)
    (hp : s.heap.get? pen = some o) (hc : s.heap.get? cells = some ocl) (PC : PenC hb pen cells ocl)
    (ho : K.lookup f = some ⟨oc, od, .func (fnOf name qual params body scope dV kV doc pm an cdv ct), osl⟩) (hcd : codeIn K cdv qual = true) (hroom : A.depth < recursionLimit)
    (hbind : BindsTo s (fnOf name qual params body scope dV kV doc pm an cdv ct) ⟨args, []⟩ l.reverse) (hloc : ∀ y ∈ l.reverse, scope.names.lookup y.1 = some .local)
    (h : ∀ L' h₁ tk g, g = hideAll s.heap [pen] → Fr g L' h₁ (mapL l) → News g L' h₁ [(pen, o)] → K.In g → Top p loose mean mg mb g → hb.StaysIn g → g.get? cells = some ocl →
      wpAny (model prog w) (A.deeper (envOf qual scope L' f cdv)) (execs body (envOf qual scope L' f cdv)) (fun fl s' => Q (retOf fl) s') (fun _ _ => False) { s with heap := h₁, toks := tk })
    (hco : scope.isCoroutine = false) (hgen : scope.isGenerator = false) (hk : scope.kind = .function)
    (hcell : ∀ x ∈ scope.names, x.2 ≠ .cell) : wpAny (model prog w) A (call (.ref f) args) Q E s :=
  enter [(pen, o)] X₀ T hs (fun q hq => by rw [List.mem_singleton.mp hq]; exact ⟨hp, PC.p0⟩) ho hcd hroom hbind hloc (fun g L' h₁ tk E' hg F N X T' _ => by
    have hg' : g = hideAll s.heap [pen] := hg
    subst hg'
    have e : (fun y => List.lookup y l.reverse.reverse) = mapL l := by rw [List.reverse_reverse]; rfl
    exact wpAny_mono (h L' h₁ tk _ rfl (e ▸ F) N X T' (fun b o e => hideAll_get _ (hs _ _ e) (by intro hm; rw [List.mem_singleton.mp hm, PC.p0] at e; cases e)) (hideAll_get _ hc (by simpa using PC.ne.symm))) (fun _ _ x => x) fun _ _ x => x.elim) hco hgen hk hcell
theorem finP {pen cells : Addr} {o o' ocl : Obj} {k' : Nat} {post : Value → Heap → Prop} {r : Value} {tk : Nat} {g h' : Heap} {L' : Addr} {m' : Str → Option Value} {news : Led}
    (hQ : ∀ r h' tk', Off [pen] s.heap h' → Dom s.heap h' → post r h' → Q r { s with heap := h', toks := tk' }) (hg : g = hideAll s.heap [pen]) (F' : Fr g L' h' m') (N' : News g L' h' news) (hm : (pen, o') ∈ news) (PS : PenS cells o' k') (PC : PenC hb pen cells ocl) (hp : s.heap.get? pen = some o) (hc : g.get? cells = some ocl)
    (k : Pen hb h' pen cells k' → post r h') : Q r { s with heap := h', toks := tk } := by
  have N1 : News g L' h' [(pen, o')] := fun q hq => by rw [List.mem_singleton.mp hq]; exact N' _ hm
  have z := off_end (S := [pen]) (led := [(pen, o)]) (news' := [(pen, o')]) (g := g) (by rw [hg]; rfl) (fun q hq => by rw [List.mem_singleton.mp hq]; exact hp) F' N1 (fun q hq => .inl (by rw [List.mem_singleton.mp hq]; exact .head _)) (fun q hq => by rw [List.mem_singleton.mp hq]; exact .head _)
  exact hQ _ _ _ z.1 z.2 (k (PC.pen PS (N' _ hm).1 (F'.keep _ _ hc)))
end
theorem ne_pen {g h : Heap} {L pen cells : Addr} {news : Led} {o : Obj} {k : Nat} {q : Addr × Obj} (N : News g L h news) (hp : (pen, o) ∈ news) (P : PenS cells o k) (hq : q ∈ news) (hc : q.2.cls ≠ .type "list") : q.1 ≠ pen := fun e => by
  have a := (N _ hp).1
  have b := (N q hq).1
  rw [e] at b
  have c : q.2 = o := Option.some.inj (b.symm.trans a)
  obtain ⟨_, _, _, _, _, rfl, _⟩ := P
  exact hc (by rw [c])
theorem CellsAt.snoc {h : Heap} {vs : List Value} {cs : List (Option (Int × Int))} {v : Value} {c : Option (Int × Int)} (x : CellsAt h vs cs) (y : OptAt h v c) : CellsAt h (vs ++ [v]) (cs ++ [c]) := by
  refine ⟨by simp [x.1], fun i u d hu hd => ?_⟩
  by_cases hi : i < vs.length
  · rw [List.getElem?_append_left hi] at hu
    rw [List.getElem?_append_left (by rw [← x.1]; exact hi)] at hd
    exact x.2 i u d hu hd
  · have hi1 : i < (vs ++ [v]).length := (List.getElem?_eq_some_iff.mp hu).1
    simp at hi1
    obtain rfl : i = vs.length := by omega
    simp at hu
    rw [x.1] at hd
    simp at hd
    subst hu; subst hd; exact y
inductive AncsAt (h h' : Heap) (q : Value) : Prop where
  | mk (l : Addr) (vs : List Value) (nn : Nat) (W : Led) (cs : List (Option (Int × Int))) (e0 : q = .ref l) (e1 : cs.length = 3) (e2 : (∀ p ∈ (l, PySem.W.listOf vs.toArray nn) :: W, h.get? p.1 = none ∧ h'.get? p.1 = some p.2)) (e3 : Sup W (fun h2 => CellsAt h2 vs cs)) : AncsAt h h' q
theorem un_hide {h : Heap} {pen b : Addr} (e : (hideAll h [pen]).get? b = none) (n : b ≠ pen) : h.get? b = none := by
  cases q : h.get? b with
  | none => rfl
  | some o => rw [hideAll_get [pen] q (by simpa using n)] at e; cases e
theorem pen_sub {pen : Addr} {o o' : Obj} {W W' : Led} (k : ∀ q ∈ W, q ∈ W') : ∀ q ∈ (pen, o) :: W, q.1 ∈ ((pen, o') :: W').map (·.1) := fun q hq => by
  rcases List.mem_cons.mp hq with rfl | hq
  · exact .head _
  · exact .tail _ (List.mem_map_of_mem (k q hq))
theorem anc_turn {g h : Heap} {C pen cells x dx : Addr} {s : Shared} {tk : Nat} {m : Str → Option Value} {es : List DictEntry} {n i k' k2 : Nat} {o1 o : Obj} {W : Led} {ys : List Value} {cs : List (Option (Int × Int))} {a b : Int} {t t' : Tok}
    (F : Fr g C h m) (N : News g C h ((x, instObj 342 dx) :: (dx, dictOf es n) :: (pen, o) :: W)) (PS : PenS cells o k') (hk : k' ≤ k2) (hW : ∀ q ∈ W, q.1 ≠ pen) (hy : ys.length = i) (hcl : cs.length = i) (hS : Sup W (fun h2 => CellsAt h2 ys cs)) (nm : Named es [(Str.ofString "x", .int a t), (Str.ofString "y", .int b t')]) :
    Turned g C s ((pen, o1) :: W) (fun l => Ex3 fun o1 W cs => An6 (l = (pen, o1) :: W) (PenS cells o1 k2) ((∀ q ∈ W, q.1 ≠ pen)) ((ys ++ [Value.ref x]).length = i + 1) (cs.length = i + 1) (Sup W (fun h2 => CellsAt h2 (ys ++ [Value.ref x]) cs))) { s with heap := h, toks := tk } := by
  refine turned F (led2 := (pen, o) :: (x, instObj 342 dx) :: (dx, dictOf es n) :: W) (Mine.News.re N ((by walk_at "m sub"))) (pen_sub fun q hq => .tail _ (.tail _ hq)) ⟨o, _, cs ++ [some (a, b)], rfl, PS.le hk, ?_, by simp [hy], by simp [hcl], fun h2 hin => CellsAt.snoc (hS h2 fun q hq => hin q (.tail _ (.tail _ hq))) ⟨x, _, _, rfl, has_led hin (.head _) (.tail _ (.head _)) nm⟩⟩
  intro q hq
  rcases List.mem_cons.mp hq with rfl | hq
  · exact ne_pen N (.tail _ (.tail _ (.head _))) PS (.head _) (fun e => by cases e)
  · rcases List.mem_cons.mp hq with rfl | hq
    · exact ne_pen N (.tail _ (.tail _ (.head _))) PS (.tail _ (.head _)) (fun e => absurd (Value.type.inj e) (by decide))
    · exact hW q hq

section S_PenMake
theorem pick_first {vs : List Value} {k : Int} (h0 : 0 ≤ k) : (slicePick vs.toArray none (some k) none).toList = vs.take k.toNat := by
  have q : sliceBounds none (some k) none vs.toArray.size = (((0 : Nat) : Int), ((min k.toNat vs.length : Nat) : Int), 1) := by
    simp only [sliceBounds, Option.getD_none, show (1 : Int) > 0 by decide, if_true, if_neg (show ¬ (k < 0) by omega)]
    have h3 : (vs.toArray.size : Int) = vs.length := by simp
    have e1 : max 0 (min k (vs.toArray.size : Int)) = ((min k.toNat vs.length : Nat) : Int) := by rw [h3]; omega
    refine Prod.ext ?_ (Prod.ext ?_ rfl) <;> simp only [] <;> first | exact e1 | omega
  rw [kmk_pick_nat _ q]
  simp only [List.drop_zero, Nat.sub_zero]
  rw [List.take_eq_take_iff]
  omega
theorem ints_take {k : Nat} : ∀ {vs : List Value} {ns : List Int}, IntsAre vs ns → IntsAre (vs.take k) (ns.take k) := by
  induction k with
  | zero => intro vs ns _; exact .nil
  | succ k ih => intro vs ns h; cases h with
    | nil => exact .nil
    | cons n t r => exact .cons n t (ih r)
theorem ints_get {i : Nat} : ∀ {vs : List Value} {ns : List Int} {v : Value}, IntsAre vs ns → vs[i]? = some v → ∃ n t, v = .int n t ∧ ns[i]? = some n := by
  induction i with
  | zero => intro vs ns v h e; cases h with
    | nil => cases e
    | cons n t r => cases e; exact ⟨n, t, rfl, rfl⟩
  | succ i ih => intro vs ns v h e; cases h with
    | nil => cases e
    | cons n t r => exact ih r e
theorem rows_28 : True := by
  (k_with "subscriptTail Name Slice ref ref" => (k_here; k_dflt ((refine' kmk_slice_lit ?z108k1 ?z108k2 ?z108k3 ?z108k4 ?z108k5 ?z108k6 ?_ ?z108k7 ?z108k8 ?z108k9); (case z108k1 => k_asm); (case z108k2 => k_asm); (case z108k3 => exact Heap.IsList.at (by assumption) fun o e => Fr.keep (by assumption) _ _ e); (case z108k4 => exact IsPart.none); (case z108k5 => exact IsPart.int _ _); (case z108k6 => exact pick_first (by omega)); (case z108k7 => with_unfolding_all rfl); (case z108k8 => intro _; with_unfolding_all rfl); (case z108k9 => (simp [sizeLine]; omega)); intro _ _ _ _ _)))
  trivial

theorem law_pen_c {w : World} {hb : Heap} (G : Gr w hb) (sc : Addr) (vs : List Value) (ns : List Int) (hi : IntsAre vs ns) (hvl : vs.length ≤ 63) :
    Does w hb 771 [.ref sc] 2 [] (fun h => h.IsList sc vs.toArray) (fun h q h' => ∃ pen cells o oc, q = .ref pen ∧ (∀ p ∈ [(pen, o), (cells, oc)], h.get? p.1 = none ∧ h'.get? p.1 = some p.2) ∧ CellsO oc ∧ PenS cells o 0 ∧ pen ≠ cells) := by
  obtain ⟨p, loose, mean, mg, mb, X₀, T₀⟩ := id G
  intro dp un fr gds s Q E hdep hun hs hl hQ
  refine' enter0 [(Str.ofString "script", .ref sc)] ?k1 ?k2 ?k3 ?k6 ?k7 ?k8 ?k9 ?kB ?kk ?c2 ?c3 ?c4 ?c5
  (case k1 => assumption)
  (case k2 => assumption)
  (case k3 => assumption)
  (case k6 => k_is)
  (case k7 => k_is)
  (case k8 => first | exact room0 (by assumption) | exact room1 (by assumption) | (simp only [recursionLimit]; omega))
  (case k9 => exact BindsTo.of_eq rfl)
  (case kB => exact locs rfl)
  (case c5 => decide)
  (case c2 => exact rfl)
  (case c3 => exact rfl)
  (case c4 => exact rfl)
  intro L' h' tk' F' N' X' T'
  clear X₀ T₀
  walk_at "m body"
  walk_at "m go2"
  refine ⟨[_], (vs.take 40).toArray.size, _, [], _, (fun i ys l => l = [] ∧ IntsAre ys (ns.take i) ∧ ys.length = i), src_list rfl (PySem.IsL.isList (n := 0) (News.get (by assumption) (.head _))), ?_, by assumption, by assumption, (fun b _ h => nomatch h), (fun q _ h => nomatch h), ⟨rfl, .nil, rfl⟩, ?_, ?_, ?_⟩
  · simp [sizeLine]; omega
  · rintro i ys l ⟨-, -, h3⟩; omega
  · intro C i v s₃ m₃ ys led' g' E' F3 N3 gg grest gL hK hi2 hP hm _
    obtain ⟨rfl, hK1, hK2⟩ := hK
    refine wpAny_tests_nil ?_
    rw [if_pos rfl]
    obtain ⟨n, tn, rfl, hn⟩ := ints_get (ints_take (k := 40) hi) (show (vs.take 40)[i]? = some v by simpa using hP)
    have X3 : (frag w.params).In g' := X'.keeps gg
    have T3 := T'.keeps gg
    clear T' X' F' N'
    walk_at "m go2"
    refine turned (by assumption) (by assumption) (fun q h => nomatch h) ⟨rfl, ?_, by simp [hK2]⟩
    rw [take_succ_get (x := n) ?_]
    · exact Mine.IntsAre.snoc hK1
    · rw [List.getElem?_take] at hn
      split at hn
      · exact hn
      · cases hn
  · rintro D nn h4 tk4 ys ledN hDn ⟨rfl, hK, hK2⟩ F4 N4
    clear F' N'
    walk_at "m go2"
    rename_i l9' h9' F9' N9' l1'
    show Q (retOf (Flow.ret (Value.ref l9'))) _
    refine hQ _ _ _ (off_pure (S := []) F9').1 (off_pure (S := []) F9').2 ⟨l9', D, _, _, rfl, ?_, ⟨ys, _, nn, rfl, hK, ?_⟩, ⟨0, 0, tk4, tk4 + 1, 0, rfl, by omega, by omega⟩, (Nat.ne_of_lt l1'.1).symm⟩
    · intro q hq
      rcases List.mem_cons.mp hq with rfl | hq
      · exact ⟨(N9' _ (.head _)).2.2, (N9' _ (.head _)).1⟩
      · rcases List.mem_cons.mp hq with rfl | hq
        · exact ⟨(N9' _ (.tail _ (.head _))).2.2, (N9' _ (.tail _ (.head _))).1⟩
        · nomatch hq
    · simp; omega
end S_PenMake

-- SeenL
theorem rows_29 : True := by
  (k_with "m in" => first | assumption | exact List.Mem.head _ | (refine' List.Mem.tail _ ?_; walk_at "m in") | (refine' List.mem_append_left _ ?_; walk_at "m in") | (refine' List.mem_append_right _ ?_; walk_at "m in"))
  (k_with "m sub" => first | exact List.forall_mem_nil _ | (refine' List.forall_mem_cons.mpr (And.intro ?_ ?_); (next => walk_at "m in"); (next => walk_at "m sub")) | (refine' List.forall_mem_append.mpr (And.intro ?_ ?_); (next => walk_at "m sub"); (next => walk_at "m sub")) | (intro q hq; walk_at "m in"))
  trivial

structure DL (xs : List (Addr × Addr)) (rs : List Rec) (dl : Led) : Prop where
  dom : dl.map (·.1) = xs.map (·.2)
  len : xs.length = rs.length
  nod : (xs.map (·.2)).Nodup
  at_ : ∀ (i : Nat) (r : Rec) (p : Addr × Obj), rs[i]? = some r → dl[i]? = some p → ∃ t es n, p.2 = dictOf es n ∧ Named es (infoF r t)
def insts (xs : List (Addr × Addr)) : Led := xs.map fun x => (x.1, instObj 135 x.2)
theorem DL.nil : DL [] [] [] := ⟨rfl, rfl, by simp, fun i r p h => by simp at h⟩
theorem DL.dlen {xs : List (Addr × Addr)} {rs : List Rec} {dl : Led} (D : DL xs rs dl) : dl.length = xs.length := by have := congrArg List.length D.dom; simpa using this
theorem DL.snoc {xs : List (Addr × Addr)} {rs : List Rec} {dl : Led} {x dx : Addr} {r : Rec} {t : Nat → Tok} {es : List DictEntry} {n : Nat} (D : DL xs rs dl) (nm : Named es (infoF r t)) (hn : ∀ q ∈ dl, q.1 ≠ dx) : DL (xs ++ [(x, dx)]) (rs ++ [r]) (dl ++ [(dx, dictOf es n)]) := by
  refine ⟨by simp [D.dom], by simp [D.len], ?_, fun i r' p hr hp => ?_⟩
  · rw [List.map_append, List.nodup_append]
    refine ⟨D.nod, by simp, ?_⟩
    intro a ha b hb
    simp at hb
    subst hb
    rw [← D.dom] at ha
    obtain ⟨q, hq, rfl⟩ := List.mem_map.mp ha
    exact hn q hq
  · rcases snoc_get hr with ⟨h1, e1⟩ | ⟨h1, e1⟩
    · rcases snoc_get hp with ⟨_, e2⟩ | ⟨h2, _⟩
      · exact D.at_ i r' p e1 e2
      · have := D.dlen; have := D.len; omega
    · rcases snoc_get hp with ⟨h2, _⟩ | ⟨_, e2⟩
      · have := D.dlen; have := D.len; omega
      · subst e1; subst e2; exact ⟨t, es, n, rfl, nm⟩
theorem named_names {es : List DictEntry} : ∀ {fs fs' : List (Str × Value)}, Named es fs → Named es fs' → fs.map (·.1) = fs'.map (·.1) := by
  induction es with
  | nil => intro fs fs' a b; cases a; cases b; rfl
  | cons e es ih =>
    intro fs fs' a b
    cases a with
    | cons h t n v a =>
      cases b with
      | cons h' t' n' v' b => simp [ih a b]
def NoInfo (o : Obj) : Prop := ∀ es n r t, o = dictOf es n → ¬ Named es (infoF r t)
theorem NoInfo.cls {o : Obj} (h : o.cls ≠ .type "dict") : NoInfo o := fun es n r t e _ => h (by rw [e])
theorem NoInfo.named {es : List DictEntry} {n : Nat} {f : Str} {v : Value} {fs : List (Str × Value)} (N : Named es ((f, v) :: fs)) (hf : f ≠ Str.ofString "code") : NoInfo (dictOf es n) := fun es' n' r t e N' => by
  have e1 : es = es' := by
    have := congrArg Obj.data e
    injection this with h1 h2
    simpa using h1
  subst e1
  have := named_names N N'
  simp [infoF] at this
  exact hf this.1
theorem DL.notIn {g h : Heap} {L : Addr} {xs : List (Addr × Addr)} {rs : List Rec} {dl news : Led} (D : DL xs rs dl) (N : News g L h news) (hd : ∀ p ∈ dl, p ∈ news) {q : Addr × Obj} (hq : q ∈ news) (hn : NoInfo q.2) : q.1 ∉ xs.map (·.2) := fun hm => by
  rw [← D.dom] at hm
  obtain ⟨p, hp, e⟩ := List.mem_map.mp hm
  obtain ⟨i, hi, ei⟩ := List.mem_iff_getElem.mp hp
  have hi2 : i < rs.length := by rw [← D.len, ← D.dlen]; exact hi
  obtain ⟨t, es, n, a, b⟩ := D.at_ i rs[i] p (by simp [hi2]) (by simp [hi, ei])
  have e1 := (N q hq).1
  have e2 := (N p (hd p hp)).1
  rw [e, e1] at e2
  exact hn es n _ t ((Option.some.inj e2).trans a) b
theorem insts_noinfo {xs : List (Addr × Addr)} : ∀ q ∈ insts xs, NoInfo q.2 := fun q hq => by
  obtain ⟨x, hx, rfl⟩ := List.mem_map.mp hq
  exact NoInfo.cls (fun e => by cases e)
theorem DL.rowAt {g : Heap} {row : Addr} {xs : List (Addr × Addr)} {rs : List Rec} {dl : Led} (D : DL xs rs dl) (few : xs.length ≤ 6) (hl : IsL g row (xs.map fun x => .ref x.1)) (hi : ∀ q ∈ insts xs, g.get? q.1 = some q.2) (hd : ∀ q ∈ dl, g.get? q.1 = some q.2) : RowAt g row xs rs := by
  refine ⟨hl, D.len, few, fun i x r hx hr => ?_⟩
  have hdl : i < dl.length := by rw [D.dlen]; exact (List.getElem?_eq_some_iff.mp hx).1
  obtain ⟨t, es, n, a, b⟩ := D.at_ i r dl[i] hr (by simp [hdl])
  have e1 : (dl[i]).1 = x.2 := by
    have := congrArg (fun l => l[i]?) D.dom
    simp [hdl, hx] at this
    exact this
  refine ⟨t, hi (x.1, instObj 135 x.2) (List.mem_map.mpr ⟨x, List.mem_of_getElem? hx, rfl⟩), es, n, ?_, b⟩
  have := hd _ (List.getElem_mem hdl)
  rw [e1, a] at this; exact this
theorem DL.of {h : Heap} {row : Addr} {xs : List (Addr × Addr)} {rs : List Rec} (R : RowAt h row xs rs) (nod : (xs.map (·.2)).Nodup) : DL xs rs (snap h (xs.map (·.2))) := by
  refine ⟨snap_map _ _, R.len, nod, fun i r p hr hp => ?_⟩
  unfold snap at hp
  rw [List.getElem?_map, List.getElem?_map] at hp
  cases q : xs[i]? with
  | none => rw [q] at hp; cases hp
  | some x =>
    rw [q] at hp
    obtain ⟨t, a, es, n, b, c⟩ := R.at_ i x r q hr
    simp only [Option.map_some, Option.some.injEq] at hp
    subst hp
    exact ⟨t, es, n, by simp [b], c⟩
section
variable {prog : Program} {w : World} {A : Around} {E : Value → Shared → Prop} {s : Shared} {K : Frag} {x dx C L : Addr} {h₀ : Heap} {m : Str → Option Value} {news : List (Addr × Obj)} {es : List DictEntry} {n : Nat} {name : Str} {v : Value} {fs : List (Str × Value)}
theorem get_new {expr : Bool} {Q : Value → Shared → Prop} {attr : Option Value} (F : Fr h₀ L s.heap m) (X₀ : K.In h₀) (N : News h₀ L s.heap news) (hx : (x, instObj C dx) ∈ news) (hm : (dx, dictOf es n) ∈ news) (Nm : Named es fs) (hg : plainGet K C name = true) (hh : hasDictIn K C = true)
    (ha : findIn K (.ref C) name = some attr) (hn : noGet K attr = true) (hl : fs.lookup name = some v) (hv : handedIn v = true) (h : Q v { s with toks := s.toks + 1 }) :
    wpAny (model prog w) A (getAttr (.ref x) name expr) Q E s :=
  get_own (ox := instObj C dx) F X₀ ⟨(N _ hx).1, rfl, rfl, (N _ hm).1⟩ hg hh ha hn ((named_get Nm name).trans (by rw [hl])) hv h
end
def recP (r : Rec) : PyData := .tuple [.tuple [.int r.glyph, .int r.cluster, .int r.xa, .int 0, .int r.xo, .int r.yo], .int r.parent, .str r.bond, .bool r.uns]
def seenP (q : Int) (rs : List Rec) : PyData := .tuple [.int q, .list (rs.map recP)]
theorem readsAll_snoc {h : Heap} {v : Value} {d : PyData} {bs : List Addr} (r : Reads h v d bs) : ∀ {vs : List Value} {ds : List PyData} {as : List Addr}, ReadsAll h vs ds as → ∃ as', ReadsAll h (vs ++ [v]) (ds ++ [d]) as'
  | _, _, _, .nil => ⟨_, .cons r .nil⟩
  | _, _, _, .cons a t => let ⟨as', z⟩ := readsAll_snoc r t; ⟨_, .cons a z⟩
theorem insts_snoc (xs : List (Addr × Addr)) (x : Addr × Addr) : insts (xs ++ [x]) = insts xs ++ [(x.1, instObj 135 x.2)] := by simp [insts]
theorem copy_turn {g h h0 : Heap} {C x dx : Addr} {s : Shared} {tk n i : Nat} {m : Str → Option Value} {es : List DictEntry} {xs : List (Addr × Addr)} {dl : Led} {rs : List Rec} {r : Rec} {t : Nat → Tok}
    (F : Fr g C h m) (N : News g C h ((x, instObj 135 dx) :: (dx, dictOf es n) :: (insts xs ++ dl))) (N0 : News g C h0 (insts xs ++ dl)) (hn : h0.get? dx = none) (nm : Named es (infoF r t)) (hx : xs.length = i) (D : DL xs (rs.take i) dl) (hr : rs[i]? = some r) :
    Turned g C s (insts xs ++ dl) (fun l => Ex2 fun xs1 dl => An4 (xs1.length = i + 1) ((xs.map (fun x => Value.ref x.1)) ++ [Value.ref x] = xs1.map (fun x => Value.ref x.1)) (l = insts xs1 ++ dl) (DL xs1 (rs.take (i + 1)) dl)) { s with heap := h, toks := tk } := by
  refine turned F (led2 := insts (xs ++ [(x, dx)]) ++ (dl ++ [(dx, dictOf es n)])) (Mine.News.re N fun p hp => ?_) (fun q hq => List.mem_map_of_mem ?_) ⟨xs ++ [(x, dx)], dl ++ [(dx, dictOf es n)], by simp [hx], by simp, rfl, ?_⟩
  · rw [insts_snoc] at hp
    exact (by walk_at "m sub" : ∀ r ∈ _, r ∈ _) p hp
  · rw [insts_snoc]
    exact (by walk_at "m sub" : ∀ r ∈ _, r ∈ _) q hq
  · rw [take_succ_get hr]
    exact D.snoc nm fun q hq e => by
      have := (N0 q (List.mem_append_right _ hq)).1
      rw [e, hn] at this; cases this
theorem seen_turn {g h : Heap} {C pz z : Addr} {s : Shared} {tk i : Nat} {m : Str → Option Value} {led : Led} {ys : List Value} {rs : List Rec} {r : Rec} {u1 u2 u3 u4 u5 u6 t1 t2 : Tok}
    (F : Fr g C h m) (N : News g C h ((pz, ⟨.type "tuple", none, .seq #[.ref z, .int r.parent t1, .str r.bond t2, .bool r.uns] 0, #[]⟩) :: (led ++ [(z, ⟨.type "tuple", none, .seq #[.int r.glyph u1, .int r.cluster u2, .int r.xa u3, .int 0 u4, .int r.xo u5, .int r.yo u6] 0, #[]⟩)])))
    (hy : ys.length = i) (hr : rs[i]? = some r) (hS : Sup led (fun h => ∃ as, ReadsAll h ys ((rs.take i).map recP) as)) :
    Turned g C s led (fun l => (ys ++ [Value.ref pz]).length = i + 1 ∧ Sup l (fun h => ∃ as, ReadsAll h (ys ++ [.ref pz]) ((rs.take (i + 1)).map recP) as)) { s with heap := h, toks := tk } := by
  refine turned F N (fun q hq => List.mem_map_of_mem (.tail _ (List.mem_append_left _ hq))) ⟨by simp [hy], fun h9 hin => ?_⟩
  obtain ⟨as, hA⟩ := hS h9 fun q hq => hin q (.tail _ (List.mem_append_left _ hq))
  rw [take_succ_get hr, List.map_append]
  refine readsAll_snoc (v := .ref pz) (d := recP r) (bs := [] ++ ([] ++ ([] ++ ([] ++ [])))) ?_ hA
  refine .tuple (hin _ (.head _)) rfl rfl (.cons (.tuple (hin _ (.tail _ (List.mem_append_right _ (.head _)))) rfl rfl ?_) (.cons (.int _ _) (.cons (.str _ _) (.cons (.bool _) .nil))))
  exact .cons (.int _ _) (.cons (.int _ _) (.cons (.int _ _) (.cons (.int _ _) (.cons (.int _ _) (.cons (.int _ _) .nil)))))
theorem seen_fin {g h : Heap} {L D D2 : Addr} {n2 : Nat} {q : Int} {tq : Tok} {ys : List Value} {rs : List Rec} {led rest : Led} (N : News g L h ((D, ⟨.type "tuple", none, .seq #[.int q tq, .ref D2] 0, #[]⟩) :: (D2, listOf ys.toArray n2) :: (led ++ rest))) (hS : Sup led (fun h => ∃ as, ReadsAll h ys (rs.map recP) as)) :
    ∃ as, Reads h (.ref D) (seenP q rs) as := by
  obtain ⟨as, hA⟩ := hS h fun p hp => (N p (.tail _ (.tail _ (List.mem_append_left _ hp)))).1
  exact ⟨_, .tuple (N _ (.head _)).1 rfl rfl (.cons (.int _ _) (.cons (.list (N _ (.tail _ (.head _))).1 rfl rfl hA) .nil))⟩

-- TabL
def TabG {α : Type} (PL : Led → Value → α → Prop) (base : Led) (l : List (Int × α)) (ys : List Value) (led : Led) : Prop := ∃ kvs : List (Int × Value), kvs.map (·.1) = l.map (·.1) ∧ ys.length = kvs.length ∧
  (∀ (j : Nat) v, ys[j]? = some v → ∃ t k tk x, v = .ref t ∧ (t, tupO [.int k tk, x]) ∈ led ∧ kvs[j]? = some (k, x)) ∧
  ∀ (j : Nat) (v : Value) (a : α), (kvs[j]?).map (fun x => x.2) = some v → (l[j]?).map (fun x => x.2) = some a → PL (led ++ base) v a
def MonoL {α : Type} (PL : Led → Value → α → Prop) : Prop := ∀ l l' v a, (∀ q ∈ l, q ∈ l') → PL l v a → PL l' v a
theorem TabG.nil {α : Type} {PL : Led → Value → α → Prop} {base led : Led} : TabG PL base [] [] led := ⟨[], rfl, rfl, fun j v h => by simp at h, fun j v a h => by simp at h⟩
theorem TabG.len {α : Type} {PL : Led → Value → α → Prop} {base led : Led} {l : List (Int × α)} {ys : List Value} (x : TabG PL base l ys led) : ys.length = l.length := by
  obtain ⟨kvs, a, b, _⟩ := x
  have := congrArg List.length a
  simp at this
  omega
theorem TabG.snoc {α : Type} {PL : Led → Value → α → Prop} (mono : MonoL PL) {base led led' : Led} {l : List (Int × α)} {ys : List Value} {t : Addr} {k : Int} {tk : Tok} {x : Value} {a : α} (T : TabG PL base l ys led) (sub : ∀ q ∈ led, q ∈ led') (hm : (t, tupO [.int k tk, x]) ∈ led') (hS : PL (led' ++ base) x a) :
    TabG PL base (l ++ [(k, a)]) (ys ++ [.ref t]) led' := by
  have hlen := T.len
  obtain ⟨kvs, h1, h2, h3, h4⟩ := T
  refine ⟨kvs ++ [(k, x)], by simp [h1], by simp [h2], fun j v hv => ?_, fun j v b hv hb => ?_⟩
  · rcases snoc_get hv with ⟨hj, e⟩ | ⟨rfl, e⟩
    · obtain ⟨t2, k2, tk2, x2, e1, e2, e3⟩ := h3 j v e
      exact ⟨t2, k2, tk2, x2, e1, sub _ e2, by rw [List.getElem?_append_left (by omega)]; exact e3⟩
    · exact ⟨t, k, tk, x, e.symm, hm, by rw [h2]; simp⟩
  · cases e1 : (kvs ++ [(k, x)])[j]? with
    | none => rw [e1] at hv; cases hv
    | some p =>
      cases e2 : (l ++ [(k, a)])[j]? with
      | none => rw [e2] at hb; cases hb
      | some q =>
        rw [e1] at hv; rw [e2] at hb
        simp only [Option.map_some, Option.some.injEq] at hv hb
        have hkl : kvs.length = l.length := by omega
        rcases snoc_get e1 with ⟨hj, e⟩ | ⟨rfl, e⟩
        · rcases snoc_get e2 with ⟨_, e'⟩ | ⟨hj2, _⟩
          · refine mono _ _ _ _ (fun r hr => ?_) (h4 j v b (by rw [e]; simp [hv]) (by rw [e']; simp [hb]))
            rcases List.mem_append.mp hr with hr | hr
            · exact List.mem_append_left _ (sub _ hr)
            · exact List.mem_append_right _ hr
          · omega
        · rcases snoc_get e2 with ⟨hj2, _⟩ | ⟨_, e'⟩
          · omega
          · rw [← e] at hv; rw [← e'] at hb
            subst hv; subst hb
            exact hS
def TabW {α : Type} (w : World) (PL : Led → Value → α → Prop) (W : Led) (d : Addr) (l : List (Int × α)) : Prop := ∃ kvs : List (Int × Value), Sup W (fun h => DictI w h d kvs) ∧ kvs.map (·.1) = l.map (·.1) ∧ ∀ (i : Nat) (v : Value) (a : α), (kvs[i]?).map (fun x => x.2) = some v → (l[i]?).map (fun x => x.2) = some a → PL W v a
theorem TabW.mono {α : Type} {w : World} {PL : Led → Value → α → Prop} (m : MonoL PL) {W W' : Led} {d : Addr} {l : List (Int × α)} (x : TabW w PL W d l) (k : ∀ q ∈ W, q ∈ W') : TabW w PL W' d l := let ⟨kvs, a, b, c⟩ := x; ⟨kvs, a.mono k, b, fun i v a e f => m _ _ _ _ k (c i v a e f)⟩
theorem TabW.tab {α : Type} {w : World} {PL : Led → Value → α → Prop} {P : Heap → Value → α → Prop} (hp : ∀ W v a, PL W v a → Sup W (fun h => P h v a)) {W : Led} {d : Addr} {l : List (Int × α)} (x : TabW w PL W d l) : Sup W (fun h => Tab w h d P l) := fun h hin => let ⟨kvs, a, b, c⟩ := x; ⟨kvs, a h hin, b, fun i v a e f => hp _ _ _ (c i v a e f) h hin⟩
section
variable {w : World} {A : Around} {E : Value → Shared → Prop} {s : Shared} {p : Program} {loose : List Str} {mean : ExcName → Option Value} {mg mb : Str → Option Value}
theorem dict_ledG {α : Type} {PL : Led → Value → α → Prop} (mono : MonoL PL) {base led news : Led} {l : List (Int × α)} {ys : List Value} {g : Heap} {L D : Addr} {nn : Nat} {m : Str → Option Value} {Q : Value → Shared → Prop} (F : Fr g L s.heap m) (T₀ : Top p loose mean mg mb g) (N : News g L s.heap ((D, W.listOf ys.toArray nn) :: news)) (T : TabG PL base l ys led) (hl : ∀ q ∈ led, q ∈ news)
    (nd : (l.map (·.1)).Nodup) (hz : l.length ≤ 1000) (hA : A.handled = none)
    (h : ∀ d od h' tk, Fr g L h' m → News g L h' ((d, od) :: news) → (∀ q ∈ news, q.1 ≠ d) → od.cls = .type "dict" → TabW w PL ((d, od) :: (led ++ base)) d l → Q (.ref d) { s with heap := h', toks := tk }) :
    wpAny (model PRG w) A (call (.type "dict") [.ref D]) Q E s := by
  have hlen := T.len
  obtain ⟨kvs, h1, h2, h3, h4⟩ := id T
  have hpa : PairsAt s.heap ys.toArray kvs := ⟨by simpa using h2, fun i v hv => by
    obtain ⟨t, k, tk, x, e1, e2, e3⟩ := h3 i v (by simpa using hv)
    exact ⟨t, k, tk, x, e1, tupO_tup (N _ (.tail _ (hl _ e2))).1, e3⟩⟩
  refine call_dict_pairs (c := nn) (N _ (.head _)).1 rfl rfl rfl hA hpa (by rw [h1]; exact nd) (by omega) fun h' tk hd hk => ?_
  obtain ⟨od, es, ep, e1, e2, e3⟩ := id hd
  have F' : Fr g L h' m := F.keeps hk
  have hbig : sysModules < g.objs.size := modules_low T₀.nolimit
  have hns : (s.heap.objs.size == sysModules) = false := F.notModules hbig
  have hlt : ∀ {b o}, s.heap.get? b = some o → b ≠ s.heap.objs.size := fun e => Nat.ne_of_lt (Heap.lt_size e)
  refine h _ od h' tk F' (fun q hq => ?_) (fun q hq => hlt (N q (.tail _ hq)).1) e2.1 ⟨kvs, fun h9 hin => ⟨hns, od, es, ep, hin _ (.head _), e2, e3⟩, h1, fun i v a hv ha => mono _ _ _ _ (fun q hq => .tail _ hq) (h4 i v a hv ha)⟩
  rcases List.mem_cons.mp hq with rfl | hq
  · refine ⟨e1, fun e => ?_, ?_⟩
    · obtain ⟨o, _, _, ho, _⟩ := F.ns
      exact hlt ho e.symm
    · cases q : g.get? s.heap.objs.size with
      | none => rfl
      | some o => exact absurd rfl (hlt (F.keep _ _ q))
  · exact ⟨hk _ _ (N q (.tail _ hq)).1, (N q (.tail _ hq)).2⟩
end
inductive MarkW (W : Led) (v : Value) (p : Int × (Int × Int)) : Prop where
  | mk (t : Addr) (u : Tok) (a : Value) (e0 : v = .ref t) (e1 : (t, tupO [.int p.1 u, a]) ∈ W) (e2 : Sup W (fun h => AncAt h a p.2)) : MarkW W v p
theorem MarkW.mono : MonoL MarkW := fun l l' v p k x => let ⟨t, u, a, b, c, d⟩ := x; ⟨t, u, a, b, k _ c, d.mono k⟩
theorem MarkW.markV {W : Led} {v : Value} {p : Int × (Int × Int)} (x : MarkW W v p) : Sup W (fun h => MarkV h v p) := fun h hin => let ⟨t, u, a, b, c, d⟩ := x; ⟨t, u, a, b, tupO_tup (hin _ c), d h hin⟩
theorem store_cell {M : Model} {A : Around} {E : Value → Shared → Prop} {s : Shared} {h₀ : Heap} {L a c : Addr} {m : Str → Option Value} {cn : Str} {cs : Scope} {ccd : Value} {cl : List (Str × Addr)} {x : Str} {v : Value} {Q : Unit → Shared → Prop} {news : Led} {o : Obj} {v₀ : Option Value}
    (F : Fr h₀ L s.heap m) (N : News h₀ L s.heap news) (hc : cl.lookup x = some c) (hm : (c, o) ∈ news) (hd : o.data = .cell v₀)
    (h : ∀ h' o', Fr h₀ L h' m → (∀ rest : Led, (∀ q ∈ rest, q ∈ news ∧ q.1 ≠ c) → News h₀ L h' ((c, o') :: rest)) → o'.data = .cell (some v) → Q () { s with heap := h' })
    (hk : cs.kind = .function) (hx : (envX cn cs L a ccd cl).kindOf x = some .cell) : wpAny M A (storeName (envX cn cs L a ccd cl) x v) Q E s := by
  have hmem := N (c, o) hm
  refine wpAny_storeName_cell hk hx hc ⟨o, hmem.1, hd⟩ fun h' hv hs => ?_
  obtain ⟨o', ho', hd'⟩ := hv
  refine h h' o' ⟨F.ns.sameBut hs (Ne.symm hmem.2.1), fun b ob e => (hs.2 b (fun q => ?_)).trans (F.keep b ob e), F.above⟩ (fun rest hr q hq => ?_) hd'
  · rw [q, hmem.2.2] at e; cases e
  · rcases List.mem_cons.mp hq with rfl | hq
    · exact ⟨ho', hmem.2⟩
    · obtain ⟨a1, a2⟩ := hr q hq
      exact ⟨hs.extBut _ _ a2 (N q a1).1, (N q a1).2⟩
theorem ne_penO {g h : Heap} {L pen cells : Addr} {news : Led} {o : Obj} {k : Nat} {q : Addr × Obj} (N : News g L h news) (hp : (pen, o) ∈ news) (P : PenS cells o k) (hq : q ∈ news) (hc : ∀ a b t1 t2 n, q.2 ≠ penL cells a b t1 t2 n) : q.1 ≠ pen := fun e => by
  have a := (N _ hp).1
  have b := (N q hq).1
  rw [e] at b
  have c : q.2 = o := Option.some.inj (b.symm.trans a)
  obtain ⟨_, _, _, _, _, e2, _⟩ := P
  exact hc _ _ _ _ _ (by rw [c, e2])
theorem cells_ne {g h : Heap} {L : Addr} {news : Led} {a b : Addr} {o : Obj} (N : News g L h news) (ha : (a, o) ∈ news) (hb : h.get? b = none) : a ≠ b := fun e => by
  have := (N _ ha).1
  rw [e, hb] at this; cases this
theorem ne_cons {p : Addr × Obj} {l : Led} {c : Addr} (a : p.1 ≠ c) (b : ∀ q ∈ l, q.1 ≠ c) : ∀ q ∈ p :: l, q.1 ≠ c := fun q hq => (List.mem_cons.mp hq).elim (fun e => e ▸ a) (b q)

section S_lines
theorem rows_30 : True := by
  (k_with "getAttr ref" => (k_here; k_dflt (first | ((refine' get_has ?z111k1 ?z111k2 ?z111k3 ?z111k4 ?z111k5 ?z111k6 ?z111k7 ?z111k8 ?z111k9 ?_); (case z111k1 => k_asm); (case z111k2 => k_asm); (case z111k3 => assumption); (case z111k4 => k_is); (case z111k5 => k_is); (case z111k6 => k_is); (case z111k7 => k_is); (case z111k8 => exact rfl); (case z111k9 => k_handed); k_whole) | ((refine' get_new ?z111k1 ?z111k2 ?z111kN ?z111k3 ?z111kM ?z111kD ?z111k4 ?z111k5 ?z111k6 ?z111k7 ?z111k8 ?z111k9 ?_); (case z111k1 => k_asm); (case z111k2 => k_asm); (case z111kN => k_asm); (case z111k3 => assumption); (case z111kM => assumption); (case z111kD => assumption); (case z111k4 => k_is); (case z111k5 => k_is); (case z111k6 => k_is); (case z111k7 => k_is); (case z111k8 => exact rfl); (case z111k9 => k_handed); k_whole))))
  (k_with "call ref" => (k_here; (with_reducible show wpAny _ _ (call (Value.ref 125) _) _ _ _); k_dflt ((refine' use1 (copied_c (by assumption) _ _ _) ?z112k1 ?z112kN ?z112k2 ?z112k3 ?z112k4 ?z112k5 ?_); (case z112k1 => k_asm); (case z112kN => k_asm); (case z112k2 => assumption); (case z112k5 => walk_at "m pre"); (case z112k3 => walk_at "m dep"); (case z112k4 => walk_at "m dep"); intro _ _ _ _ N' _ _ post'; obtain ⟨_, post'⟩ := post'; obtain ⟨x9, dx9, es9, n9, e0, lt9, fx9, fdx9, nm9, N9⟩ := made_grow (by assumption) N' post'; clear N'; subst e0; (try dsimp only); revert post' x9 dx9 es9 n9 lt9 fx9 fdx9 nm9 N9; intros)))
  (k_with "call ref" => (k_here; (with_reducible show wpAny _ _ (call (Value.ref 132) _) _ _ _); k_dflt ((refine' use1 (told_c (by assumption) _ _ _) ?z113k1 ?z113kN ?z113k2 ?z113k3 ?z113k4 ?z113k5 ?_); (case z113k1 => k_asm); (case z113kN => k_asm); (case z113k2 => assumption); (case z113k5 => walk_at "m pre"); (case z113k3 => walk_at "m dep"); (case z113k4 => walk_at "m dep"); intro _ _ _ _ N' _ _ post'; obtain ⟨_, _, _, _, _, _, _, e0, hz1, hz2⟩ := post'; subst e0; have N9 := grow1 hz1 hz2 (by assumption) N'; clear N'; (try dsimp only); revert hz1 hz2 N9; intros)))
  (k_with "call ref" => (k_here; (with_reducible show wpAny _ _ (call (Value.ref 188) _) _ _ _); k_dflt ((refine' use1 (new_buffer (by assumption) _) ?z114k1 ?z114kN ?z114k2 ?z114k3 ?z114k4 ?z114k5 ?_); (case z114k1 => k_asm); (case z114kN => k_asm); (case z114k2 => assumption); (case z114k5 => walk_at "m pre"); (case z114k3 => walk_at "m dep"); (case z114k4 => walk_at "m dep"); intro _ _ _ _ N' _ _ post'; obtain ⟨_, _, _, post'⟩ := post'; obtain ⟨x9, dx9, es9, n9, e0, lt9, fx9, fdx9, nm9, N9⟩ := made_grow (by assumption) N' post'; clear N'; subst e0; (try dsimp only); revert post' x9 dx9 es9 n9 lt9 fx9 fdx9 nm9 N9; intros)))
  trivial

section S_Seen
theorem new_scene5d {w : World} {hb : Heap} (G : Gr w hb) (v1 v2 v3 v4 v5 : Value) :
    Does w hb 65 [v1, v2, v3, v4, v5] 3 [] (fun _ => True) (fun h r h' => ∃ v7, Made h h' r 65 [(Str.ofString "buffer", v1), (Str.ofString "gdef", v2), (Str.ofString "lookups", v3), (Str.ofString "lookup", v4), (Str.ofString "mask", v5), (Str.ofString "depth", .int 0 259), (Str.ofString "steps", v7)]) := by
  obtain ⟨p, loose, mean, mg, mb, X₀, T₀⟩ := id G
  intro dp un fr gds s Q E hdep hun hs _ hQ
  refine' enterNew (fun x => [(Str.ofString "depth", .int 0 259), (Str.ofString "mask", v5), (Str.ofString "lookup", v4), (Str.ofString "lookups", v3), (Str.ofString "gdef", v2), (Str.ofString "buffer", v1), (Str.ofString "self", .ref x)]) ?k1 ?k2 ?k3 ?k4 ?k5 ?k5b ?k6 ?k7 ?k8 ?k9 ?kB ?kk ?c2 ?c3 ?c4 ?c5
  (case k1 => assumption)
  (case k2 => assumption)
  (case k3 => assumption)
  (case k4 => k_is)
  (case k5 => k_is)
  (case k5b => k_is)
  (case k6 => k_is)
  (case k7 => k_is)
  (case k8 => first | exact room0 (by assumption) | exact room1 (by assumption) | (simp only [recursionLimit]; omega))
  (case k9 => intro x s' X9; first | exact BindsTo.of_eq rfl | exact binds_K X9 rfl (by k_is) rfl rfl rfl)
  (case kB => intro x; exact locs rfl)
  (case c5 => decide)
  (case c2 => exact rfl)
  (case c3 => exact rfl)
  (case c4 => exact rfl)
  intro x dx L' h' tk' fx fdx l1 F' N' X' T'
  clear X₀ T₀
  walk_at "m body"
  walk_at "m go2"
  exact hQ _ _ _ (off_pure (S := []) (by assumption)).1 (off_pure (S := []) (by assumption)).2 ⟨_, made_mem fx fdx l1 (by assumption) (by walk_at "m mem") (by walk_at "m mem") (by repeat constructor)⟩
theorem rows_31 : True := by
  (k_with "call ref" => (k_here; (with_reducible show wpAny _ _ (call (Value.ref 65) _) _ _ _); k_dflt ((refine' use1 (new_scene5d (by assumption) _ _ _ _ _) ?z115k1 ?z115kN ?z115k2 ?z115k3 ?z115k4 ?z115k5 ?_); (case z115k1 => k_asm); (case z115kN => k_asm); (case z115k2 => assumption); (case z115k5 => walk_at "m pre"); (case z115k3 => walk_at "m dep"); (case z115k4 => walk_at "m dep"); intro _ _ _ _ N' _ _ post'; obtain ⟨_, post'⟩ := post'; obtain ⟨x9, dx9, es9, n9, e0, lt9, fx9, fdx9, nm9, N9⟩ := made_grow (by assumption) N' post'; clear N'; subst e0; (try dsimp only); revert post' x9 dx9 es9 n9 lt9 fx9 fdx9 nm9 N9; intros)))
  trivial

theorem law_seen {w : World} {hb : Heap} (G : Gr w hb) (il gd tb : Addr) (at_ : Int) (tk0 t : Tok) (kd : String) (xs0 : List (Addr × Addr)) (rs : List Rec) (z : Int) (rs2 : List Rec) (P : Heap → Prop) (hPk : ∀ h h' : Heap, P h → h.StaysIn h' → P h')
    (CA : ∀ (sc buf row lk : Addr) (xs : List (Addr × Addr)), at_ < xs.length → Does w hb 664 [.str (sN kd) tk0, .ref sc, .ref tb, .int at_ t] 14 (xs.map (·.2)) (fun h => RowPre hb h row xs rs ∧ SceneAt w (hideAll h (xs.map (·.2))) sc gd buf row lk 0 ∧ P (hideAll h (xs.map (·.2)))) (fun _ q h' => (∃ t', q = .int z t') ∧ RowAt h' row xs rs2))
    (h0 : 0 ≤ at_) (h2 : at_ < xs0.length) :
    Does w hb 800 [.ref il, .ref gd, .str (sN kd) tk0, .ref tb, .int at_ t] 18 [] (fun h => RowAt h il xs0 rs ∧ GdefAt w h gd ∧ P h)
      (fun _ q h' => ∃ as, Reads h' q (seenP z rs2) as) := by
  obtain ⟨p, loose, mean, mg, mb, X₀, T₀⟩ := id G
  intro dp un fr gds s Q E hdep hun hs hpre9
  obtain ⟨hR, hgf, hP⟩ := hpre9
  intro hQ
  have hR0 := hR
  have hl := hR.lst
  have hn6 := hR.few
  have hlen0 := hR.len
  refine' enter0 [(Str.ofString "at", .int at_ t), (Str.ofString "table", .ref tb), (Str.ofString "kind", .str (sN kd) tk0), (Str.ofString "gdef", .ref gd), (Str.ofString "infos", .ref il)] ?k1 ?k2 ?k3 ?k6 ?k7 ?k8 ?k9 ?kB ?kk ?c2 ?c3 ?c4 ?c5
  (case k1 => assumption)
  (case k2 => assumption)
  (case k3 => assumption)
  (case k6 => k_is)
  (case k7 => k_is)
  (case k8 => first | exact room0 (by assumption) | exact room1 (by assumption) | (simp only [recursionLimit]; omega))
  (case k9 => exact BindsTo.of_eq rfl)
  (case kB => exact locs rfl)
  (case c5 => decide)
  (case c2 => exact rfl)
  (case c3 => exact rfl)
  (case c4 => exact rfl)
  intro L' h' tk' F' N' X' T'
  clear X₀ T₀
  walk_at "m body"
  refine cut (fun s' => Bx (Ex12 fun (xs : List (Addr × Addr)) (dl rest : Led) (D bx bdx : Addr) (nn n9 : Nat) (es9 : List DictEntry) (b1 b2 b3 : Value) => An5 (xs.length = rs.length) (DL xs rs dl) (Named es9 [(Str.ofString "row", .ref D), (Str.ofString "is_backward", b1), (Str.ofString "last_lig", b2), (Str.ofString "last_split", b3)]) (rest = (bx, instObj 188 bdx) :: (bdx, dictOf es9 n9) :: (D, listOf (List.toArray (xs.map fun x => Value.ref x.1)) nn) :: insts xs) (Stands s s.heap L' (mapL [(Str.ofString "buffer", .ref bx), (Str.ofString "at", .int at_ t), (Str.ofString "table", .ref tb), (Str.ofString "kind", .str (sN kd) tk0), (Str.ofString "gdef", .ref gd), (Str.ofString "infos", .ref il)]) (rest ++ dl) s'))) ?_ ?_
  · walk_at "m go2"
    refine ⟨[il], (List.toArray (xs0.map fun x => Value.ref x.1)).size, _, [], [], (fun i ys l => Ex2 fun xs dl => An4 (xs.length = i) (ys = xs.map (fun x => Value.ref x.1)) (l = insts xs ++ dl) (DL xs (rs.take i) dl)), src_list rfl (hl.isList.at fun o e => F'.keep _ _ e), by (simp [sizeLine_eq]; omega), F', by assumption, (fun b _ h => nomatch h), (fun q h => nomatch h), ⟨[], [], rfl, rfl, rfl, DL.nil⟩, ?_, ?_, ?_⟩
    · rintro i ys l ⟨xs, dl, h3, rfl, -⟩; simp; omega
    · intro C i v s₃ m₃ ys led' g' E' F3 N3 gg grest gL hK hi hP hm _
      obtain ⟨xs, dl, hxl, rfl, rfl, hDL⟩ := hK
      refine wpAny_tests_nil ?_
      rw [if_pos rfl]
      have hi2 : i < xs0.length := by simpa using hi
      obtain ⟨x, dx, r, q1, q2, q3, q4⟩ := hR0.item (k := (i : Int)) (by omega) (by omega)
      have q3' : rs[i]? = some r := by simpa using q3
      have hv : v = .ref x := by
        have q1' : (xs0.map fun x => Value.ref x.1)[i]? = some (.ref x) := by simpa using q1
        have hP' : (xs0.map fun x => Value.ref x.1)[i]? = some v := by simpa using hP
        rw [hP'] at q1'; exact Option.some.inj q1'
      subst hv
      have X3 : (frag w.params).In g' := X'.keeps gg
      have T3 := T'.keeps gg
      have hs3 : hb.StaysIn g' := fun b o e => gg _ _ (hs b o e)
      have hI := q4.keep gg
      obtain ⟨ti, hI2⟩ := id hI
      have hI3 := hI2.has
      clear F' N'
      walk_at "m go2"
      exact copy_turn (by assumption) (by assumption) N3 (by assumption) (by assumption) hxl hDL q3'
    · rintro D nn h4 tk4 ys ledN hDn ⟨xs, dl, hxl, rfl, rfl, hDL⟩ F4 N4
      have hsz : (List.toArray (xs0.map fun x => Value.ref x.1)).size = rs.length := by simp [hlen0]
      rw [hsz] at hxl hDL
      rw [List.take_of_length_le (Nat.le_refl _)] at hDL
      clear F' N'
      walk_at "m go2"
      rename_i x9 dx9 es9 n9 lt9 fx9 fdx9 nm9 post9 h9 F9 N9
      exact ⟨⟨xs, dl, _, D, x9, dx9, nn, n9, es9, _, _, _, hxl, hDL, nm9, rfl, stands (Mine.Fr.put F9) (Mine.News.re N9 (by walk_at "m sub"))⟩⟩
  clear F' N'
  rintro _ ⟨⟨xs, dl, rest, D, bx, bdx, nn, nb9, esb, b1, b2, b3, hxl, hDL, nmb, hrest, h1', tk1, rfl, F', N'⟩⟩
  have hbx : (bx, instObj 188 bdx) ∈ rest := by rw [hrest]; exact .head _
  have hbdx : (bdx, dictOf esb nb9) ∈ rest := by rw [hrest]; exact .tail _ (.head _)
  have hDm : (D, listOf (List.toArray (xs.map fun x => Value.ref x.1)) nn) ∈ rest := by rw [hrest]; exact .tail _ (.tail _ (.head _))
  have hin : ∀ q ∈ insts xs, q ∈ rest := fun q hq => by rw [hrest]; exact .tail _ (.tail _ (.tail _ hq))
  have hni : ∀ q ∈ rest, NoInfo q.2 := fun q hq => by
    rw [hrest] at hq
    rcases List.mem_cons.mp hq with rfl | hq
    · exact NoInfo.cls (fun e => by cases e)
    · rcases List.mem_cons.mp hq with rfl | hq
      · exact NoInfo.named nmb (by decide)
      · rcases List.mem_cons.mp hq with rfl | hq
        · exact NoInfo.cls (fun e => absurd (Value.type.inj e) (by decide))
        · exact insts_noinfo q hq
  clear hrest
  refine cut (fun s' => Bx (Ex8 fun (rest2 : Led) (lx ldx : Addr) (n9 : Nat) (es9 : List DictEntry) (v1 : Value) (u1 u2 : Tok) => An6 (Named es9 [(Str.ofString "kind", .str (sN kd) tk0), (Str.ofString "flag", .int 0 u1), (Str.ofString "mark_set", .int 0 u2), (Str.ofString "tables", v1)]) ((lx, instObj 43 ldx) ∈ rest2) ((ldx, dictOf es9 n9) ∈ rest2) ((∀ q ∈ rest, q ∈ rest2)) ((∀ q ∈ rest2, NoInfo q.2)) (Stands s s.heap L' (mapL [(Str.ofString "lookup", .ref lx), (Str.ofString "buffer", .ref bx), (Str.ofString "at", .int at_ t), (Str.ofString "table", .ref tb), (Str.ofString "kind", .str (sN kd) tk0), (Str.ofString "gdef", .ref gd), (Str.ofString "infos", .ref il)]) (rest2 ++ dl) s'))) ?_ ?_
  · walk_at "m go2"
    rename_i lD9 h8 l18 h7 tk7 st7 dm7 x9 dx9 es9 n9 lt9 fx9 fdx9 nm9 post9 h9 F9 N9
    refine ⟨⟨(x9, instObj 43 dx9) :: (dx9, dictOf es9 n9) :: (lD9, listOf #[.ref tb] 0) :: rest, x9, dx9, n9, es9, _, _, _, nm9, .head _, .tail _ (.head _), fun q hq => .tail _ (.tail _ (.tail _ hq)), fun q hq => ?_, stands (Mine.Fr.put F9) (Mine.News.re N9 fun p hp => by simpa using hp)⟩⟩
    rcases List.mem_cons.mp hq with rfl | hq
    · exact NoInfo.cls (fun e => by cases e)
    · rcases List.mem_cons.mp hq with rfl | hq
      · exact NoInfo.named nm9 (by decide)
      · rcases List.mem_cons.mp hq with rfl | hq
        · exact NoInfo.cls (fun e => absurd (Value.type.inj e) (by decide))
        · exact hni q hq
  clear F' N'
  rintro _ ⟨⟨rest2, lx, ldx, nl9, esl, vl1, u1, u2, nml, hlx, hldx, hsub, hni2, h2', tk2, rfl, F', N'⟩⟩
  refine cut (fun s' => Bx (Ex3 fun (rest3 dl' : Led) (tq : Tok) => An3 (DL xs rs2 dl') ((∀ q ∈ rest, q ∈ rest3)) (Stands s s.heap L' (mapL [(Str.ofString "heard", .int z tq), (Str.ofString "lookup", .ref lx), (Str.ofString "buffer", .ref bx), (Str.ofString "at", .int at_ t), (Str.ofString "table", .ref tb), (Str.ofString "kind", .str (sN kd) tk0), (Str.ofString "gdef", .ref gd), (Str.ofString "infos", .ref il)]) (rest3 ++ dl') s'))) ?_ ?_
  · walk_at "m go2"
    rename_i lD9 hq9 Fq9 Nq9 l1q9 h9 tk9 F9 st9 dm9 v79 x9 dx9 es9 n9 lt9 fx9 fdx9 nm9 N9 post9
    have hmem : ∀ p ∈ rest2, p ∈ (x9, instObj 65 dx9) :: (dx9, dictOf es9 n9) :: (lD9, listOf #[Value.ref lx] 0) :: rest2 := fun p hp => .tail _ (.tail _ (.tail _ hp))
    have N3 : News s.heap L' h9 (dl ++ ((x9, instObj 65 dx9) :: (dx9, dictOf es9 n9) :: (lD9, listOf #[Value.ref lx] 0) :: rest2)) := Mine.News.re N9 (by walk_at "m sub")
    have hni3 : ∀ q ∈ (x9, instObj 65 dx9) :: (dx9, dictOf es9 n9) :: (lD9, listOf #[Value.ref lx] 0) :: rest2, NoInfo q.2 := fun q hq => by
      rcases List.mem_cons.mp hq with rfl | hq
      · exact NoInfo.cls (fun e => by cases e)
      · rcases List.mem_cons.mp hq with rfl | hq
        · exact NoInfo.named nm9 (by decide)
        · rcases List.mem_cons.mp hq with rfl | hq
          · exact NoInfo.cls (fun e => absurd (Value.type.inj e) (by decide))
          · exact hni2 q hq
    have h2x : at_ < xs.length := by omega
    refine' useA (CA x9 bx D lx xs h2x) F9 N3 hDL.dom ?hne hs ?hd ?hu ?hp ?_
    case hne => exact fun q hq => hDL.notIn N3 (fun p hp => List.mem_append_left _ hp) (List.mem_append_right _ hq) (hni3 q hq)
    case hd => walk_at "m dep"
    case hu => walk_at "m dep"
    case hp =>
      intro kg krest
      have kin : ∀ q ∈ insts xs, (hideAll h9 (xs.map (·.2))).get? q.1 = some q.2 := fun q hq => krest q (hmem q (hsub q (hin q hq)))
      refine ⟨⟨hDL.rowAt (by omega) ⟨nn, (N3 _ (List.mem_append_right _ (hmem _ (hsub _ hDm)))).1⟩ (fun q hq => (N3 q (List.mem_append_right _ (hmem _ (hsub _ (hin q hq))))).1) (fun q hq => (N3 q (List.mem_append_left _ hq)).1), hDL.nod, fun x hx => ?_, ⟨nn, krest _ (hmem _ (hsub _ hDm))⟩, fun x hx => kin (x.1, instObj 135 x.2) (List.mem_map.mpr ⟨x, hx, rfl⟩)⟩, ⟨lD9, (1, _), (0, 259), v79, b1, b2, b3, has_led krest (.head _) (.tail _ (.head _)) nm9, has_led krest (hmem _ (hsub _ hbx)) (hmem _ (hsub _ hbdx)) nmb, hgf.keep kg, (sN kd, tk0), (0, u2), vl1, u1, has_led krest (hmem _ hlx) (hmem _ hldx) nml⟩, hPk _ _ hP kg⟩
      have hm2 := List.mem_map_of_mem (f := (·.2)) hx
      rw [← hDL.dom] at hm2
      obtain ⟨q, hq, e⟩ := List.mem_map.mp hm2
      have z := (N3 q (List.mem_append_left _ hq)).2.2
      cases q2 : hb.get? x.2 with
      | none => rfl
      | some o => rw [e, hs _ _ q2] at z; cases z
    intro r' h' tk' F' N' hSn off' dm' post'
    obtain ⟨⟨tq, e0⟩, hRA⟩ := post'
    subst e0
    dsimp only
    have hD2 := DL.of hRA hDL.nod
    have N5 : News s.heap L' h' (((x9, instObj 65 dx9) :: (dx9, dictOf es9 n9) :: (lD9, listOf #[Value.ref lx] 0) :: rest2) ++ snap h' (xs.map (·.2))) := fun p hp => by
      rcases List.mem_append.mp hp with hp | hp
      · exact N' p hp
      · refine ⟨snap_in hRA p hp, hSn p.1 ?_⟩
        have := List.mem_map_of_mem (f := (·.1)) hp
        rwa [snap_map] at this
    clear N' N3 N9 Nq9 Fq9 F9
    walk_at "m go2"
    exact ⟨⟨_, _, tq, hD2, fun q hq => hmem q (hsub q hq), stands (Mine.Fr.put (by assumption)) (by assumption)⟩⟩
  clear F' N'
  rintro _ ⟨⟨rest3, dl', tq, hD2, hsub3, h3', tk3, rfl, F', N'⟩⟩
  have hbx3 := hsub3 _ hbx
  have hbdx3 := hsub3 _ hbdx
  have hDm3 := hsub3 _ hDm
  have hbx4 : (bx, instObj 188 bdx) ∈ rest3 ++ dl' := List.mem_append_left _ hbx3
  have hbdx4 : (bdx, dictOf esb nb9) ∈ rest3 ++ dl' := List.mem_append_left _ hbdx3
  walk_at "m go2"
  have hfew : xs.length ≤ 6 := by omega
  have hlen2 : xs.length = rs2.length := hD2.len
  refine ⟨[D], (List.toArray (xs.map fun x => Value.ref x.1)).size, _, [], rest3 ++ dl', (fun i ys l => ys.length = i ∧ Sup l (fun h => ∃ as, ReadsAll h ys ((rs2.take i).map recP) as)), src_list rfl (PySem.IsL.isList (n := nn) (N' _ (List.mem_append_left _ hDm3)).1), (by (simp [sizeLine_eq]; omega)), F', N', (fun b _ h => nomatch h), (fun q _ h => nomatch h), ⟨rfl, fun h _ => ⟨[], .nil⟩⟩, ?_, ?_, ?_⟩
  · rintro i ys l ⟨h3, -⟩; omega
  · intro C i v s₃ m₃ ys led' g' E' F3 N3 gg grest gL hK hi hP hm _
    obtain ⟨hy, hS⟩ := hK
    refine wpAny_tests_nil ?_
    rw [if_pos rfl]
    have hi2 : i < xs.length := by simpa using hi
    have hRg : RowAt g' D xs rs2 := hD2.rowAt hfew ⟨nn, grest _ (List.mem_append_left _ hDm3)⟩ (fun q hq => grest q (List.mem_append_left _ (hsub3 _ (hin q hq)))) (fun q hq => grest q (List.mem_append_right _ hq))
    obtain ⟨x, dx, r, q1', q2', q3', q4'⟩ := hRg.item (k := (i : Int)) (by omega) (by omega)
    have q3 : rs2[i]? = some r := by simpa using q3'
    have hv : v = .ref x := by
      have e1 : (xs.map fun x => Value.ref x.1)[i]? = some (.ref x) := by simpa using q1'
      have e2 : (xs.map fun x => Value.ref x.1)[i]? = some v := by simpa using hP
      rw [e2] at e1; exact Option.some.inj e1
    subst hv
    have X3 : (frag w.params).In g' := X'.keeps gg
    have T3 := T'.keeps gg
    have hs3 : hb.StaysIn g' := fun b o e => gg _ _ (hs b o e)
    obtain ⟨ti, hI2⟩ := id q4'
    have hI3 := hI2.has
    clear F' N'
    walk_at "m go2"
    rename_i pz hz9 Fz Nz _
    exact seen_turn Fz Nz hy q3 hS
  · rintro D2 nn2 h4 tk4 ys ledN hDn ⟨hy, hS⟩ F4 N4
    have hsz2 : (List.toArray (xs.map fun x => Value.ref x.1)).size = rs2.length := by simp [hlen2]
    rw [hsz2, List.take_of_length_le (Nat.le_refl _)] at hS
    clear F' N'
    walk_at "m go2"
    exact hQ _ _ _ (off_pure (S := []) (by assumption)).1 (off_pure (S := []) (by assumption)).2 (seen_fin (by assumption) hS)
theorem law_seen_base {w : World} {hb : Heap} (G : Gr w hb) (il gd tb mk bd : Addr) (at_ : Int) (tk0 t : Tok) (xs0 : List (Addr × Addr)) (rs : List Rec) (ms : List (Int × (Int × (Int × Int)))) (bs : List (Int × List (Option (Int × Int))))
    (h0 : 0 ≤ at_) (h2 : at_ < xs0.length) (hgd : Good rs) (hms : GoodM ms) (hbs : ∀ g cs, bs.lookup g = some cs → cs.length = 3) :
    Does w hb 800 [.ref il, .ref gd, .str (sN "base") tk0, .ref tb, .int at_ t] 18 [] (fun h => RowAt h il xs0 rs ∧ GdefAt w h gd ∧ Tab w h mk MarkV ms ∧ Tab w h bd TupCells bs ∧ Has h tb 411 [(Str.ofString "marks", .ref mk), (Str.ofString "bases", .ref bd)])
      (fun _ q h' => ∃ as, Reads h' q (seenP (baseD ms bs rs at_.toNat).1 (baseD ms bs rs at_.toNat).2) as) :=
  law_seen G il gd tb at_ tk0 t "base" xs0 rs _ _ (fun h => Tab w h mk MarkV ms ∧ Tab w h bd TupCells bs ∧ Has h tb 411 [(Str.ofString "marks", .ref mk), (Str.ofString "bases", .ref bd)]) (fun _ _ x k => ⟨x.1.keep (fun _ _ z => MarkV.keep z k) k, x.2.1.keep (fun _ _ z => TupCells.keep z k) k, x.2.2.keep k⟩)
    (fun sc buf row lk xs hx => apply_position_base G sc gd buf row lk 0 at_ t tk0 xs rs tb mk bd ms bs h0 hx hgd hms hbs) h0 h2
end S_Seen

section S_SeenM
theorem law_seen_mark {w : World} {hb : Heap} (G : Gr w hb) (il gd tb mk bd : Addr) (at_ : Int) (tk0 t : Tok) (xs0 : List (Addr × Addr)) (rs : List Rec) (ms : List (Int × (Int × (Int × Int)))) (bs : List (Int × List (Option (Int × Int))))
    (h0 : 0 ≤ at_) (h2 : at_ < xs0.length) (hgd : Good rs) (hms : GoodM ms) (hbs : ∀ g cs, bs.lookup g = some cs → cs.length = 3) :
    Does w hb 800 [.ref il, .ref gd, .str (sN "mark") tk0, .ref tb, .int at_ t] 18 [] (fun h => RowAt h il xs0 rs ∧ GdefAt w h gd ∧ Tab w h mk MarkV ms ∧ Tab w h bd TupCells bs ∧ Has h tb 465 [(Str.ofString "marks", .ref mk), (Str.ofString "others", .ref bd)])
      (fun _ q h' => ∃ as, Reads h' q (seenP (markD ms bs rs at_.toNat).1 (markD ms bs rs at_.toNat).2) as) :=
  law_seen G il gd tb at_ tk0 t "mark" xs0 rs _ _ (fun h => Tab w h mk MarkV ms ∧ Tab w h bd TupCells bs ∧ Has h tb 465 [(Str.ofString "marks", .ref mk), (Str.ofString "others", .ref bd)]) (fun _ _ x k => ⟨x.1.keep (fun _ _ z => MarkV.keep z k) k, x.2.1.keep (fun _ _ z => TupCells.keep z k) k, x.2.2.keep k⟩)
    (fun sc buf row lk xs hx => apply_position_mark G sc gd buf row lk at_ t tk0 xs rs tb mk bd ms bs h0 hx hgd hms hbs) h0 h2
theorem law_seen_component {w : World} {hb : Heap} (G : Gr w hb) (il gd tb mk bd : Addr) (at_ : Int) (tk0 t : Tok) (xs0 : List (Addr × Addr)) (rs : List Rec) (ms : List (Int × (Int × (Int × Int)))) (bs : List (Int × List (List (Option (Int × Int)))))
    (h0 : 0 ≤ at_) (h2 : at_ < xs0.length) (hgd : Good rs) (hms : GoodM ms) (hbs : ∀ g ps, bs.lookup g = some ps → ps.length = 2 ∧ ∀ p ∈ ps, p.length = 3) :
    Does w hb 800 [.ref il, .ref gd, .str (sN "component") tk0, .ref tb, .int at_ t] 18 [] (fun h => RowAt h il xs0 rs ∧ GdefAt w h gd ∧ Tab w h mk MarkV ms ∧ Tab w h bd PartsAt bs ∧ Has h tb 437 [(Str.ofString "marks", .ref mk), (Str.ofString "ligatures", .ref bd)])
      (fun _ q h' => ∃ as, Reads h' q (seenP (compD ms bs rs at_.toNat).1 (compD ms bs rs at_.toNat).2) as) :=
  law_seen G il gd tb at_ tk0 t "component" xs0 rs _ _ (fun h => Tab w h mk MarkV ms ∧ Tab w h bd PartsAt bs ∧ Has h tb 437 [(Str.ofString "marks", .ref mk), (Str.ofString "ligatures", .ref bd)]) (fun _ _ x k => ⟨x.1.keep (fun _ _ z => MarkV.keep z k) k, x.2.1.keep (fun _ _ z => PartsAt.keep z k) k, x.2.2.keep k⟩)
    (fun sc buf row lk xs hx => apply_position_component G sc gd buf row lk 0 at_ t tk0 xs rs tb mk bd ms bs h0 hx hgd hms hbs) h0 h2
end S_SeenM

end S_lines
section W_lines
theorem rows_32 : True := by
  (k_with "m penN" => k_asm)
  (k_with "m ne" => first | assumption | (intro q hq; nomatch hq))
  (k_with "m cells" => first | assumption | exact Fr.keep (by assumption) _ _ (by assumption))
  (k_with "m preP" => exact trivial)
  (k_with "call type:tuple" => (k_here; (with_reducible show wpAny _ _ (call (Value.type _) [Value.ref _]) _ _ _); k_dflt ((refine' kde_tupleOf ?z120k1 ?z120k2 ?z120k3 ?z120k4 ?z120k5 ?_); (case z120k1 => k_asm); (case z120k2 => k_asm); (case z120k3 => exact Mine.IsL.isList (Mine.IsL.keep (by assumption) (Fr.keep (by assumption)))); (case z120k4 => (simp; omega)); (case z120k5 => exact rfl); intro _ _ _ _ _; (try dsimp only))))
  (k_with "call type:dict" => (k_here; (with_reducible show wpAny _ _ (call (Value.type "dict") [Value.ref _]) _ _ _); k_dflt ((refine' dict_led ?z121k1 ?z121k2 ?z121k3 ?z121k4 ?z121k5 ?z121k6 ?z121k7 ?z121k8 ?_); (case z121k1 => k_asm); (case z121k2 => k_asm); (case z121k3 => k_asm); (case z121k4 => assumption); (case z121k5 => assumption); (case z121k6 => assumption); (case z121k7 => assumption); (case z121k8 => exact rfl); intro _ _ _ _ _ _ _ _ _; (try dsimp only))))
  (k_with "call ref" => (k_here; (with_reducible show wpAny _ _ (call (Value.ref 778) _) _ _ _); k_dflt ((refine' useP (draw_p (by assumption) _ _ _ _ _ (by walk_at "m num") (by walk_at "m num") ?z122kZ) ?z122kF ?z122kN ?z122kP ?z122kC ?z122kQ ?z122kc ?z122k2 ?z122k3 ?z122k4 ?z122k5 ?_); (case z122kF => k_asm); (case z122kN => walk_at "m penN"); (case z122kP => assumption); (case z122kC => assumption); (case z122kZ => walk_at "m num"); (case z122kQ => walk_at "m ne"); (case z122kc => walk_at "m cells"); (case z122k2 => assumption); (case z122k3 => walk_at "m dep"); (case z122k4 => walk_at "m dep"); (case z122k5 => (intro hA9 hK9; walk_at "m preP")); intro _ _ _ _ _ _ _ _ _ post'; obtain ⟨_, _, e0, _, _⟩ := post'; subst e0; (try dsimp only))))
  (k_with "call ref" => (k_here; (with_reducible show wpAny _ _ (call (Value.ref 342) _) _ _ _); k_dflt ((refine' use1 (new_anchor (by assumption) _ _) ?z123k1 ?z123kN ?z123k2 ?z123k3 ?z123k4 ?z123k5 ?_); (case z123k1 => k_asm); (case z123kN => k_asm); (case z123k2 => assumption); (case z123k5 => walk_at "m pre"); (case z123k3 => walk_at "m dep"); (case z123k4 => walk_at "m dep"); intro _ _ _ _ N' _ _ post'; obtain ⟨x9, dx9, es9, n9, e0, lt9, fx9, fdx9, nm9, N9⟩ := made_grow (by assumption) N' post'; clear N'; subst e0; (try dsimp only); revert post' x9 dx9 es9 n9 lt9 fx9 fdx9 nm9 N9; intros)))
  (k_with "call ref" => (k_here; (with_reducible show wpAny _ _ (call (Value.ref 411) _) _ _ _); k_dflt ((refine' use1 (new_base (by assumption) _ _) ?z124k1 ?z124kN ?z124k2 ?z124k3 ?z124k4 ?z124k5 ?_); (case z124k1 => k_asm); (case z124kN => k_asm); (case z124k2 => assumption); (case z124k5 => walk_at "m pre"); (case z124k3 => walk_at "m dep"); (case z124k4 => walk_at "m dep"); intro _ _ _ _ N' _ _ post'; obtain ⟨x9, dx9, es9, n9, e0, lt9, fx9, fdx9, nm9, N9⟩ := made_grow (by assumption) N' post'; clear N'; subst e0; (try dsimp only); revert post' x9 dx9 es9 n9 lt9 fx9 fdx9 nm9 N9; intros)))
  (k_with "call ref" => (k_here; (with_reducible show wpAny _ _ (call (Value.ref 437) _) _ _ _); k_dflt ((refine' use1 (new_comp (by assumption) _ _) ?z125k1 ?z125kN ?z125k2 ?z125k3 ?z125k4 ?z125k5 ?_); (case z125k1 => k_asm); (case z125kN => k_asm); (case z125k2 => assumption); (case z125k5 => walk_at "m pre"); (case z125k3 => walk_at "m dep"); (case z125k4 => walk_at "m dep"); intro _ _ _ _ N' _ _ post'; obtain ⟨x9, dx9, es9, n9, e0, lt9, fx9, fdx9, nm9, N9⟩ := made_grow (by assumption) N' post'; clear N'; subst e0; (try dsimp only); revert post' x9 dx9 es9 n9 lt9 fx9 fdx9 nm9 N9; intros)))
  (k_with "call ref" => (k_here; (with_reducible show wpAny _ _ (call (Value.ref 465) _) _ _ _); k_dflt ((refine' use1 (new_mark (by assumption) _ _) ?z126k1 ?z126kN ?z126k2 ?z126k3 ?z126k4 ?z126k5 ?_); (case z126k1 => k_asm); (case z126kN => k_asm); (case z126k2 => assumption); (case z126k5 => walk_at "m pre"); (case z126k3 => walk_at "m dep"); (case z126k4 => walk_at "m dep"); intro _ _ _ _ N' _ _ post'; obtain ⟨x9, dx9, es9, n9, e0, lt9, fx9, fdx9, nm9, N9⟩ := made_grow (by assumption) N' post'; clear N'; subst e0; (try dsimp only); revert post' x9 dx9 es9 n9 lt9 fx9 fdx9 nm9 N9; intros)))
  trivial

section S_Pick
theorem law_pick_c {w : World} {hb : Heap} (G : Gr w hb) (pen cells sl : Addr) (k : Nat) (vs : List Value) (hv0 : 0 < vs.length) (hv1 : vs.length < 100) (hk : k < 1000000) :
    Does w hb 785 [.ref pen, .ref sl] 3 [pen] (fun h => Pen hb h pen cells k ∧ IsL (hideAll h [pen]) sl vs) (fun _ r h' => Pen hb h' pen cells (k + 1) ∧ ∃ i : Nat, vs[i]? = some r) := by
  obtain ⟨p, loose, mean, mg, mb, X₀, T₀⟩ := id G
  intro dp un fr gds s Q E hdep hun hs hpre9
  obtain ⟨hP, hl⟩ := hpre9
  intro hQ
  obtain ⟨o, oc, hpo, hco, PS, PC⟩ := pen_open hP
  refine' enterP [(Str.ofString "some", .ref sl), (Str.ofString "pen", .ref pen)] ?k1 ?k2 ?k3 hpo hco PC ?k6 ?k7 ?k8 ?k9 ?kB ?kk ?c2 ?c3 ?c4 ?c5
  (case k1 => assumption)
  (case k2 => assumption)
  (case k3 => assumption)
  (case k6 => k_is)
  (case k7 => k_is)
  (case k8 => first | exact room0 (by assumption) | exact room1 (by assumption) | (simp only [recursionLimit]; omega))
  (case k9 => exact BindsTo.of_eq rfl)
  (case kB => exact locs rfl)
  (case c5 => decide)
  (case c2 => exact rfl)
  (case c3 => exact rfl)
  (case c4 => exact rfl)
  intro L' h' tk' g hg F' N' X' T' hsg hcg
  clear X₀ T₀
  walk_at "m body"
  rw [← hg] at hl
  walk_at "m go2"
  rename_i h9 tk9 o9 F9 N9 PS9 st9 dm9 d9 t9 dl9 dh9
  obtain ⟨v, hv⟩ : ∃ v, vs[d9.toNat]? = some v := ⟨_, List.getElem?_eq_getElem (by omega)⟩
  refine li_item F9 hl dl9 (by omega) hv ?_ (by with_unfolding_all rfl)
  show Q (retOf (Flow.ret v)) _
  exact finP (pen := pen) (cells := cells) hQ hg F9 N9 (.head _) PS9 PC hpo hcg fun hz => ⟨hz, _, hv⟩
end S_Pick

section S_Anchors
theorem law_anchors_c {w : World} {hb : Heap} (G : Gr w hb) (pen cells : Addr) (k : Nat) (hk : k + 9 < 1000000) :
    Does w hb 790 [.ref pen] 8 [pen] (fun h => Pen hb h pen cells k ∧ True) (fun h r h' => Pen hb h' pen cells (k + 9) ∧ AncsAt h h' r) := by
  obtain ⟨p, loose, mean, mg, mb, X₀, T₀⟩ := id G
  intro dp un fr gds s Q E hdep hun hs hpre9
  obtain ⟨hP, _⟩ := hpre9
  intro hQ
  obtain ⟨o, oc, hpo, hco, PS, PC⟩ := pen_open hP
  refine' enterC [(pen, o)] X₀ T₀ hs ?kl ?k6 ?k7 ?k8 (binds := [(Str.ofString "pen", .ref pen)]) ?k9 ?kB ?kD ?kk ?c2 ?c3 ?c4
  case kl => intro q hq; rw [List.mem_singleton.mp hq]; exact ⟨hpo, PC.p0⟩
  case k6 => k_is
  case k7 => k_is
  case k8 => simp only [recursionLimit]; omega
  case k9 => exact BindsTo.of_eq rfl
  case kB => exact kindsX rfl
  case kD => decide
  case c2 => exact rfl
  case c3 => exact rfl
  case c4 => exact rfl
  intro g L' h' tk' cells' hg F' N' Y X' T' hsg hcf
  clear X₀ T₀
  obtain ⟨c0, rfl, hc0⟩ := Y.one
  have hcg : g.get? cells = some oc := by rw [hg]; exact hideAll_get [pen] hco (by simpa using PC.ne.symm)
  walk_at "m body"
  walk_at "m go2"
  rename_i hR1 FR1 NR1 _
  refine ⟨[], 3, _, [(pen, o)], [(L' + 1, c0)], (fun i ys l => Ex3 fun o1 W cs => An6 (l = (pen, o1) :: W) (PenS cells o1 (k + 3 * i)) ((∀ q ∈ W, q.1 ≠ pen)) (ys.length = i) (cs.length = i) (Sup W (fun h2 => CellsAt h2 ys cs))), src_range (n := 3) rfl hR1 (by decide), by decide, FR1, Mine.News.swap NR1, (fun b h => nomatch h), ?_, ⟨o, [], [], rfl, PS.le (by omega), (fun q h => nomatch h), rfl, rfl, fun h2 _ => ⟨rfl, fun i v c a => by simp at a⟩⟩, ?_, ?_, ?_⟩
  · intro q hq hm
    rw [List.mem_singleton.mp hq] at hm
    have e1 : L' + 1 = pen := by simpa using hm
    have e2 := (NR1 (L' + 1, c0) (.head _)).1
    have e3 := (NR1 (pen, o) (.tail _ (.head _))).1
    have e4 : c0 = o := Option.some.inj (e2.symm.trans ((show ((L' + 1 : Nat), c0).1 = pen from e1) ▸ e3))
    obtain ⟨_, _, _, _, _, e5, _⟩ := PS
    rw [e4, e5] at hc0
    cases hc0
  · rintro i ys l ⟨_, _, _, -, -, -, h3, -⟩; omega
  · intro C i v s₃ m₃ ys led' g' E' F3 N3 gg grest gL hK hi hP hm _
    obtain ⟨o1, W, cs, rfl, PS1, hW, hy, hcl, hS⟩ := hK
    obtain ⟨ti, rfl⟩ := hP
    refine wpAny_tests_nil ?_
    rw [if_pos rfl]
    have X3 : (frag w.params).In g' := X'.keeps gg
    have T3 := T'.keeps gg
    have hs3 : hb.StaysIn g' := fun b o e => gg _ _ (hsg b o e)
    have hc3 := gg _ _ hcg
    have hpc : CellAt g' (L' + 1) (.ref pen) := ⟨c0, grest (L' + 1, c0) (.head _), hc0⟩
    have hlen : i < 3 := hi
    clear NR1 FR1 hcg hsg
    walk_at "m go2"
    · exact anc_turn (by assumption) (by assumption) (by assumption) (by omega) hW hy hcl hS (by assumption)
    · exact turned (by assumption) (by assumption) (pen_sub fun q hq => hq) ⟨_, W, cs ++ [none], rfl, PenS.le (by assumption) (by omega), hW, by simp [hy], by simp [hcl], fun h2 hin => CellsAt.snoc (hS h2 hin) rfl⟩
  · rintro D nn h4 tk4 ys ledN hDn hK F4 N4
    obtain ⟨o1, W, cs, rfl, PS1, hW, hy, hcl, hS⟩ := hK
    have hDp : D ≠ pen := fun e => hDn.1 (pen, o1) (.head _) e.symm
    show Q (retOf (Flow.ret (Value.ref D))) _
    refine finP (s := s) (pen := pen) (cells := cells) hQ hg F4 N4 (.tail _ (.head _)) (PS1.le (by omega)) PC hpo hcg fun hz => ⟨hz, D, ys, nn, W, cs, rfl, hcl, ?_, hS⟩
    intro q hq
    have hq1 : q.1 ≠ pen := by
      rcases List.mem_cons.mp hq with rfl | hq
      · exact hDp
      · exact hW q hq
    have hqn := N4 q (by rcases List.mem_cons.mp hq with rfl | hq <;> simp_all)
    refine ⟨un_hide (pen := pen) ?_ hq1, hqn.1⟩
    have := hqn.2.2
    rw [hg] at this
    exact this
end S_Anchors

section S_Table
inductive ListsW (rl : Led) (v : Value) (ps : List (List (Option (Int × Int)))) : Prop where
  | mk (l : Addr) (vs : List Value) (n : Nat) (e0 : v = .ref l) (e1 : (l, listOf (List.toArray vs) n) ∈ rl) (e2 : vs.length = ps.length) (e3 : ∀ (i : Nat) v p, vs[i]? = some v → ps[i]? = some p → ∃ l2 us n2, v = .ref l2 ∧ (l2, listOf (List.toArray us) n2) ∈ rl ∧ Sup rl (fun h => CellsAt h us p)) : ListsW rl v ps
abbrev RW0 := List (Int × List (List (Option (Int × Int))))
def RowsW (w : World) (rl : Led) (rd : Addr) (R : RW0) : Prop := ∃ kvs : List (Int × Value), Sup rl (fun h => DictI w h rd kvs) ∧ kvs.map (·.1) = R.map (·.1) ∧ ∀ (i : Nat) (v : Value) (ps : List (List (Option (Int × Int)))), (kvs[i]?).map (fun x => x.2) = some v → (R[i]?).map (fun x => x.2) = some ps → ListsW rl v ps
theorem value_at {kvs : List (Int × Value)} {i : Nat} {k : Int} {x : Value} (nd : (kvs.map (·.1)).Nodup) (h : kvs[i]? = some (k, x)) : valueAt kvs k = some x := by
  induction kvs generalizing i with
  | nil => simp at h
  | cons p kvs ih =>
    simp only [List.map_cons, List.nodup_cons] at nd
    cases i with
    | zero =>
      simp at h
      subst h
      unfold valueAt; rw [List.find?_cons]; simp
    | succ i =>
      simp at h
      have hne : p.1 ≠ k := fun e => nd.1 (by rw [e]; exact List.mem_map_of_mem (f := (·.1)) (List.mem_of_getElem? h))
      have := ih nd.2 h
      unfold valueAt at this ⊢
      rw [List.find?_cons]
      simpa [hne] using this
def firsts (R : RW0) : List (Int × List (Option (Int × Int))) := R.map fun p => (p.1, p.2.getD 0 [])
theorem firsts_map (R : RW0) : (firsts R).map (·.1) = R.map (·.1) := by simp [firsts, Function.comp_def]
theorem tab_turn {α : Type} {P : Heap → Value → α → Prop} {base : Led} {l : List (Int × α)} {g h : Heap} {C pz tz : Addr} {s : Shared} {tk : Nat} {m : Str → Option Value} {led : Led} {ys : List Value} {i : Nat} {k : Int} {tx : Tok} {o : Obj} {a : α}
    (F : Fr g C h m) (N : News g C h ((pz, tupO [.int k tx, .ref tz]) :: (tz, o) :: led)) (T : TabK P base (l.take i) ys led) (ha : l[i]? = some (k, a)) (hy : ys.length = i) (hS : Sup ((pz, tupO [.int k tx, .ref tz]) :: (tz, o) :: led ++ base) (fun h => P h (.ref tz) a)) :
    Turned g C s led (fun l' => TabK P base (l.take (i + 1)) (ys ++ [.ref pz]) l' ∧ (ys ++ [Value.ref pz]).length = i + 1) { s with heap := h, toks := tk } :=
  turned F N (fun q hq => List.mem_map_of_mem (List.mem_cons_of_mem _ (List.mem_cons_of_mem _ hq))) ⟨by rw [take_succ_get ha]; exact T.snoc (fun q hq => List.mem_cons_of_mem _ (List.mem_cons_of_mem _ hq)) (.head _) hS, by simp [hy]⟩
theorem table_fin {α : Type} {w : World} {P : Heap → Value → α → Prop} {l : List (Int × α)} {h h' : Heap} {L x dx C d : Addr} {es : List DictEntry} {n : Nat} {od : Obj} {ledN rest rl : Led} {f1 f2 : Str} {v : Value}
    (N : News h L h' ((x, instObj C dx) :: (dx, dictOf es n) :: (d, od) :: (ledN ++ rest))) (S : Sup ((d, od) :: (ledN ++ rl)) (fun h => Tab w h d P l)) (nm : Named es [(f1, v), (f2, .ref d)]) :
    ∃ tb bd led, Value.ref x = .ref tb ∧ (∀ p ∈ led, h.get? p.1 = none ∧ h'.get? p.1 = some p.2) ∧ Sup (led ++ rl) (fun h => Has h tb C [(f1, v), (f2, .ref bd)] ∧ Tab w h bd P l) :=
  ⟨x, d, (x, instObj C dx) :: (dx, dictOf es n) :: (d, od) :: ledN, rfl, fun p hp => by
    have := N p (by
      rcases List.mem_cons.mp hp with rfl | hp
      · exact .head _
      · rcases List.mem_cons.mp hp with rfl | hp
        · exact .tail _ (.head _)
        · rcases List.mem_cons.mp hp with rfl | hp
          · exact .tail _ (.tail _ (.head _))
          · exact .tail _ (.tail _ (.tail _ (List.mem_append_left _ hp))))
    exact ⟨this.2.2, this.1⟩, fun h9 hin => ⟨has_led hin (.head _) (.tail _ (.head _)) nm, S h9 fun q hq => hin q (.tail _ (.tail _ hq))⟩⟩
theorem law_table_base {w : World} {hb : Heap} (G : Gr w hb) (rl : Led) (mk rd : Addr) (R : RW0) (tk0 : Tok) (hRW : RowsW w rl rd R) (h2 : ∀ p ∈ R, p.2.length = 2 ∧ ∀ c ∈ p.2, c.length = 3) (nd : (R.map (·.1)).Nodup) (hz : R.length ≤ 100) :
    Does w hb 795 [.str (sN "base") tk0, .ref mk, .ref rd] 8 [] (fun h => ∀ q ∈ rl, h.get? q.1 = some q.2)
      (fun h r h' => ∃ tb bd led, r = .ref tb ∧ (∀ p ∈ led, h.get? p.1 = none ∧ h'.get? p.1 = some p.2) ∧ Sup (led ++ rl) (fun h => Has h tb 411 [(Str.ofString "marks", .ref mk), (Str.ofString "bases", .ref bd)] ∧ Tab w h bd TupCells (firsts R))) := by
  obtain ⟨p, loose, mean, mg, mb, X₀, T₀⟩ := id G
  intro dp un fr gds s Q E hdep hun hs hrl hQ
  obtain ⟨kvs, hD, hkeys, hkv⟩ := hRW
  have ndk : (kvs.map (·.1)).Nodup := by rw [hkeys]; exact nd
  have hkl : kvs.length = R.length := by have := congrArg List.length hkeys; simpa using this
  refine' enterC [] X₀ T₀ hs ?kl ?k6 ?k7 ?k8 (binds := [(Str.ofString "kind", .str (sN "base") tk0), (Str.ofString "marks", .ref mk), (Str.ofString "rows", .ref rd)]) ?k9 ?kB ?kD ?kk ?c2 ?c3 ?c4
  case kl => intro q hq; nomatch hq
  case k6 => k_is
  case k7 => k_is
  case k8 => simp only [recursionLimit]; omega
  case k9 => exact BindsTo.of_eq rfl
  case kB => exact kindsX rfl
  case kD => decide
  case c2 => exact rfl
  case c3 => exact rfl
  case c4 => exact rfl
  intro g L' h' tk' cells' hg F' N' Y X' T' hsg hcf
  have hg' : g = s.heap := hg
  subst hg'
  clear X₀ T₀
  obtain ⟨c0, rfl, hc0⟩ := Y.one
  have hDg := hD _ hrl
  walk_at "m body"
  walk_at "m go2"
  refine ⟨[rd], kvs.length, _, [], [(L' + 1, c0)], (fun i ys l => TabK TupCells rl ((firsts R).take i) ys l ∧ ys.length = i), src_dict rfl hDg.1 (hDg.keep F'.keep).2, (by rw [sizeLine_eq]; omega), F', N', (fun b _ h => nomatch h), (fun q _ h => nomatch h), ⟨TabK.nil, rfl⟩, ?_, ?_, ?_⟩
  · rintro i ys l ⟨-, h3⟩; omega
  · intro C i v s₃ m₃ ys led' g' E' F3 N3 gg grest gL hK hi hP hm _
    obtain ⟨hT, hy⟩ := hK
    obtain ⟨k, x, tx, hkx, rfl⟩ := hP
    refine wpAny_tests_nil ?_
    rw [if_pos rfl]
    have X3 : (frag w.params).In g' := X'.keeps gg
    have T3 := T'.keeps gg
    have hs3 : hb.StaysIn g' := fun b o e => gg _ _ (hsg b o e)
    have hrg : ∀ q ∈ rl, g'.get? q.1 = some q.2 := fun q hq => gg _ _ (hrl q hq)
    have hpc : CellAt g' (L' + 1) (.ref rd) := ⟨c0, grest (L' + 1, c0) (.head _), hc0⟩
    have hD3 := hD _ hrg
    have hva := value_at ndk hkx
    obtain ⟨ps, hps⟩ : ∃ ps, R[i]? = some (k, ps) := by
      have h9 : (R.map (·.1))[i]? = some k := by rw [← hkeys, List.getElem?_map, hkx]; rfl
      rw [List.getElem?_map] at h9
      cases q : R[i]? with
      | none => rw [q] at h9; cases h9
      | some p => rw [q] at h9; simp at h9; exact ⟨p.2, by rw [← h9]⟩
    obtain ⟨l, vs, n, rfl, hl, hvl, hvi⟩ := hkv i x ps (by rw [hkx]; rfl) (by rw [hps]; rfl)
    obtain ⟨h22, h23⟩ := h2 _ (List.mem_of_getElem? hps)
    dsimp only at h22 h23
    obtain ⟨c, hc⟩ : ∃ c, ps[0]? = some c := ⟨_, List.getElem?_eq_getElem (by omega)⟩
    obtain ⟨v0, hv0⟩ : ∃ v0, vs[0]? = some v0 := ⟨_, List.getElem?_eq_getElem (by omega)⟩
    obtain ⟨l2, us, n2, rfl, hl2, hus⟩ := hvi 0 v0 c hv0 hc
    have hL : IsL g' l vs := ⟨n, hrg _ hl⟩
    have hL2 : IsL g' l2 us := ⟨n2, hrg _ hl2⟩
    have hul := (hus g' hrg).1
    have hcl := h23 _ (List.mem_of_getElem? hc)
    have hfi : (firsts R)[i]? = some (k, c) := by
      unfold firsts
      rw [List.getElem?_map, hps]
      simp [List.getD, hc]
    walk_at "m go2"
    rename_i pz hz9 Fz Nz _
    exact tab_turn Fz Nz hT hfi hy fun h9 hin => ⟨_, us, rfl, tupO_tup (hin _ (.tail _ (.head _))), hus h9 fun q hq => hin q (List.mem_append_right _ hq)⟩
  · rintro D nn h4 tk4 ys ledN hDn ⟨hT, hy⟩ F4 N4
    have hT2 : TabK TupCells rl (firsts R) ys ledN := by
      have : (firsts R).take kvs.length = firsts R := List.take_of_length_le (by simp [firsts]; omega)
      rw [this] at hT; exact hT
    have hsubl : ∀ q ∈ ledN, q ∈ ledN ++ [(L' + 1, c0)] := fun q hq => List.mem_append_left _ hq
    have hndf : ((firsts R).map (·.1)).Nodup := by rw [firsts_map]; exact nd
    have hzf : (firsts R).length ≤ 1000 := by simp [firsts]; omega
    clear N' F'
    walk_at "m go2"
    exact hQ _ _ _ (off_pure (S := []) (by assumption)).1 (off_pure (S := []) (by assumption)).2 (table_fin (by assumption) (by assumption) (by assumption))
theorem law_table_mark {w : World} {hb : Heap} (G : Gr w hb) (rl : Led) (mk rd : Addr) (R : RW0) (tk0 : Tok) (hRW : RowsW w rl rd R) (h2 : ∀ p ∈ R, p.2.length = 2 ∧ ∀ c ∈ p.2, c.length = 3) (nd : (R.map (·.1)).Nodup) (hz : R.length ≤ 100) :
    Does w hb 795 [.str (sN "mark") tk0, .ref mk, .ref rd] 8 [] (fun h => ∀ q ∈ rl, h.get? q.1 = some q.2)
      (fun h r h' => ∃ tb bd led, r = .ref tb ∧ (∀ p ∈ led, h.get? p.1 = none ∧ h'.get? p.1 = some p.2) ∧ Sup (led ++ rl) (fun h => Has h tb 465 [(Str.ofString "marks", .ref mk), (Str.ofString "others", .ref bd)] ∧ Tab w h bd TupCells (firsts R))) := by
  obtain ⟨p, loose, mean, mg, mb, X₀, T₀⟩ := id G
  intro dp un fr gds s Q E hdep hun hs hrl hQ
  obtain ⟨kvs, hD, hkeys, hkv⟩ := hRW
  have ndk : (kvs.map (·.1)).Nodup := by rw [hkeys]; exact nd
  have hkl : kvs.length = R.length := by have := congrArg List.length hkeys; simpa using this
  refine' enterC [] X₀ T₀ hs ?kl ?k6 ?k7 ?k8 (binds := [(Str.ofString "kind", .str (sN "mark") tk0), (Str.ofString "marks", .ref mk), (Str.ofString "rows", .ref rd)]) ?k9 ?kB ?kD ?kk ?c2 ?c3 ?c4
  case kl => intro q hq; nomatch hq
  case k6 => k_is
  case k7 => k_is
  case k8 => simp only [recursionLimit]; omega
  case k9 => exact BindsTo.of_eq rfl
  case kB => exact kindsX rfl
  case kD => decide
  case c2 => exact rfl
  case c3 => exact rfl
  case c4 => exact rfl
  intro g L' h' tk' cells' hg F' N' Y X' T' hsg hcf
  have hg' : g = s.heap := hg
  subst hg'
  clear X₀ T₀
  obtain ⟨c0, rfl, hc0⟩ := Y.one
  have hDg := hD _ hrl
  walk_at "m body"
  walk_at "m go2"
  refine ⟨[rd], kvs.length, _, [], [(L' + 1, c0)], (fun i ys l => TabK TupCells rl ((firsts R).take i) ys l ∧ ys.length = i), src_dict rfl hDg.1 (hDg.keep F'.keep).2, (by rw [sizeLine_eq]; omega), F', N', (fun b _ h => nomatch h), (fun q _ h => nomatch h), ⟨TabK.nil, rfl⟩, ?_, ?_, ?_⟩
  · rintro i ys l ⟨-, h3⟩; omega
  · intro C i v s₃ m₃ ys led' g' E' F3 N3 gg grest gL hK hi hP hm _
    obtain ⟨hT, hy⟩ := hK
    obtain ⟨k, x, tx, hkx, rfl⟩ := hP
    refine wpAny_tests_nil ?_
    rw [if_pos rfl]
    have X3 : (frag w.params).In g' := X'.keeps gg
    have T3 := T'.keeps gg
    have hs3 : hb.StaysIn g' := fun b o e => gg _ _ (hsg b o e)
    have hrg : ∀ q ∈ rl, g'.get? q.1 = some q.2 := fun q hq => gg _ _ (hrl q hq)
    have hpc : CellAt g' (L' + 1) (.ref rd) := ⟨c0, grest (L' + 1, c0) (.head _), hc0⟩
    have hD3 := hD _ hrg
    have hva := value_at ndk hkx
    obtain ⟨ps, hps⟩ : ∃ ps, R[i]? = some (k, ps) := by
      have h9 : (R.map (·.1))[i]? = some k := by rw [← hkeys, List.getElem?_map, hkx]; rfl
      rw [List.getElem?_map] at h9
      cases q : R[i]? with
      | none => rw [q] at h9; cases h9
      | some p => rw [q] at h9; simp at h9; exact ⟨p.2, by rw [← h9]⟩
    obtain ⟨l, vs, n, rfl, hl, hvl, hvi⟩ := hkv i x ps (by rw [hkx]; rfl) (by rw [hps]; rfl)
    obtain ⟨h22, h23⟩ := h2 _ (List.mem_of_getElem? hps)
    dsimp only at h22 h23
    obtain ⟨c, hc⟩ : ∃ c, ps[0]? = some c := ⟨_, List.getElem?_eq_getElem (by omega)⟩
    obtain ⟨v0, hv0⟩ : ∃ v0, vs[0]? = some v0 := ⟨_, List.getElem?_eq_getElem (by omega)⟩
    obtain ⟨l2, us, n2, rfl, hl2, hus⟩ := hvi 0 v0 c hv0 hc
    have hL : IsL g' l vs := ⟨n, hrg _ hl⟩
    have hL2 : IsL g' l2 us := ⟨n2, hrg _ hl2⟩
    have hul := (hus g' hrg).1
    have hcl := h23 _ (List.mem_of_getElem? hc)
    have hfi : (firsts R)[i]? = some (k, c) := by
      unfold firsts
      rw [List.getElem?_map, hps]
      simp [List.getD, hc]
    walk_at "m go2"
    rename_i pz hz9 Fz Nz _
    exact tab_turn Fz Nz hT hfi hy fun h9 hin => ⟨_, us, rfl, tupO_tup (hin _ (.tail _ (.head _))), hus h9 fun q hq => hin q (List.mem_append_right _ hq)⟩
  · rintro D nn h4 tk4 ys ledN hDn ⟨hT, hy⟩ F4 N4
    have hT2 : TabK TupCells rl (firsts R) ys ledN := by
      have : (firsts R).take kvs.length = firsts R := List.take_of_length_le (by simp [firsts]; omega)
      rw [this] at hT; exact hT
    have hsubl : ∀ q ∈ ledN, q ∈ ledN ++ [(L' + 1, c0)] := fun q hq => List.mem_append_left _ hq
    have hndf : ((firsts R).map (·.1)).Nodup := by rw [firsts_map]; exact nd
    have hzf : (firsts R).length ≤ 1000 := by simp [firsts]; omega
    clear N' F'
    walk_at "m go2"
    exact hQ _ _ _ (off_pure (S := []) (by assumption)).1 (off_pure (S := []) (by assumption)).2 (table_fin (by assumption) (by assumption) (by assumption))
end S_Table

section S_TableC
theorem tab_turn2 {α : Type} {P : Heap → Value → α → Prop} {base : Led} {l : List (Int × α)} {g h : Heap} {C pz : Addr} {s : Shared} {tk : Nat} {m : Str → Option Value} {led led2 : Led} {ys : List Value} {i : Nat} {k : Int} {tx : Tok} {x : Value} {a : α}
    (F : Fr g C h m) (N : News g C h led2) (sub : ∀ q ∈ led, q ∈ led2) (T : TabK P base (l.take i) ys led) (ha : l[i]? = some (k, a)) (hy : ys.length = i) (hm : (pz, tupO [.int k tx, x]) ∈ led2) (hS : Sup (led2 ++ base) (fun h => P h x a)) :
    Turned g C s led (fun l' => TabK P base (l.take (i + 1)) (ys ++ [.ref pz]) l' ∧ (ys ++ [Value.ref pz]).length = i + 1) { s with heap := h, toks := tk } :=
  turned F N (fun q hq => List.mem_map_of_mem (sub q hq)) ⟨by rw [take_succ_get ha]; exact T.snoc sub hm hS, by simp [hy]⟩
theorem law_table_component {w : World} {hb : Heap} (G : Gr w hb) (rl : Led) (mk rd : Addr) (R : RW0) (tk0 : Tok) (hRW : RowsW w rl rd R) (h2 : ∀ p ∈ R, p.2.length = 2 ∧ ∀ c ∈ p.2, c.length = 3) (nd : (R.map (·.1)).Nodup) (hz : R.length ≤ 100) :
    Does w hb 795 [.str (sN "component") tk0, .ref mk, .ref rd] 8 [] (fun h => ∀ q ∈ rl, h.get? q.1 = some q.2)
      (fun h r h' => ∃ tb bd led, r = .ref tb ∧ (∀ p ∈ led, h.get? p.1 = none ∧ h'.get? p.1 = some p.2) ∧ Sup (led ++ rl) (fun h => Has h tb 437 [(Str.ofString "marks", .ref mk), (Str.ofString "ligatures", .ref bd)] ∧ Tab w h bd PartsAt R)) := by
  obtain ⟨p, loose, mean, mg, mb, X₀, T₀⟩ := id G
  intro dp un fr gds s Q E hdep hun hs hrl hQ
  obtain ⟨kvs, hD, hkeys, hkv⟩ := hRW
  have ndk : (kvs.map (·.1)).Nodup := by rw [hkeys]; exact nd
  have hkl : kvs.length = R.length := by have := congrArg List.length hkeys; simpa using this
  refine' enterC [] X₀ T₀ hs ?kl ?k6 ?k7 ?k8 (binds := [(Str.ofString "kind", .str (sN "component") tk0), (Str.ofString "marks", .ref mk), (Str.ofString "rows", .ref rd)]) ?k9 ?kB ?kD ?kk ?c2 ?c3 ?c4
  case kl => intro q hq; nomatch hq
  case k6 => k_is
  case k7 => k_is
  case k8 => simp only [recursionLimit]; omega
  case k9 => exact BindsTo.of_eq rfl
  case kB => exact kindsX rfl
  case kD => decide
  case c2 => exact rfl
  case c3 => exact rfl
  case c4 => exact rfl
  intro g L' h' tk' cells' hg F' N' Y X' T' hsg hcf
  have hg' : g = s.heap := hg
  subst hg'
  clear X₀ T₀
  obtain ⟨c0, rfl, hc0⟩ := Y.one
  have hDg := hD _ hrl
  walk_at "m body"
  walk_at "m go2"
  refine ⟨[rd], kvs.length, _, [], [(L' + 1, c0)], (fun i ys l => TabK PartsAt rl (R.take i) ys l ∧ ys.length = i), src_dict rfl hDg.1 (hDg.keep F'.keep).2, (by rw [sizeLine_eq]; omega), F', N', (fun b _ h => nomatch h), (fun q _ h => nomatch h), ⟨TabK.nil, rfl⟩, ?_, ?_, ?_⟩
  · rintro i ys l ⟨-, h3⟩; omega
  · intro C i v s₃ m₃ ys led' g' E' F3 N3 gg grest gL hK hi hP hm _
    obtain ⟨hT, hy⟩ := hK
    obtain ⟨k, x, tx, hkx, rfl⟩ := hP
    refine wpAny_tests_nil ?_
    rw [if_pos rfl]
    have X3 : (frag w.params).In g' := X'.keeps gg
    have T3 := T'.keeps gg
    have hs3 : hb.StaysIn g' := fun b o e => gg _ _ (hsg b o e)
    have hrg : ∀ q ∈ rl, g'.get? q.1 = some q.2 := fun q hq => gg _ _ (hrl q hq)
    have hpc : CellAt g' (L' + 1) (.ref rd) := ⟨c0, grest (L' + 1, c0) (.head _), hc0⟩
    have hD3 := hD _ hrg
    have hva := value_at ndk hkx
    obtain ⟨ps, hps⟩ : ∃ ps, R[i]? = some (k, ps) := by
      have h9 : (R.map (·.1))[i]? = some k := by rw [← hkeys, List.getElem?_map, hkx]; rfl
      rw [List.getElem?_map] at h9
      cases q : R[i]? with
      | none => rw [q] at h9; cases h9
      | some p => rw [q] at h9; simp at h9; exact ⟨p.2, by rw [← h9]⟩
    obtain ⟨l, vs, n, rfl, hl, hvl, hvi⟩ := hkv i x ps (by rw [hkx]; rfl) (by rw [hps]; rfl)
    obtain ⟨h22, h23⟩ := h2 _ (List.mem_of_getElem? hps)
    dsimp only at h22 h23
    have hL : IsL g' l vs := ⟨n, hrg _ hl⟩
    have hlm : g'.IsList l vs.toArray := hL.isList
    walk_at "m go2"
    refine ⟨[l], vs.toArray.size, _, [], led', (fun j zs lz => zs.length = j ∧ ∀ (i : Nat) v p, zs[i]? = some v → ps[i]? = some p → ∃ t us, v = .ref t ∧ (t, tupO us) ∈ lz ∧ Sup rl (fun h => CellsAt h us p)), src_list rfl (hlm.at fun o e => Fr.keep (by assumption) _ _ e), by (simp [sizeLine_eq]; omega), by assumption, by assumption, (fun b _ h => nomatch h), (fun q _ h => nomatch h), ⟨rfl, fun i v p a => by simp at a⟩, ?_, ?_, ?_⟩
    · rintro j zs lz ⟨h3, -⟩; omega
    · intro C2 j v s4 m4 zs lz g4 E4 F4 N4 gg4 grest4 gL4 hK4 hj hP4 hm4 _
      obtain ⟨hz4, hK4⟩ := hK4
      refine wpAny_tests_nil ?_
      rw [if_pos rfl]
      have hj2 : vs[j]? = some v := by simpa using hP4
      have hjl : j < vs.length := (List.getElem?_eq_some_iff.mp hj2).1
      obtain ⟨p4, hp4⟩ : ∃ p4, ps[j]? = some p4 := ⟨_, List.getElem?_eq_getElem (by omega)⟩
      obtain ⟨l2, us, n2, rfl, hl2, hus⟩ := hvi j v p4 hj2 hp4
      have hrg4 : ∀ q ∈ rl, g4.get? q.1 = some q.2 := fun q hq => gg4 _ _ (hrg q hq)
      have hL2 : IsL g4 l2 us := ⟨n2, hrg4 _ hl2⟩
      have hul := (hus g4 hrg4).1
      have hcl := h23 _ (List.mem_of_getElem? hp4)
      have X4 : (frag w.params).In g4 := X3.keeps gg4
      have T4 := T3.keeps gg4
      walk_at "m go2"
      rename_i D4 hz9 Fz Nz _
      refine turned Fz Nz (fun q hq => List.mem_map_of_mem (List.mem_cons_of_mem _ hq)) ⟨by simp [hz4], fun i v p hv hp => ?_⟩
      rcases snoc_get hv with ⟨_, e⟩ | ⟨e, rfl⟩
      · obtain ⟨t, us', e1, e2, e3⟩ := hK4 i v p e hp
        exact ⟨t, us', e1, .tail _ e2, e3⟩
      · rw [hz4] at e
        subst e
        rw [hp4] at hp
        cases hp
        exact ⟨D4, us, rfl, .head _, hus⟩
    · rintro D nn h4 tk4 zs lz hDn ⟨hz4, hK4⟩ F4 N4
      have hvz : zs.length = ps.length := by rw [hz4]; simpa using hvl
      walk_at "m go2"
      rename_i pz hz9 Fz Nz _
      refine tab_turn2 Fz Nz (fun q hq => ?_) hT hps hy (.head _) fun h9 hin => ⟨D, zs, rfl, ⟨nn, hin _ (.tail _ (.head _))⟩, hvz, fun i v p hv hp => ?_⟩
      · exact .tail _ (.tail _ (List.mem_append_right _ hq))
      · obtain ⟨t, us, e1, e2, e3⟩ := hK4 i v p hv hp
        exact ⟨t, us, e1, tupO_tup (hin _ (.tail _ (.tail _ (List.mem_append_left _ (List.mem_append_left _ e2))))), e3 h9 fun q hq => hin q (List.mem_append_right _ hq)⟩
  · rintro D nn h4 tk4 ys ledN hDn ⟨hT, hy⟩ F4 N4
    have hT2 : TabK PartsAt rl R ys ledN := by
      have : R.take kvs.length = R := List.take_of_length_le (by omega)
      rw [this] at hT; exact hT
    have hsubl : ∀ q ∈ ledN, q ∈ ledN ++ [(L' + 1, c0)] := fun q hq => List.mem_append_left _ hq
    have hndf : (R.map (·.1)).Nodup := nd
    have hzf : R.length ≤ 1000 := by omega
    clear N' F'
    walk_at "m go2"
    exact hQ _ _ _ (off_pure (S := []) (by assumption)).1 (off_pure (S := []) (by assumption)).2 (table_fin (by assumption) (by assumption) (by assumption))
end S_TableC

-- Plain
abbrev Cell := Option (Int × Int)
abbrev MS := List (Int × (Int × (Int × Int)))
def orders : List (List Int) := [[1, 0, 2], [2, 0, 1], [1, 2, 0], [2, 1, 0], [0, 2, 1]]
def ordAt (σ : List Int) (n : Int) : Int := σ.getD n.toNat 0
def idxOf (σ : List Int) (s : Nat) : Nat := σ.findIdx (· = (s : Int))
def aboutC (σ : List Int) (p : List Cell) : List Cell := [p.getD (idxOf σ 0) none, p.getD (idxOf σ 1) none, p.getD (idxOf σ 2) none]
def aboutM (σ : List Int) (ms : MS) : MS := ms.map fun p => (p.1, (ordAt σ p.2.1, p.2.2))
def aboutR (σ : List Int) (R : RW0) : RW0 := R.map fun p => (p.1, p.2.map (aboutC σ))
theorem about_get {σ : List Int} (hσ : σ ∈ orders) {p : List Cell} (hp : p.length = 3) {n : Int} (h0 : 0 ≤ n) (h3 : n < 3) : (aboutC σ p)[(ordAt σ n).toNat]? = p[n.toNat]? := by
  match p, hp with
  | [x, y, z], _ =>
    have hn : n = 0 ∨ n = 1 ∨ n = 2 := by omega
    simp only [orders, List.mem_cons, List.not_mem_nil, or_false] at hσ
    rcases hσ with rfl | rfl | rfl | rfl | rfl <;> rcases hn with rfl | rfl | rfl <;> rfl
theorem ord_range {σ : List Int} (hσ : σ ∈ orders) {n : Int} (h0 : 0 ≤ n) (h3 : n < 3) : 0 ≤ ordAt σ n ∧ ordAt σ n < 3 := by
  have hn : n = 0 ∨ n = 1 ∨ n = 2 := by omega
  simp only [orders, List.mem_cons, List.not_mem_nil, or_false] at hσ
  rcases hσ with rfl | rfl | rfl | rfl | rfl <;> rcases hn with rfl | rfl | rfl <;> decide
theorem lookup_map {α β : Type} (f : α → β) (g : Int) : ∀ l : List (Int × α), (l.map fun p => (p.1, f p.2)).lookup g = (l.lookup g).map f
  | [] => rfl
  | (a, b) :: l => by
    rw [List.map_cons, List.lookup_cons, List.lookup_cons, lookup_map f g l]
    cases g == a <;> rfl
theorem aboutM_good {σ : List Int} (hσ : σ ∈ orders) {ms : MS} (h : GoodM ms) : GoodM (aboutM σ ms) := ⟨fun g m hm => by
  unfold aboutM at hm
  rw [lookup_map (fun p : Int × (Int × Int) => (ordAt σ p.1, p.2))] at hm
  cases q : ms.lookup g with
  | none => rw [q] at hm; cases hm
  | some v =>
    rw [q] at hm
    simp at hm
    subst hm
    have := h.rng g v q
    exact ord_range hσ this.1 this.2⟩
theorem tail_about {σ : List Int} (hσ : σ ∈ orders) {m : Int × (Int × Int)} (h0 : 0 ≤ m.1) (h3 : m.1 < 3) {p : List Cell} (hp : p.length = 3) (rs : List Rec) (at_ place : Nat) :
    tailD rs at_ place (ordAt σ m.1, m.2) (aboutC σ p) = tailD rs at_ place m p := by
  unfold tailD
  dsimp only
  rw [about_get hσ hp h0 h3]
def GoodR (R : RW0) : Prop := ∀ p ∈ R, p.2.length = 2 ∧ ∀ c ∈ p.2, c.length = 3
theorem lookup_mem {α : Type} {l : List (Int × α)} {g : Int} {a : α} (h : l.lookup g = some a) : (g, a) ∈ l := by
  induction l with
  | nil => cases h
  | cons p l ih =>
    obtain ⟨p1, p2⟩ := p
    rw [List.lookup_cons] at h
    cases q : g == p1 with
    | true =>
      rw [q] at h
      have : g = p1 := by simpa using q
      subst this
      cases h
      exact .head _
    | false => rw [q] at h; exact .tail _ (ih h)
theorem firsts_lookup (R : RW0) (g : Int) : (firsts R).lookup g = (R.lookup g).map fun ps => ps.getD 0 [] := lookup_map (fun ps : List (List Cell) => ps.getD 0 []) g R
theorem aboutR_lookup (σ : List Int) (R : RW0) (g : Int) : (aboutR σ R).lookup g = (R.lookup g).map fun ps => ps.map (aboutC σ) := lookup_map (fun ps : List (List Cell) => ps.map (aboutC σ)) g R
theorem aboutR_good {σ : List Int} {R : RW0} (h : GoodR R) : GoodR (aboutR σ R) := fun p hp => by
  obtain ⟨q, hq, rfl⟩ := List.mem_map.mp hp
  obtain ⟨a, b⟩ := h q hq
  refine ⟨by simpa using a, fun c hc => ?_⟩
  obtain ⟨c', _, rfl⟩ := List.mem_map.mp hc
  rfl
theorem aboutM_lookup (σ : List Int) (ms : MS) (g : Int) : (aboutM σ ms).lookup g = (ms.lookup g).map fun m => (ordAt σ m.1, m.2) := lookup_map (fun p : Int × (Int × Int) => (ordAt σ p.1, p.2)) g ms
theorem place_about {σ : List Int} (hσ : σ ∈ orders) {m : Int × (Int × Int)} (h0 : 0 ≤ m.1) (h3 : m.1 < 3) (rs : List Rec) (at_ : Nat) (place : Int) {f f' : Rec → Option (List Cell)} (hf : ∀ rp, f' rp = (f rp).map (aboutC σ)) (hl : ∀ rp p, f rp = some p → p.length = 3) :
    placeD rs at_ place (ordAt σ m.1, m.2) f' = placeD rs at_ place m f := by
  unfold placeD
  split
  · rfl
  · cases rs[place.toNat]? with
    | none => rfl
    | some rp =>
      dsimp only
      rw [hf rp]
      cases q : f rp with
      | none => rfl
      | some p => exact tail_about hσ h0 h3 (hl rp p q) rs at_ _
theorem firsts_about {σ : List Int} {R : RW0} (h : GoodR R) (g : Int) : (firsts (aboutR σ R)).lookup g = ((firsts R).lookup g).map (aboutC σ) := by
  rw [firsts_lookup, firsts_lookup, aboutR_lookup]
  cases q : R.lookup g with
  | none => rfl
  | some ps =>
    obtain ⟨a, _⟩ := h _ (lookup_mem q)
    dsimp only at a
    match ps, a with
    | [x, y], _ => rfl
theorem firsts_len {R : RW0} (h : GoodR R) {g : Int} {c : List Cell} (e : (firsts R).lookup g = some c) : c.length = 3 := by
  rw [firsts_lookup] at e
  cases q : R.lookup g with
  | none => rw [q] at e; cases e
  | some ps =>
    obtain ⟨a, b⟩ := h _ (lookup_mem q)
    dsimp only at a b
    rw [q] at e
    match ps, a, b, e with
    | [x, y], _, b, e =>
      simp at e
      subst e
      exact b x (.head _)
theorem base_about {σ : List Int} (hσ : σ ∈ orders) {ms : MS} (hm : GoodM ms) {R : RW0} (hR : GoodR R) (rs : List Rec) (at_ : Nat) : baseD (aboutM σ ms) (firsts (aboutR σ R)) rs at_ = baseD ms (firsts R) rs at_ := by
  unfold baseD
  cases rs[at_]? with
  | none => rfl
  | some r =>
    dsimp only
    rw [aboutM_lookup]
    cases q : ms.lookup r.glyph with
    | none => rfl
    | some m => exact place_about hσ (hm.rng _ _ q).1 (hm.rng _ _ q).2 rs at_ _ (fun rp => firsts_about hR rp.glyph) fun rp p e => firsts_len hR e
theorem mark_about {σ : List Int} (hσ : σ ∈ orders) {ms : MS} (hm : GoodM ms) {R : RW0} (hR : GoodR R) (rs : List Rec) (at_ : Nat) : markD (aboutM σ ms) (firsts (aboutR σ R)) rs at_ = markD ms (firsts R) rs at_ := by
  unfold markD
  cases rs[at_]? with
  | none => rfl
  | some r =>
    dsimp only
    rw [aboutM_lookup]
    cases q : ms.lookup r.glyph with
    | none => rfl
    | some m =>
      refine place_about hσ (hm.rng _ _ q).1 (hm.rng _ _ q).2 rs at_ _ (fun rp => ?_) fun rp p e => ?_
      · split
        · exact firsts_about hR rp.glyph
        · rfl
      · split at e
        · exact firsts_len hR e
        · cases e
theorem comp_about {σ : List Int} (hσ : σ ∈ orders) {ms : MS} (hm : GoodM ms) {R : RW0} (hR : GoodR R) (rs : List Rec) (at_ : Nat) : compD (aboutM σ ms) (aboutR σ R) rs at_ = compD ms R rs at_ := by
  unfold compD
  cases rs[at_]? with
  | none => rfl
  | some r =>
    dsimp only
    rw [aboutM_lookup]
    cases q : ms.lookup r.glyph with
    | none => rfl
    | some m =>
      refine place_about hσ (hm.rng _ _ q).1 (hm.rng _ _ q).2 rs at_ _ (fun rp => ?_) fun rp p e => ?_
      · rw [aboutR_lookup]
        cases q2 : R.lookup rp.glyph with
        | none => rfl
        | some ps =>
          simp only [Option.map_some, Option.bind_some, List.length_map, List.getElem?_map]
      · cases q2 : R.lookup rp.glyph with
        | none => rw [q2] at e; cases e
        | some ps =>
          rw [q2] at e
          simp at e
          exact (hR _ (lookup_mem q2)).2 _ (List.mem_of_getElem? e)

-- LawS
theorem rows_33 : True := by
  (k_with "m in" => first | assumption | exact List.Mem.head _ | (refine' List.Mem.tail _ ?_; walk_at "m in") | (refine' List.mem_append_left _ ?_; walk_at "m in") | (refine' List.mem_append_right _ ?_; walk_at "m in"))
  (k_with "m sub" => first | exact List.forall_mem_nil _ | (refine' List.forall_mem_cons.mpr (And.intro ?_ ?_); (next => walk_at "m in"); (next => walk_at "m sub")) | (refine' List.forall_mem_append.mpr (And.intro ?_ ?_); (next => walk_at "m sub"); (next => walk_at "m sub")) | (intro q hq; walk_at "m in"))
  trivial

abbrev lawScope : Scope := ⟨.function, [(Str.ofString "script", .local), (Str.ofString "pen", .cell), (Str.ofString "kind", .local), (Str.ofString "glyph", .local), (Str.ofString "marks", .cell), (Str.ofString "others", .local), (Str.ofString "rows", .local), (Str.ofString "order", .cell), (Str.ofString "marks_about", .local), (Str.ofString "rows_about", .local), (Str.ofString "plain", .local), (Str.ofString "other", .local), (Str.ofString "at", .local), (Str.ofString "infos", .local), (Str.ofString "one", .local), (Str.ofString "gdef", .local), (Str.ofString "_law_pen", .globalImplicit), (Str.ofString "_law_pick", .globalImplicit), (Str.ofString "dict", .globalImplicit), (Str.ofString "_law_table", .globalImplicit), (Str.ofString "range", .globalImplicit), (Str.ofString "_law_draw", .globalImplicit), (Str.ofString "Gdef", .globalImplicit), (Str.ofString "ClassDef", .globalImplicit), (Str.ofString "len", .globalImplicit), (Str.ofString "_law_seen", .globalImplicit)], false, false, [(Str.ofString "fast", .str (Str.ofString "script")), (Str.ofString "fast", .str (Str.ofString "pen")), (Str.ofString "fast", .str (Str.ofString "kind")), (Str.ofString "fast", .str (Str.ofString "glyph")), (Str.ofString "fast", .str (Str.ofString "marks")), (Str.ofString "fast", .str (Str.ofString "others")), (Str.ofString "fast", .str (Str.ofString "rows")), (Str.ofString "fast", .str (Str.ofString "order")), (Str.ofString "fast", .str (Str.ofString "marks_about")), (Str.ofString "fast", .str (Str.ofString "rows_about")), (Str.ofString "fast", .str (Str.ofString "row")), (Str.ofString "fast", .str (Str.ofString "spot")), (Str.ofString "fast", .str (Str.ofString "plain")), (Str.ofString "fast", .str (Str.ofString "other")), (Str.ofString "fast", .str (Str.ofString "at")), (Str.ofString "fast", .str (Str.ofString "infos")), (Str.ofString "fast", .str (Str.ofString "one")), (Str.ofString "fast", .str (Str.ofString "gdef"))]⟩
abbrev lawEnv (L a : Addr) (cd : Value) : Env := envOfC (Str.ofString "law") lawScope L a cd
def lawIx : Nat := 106
theorem law_is : ∃ x, stm lawIx = x ∧ (bdyOf x).length = 15 := ⟨_, rfl, by decide +kernel⟩
def lawSt (k : Nat) : Stmt := ((bdyOf (stm lawIx))[k]?).getD (.Pass default)
structure LS (w : World) (g : Heap) (L : Addr) (h : Heap) (ml : List (Str × Value)) (pen cells : Addr) (oc : Obj) (k : Nat) (mv ov : Option Value) (o c1 c2 c3 : Obj) (W : Led) : Prop where
  F : Fr g L h (mapL ml)
  N : News g L h ((pen, o) :: (L + 1, c1) :: (L + 2, c2) :: (L + 3, c3) :: W)
  P : PenS cells o k
  C : PenC g pen cells oc
  d1 : c1.data = .cell (some (.ref pen))
  d2 : c2.data = .cell mv
  d3 : c3.data = .cell ov
  ne : ∀ q ∈ W, q.1 ≠ pen ∧ q.1 ≠ L + 1 ∧ q.1 ≠ L + 2 ∧ q.1 ≠ L + 3
  np : pen ≠ L + 1 ∧ pen ≠ L + 2 ∧ pen ≠ L + 3
  cw : (cells, oc) ∈ W
inductive LSx (w : World) (g : Heap) (L : Addr) (s : Shared) (ml : List (Str × Value)) (pen cells : Addr) (oc : Obj) (k : Nat) (mv ov : Option Value) (W : Led) (s' : Shared) : Prop where
  | mk (h' : Heap) (tk : Nat) (o c1 c2 c3 : Obj) (e0 : s' = { s with heap := h', toks := tk }) (e1 : LS w g L h' ml pen cells oc k mv ov o c1 c2 c3 W) : LSx w g L s ml pen cells oc k mv ov W s'
theorem pick_use {w : World} {g : Heap} (G : Gr w g) {s : Shared} {L pen cells l : Addr} {m : Str → Option Value} {o oc : Obj} {k n : Nat} {vs : List Value} {rest : Led} {dp un : Nat} {fr : Option (List Env)} {gds : Option (List Code)} {Q E : Value → Shared → Prop} (hdep : dp + 5 < 900) (hun : un + 8 * 5 < 9000)
    (F : Fr g L s.heap m) (N : News g L s.heap ((pen, o) :: (l, PySem.W.listOf vs.toArray n) :: rest)) (PS : PenS cells o k) (PC : PenC g pen cells oc) (hl : l ≠ pen) (hne : ∀ q ∈ rest, q.1 ≠ pen) (hc : (cells, oc) ∈ rest) (hv0 : 0 < vs.length) (hv1 : vs.length < 100) (hk : k < 1000000)
    (kk : ∀ (i : Nat) r h' tk' o', vs[i]? = some r → Fr g L h' m → News g L h' ((pen, o') :: (l, PySem.W.listOf vs.toArray n) :: rest) → PenS cells o' (k + 1) → Q r { s with heap := h', toks := tk' }) :
    wpAny (model PRG w) { handled := none, depth := dp, frames := fr, guards := gds, units := un } (call (.ref 785) [.ref pen, .ref l]) Q E s :=
  useP (law_pick_c G pen cells l k vs hv0 hv1 hk) F N PS PC (fun q hq => (List.mem_cons.mp hq).elim (fun e => e ▸ hl) (hne q)) (N _ (.tail _ (.tail _ hc))).1 (fun _ _ e => e) (by omega) (by omega) (fun hid _ => ⟨n, (hid l hl).trans (N _ (.tail _ (.head _))).1⟩) fun r h' tk' o' F' N' PS' _ _ ⟨i, hi⟩ => kk i r h' tk' o' hi F' N' PS'
theorem ne_pen3 {g h : Heap} {L pen cells : Addr} {news : Led} {o : Obj} {k : Nat} (N : News g L h news) (hp : (pen, o) ∈ news) (P : PenS cells o k) : ∀ A : Led, (∀ q ∈ A, q ∈ news) → (∀ q ∈ A, q.2.cls ≠ .type "list") → ∀ q ∈ A, q.1 ≠ pen := fun A h1 h2 q hq => ne_pen N hp P (h1 q hq) (h2 q hq)
theorem mark_turn {g h : Heap} {C pen cells x dx pz pz2 : Addr} {s : Shared} {tk n i k' k2 : Nat} {m : Str → Option Value} {es : List DictEntry} {o1 o : Obj} {W1 : Led} {ys : List Value} {ms : MS} {gl d b : Int} {tg td t t' : Tok}
    (F : Fr g C h m) (N : News g C h ((pz2, tupO [.int gl tg, .ref pz]) :: (pz, tupO [.int d td, .ref x]) :: (x, instObj 342 dx) :: (dx, dictOf es n) :: (pen, o) :: W1)) (PS : PenS cells o k') (hk : k' ≤ k2) (hW : ∀ q ∈ W1, q.1 ≠ pen) (hy : ys.length = i) (T : TabG MarkW [] ms ys W1) (nm : Named es [(Str.ofString "x", .int b t), (Str.ofString "y", .int 1 t')]) (hd : 0 ≤ d ∧ d < 3)
    (hms : ∀ p ∈ ms, 0 ≤ p.2.1 ∧ p.2.1 < 3) {G6 : List Int} (hg : ms.map (·.1) = G6.take i) (hgl : G6[i]? = some gl) :
    Turned g C s ((pen, o1) :: W1) (fun l => Ex3 fun o1 W1 ms => An7 (l = (pen, o1) :: W1) (PenS cells o1 k2) ((∀ q ∈ W1, q.1 ≠ pen)) (TabG MarkW [] ms (ys ++ [Value.ref pz2]) W1) ((ys ++ [Value.ref pz2]).length = i + 1) ((∀ p ∈ ms, 0 ≤ p.2.1 ∧ p.2.1 < 3)) (ms.map (·.1) = G6.take (i + 1))) { s with heap := h, toks := tk } := by
  refine turned F (led2 := (pen, o) :: ([(pz2, tupO [.int gl tg, .ref pz]), (pz, tupO [.int d td, .ref x]), (x, instObj 342 dx), (dx, dictOf es n)] ++ W1)) (Mine.News.re N (by walk_at "m sub")) (pen_sub fun q hq => List.mem_append_right _ hq)
    ⟨o, _, ms ++ [(gl, (d, (b, 1)))], rfl, PS.le hk, fun q hq => ?_, ?_, by simp [hy], ?_, ?_⟩
  · rcases List.mem_append.mp hq with hq | hq
    · refine ne_pen3 N (.tail _ (.tail _ (.tail _ (.tail _ (.head _))))) PS [(pz2, tupO [.int gl tg, .ref pz]), (pz, tupO [.int d td, .ref x]), (x, instObj 342 dx), (dx, dictOf es n)] (fun q hq => ?_) (fun q hq => ?_) q hq
      · exact (by walk_at "m sub" : ∀ r ∈ _, r ∈ _) q hq
      · simp only [List.mem_cons, List.not_mem_nil, or_false] at hq
        rcases hq with rfl | rfl | rfl | rfl
        · exact fun e => absurd (Value.type.inj e) (by decide)
        · exact fun e => absurd (Value.type.inj e) (by decide)
        · exact fun e => by cases e
        · exact fun e => absurd (Value.type.inj e) (by decide)
    · exact hW q hq
  · refine T.snoc MarkW.mono (fun q hq => List.mem_append_right _ hq) (List.mem_append_left _ (.head _)) ⟨pz, td, .ref x, rfl, List.mem_append_left _ (List.mem_append_left _ (.tail _ (.head _))), fun h9 hin => ⟨x, t, t', rfl, has_led hin (List.mem_append_left _ (List.mem_append_left _ (.tail _ (.tail _ (.head _))))) (List.mem_append_left _ (List.mem_append_left _ (.tail _ (.tail _ (.tail _ (.head _)))))) nm⟩⟩
  · intro p hp
    rcases List.mem_append.mp hp with hp | hp
    · exact hms p hp
    · rw [List.mem_singleton.mp hp]; exact hd
  · rw [List.map_append, hg, take_succ_get hgl]; rfl
theorem ListsW.mono : MonoL ListsW := fun _ _ _ _ k x => let ⟨l, vs, n, a, b, c, d⟩ := x; ⟨l, vs, n, a, k _ b, c, fun i v p e f => let ⟨l2, us, n2, q1, q2, q3⟩ := d i v p e f; ⟨l2, us, n2, q1, k _ q2, q3.mono k⟩⟩
theorem fresh_ne {g h h' : Heap} {L pen : Addr} {o : Obj} {rest A : Led} (N : News g L h ((pen, o) :: rest)) (hb : ∀ p ∈ A, h.get? p.1 = none ∧ h'.get? p.1 = some p.2) : ∀ q ∈ A, q.1 ≠ pen := fun q hq e => by
  have z := (hb q hq).1
  rw [e, (N _ (.head _)).1] at z; cases z
theorem grow_p {g h h' : Heap} {L pen : Addr} {o : Obj} {m : Str → Option Value} {rest A : Led} (hb : ∀ p ∈ A, h.get? p.1 = none ∧ h'.get? p.1 = some p.2) (F : Fr g L h m) (N : News g L h' ((pen, o) :: rest)) : News g L h' ((pen, o) :: (A ++ rest)) :=
  Mine.News.re (grow F N hb) fun q hq => by
    rcases List.mem_cons.mp hq with rfl | hq
    · exact List.mem_append_right _ (.head _)
    · rcases List.mem_append.mp hq with hq | hq
      · exact List.mem_append_left _ hq
      · exact List.mem_append_right _ (.tail _ hq)
theorem app_ne {A B : Led} {c : Addr} (a : ∀ q ∈ A, q.1 ≠ c) (b : ∀ q ∈ B, q.1 ≠ c) : ∀ q ∈ A ++ B, q.1 ≠ c := fun q hq => (List.mem_append.mp hq).elim (a q) (b q)
theorem rows_turn {g h : Heap} {C pen cells l1 l2 lp pz : Addr} {s : Shared} {tk i k' k2 n1 n2 : Nat} {m : Str → Option Value} {o1 o : Obj} {W1 Wa Wb : Led} {ys vs1 vs2 : List Value} {R : RW0} {gl : Int} {tg : Tok} {c1 c2 : List Cell} {G6 : List Int}
    (F : Fr g C h m) (N : News g C h ((pz, tupO [.int gl tg, .ref lp]) :: (lp, PySem.W.listOf #[.ref l1, .ref l2] 0) :: (pen, o) :: (((l2, PySem.W.listOf vs2.toArray n2) :: Wb) ++ (((l1, PySem.W.listOf vs1.toArray n1) :: Wa) ++ W1)))) (PS : PenS cells o k') (hk : k' ≤ k2) (hW : ∀ q ∈ W1, q.1 ≠ pen) (hA : ∀ q ∈ (l1, PySem.W.listOf vs1.toArray n1) :: Wa, q.1 ≠ pen) (hB : ∀ q ∈ (l2, PySem.W.listOf vs2.toArray n2) :: Wb, q.1 ≠ pen) (hlp : lp ≠ pen)
    (hy : ys.length ≤ i) (T : TabG ListsW [] R ys W1) (hR : GoodR R) (hc1 : c1.length = 3) (hc2 : c2.length = 3) (S1 : Sup Wa (fun h => CellsAt h vs1 c1)) (S2 : Sup Wb (fun h => CellsAt h vs2 c2)) (hg : (R.map (·.1)).Sublist (G6.take i)) (hgl : G6[i]? = some gl) :
    Turned g C s ((pen, o1) :: W1) (fun l => Ex3 fun o1 W1 R => An7 (l = (pen, o1) :: W1) (PenS cells o1 k2) ((∀ q ∈ W1, q.1 ≠ pen)) (TabG ListsW [] R (ys ++ [Value.ref pz]) W1) ((ys ++ [Value.ref pz]).length ≤ i + 1) (GoodR R) ((R.map (·.1)).Sublist (G6.take (i + 1)))) { s with heap := h, toks := tk } := by
  refine turned F (led2 := (pen, o) :: ((pz, tupO [.int gl tg, .ref lp]) :: (lp, PySem.W.listOf #[.ref l1, .ref l2] 0) :: (((l2, PySem.W.listOf vs2.toArray n2) :: Wb) ++ (((l1, PySem.W.listOf vs1.toArray n1) :: Wa) ++ W1)))) (Mine.News.re N (by walk_at "m sub")) (pen_sub fun q hq => .tail _ (.tail _ (List.mem_append_right _ (List.mem_append_right _ hq))))
    ⟨o, _, R ++ [(gl, [c1, c2])], rfl, PS.le hk, ?_, ?_, by simp; omega, ?_, ?_⟩
  · refine ne_cons ?_ (ne_cons hlp (app_ne hB (app_ne hA hW)))
    exact ne_pen N (.tail _ (.tail _ (.head _))) PS (.head _) (fun e => absurd (Value.type.inj e) (by decide))
  · refine T.snoc ListsW.mono (fun q hq => .tail _ (.tail _ (List.mem_append_right _ (List.mem_append_right _ hq)))) (.head _) ⟨lp, [.ref l1, .ref l2], 0, rfl, List.mem_append_left _ (.tail _ (.head _)), rfl, fun j v p hv hp => ?_⟩
    match j, hv, hp with
    | 0, hv, hp =>
      cases hv; cases hp
      exact ⟨l1, vs1, n1, rfl, List.mem_append_left _ (.tail _ (.tail _ (List.mem_append_right _ (List.mem_append_left _ (.head _))))), S1.mono fun q hq => List.mem_append_left _ (.tail _ (.tail _ (List.mem_append_right _ (List.mem_append_left _ (.tail _ hq)))))⟩
    | 1, hv, hp =>
      cases hv; cases hp
      exact ⟨l2, vs2, n2, rfl, List.mem_append_left _ (.tail _ (.tail _ (List.mem_append_left _ (.head _)))), S2.mono fun q hq => List.mem_append_left _ (.tail _ (.tail _ (List.mem_append_left _ (.tail _ hq))))⟩
    | j + 2, hv, hp => simp at hv
  · intro p hp
    rcases List.mem_append.mp hp with hp | hp
    · exact hR p hp
    · rw [List.mem_singleton.mp hp]
      exact ⟨rfl, fun c hc => by
        simp only [List.mem_cons, List.not_mem_nil, or_false] at hc
        rcases hc with rfl | rfl
        · exact hc1
        · exact hc2⟩
  · rw [List.map_append, take_succ_get hgl]
    exact hg.append (List.Sublist.refl _)
def IntL (o : Obj) : Prop := ∃ a b c t u v, o = PySem.W.listOf #[.int a t, .int b u, .int c v] 0
theorem IntL.ne_pen {o : Obj} {cells : Addr} (x : IntL o) : ∀ a b t1 t2 n, o ≠ penL cells a b t1 t2 n := by
  obtain ⟨a, b, c, t, u, v, rfl⟩ := x
  intro a b t1 t2 n e
  cases e
theorem order_pick {w : World} {g : Heap} (G : Gr w g) {s : Shared} {L pen cells lo A1 A2 A3 A4 A5 : Addr} {m : Str → Option Value} {o oc c1 c2 c3 : Obj} {k : Nat} {W : Led} {dp un : Nat} {fr : Option (List Env)} {gds : Option (List Code)} {Q E : Value → Shared → Prop} {u1 u2 u3 u4 u5 u6 u7 u8 u9 v1 v2 v3 v4 v5 v6 : Tok} (hdep : dp + 5 < 900) (hun : un + 8 * 5 < 9000)
    (F : Fr g L s.heap m) (N : News g L s.heap ((lo, PySem.W.listOf #[.ref A1, .ref A2, .ref A3, .ref A4, .ref A5] 0) :: (A5, PySem.W.listOf #[.int 0 u1, .int 2 u2, .int 1 u3] 0) :: (A4, PySem.W.listOf #[.int 2 u4, .int 1 u5, .int 0 u6] 0) :: (A3, PySem.W.listOf #[.int 1 u7, .int 2 u8, .int 0 u9] 0) :: (A2, PySem.W.listOf #[.int 2 v1, .int 0 v2, .int 1 v3] 0) :: (A1, PySem.W.listOf #[.int 1 v4, .int 0 v5, .int 2 v6] 0) :: (pen, o) :: (L + 1, c1) :: (L + 2, c2) :: (L + 3, c3) :: W))
    (PS : PenS cells o k) (PC : PenC g pen cells oc) (hne : ∀ q ∈ W, q.1 ≠ pen) (hnp : pen ≠ L + 1 ∧ pen ≠ L + 2 ∧ pen ≠ L + 3) (hc : (cells, oc) ∈ W) (hk : k < 1000) (hlo : lo ≠ pen)
    (kk : ∀ (oa : Addr) (a0 a1 a2 : Int) (t0 t1 t2 : Tok) (B : Led) h' tk' o', (oa, PySem.W.listOf #[.int a0 t0, .int a1 t1, .int a2 t2] 0) ∈ B → [a0, a1, a2] ∈ orders → (∀ q ∈ B, q.1 = A1 ∨ q.1 = A2 ∨ q.1 = A3 ∨ q.1 = A4 ∨ q.1 = A5) → Fr g L h' m → News g L h' ((pen, o') :: (L + 1, c1) :: (L + 2, c2) :: (L + 3, c3) :: (B ++ W)) → PenS cells o' (k + 1) → Q (.ref oa) { s with heap := h', toks := tk' }) :
    wpAny (model PRG w) { handled := none, depth := dp, frames := fr, guards := gds, units := un } (call (.ref 785) [.ref pen, .ref lo]) Q E s := by
  have nl : ∀ {q : Addr × Obj}, q ∈ [(A5, PySem.W.listOf #[.int 0 u1, .int 2 u2, .int 1 u3] 0), (A4, PySem.W.listOf #[.int 2 u4, .int 1 u5, .int 0 u6] 0), (A3, PySem.W.listOf #[.int 1 u7, .int 2 u8, .int 0 u9] 0), (A2, PySem.W.listOf #[.int 2 v1, .int 0 v2, .int 1 v3] 0), (A1, PySem.W.listOf #[.int 1 v4, .int 0 v5, .int 2 v6] 0)] → q.1 ≠ pen := fun {q} hq => by
    refine ne_penO N (.tail _ (.tail _ (.tail _ (.tail _ (.tail _ (.tail _ (.head _))))))) PS (q := q) ?_ ?_
    · exact (by walk_at "m sub" : ∀ r ∈ _, r ∈ _) q hq
    · exact IntL.ne_pen ((List.forall_mem_cons.mpr ⟨⟨_, _, _, _, _, _, rfl⟩, List.forall_mem_cons.mpr ⟨⟨_, _, _, _, _, _, rfl⟩, List.forall_mem_cons.mpr ⟨⟨_, _, _, _, _, _, rfl⟩, List.forall_mem_cons.mpr ⟨⟨_, _, _, _, _, _, rfl⟩, List.forall_mem_cons.mpr ⟨⟨_, _, _, _, _, _, rfl⟩, List.forall_mem_nil _⟩⟩⟩⟩⟩ : ∀ r ∈ _, IntL r.2) q hq)
  refine pick_use G (n := 0) (vs := [.ref A1, .ref A2, .ref A3, .ref A4, .ref A5]) (rest := [(A5, PySem.W.listOf #[.int 0 u1, .int 2 u2, .int 1 u3] 0), (A4, PySem.W.listOf #[.int 2 u4, .int 1 u5, .int 0 u6] 0), (A3, PySem.W.listOf #[.int 1 u7, .int 2 u8, .int 0 u9] 0), (A2, PySem.W.listOf #[.int 2 v1, .int 0 v2, .int 1 v3] 0), (A1, PySem.W.listOf #[.int 1 v4, .int 0 v5, .int 2 v6] 0)] ++ ((L + 1, c1) :: (L + 2, c2) :: (L + 3, c3) :: W)) hdep hun F (Mine.News.re N fun q hq => ?_) PS PC hlo (app_ne (fun q hq => nl hq) (ne_cons hnp.1.symm (ne_cons hnp.2.1.symm (ne_cons hnp.2.2.symm hne)))) (List.mem_append_right _ (.tail _ (.tail _ (.tail _ hc)))) (by simp) (by simp) (by omega) fun i r h' tk' o' hi F5 N5 PS5 => ?_
  · exact (by walk_at "m sub" : ∀ r ∈ _, r ∈ _) q hq
  · have N6 : News g L h' ((pen, o') :: (L + 1, c1) :: (L + 2, c2) :: (L + 3, c3) :: ([(A5, PySem.W.listOf #[.int 0 u1, .int 2 u2, .int 1 u3] 0), (A4, PySem.W.listOf #[.int 2 u4, .int 1 u5, .int 0 u6] 0), (A3, PySem.W.listOf #[.int 1 u7, .int 2 u8, .int 0 u9] 0), (A2, PySem.W.listOf #[.int 2 v1, .int 0 v2, .int 1 v3] 0), (A1, PySem.W.listOf #[.int 1 v4, .int 0 v5, .int 2 v6] 0)] ++ W)) := Mine.News.re N5 (by walk_at "m sub")
    have hB : ∀ q ∈ [(A5, PySem.W.listOf #[.int 0 u1, .int 2 u2, .int 1 u3] 0), (A4, PySem.W.listOf #[.int 2 u4, .int 1 u5, .int 0 u6] 0), (A3, PySem.W.listOf #[.int 1 u7, .int 2 u8, .int 0 u9] 0), (A2, PySem.W.listOf #[.int 2 v1, .int 0 v2, .int 1 v3] 0), (A1, PySem.W.listOf #[.int 1 v4, .int 0 v5, .int 2 v6] 0)], q.1 = A1 ∨ q.1 = A2 ∨ q.1 = A3 ∨ q.1 = A4 ∨ q.1 = A5 := fun q hq => by
      exact (List.forall_mem_cons.mpr ⟨.inr (.inr (.inr (.inr rfl))), List.forall_mem_cons.mpr ⟨.inr (.inr (.inr (.inl rfl))), List.forall_mem_cons.mpr ⟨.inr (.inr (.inl rfl)), List.forall_mem_cons.mpr ⟨.inr (.inl rfl), List.forall_mem_cons.mpr ⟨.inl rfl, List.forall_mem_nil _⟩⟩⟩⟩⟩ : ∀ r ∈ _, r.1 = A1 ∨ r.1 = A2 ∨ r.1 = A3 ∨ r.1 = A4 ∨ r.1 = A5) q hq
    match i, hi with
    | 0, hi => cases hi; exact kk A1 1 0 2 v4 v5 v6 _ h' tk' o' (by walk_at "m in") (by decide) hB F5 N6 PS5
    | 1, hi => cases hi; exact kk A2 2 0 1 v1 v2 v3 _ h' tk' o' (by walk_at "m in") (by decide) hB F5 N6 PS5
    | 2, hi => cases hi; exact kk A3 1 2 0 u7 u8 u9 _ h' tk' o' (by walk_at "m in") (by decide) hB F5 N6 PS5
    | 3, hi => cases hi; exact kk A4 2 1 0 u4 u5 u6 _ h' tk' o' (by walk_at "m in") (by decide) hB F5 N6 PS5
    | 4, hi => cases hi; exact kk A5 0 2 1 u1 u2 u3 _ h' tk' o' (by walk_at "m in") (by decide) hB F5 N6 PS5
    | i + 5, hi => simp at hi
theorem fresh_apart {g h h' : Heap} {L : Addr} {news A : Led} (N : News g L h news) (hb : ∀ p ∈ A, h.get? p.1 = none ∧ h'.get? p.1 = some p.2) : ∀ q ∈ A, ∀ r ∈ news, q.1 ≠ r.1 := fun q hq r hr e => by
  have z := (hb q hq).1
  rw [e, (N r hr).1] at z; cases z
theorem growB {g h h' : Heap} {L : Addr} {m : Str → Option Value} {news A : Led} (hb : ∀ p ∈ A, h.get? p.1 = none ∧ h'.get? p.1 = some p.2) (F : Fr g L h m) (N : News g L h' news) : News g L h' (A ++ news) := grow F N hb
theorem ldL {M : Model} {A : Around} {E : Value → Shared → Prop} {s : Shared} {g : Heap} {L a : Addr} {m : Str → Option Value} {cd : Value} {x : Str} {pos : Pos} {v : Value} {Q : Value → Shared → Prop} (F : Fr g L s.heap m) (hv : m x = some v) (h : Q v s) (hl : (lawEnv L a cd).kindOf x = some .local) (hd : (x == ("__debug__" : Str)) = false := by decide) :
    wpAny M A (eval (.Name x pos) (lawEnv L a cd)) Q E s := wpAny_Name (wpAny_loadName_local rfl hl F.ns hv h) hd
theorem tables_fin {w : World} {g h' : Heap} {s : Shared} {L pen cells D tb tb2 : Addr} {o9 o oc c1 c2 c3 : Obj} {W A1 A2 : Led} {ml : List (Str × Value)} {k tk : Nat} {mv ov : Option Value} {P1 P2 : Heap → Prop}
    (F : Fr g L h' (fun y => if y = Str.ofString "plain" then some (Value.ref tb) else if y = Str.ofString "other" then some (Value.ref tb2) else mapL ml y))
    (N : News g L h' ((D, o9) :: (A2 ++ (A1 ++ ((pen, o) :: (L + 1, c1) :: (L + 2, c2) :: (L + 3, c3) :: W))))) (S1 : Sup (A1 ++ W) P1) (S2 : Sup (A2 ++ W) P2)
    (a1 : ∀ q ∈ A1, ∀ r ∈ (pen, o) :: (L + 1, c1) :: (L + 2, c2) :: (L + 3, c3) :: W, q.1 ≠ r.1) (a2 : ∀ q ∈ A2, ∀ r ∈ A1 ++ ((pen, o) :: (L + 1, c1) :: (L + 2, c2) :: (L + 3, c3) :: W), q.1 ≠ r.1)
    (PS : PenS cells o k) (PC : PenC g pen cells oc) (d1 : c1.data = .cell (some (.ref pen))) (d2 : c2.data = .cell mv) (d3 : c3.data = .cell ov) (hne : ∀ q ∈ W, q.1 ≠ pen ∧ q.1 ≠ L + 1 ∧ q.1 ≠ L + 2 ∧ q.1 ≠ L + 3) (hnp : pen ≠ L + 1 ∧ pen ≠ L + 2 ∧ pen ≠ L + 3) (hcw : (cells, oc) ∈ W) :
    ∃ W2, (∀ q ∈ W, q ∈ W2) ∧ Sup W2 P1 ∧ Sup W2 P2 ∧ LSx w g L s ((Str.ofString "plain", .ref tb) :: (Str.ofString "other", .ref tb2) :: ml) pen cells oc k mv ov W2 { s with heap := h', toks := tk } := by
  refine ⟨A2 ++ (A1 ++ W), fun q hq => List.mem_append_right _ (List.mem_append_right _ hq), S1.mono fun q hq => List.mem_append_right _ hq, S2.mono fun q hq => ?_, h', tk, o, c1, c2, c3, rfl, ?_, Mine.News.re N fun q hq => ?_, PS, PC, d1, d2, d3, ?_, hnp, List.mem_append_right _ (List.mem_append_right _ hcw)⟩
  · rcases List.mem_append.mp hq with hq | hq
    · exact List.mem_append_left _ hq
    · exact List.mem_append_right _ (List.mem_append_right _ hq)
  · exact Mine.Fr.cong F (funext fun y => by rw [mapL_cons, mapL_cons])
  · exact (by walk_at "m sub" : ∀ r ∈ _, r ∈ _) q hq
  · intro q hq
    rcases List.mem_append.mp hq with hq | hq
    · exact ⟨a2 q hq (pen, o) (List.mem_append_right _ (.head _)), a2 q hq (L + 1, c1) (List.mem_append_right _ (.tail _ (.head _))), a2 q hq (L + 2, c2) (List.mem_append_right _ (.tail _ (.tail _ (.head _)))), a2 q hq (L + 3, c3) (List.mem_append_right _ (.tail _ (.tail _ (.tail _ (.head _)))))⟩
    · rcases List.mem_append.mp hq with hq | hq
      · exact ⟨a1 q hq (pen, o) (.head _), a1 q hq (L + 1, c1) (.tail _ (.head _)), a1 q hq (L + 2, c2) (.tail _ (.tail _ (.head _))), a1 q hq (L + 3, c3) (.tail _ (.tail _ (.tail _ (.head _))))⟩
      · exact hne q hq
theorem pick_use2 {w : World} {hb g : Heap} (G : Gr w hb) (hs : hb.StaysIn g) {s : Shared} {L pen cells l : Addr} {m : Str → Option Value} {o oc : Obj} {k n : Nat} {vs : List Value} {rest : Led} {dp un : Nat} {fr : Option (List Env)} {gds : Option (List Code)} {Q E : Value → Shared → Prop} (hdep : dp + 5 < 900) (hun : un + 8 * 5 < 9000)
    (F : Fr g L s.heap m) (N : News g L s.heap ((pen, o) :: (l, PySem.W.listOf vs.toArray n) :: rest)) (PS : PenS cells o k) (PC : PenC hb pen cells oc) (hl : l ≠ pen) (hne : ∀ q ∈ rest, q.1 ≠ pen) (hc : s.heap.get? cells = some oc) (hv0 : 0 < vs.length) (hv1 : vs.length < 100) (hk : k < 1000000)
    (kk : ∀ (i : Nat) r h' tk' o', vs[i]? = some r → Fr g L h' m → News g L h' ((pen, o') :: (l, PySem.W.listOf vs.toArray n) :: rest) → PenS cells o' (k + 1) → Q r { s with heap := h', toks := tk' }) :
    wpAny (model PRG w) { handled := none, depth := dp, frames := fr, guards := gds, units := un } (call (.ref 785) [.ref pen, .ref l]) Q E s :=
  useP (law_pick_c G pen cells l k vs hv0 hv1 hk) F N PS PC (fun q hq => (List.mem_cons.mp hq).elim (fun e => e ▸ hl) (hne q)) hc hs (by omega) (by omega) (fun hid _ => ⟨n, (hid l hl).trans (N _ (.tail _ (.head _))).1⟩) fun r h' tk' o' F' N' PS' _ _ ⟨i, hi⟩ => kk i r h' tk' o' hi F' N' PS'

-- DLset
theorem rows_34 : True := by
  (k_with "m in" => first | assumption | exact List.Mem.head _ | (refine' List.Mem.tail _ ?_; walk_at "m in") | (refine' List.mem_append_left _ ?_; walk_at "m in") | (refine' List.mem_append_right _ ?_; walk_at "m in"))
  (k_with "m sub" => first | exact List.forall_mem_nil _ | (refine' List.forall_mem_cons.mpr (And.intro ?_ ?_); (next => walk_at "m in"); (next => walk_at "m sub")) | (refine' List.forall_mem_append.mpr (And.intro ?_ ?_); (next => walk_at "m sub"); (next => walk_at "m sub")) | (intro q hq; walk_at "m in"))
  trivial

theorem good_set {rs : List Rec} {i : Nat} {r r' : Rec} (h : Good rs) (hr : rs[i]? = some r) (h1 : r'.glyph = r.glyph) (h2 : r'.parent = r.parent) (h3 : r'.lig_part.natAbs < 1000) : Good (rs.set i r') := by
  have key : ∀ (P : Rec → Prop), (∀ (j : Nat) q, rs[j]? = some q → P q) → P r' → ∀ (j : Nat) q, (rs.set i r')[j]? = some q → P q := fun P hp hr' j q e => by
    rw [List.getElem?_set] at e
    by_cases c : i = j
    · subst c
      rw [if_pos rfl] at e
      split at e
      · cases e; exact hr'
      · cases e
    · rw [if_neg c] at e
      exact hp j q e
  exact ⟨key _ h.gl (by rw [h1]; exact h.gl i r hr), key _ h.par (by rw [h2]; exact h.par i r hr), key _ h.part h3⟩
def Bonds (rs : List Rec) : Prop := ∀ (i : Nat) r, rs[i]? = some r → PyData.strOk r.bond = true
def GoodB (rs : List Rec) : Prop := Good rs ∧ Bonds rs
theorem bonds_set {rs : List Rec} {i : Nat} {r' : Rec} (h : Bonds rs) (hr : PyData.strOk r'.bond = true) : Bonds (rs.set i r') := fun j q e => by
  rw [List.getElem?_set] at e
  by_cases c : i = j
  · subst c
    rw [if_pos rfl] at e
    split at e
    · cases e; exact hr
    · cases e
  · rw [if_neg c] at e
    exact h j q e
theorem goodB_set {rs : List Rec} {i : Nat} {r r' : Rec} (h : GoodB rs) (hr : rs[i]? = some r) (h1 : r'.glyph = r.glyph) (h2 : r'.parent = r.parent) (h3 : r'.lig_part.natAbs < 1000) (h4 : r'.bond = r.bond) : GoodB (rs.set i r') := ⟨good_set h.1 hr h1 h2 h3, bonds_set h.2 (by rw [h4]; exact h.2 i r hr)⟩
theorem good_snoc {rs : List Rec} {r : Rec} (h : Good rs) (hg : 0 ≤ r.glyph ∧ r.glyph ≤ 7) (hp : r.parent = 0) (hl : r.lig_part.natAbs < 1000) : Good (rs ++ [r]) := by
  refine ⟨fun i q e => ?_, fun i q e => ?_, fun i q e => ?_⟩ <;> rcases snoc_get e with ⟨_, e⟩ | ⟨_, rfl⟩
  · exact h.gl i q e
  · exact hg
  · exact h.par i q e
  · exact hp
  · exact h.part i q e
  · exact hl
theorem goodB_snoc {rs : List Rec} {r : Rec} (h : GoodB rs) (hg : 0 ≤ r.glyph ∧ r.glyph ≤ 7) (hp : r.parent = 0) (hl : r.lig_part.natAbs < 1000) (hb : PyData.strOk r.bond = true) : GoodB (rs ++ [r]) := ⟨good_snoc h.1 hg hp hl, fun i q e => by
  rcases snoc_get e with ⟨_, e⟩ | ⟨_, rfl⟩
  · exact h.2 i q e
  · exact hb⟩
theorem goodB_nil : GoodB [] := ⟨⟨fun i r h => by simp at h, fun i r h => by simp at h, fun i r h => by simp at h⟩, fun i r h => by simp at h⟩
theorem bonds_hang {b : Nat} {z : Int} {rs : List Rec} (h : Bonds rs) : ∀ n, Bonds (hangL rs b z n)
  | 0 => h
  | n + 1 => by
    have ih := bonds_hang (b := b) (z := z) h n
    unfold hangL
    split
    · rename_i r hr
      split
      · exact bonds_set ih (ih _ r hr)
      · exact ih
    · exact ih
theorem mark_ok : PyData.strOk (sN "mark") = true := by decide +kernel
theorem empty_ok : PyData.strOk (Str.ofString "") = true := by decide +kernel
theorem bonds_set_on {rs : List Rec} {a p : Nat} {own : Int × Int} {c : Option (Int × Int)} (h : Bonds rs) : Bonds (setD rs a p own c) := by
  unfold setD
  split
  · exact h
  · split
    · unfold hangD
      split
      · exact bonds_set h mark_ok
      · exact bonds_hang (bonds_set h mark_ok) _
    · exact h
theorem bonds_place {rs : List Rec} {a : Nat} {p : Int} {m : Int × (Int × Int)} {f : Rec → Option (List (Option (Int × Int)))} (h : Bonds rs) : Bonds (placeD rs a p m f).2 := by
  unfold placeD tailD
  repeat' split
  all_goals first
    | exact h
    | exact bonds_set_on h
theorem bonds_base {ms : MS} {bs : List (Int × List (Option (Int × Int)))} {rs : List Rec} {a : Nat} (h : Bonds rs) : Bonds (baseD ms bs rs a).2 := by
  unfold baseD
  repeat' split
  all_goals first
    | exact h
    | exact bonds_place h
theorem bonds_mark {ms : MS} {bs : List (Int × List (Option (Int × Int)))} {rs : List Rec} {a : Nat} (h : Bonds rs) : Bonds (markD ms bs rs a).2 := by
  unfold markD
  repeat' split
  all_goals first
    | exact h
    | exact bonds_place h
theorem bonds_comp {ms : MS} {bs : RW0} {rs : List Rec} {a : Nat} (h : Bonds rs) : Bonds (compD ms bs rs a).2 := by
  unfold compD
  repeat' split
  all_goals first
    | exact h
    | exact bonds_place h
theorem recs_lay : ∀ {rs : List Rec}, Bonds rs → PyData.canLayAll0 (rs.map recP) = true ∧ PyData.depthAll (rs.map recP) ≤ 10
  | [], _ => ⟨rfl, by decide⟩
  | r :: rs, h => by
    obtain ⟨a, b⟩ := recs_lay (rs := rs) fun i q e => h (i + 1) q (by simpa using e)
    have c := h 0 r rfl
    refine ⟨?_, ?_⟩
    · simp [List.map_cons, PyData.canLayAll0, recP, PyData.canLay0, c, a]
    · simp [List.map_cons, PyData.depthAll, recP, PyData.depth]
      omega
theorem seen_lay {q : Int} {rs : List Rec} (h : Bonds rs) : (seenP q rs).canLay0 = true ∧ (seenP q rs).depth ≤ 20 := by
  obtain ⟨a, b⟩ := recs_lay h
  refine ⟨?_, ?_⟩
  · simp [seenP, PyData.canLay0, PyData.canLayAll0, a]
  · simp [seenP, PyData.depth, PyData.depthAll]
    omega
theorem DL.put {xs : List (Addr × Addr)} {rs : List Rec} {dl : Led} (R : DL xs rs dl) {i : Nat} {dx : Addr} {r' : Rec} {t' : Nat → Tok} {es' : List DictEntry} {n : Nat} {x : Addr} (hx : xs[i]? = some (x, dx)) (Nm : Named es' (infoF r' t')) :
    DL xs (rs.set i r') (dl.set i (dx, dictOf es' n)) ∧ (dl.set i (dx, dictOf es' n)).map (·.1) = dl.map (·.1) := by
  have hi : i < xs.length := (List.getElem?_eq_some_iff.mp hx).1
  have hl : i < dl.length := by rw [R.dlen]; exact hi
  have hd : (dl.set i (dx, dictOf es' n)).map (·.1) = dl.map (·.1) := by
    apply List.ext_getElem?
    intro j
    rw [List.getElem?_map, List.getElem?_map, List.getElem?_set]
    by_cases e : i = j
    · subst e
      have := congrArg (fun l => l[i]?) R.dom
      simp [hl, hx] at this
      simp [hl, this]
    · simp [e]
  refine ⟨⟨hd.trans R.dom, by simpa using R.len, R.nod, fun j r p hr hp => ?_⟩, hd⟩
  rw [List.getElem?_set] at hr hp
  by_cases e : i = j
  · subst e
    rw [if_pos rfl] at hr hp
    split at hr
    · split at hp
      · cases hr; cases hp; exact ⟨t', es', n, rfl, Nm⟩
      · exact absurd hl (by assumption)
    · cases hr
  · rw [if_neg e] at hr hp
    exact R.at_ j r p hr hp
theorem ne_all {a : Addr} {q1 q2 q3 : Addr × Obj} {rest : Led} (h : a ≠ q1.1 ∧ a ≠ q2.1 ∧ a ≠ q3.1 ∧ ∀ p ∈ rest, a ≠ p.1) : ∀ p ∈ q1 :: q2 :: q3 :: rest, a ≠ p.1 := fun p hp => by
  rcases List.mem_cons.mp hp with rfl | hp
  · exact h.1
  · rcases List.mem_cons.mp hp with rfl | hp
    · exact h.2.1
    · rcases List.mem_cons.mp hp with rfl | hp
      · exact h.2.2.1
      · exact h.2.2.2 p hp
section
variable {prog : Program} {w : World} {A : Around} {E : Value → Shared → Prop} {s : Shared} {K : Frag} {g : Heap} {L x dx pen : Addr} {m : Str → Option Value} {o : Obj} {dl rest : Led} {xs : List (Addr × Addr)} {rs : List Rec} {r r' : Rec} {i : Nat} {name : Str} {v : Value}
theorem set_dl {Q : Unit → Shared → Prop} (F : Fr g L s.heap m) (X₀ : K.In g) (N : News g L s.heap ((pen, o) :: (dl ++ rest))) (R : DL xs rs dl) (hx : xs[i]? = some (x, dx)) (hr : rs[i]? = some r) (hxr : (x, instObj 135 dx) ∈ rest) (hp0 : ∀ q ∈ dl, q.1 ≠ pen) (hap : ∀ q ∈ dl, ∀ p ∈ rest, q.1 ≠ p.1)
    (hs : findIn K (.ref 135) "__setattr__" = some (some (.builtin "object.__setattr__"))) (hp : plainOver K 135 = true) (ht : takerIn K 135 name = some none) (hh : hasDictIn K 135 = true)
    (hf : ∀ t, ((infoF r t).lookup name).isSome = true ∧ ∃ t', putF name v (infoF r t) = infoF r' t')
    (h : ∀ h' dl', Fr g L h' m → News g L h' ((pen, o) :: (dl' ++ rest)) → DL xs (rs.set i r') dl' → (rs.set i r')[i]? = some r' → (∀ q ∈ dl', q.1 ≠ pen) → (∀ q ∈ dl', ∀ p ∈ rest, q.1 ≠ p.1) → Q () { s with heap := h', toks := s.toks + 2 }) :
    wpAny (model prog w) A (setAttr (.ref x) name v) Q E s := by
  have hdl : i < dl.length := by rw [R.dlen]; exact (List.getElem?_eq_some_iff.mp hx).1
  have nd : (dl.map (·.1)).Nodup := by rw [R.dom]; exact R.nod
  have e1 : (dl[i]).1 = dx := by
    have := congrArg (fun l => l[i]?) R.dom
    simp [hdl, hx] at this
    exact this
  obtain ⟨t, es, n, e2, d⟩ := R.at_ i r dl[i] hr (by simp [hdl])
  have b : dl[i]? = some (dx, dictOf es n) := by rw [List.getElem?_eq_getElem hdl]; exact congrArg some (Prod.ext e1 e2)
  have c : (dx, dictOf es n) ∈ dl := List.mem_of_getElem? b
  obtain ⟨l1, t', l2⟩ := hf t
  obtain ⟨N1, N2, N3⟩ := named_put (v := v) (key := .str name (s.toks + 1)) (hsh := PyData.keyHash w.params name) d l1
  have N' : News g L s.heap (dl ++ ((pen, o) :: rest)) := Mine.News.re N (by walk_at "m sub")
  have hzl : es.length ≤ 100 := by
    have : ∀ {es : List DictEntry} {fs : List (Str × Value)}, Named es fs → es.length = fs.length := fun {es fs} z => by
      induction z with
      | nil => rfl
      | cons _ _ _ _ _ ih => simp [ih]
    rw [this d]; simp [infoF]
  have hxs := (N' _ (List.mem_append_right _ (.tail _ hxr))).1
  have hds := (N' _ (List.mem_append_left _ c)).1
  have hne : ∀ q ∈ (pen, o) :: rest, q.1 ≠ dx := fun q hq => by
    rcases List.mem_cons.mp hq with rfl | hq
    · exact (hp0 _ c).symm
    · exact (hap _ c q hq).symm
  refine set_dict (ox := instObj 135 dx) F X₀ N' ⟨hxs, rfl, rfl, hds⟩ rfl hs hp ht hh (by rw [named_get d name]; simpa using l1) rfl (n' := putN name es n) (by rw [putN_le _ _ _ N3]; exact upd_at hne nd b) (by rw [N2]; omega) fun h' F' N9 => ?_
  obtain ⟨D9, M9⟩ := R.put hx (r' := r') (t' := t') (n := n) (by rw [← l2]; exact N1)
  have dom : ∀ {P : Addr → Prop}, (∀ q ∈ dl, P q.1) → ∀ q ∈ dl.set i (dx, dictOf _ n), P q.1 := fun hP q hq => by
    have hm := List.mem_map_of_mem (f := (·.1)) hq
    rw [M9] at hm
    obtain ⟨p, hp, e⟩ := List.mem_map.mp hm
    rw [← e]; exact hP p hp
  exact h h' _ F' (Mine.News.re N9 (by walk_at "m sub")) D9 (by rw [List.getElem?_set]; simp [(List.getElem?_eq_some_iff.mp hr).1]) (dom (P := fun a => a ≠ pen) hp0) (dom (P := fun a => ∀ p ∈ rest, a ≠ p.1) hap)
theorem set_dl4 {Q : Unit → Shared → Prop} {q1 q2 q3 : Addr × Obj} (F : Fr g L s.heap m) (X₀ : K.In g) (N : News g L s.heap ((pen, o) :: q1 :: q2 :: q3 :: (dl ++ rest))) (R : DL xs rs dl) (hx : xs[i]? = some (x, dx)) (hr : rs[i]? = some r) (hxr : (x, instObj 135 dx) ∈ rest) (hap : ∀ q ∈ dl, q.1 ≠ pen ∧ q.1 ≠ q1.1 ∧ q.1 ≠ q2.1 ∧ q.1 ≠ q3.1 ∧ ∀ p ∈ rest, q.1 ≠ p.1)
    (hs : findIn K (.ref 135) "__setattr__" = some (some (.builtin "object.__setattr__"))) (hp : plainOver K 135 = true) (ht : takerIn K 135 name = some none) (hh : hasDictIn K 135 = true)
    (hf : ∀ t, ((infoF r t).lookup name).isSome = true ∧ ∃ t', putF name v (infoF r t) = infoF r' t')
    (h : ∀ h' dl', Fr g L h' m → News g L h' ((pen, o) :: q1 :: q2 :: q3 :: (dl' ++ rest)) → DL xs (rs.set i r') dl' → (rs.set i r')[i]? = some r' → (∀ q ∈ dl', q.1 ≠ pen ∧ q.1 ≠ q1.1 ∧ q.1 ≠ q2.1 ∧ q.1 ≠ q3.1 ∧ ∀ p ∈ rest, q.1 ≠ p.1) → Q () { s with heap := h', toks := s.toks + 2 }) :
    wpAny (model prog w) A (setAttr (.ref x) name v) Q E s := by
  refine set_dl (pen := pen) (o := o) (rest := q1 :: q2 :: q3 :: rest) F X₀ (Mine.News.re N (by walk_at "m sub")) R hx hr (.tail _ (.tail _ (.tail _ hxr))) (fun q hq => (hap q hq).1) (fun q hq => ne_all (hap q hq).2) hs hp ht hh hf fun h' dl' F' N' R' H' p' a' => h h' dl' F' (Mine.News.re N' (by walk_at "m sub")) R' H' fun q hq => ⟨p' q hq, a' q hq q1 (.head _), a' q hq q2 (.tail _ (.head _)), a' q hq q3 (.tail _ (.tail _ (.head _))), fun p hp => a' q hq p (.tail _ (.tail _ (.tail _ hp)))⟩
end

-- RowsAb
theorem ord_index {a0 a1 a2 : Int} {t0 t1 t2 : Tok} {i : Nat} (hσ : [a0, a1, a2] ∈ orders) (hi : i < 3) : kf_at (i : Int) [.int a0 t0, .int a1 t1, .int a2 t2] = some (idxOf [a0, a1, a2] i) ∧ idxOf [a0, a1, a2] i < 3 := by
  simp only [orders, List.mem_cons, List.not_mem_nil, or_false, List.cons.injEq, and_true] at hσ
  have h3 : i = 0 ∨ i = 1 ∨ i = 2 := by omega
  rcases hσ with ⟨rfl, rfl, rfl⟩ | ⟨rfl, rfl, rfl⟩ | ⟨rfl, rfl, rfl⟩ | ⟨rfl, rfl, rfl⟩ | ⟨rfl, rfl, rfl⟩ <;> rcases h3 with rfl | rfl | rfl <;> exact ⟨rfl, by decide⟩
theorem about_cells {h : Heap} {us ys : List Value} {p : List (Option (Int × Int))} {σ : List Int} (hp : p.length = 3) (hC : CellsAt h us p) (hy : ys.length = 3) (hx : ∀ j, j < 3 → idxOf σ j < 3) (hk : ∀ j, j < 3 → ys[j]? = us[idxOf σ j]?) : CellsAt h ys (aboutC σ p) := by
  refine ⟨by rw [hy]; rfl, fun i v c hv hc => ?_⟩
  have hi : i < 3 := by
    have := (List.getElem?_eq_some_iff.mp hv).1
    omega
  rw [hk i hi] at hv
  refine hC.2 (idxOf σ i) v c hv ?_
  have e : (aboutC σ p)[i]? = some (p.getD (idxOf σ i) none) := by
    match i, hi with
    | 0, _ => rfl
    | 1, _ => rfl
    | 2, _ => rfl
  rw [e] at hc
  rw [← Option.some.inj hc, List.getD_eq_getElem?_getD, List.getElem?_eq_getElem (by rw [hp]; exact hx i hi)]
  rfl
def RowsK (W : Led) (σ : List Int) (ps : List (List (Option (Int × Int)))) (i : Nat) (ys : List Value) (l : Led) : Prop := ys.length = i ∧ ∀ (j : Nat) v p, ys[j]? = some v → ps[j]? = some p → ∃ l2 us n2, v = .ref l2 ∧ (l2, listOf (List.toArray us) n2) ∈ l ∧ Sup W (fun h => CellsAt h us (aboutC σ p))
theorem RowsK.snoc {W l : Led} {σ : List Int} {ps : List (List (Option (Int × Int)))} {i n2 : Nat} {ys us : List Value} {D : Addr} (x : RowsK W σ ps i ys l) (h : ∀ p, ps[i]? = some p → Sup W (fun h => CellsAt h us (aboutC σ p))) : RowsK W σ ps (i + 1) (ys ++ [.ref D]) ((D, listOf (List.toArray us) n2) :: l) := by
  obtain ⟨hl, hk⟩ := x
  refine ⟨by simp [hl], fun j v p hv hp => ?_⟩
  rcases snoc_get hv with ⟨_, e⟩ | ⟨rfl, rfl⟩
  · obtain ⟨l2, us2, n3, a, b, c⟩ := hk j v p e hp
    exact ⟨l2, us2, n3, a, .tail _ b, c⟩
  · exact ⟨D, us, n2, rfl, .head _, h p (hl ▸ hp)⟩
theorem RowsK.lists {W l A : Led} {σ : List Int} {ps : List (List (Option (Int × Int)))} {ys : List Value} {D nn : Nat} (x : RowsK W σ ps ps.length ys l) (hD : (D, listOf (List.toArray ys) nn) ∈ A) (hl : ∀ q ∈ l, q ∈ A) (hW : ∀ q ∈ W, q ∈ A) : ListsW A (.ref D) (ps.map (aboutC σ)) :=
  ⟨D, ys, nn, rfl, hD, by simp [x.1], fun i v p hv hp => by
    rw [List.getElem?_map] at hp
    cases e : ps[i]? with
    | none => rw [e] at hp; cases hp
    | some p0 =>
      rw [e] at hp
      cases hp
      obtain ⟨l2, us, n2, a, b, c⟩ := x.2 i v p0 hv e
      exact ⟨l2, us, n2, a, hl _ b, c.mono hW⟩⟩
def RowsJ (w : World) (A : Led) (od : Obj) (R : RW0) : Prop := ∃ kvs : List (Int × Value), od.IsDictOf (PySem.intKind PRG w) kvs ∧ kvs.map (·.1) = R.map (·.1) ∧ ∀ (i : Nat) (v : Value) (ps : List (List (Option (Int × Int)))), (kvs[i]?).map (fun x => x.2) = some v → (R[i]?).map (fun x => x.2) = some ps → ListsW A v ps
theorem stored_new {kvs : List (Int × Value)} {k : Int} {v : Value} (h : k ∉ kvs.map (·.1)) : stored kvs k v = kvs ++ [(k, v)] := by
  unfold stored
  rw [if_neg]
  intro hany
  obtain ⟨q, hq, e⟩ := List.any_eq_true.mp hany
  exact h (List.mem_map.mpr ⟨q, hq, of_decide_eq_true e⟩)
theorem rows_snoc {kvs : List (Int × Value)} {R : RW0} {A A' : Led} {k : Int} {x : Value} {a : List (List (Option (Int × Int)))} (h1 : kvs.map (·.1) = R.map (·.1)) (h2 : ∀ (i : Nat) (v : Value) (ps : List (List (Option (Int × Int)))), (kvs[i]?).map (fun x => x.2) = some v → (R[i]?).map (fun x => x.2) = some ps → ListsW A v ps) (sub : ∀ q ∈ A, q ∈ A') (hS : ListsW A' x a) :
    (kvs ++ [(k, x)]).map (·.1) = (R ++ [(k, a)]).map (·.1) ∧ ∀ (i : Nat) (v : Value) (ps : List (List (Option (Int × Int)))), ((kvs ++ [(k, x)])[i]?).map (fun x => x.2) = some v → ((R ++ [(k, a)])[i]?).map (fun x => x.2) = some ps → ListsW A' v ps := by
  have hl : kvs.length = R.length := by have := congrArg List.length h1; simpa using this
  refine ⟨by simp [h1], fun j v b hv hb => ?_⟩
  rw [← List.getElem?_map, List.map_append] at hv hb
  rcases snoc_get hv with ⟨_, e⟩ | ⟨hj, e⟩
  · rcases snoc_get hb with ⟨_, e'⟩ | ⟨hj', _⟩
    · exact ListsW.mono _ _ _ _ sub (h2 j v b (by rw [← List.getElem?_map]; exact e) (by rw [← List.getElem?_map]; exact e'))
    · have := (List.getElem?_eq_some_iff.mp e).1
      simp at this hj'
      omega
  · rcases snoc_get hb with ⟨_, e'⟩ | ⟨_, e'⟩
    · have := (List.getElem?_eq_some_iff.mp e').1
      simp at this hj
      omega
    · have e1 : x = v := e
      have e2 : a = b := e'
      rw [← e1, ← e2]; exact hS
theorem sup_mem {w : World} {W : Led} {d : Addr} {kvs : List (Int × Value)} {h : Heap} (x : Sup W (fun h => DictI w h d kvs)) (hW : ∀ q ∈ W, h.get? q.1 = some q.2) : ∃ o, h.get? d = some o ∧ (d, o) ∈ W := by
  refine Classical.byContradiction fun hno => ?_
  have hd : ∀ q ∈ W, q.1 ≠ d := fun q hq e => hno ⟨q.2, e ▸ hW q hq, e ▸ hq⟩
  have := x (hideAll h [d]) fun q hq => hideAll_get _ (hW q hq) (by simpa using hd q hq)
  obtain ⟨_, _, _, e, _⟩ := this.2
  rw [hideAll_none _ (by simp)] at e
  cases e
section
variable {w : World} {A : Around} {E : Value → Shared → Prop} {s : Shared}
theorem set_pairs {g : Heap} {L d : Addr} {m : Str → Option Value} {o : Obj} {news : Led} {kvs : List (Int × Value)} {k : Int} {t : Tok} {v : Value} {Q : Unit → Shared → Prop} (F : Fr g L s.heap m) (N : News g L s.heap news) (hm : (d, o) ∈ news) (hd : o.IsDictOf (PySem.intKind PRG w) kvs) (hz : kvs.length ≤ 1000) (hk : k ∉ kvs.map (·.1))
    (h : ∀ h' o', Fr g L h' m → (∀ rest : Led, (∀ q ∈ rest, q ∈ news ∧ q.1 ≠ d) → News g L h' ((d, o') :: rest)) → o'.IsDictOf (PySem.intKind PRG w) (kvs ++ [(k, v)]) → Q () { s with heap := h', toks := s.toks + 1 }) :
    wpAny (model PRG w) A (setItem (.ref d) (.int k t) v) Q E s := by
  have hmm := N (d, o) hm
  refine wpAny_setItem_pairs (hsz := by rw [sizeLine_eq]; omega) (intKind_at w k t) (Heap.dictOf_iff.mpr ⟨o, hmm.1, hd⟩) fun h' hmd hs => ?_
  obtain ⟨o', ho', hd'⟩ := Heap.dictOf_iff.mp hmd
  rw [stored_new hk] at hd'
  refine h h' o' (F.change hs hmm.2.1 hmm.2.2) (fun rest hr q hq => ?_) hd'
  rcases List.mem_cons.mp hq with rfl | hq
  · exact ⟨ho', hmm.2⟩
  · exact ⟨hs.extBut _ _ (hr q hq).2 (N q (hr q hq).1).1, (N q (hr q hq).1).2⟩
theorem di_item_h {d : Addr} {kvs : List (Int × Value)} {k : Int} {t : Tok} {v : Value} {value slice : Expr} {Q : Value → Shared → Prop} {g : Heap} {L : Addr} {m : Str → Option Value} {news W : Led} (_F : Fr g L s.heap m) (N : News g L s.heap news) (D : Sup W (fun h => DictI w h d kvs)) (hW : ∀ q ∈ W, q ∈ news) (hl : valueAt kvs k = some v) (h : Q v { s with toks := s.toks + 1 })
    (hs : subscripted slice false (.ref d) (.int k t) = operate [.ref d, .int k t] (getItem (.ref d) (.int k t)) := by with_unfolding_all rfl) : wpAny (model PRG w) A (subscriptTail value slice (.ref d) (.int k t)) Q E s :=
  have hD := (D.news N hW).2
  tail_any hD.typeIs slot_dict_getitem.lookup (wpAny_getItem_of (intKind_at w k t) hD.mapOf hl h) hs
theorem gi_method {prog : Program} {g : Heap} {L l : Addr} {m : Str → Option Value} {vs : List Value} {pl : Sem Bool} {Q : Value × List Value → Shared → Prop} (F : Fr g L s.heap m) (H : IsL g l vs) (h : Q (.builtin "list.index", [.ref l]) s) : wpAny (model prog w) A (getMethod (.ref l) "index" pl) Q E s := by
  obtain ⟨n, hn⟩ := H
  have e := F.keep _ _ hn
  exact getMethod_builtin ⟨_, e, rfl⟩ PySem.F.plainAttrs_list PySem.F.slot_list_index PySem.F.type_list_index (fun a q => by cases q; exact ⟨_, e, rfl⟩) h
theorem gi_index {prog : Program} {g : Heap} {L l : Addr} {m : Str → Option Value} {vs : List Value} {k : Int} {t : Tok} {j : Nat} {Q : Value → Shared → Prop} (F : Fr g L s.heap m) (H : IsL g l vs) (hi : kf_ints vs = true) (e : kf_at k vs = some j) (hz : vs.length ≤ 1000) (h : Q (.int j s.toks) { s with toks := s.toks + 1 }) :
    wpAny (model prog w) A (call (.builtin "list.index") [.ref l, .int k t]) Q E s := by
  obtain ⟨n, hn⟩ := H
  have e2 := F.keep _ _ hn
  obtain ⟨a, b, c⟩ := kf_at_spec e
  refine call_meets PySem.F.slot_list_index ⟨_, e2, rfl⟩ PySem.F.entry_list_index (PySem.F.args_list_index_2 _ _)
    (MeetsSeq.list_index l vs.toArray n (.int k t) (isInt k) (fun y hy => kf_eq hi y (by simpa using hy)) j (by simpa using a) (by omega) (by simpa using b) (fun i hi hlt => (by simpa using c i (by omega) hlt))) ⟨e2, h⟩
end

section S_Law1
theorem rows_35 : True := by
  (k_with "call ref" => (k_here; (with_reducible show wpAny _ _ (call (Value.ref 771) _) _ _ _); k_dflt ((refine' use1 (law_pen_c (by assumption) _ _ _ (by assumption) (by assumption)) ?z131k1 ?z131kN ?z131k2 ?z131k3 ?z131k4 ?z131k5 ?_); (case z131k1 => k_asm); (case z131kN => k_asm); (case z131k2 => assumption); (case z131k5 => walk_at "m pre"); (case z131k3 => walk_at "m dep"); (case z131k4 => walk_at "m dep"); intro _ _ _ _ N' _ _ post'; obtain ⟨p9, c9, o9, oc9, e0, hz9, co9, ps9, ne9⟩ := post'; subst e0; have N9 := grow (led := [(p9, o9), (c9, oc9)]) (by assumption) N' hz9; clear N'; skip; (try dsimp only); revert p9 c9 o9 oc9 hz9 co9 ps9 ne9 N9; intros)))
  trivial

theorem law_1 {w : World} {g : Heap} (G : Gr w g) (L a sc : Addr) (cd : Value) (vs : List Value) (ns : List Int) (hi : IntsAre vs ns) (hvl : vs.length ≤ 63) (hl : g.IsList sc vs.toArray) {c1 c2 c3 : Obj} (d1 : c1.data = .cell none) (d2 : c2.data = .cell none) (d3 : c3.data = .cell none)
    {dp un : Nat} {fr : Option (List Env)} {gds : Option (List Code)} {s : Shared} (hdep : dp + 40 < 900) (hun : un + 8 * 40 < 9000) (F' : Fr g L s.heap (mapL [(Str.ofString "script", .ref sc)])) (N' : News g L s.heap [(L + 3, c3), (L + 2, c2), (L + 1, c1)]) (Q : Flow → Shared → Prop) (E : Value → Shared → Prop) :
    wpAny (model PRG w) { handled := none, depth := dp, frames := fr, guards := gds, units := un } (exec (lawSt 0) (lawEnv L a cd)) (fun fl s' => match fl with | .next => Bx (Ex4 fun pen cells oc W => LSx w g L s [(Str.ofString "script", .ref sc)] pen cells oc 0 none none W s') | fl => Q fl s') E s := by
  obtain ⟨p, loose, mean, mg, mb, X', T'⟩ := id G
  have hs : g.StaysIn g := fun _ _ e => e
  have hl2 : s.heap.IsList sc vs.toArray := hl.at fun o e => F'.keep _ _ e
  (with_unfolding_all show wpAny _ _ (exec (Stmt.Assign _ _ _) _) _ _ _)
  walk_at "m go2"
  rename_i h9 tk9 F9 st9 dm9 p9 c9 o9 oc9 hz9 co9 ps9 ne9 N9
  have hp9 := (hz9 _ (.head _)).1
  have hc9 := (hz9 _ (.tail _ (.head _))).1
  have m1 : (L + 1, c1) ∈ [(L + 3, c3), (L + 2, c2), (L + 1, c1)] := .tail _ (.tail _ (.head _))
  have m2 : (L + 2, c2) ∈ [(L + 3, c3), (L + 2, c2), (L + 1, c1)] := .tail _ (.head _)
  have m3 : (L + 3, c3) ∈ [(L + 3, c3), (L + 2, c2), (L + 1, c1)] := .head _
  have pn : ∀ b, s.heap.get? b = none → b ≠ L + 1 ∧ b ≠ L + 2 ∧ b ≠ L + 3 := fun b hb => ⟨(cells_ne N' m1 hb).symm, (cells_ne N' m2 hb).symm, (cells_ne N' m3 hb).symm⟩
  have gn : ∀ b, s.heap.get? b = none → g.get? b = none := fun b hb => by
    cases q : g.get? b with
    | none => rfl
    | some o => rw [F'.keep _ _ q] at hb; cases hb
  refine store_cell F9 N9 (c := L + 1) rfl (List.mem_append_right _ m1) d1 (fun h' o' F5 N5 d5 => ?_) rfl rfl
  refine ⟨⟨p9, c9, oc9, [(c9, oc9)], h', _, o9, o', c2, c3, rfl, ⟨F5, ?_, ps9, ⟨co9, gn _ hp9, gn _ hc9, ne9⟩, d5, d2, d3, ?_, pn _ hp9, .head _⟩⟩⟩
  · refine Mine.News.re (N5 ((p9, o9) :: (L + 2, c2) :: (L + 3, c3) :: [(c9, oc9)]) fun q hq => ?_) (by walk_at "m sub")
    simp only [List.mem_cons, List.not_mem_nil, or_false] at hq
    rcases hq with rfl | rfl | rfl | rfl
    · exact ⟨.head _, (pn _ hp9).1⟩
    · exact ⟨List.mem_append_right _ m2, by simp⟩
    · exact ⟨List.mem_append_right _ m3, by simp⟩
    · exact ⟨.tail _ (.head _), (pn _ hc9).1⟩
  · intro q hq
    rw [List.mem_singleton.mp hq]
    exact ⟨ne9.symm, pn _ hc9⟩
end S_Law1

section S_Law2
theorem law_2 {w : World} {g : Heap} (G : Gr w g) {L a sc pen cells : Addr} {oc o c1 c2 c3 : Obj} {W : Led} {cd : Value}
    {dp un : Nat} {fr : Option (List Env)} {gds : Option (List Code)} {s : Shared} (hdep : dp + 40 < 900) (hun : un + 8 * 40 < 9000) (S : LS w g L s.heap [(Str.ofString "script", .ref sc)] pen cells oc 0 none none o c1 c2 c3 W) (Q : Flow → Shared → Prop) (E : Value → Shared → Prop) :
    wpAny (model PRG w) { handled := none, depth := dp, frames := fr, guards := gds, units := un } (exec (lawSt 1) (lawEnv L a cd)) (fun fl s' => match fl with | .next => Bx (Ex2 fun kd tk => (kd = "base" ∨ kd = "component" ∨ kd = "mark") ∧ LSx w g L s [(Str.ofString "kind", .str (sN kd) tk), (Str.ofString "script", .ref sc)] pen cells oc 1 none none W s') | fl => Q fl s') E s := by
  obtain ⟨p, loose, mean, mg, mb, X', T'⟩ := id G
  have hs : g.StaysIn g := fun _ _ e => e
  obtain ⟨F', N', PS, PC, d1, d2, d3, hne, hnp, hcw⟩ := S
  (with_unfolding_all show wpAny _ _ (exec (Stmt.Assign _ _ _) _) _ _ _)
  walk_at "m go2"
  rename_i l9 h9 F9 N9 l19
  have hl9 : l9 ≠ pen := fun e => by have z := l19.1; rw [e] at z; exact Nat.lt_irrefl _ z
  have hl1 : l9 ≠ L + 1 ∧ l9 ≠ L + 2 ∧ l9 ≠ L + 3 := ⟨fun e => by have z := l19.2.1; rw [e] at z; exact Nat.lt_irrefl _ z, fun e => by have z := l19.2.2.1; rw [e] at z; exact Nat.lt_irrefl _ z, fun e => by have z := l19.2.2.2.1; rw [e] at z; exact Nat.lt_irrefl _ z⟩
  refine pick_use G (n := 0) (vs := [.str (Str.ofString "base") s.toks, .str (Str.ofString "component") (s.toks + 1), .str (Str.ofString "mark") (s.toks + 1 + 1)]) (rest := (L + 1, c1) :: (L + 2, c2) :: (L + 3, c3) :: W) (by omega) (by omega) F9 (Mine.News.re N9 (by walk_at "m sub")) PS PC hl9 (ne_cons hnp.1.symm (ne_cons hnp.2.1.symm (ne_cons hnp.2.2.symm fun q hq => (hne q hq).1))) (.tail _ (.tail _ (.tail _ hcw))) (by simp) (by simp) (by omega) fun i r h' tk' o' hi F5 N5 PS5 => ?_
  have hr : ∃ kd tk, (kd = "base" ∨ kd = "component" ∨ kd = "mark") ∧ r = .str (sN kd) tk := by
    match i, hi with
    | 0, hi => cases hi; exact ⟨_, _, .inl rfl, rfl⟩
    | 1, hi => cases hi; exact ⟨_, _, .inr (.inl rfl), rfl⟩
    | 2, hi => cases hi; exact ⟨_, _, .inr (.inr rfl), rfl⟩
    | i + 3, hi => simp at hi
  obtain ⟨kd, tk, hkd, rfl⟩ := hr
  clear F9 N9
  walk_at "m go2"
  exact ⟨⟨kd, tk, hkd, _, _, o', c1, c2, c3, rfl, Mine.Fr.put (by assumption), Mine.News.re (by assumption) (by walk_at "m sub"), PS5, PC, d1, d2, d3, hne, hnp, hcw⟩⟩
end S_Law2

section S_Law12
theorem rows_36 : True := by
  (k_with "m set" => (intro t; first | with_reducible exact set_mask t | with_reducible exact set_lig t | with_reducible exact set_part t | with_reducible exact set_xa t))
  (k_with "setAttr ref" => (k_here; k_dflt ((refine' set_dl4 ?z133k1 ?z133k2 ?z133k3 ?z133k4 ?z133k5 ?z133k6 ?z133k7 ?z133p1 ?z133s1 ?z133s2 ?z133s3 ?z133s4 ?z133s5 ?_); (case z133k1 => k_asm); (case z133k2 => k_asm); (case z133k3 => first | assumption | exact Mine.News.tl (by assumption)); (case z133k4 => assumption); (case z133k5 => assumption); (case z133k6 => assumption); (case z133k7 => assumption); (case z133p1 => assumption); (case z133s1 => k_is); (case z133s2 => k_is); (case z133s3 => k_is); (case z133s4 => k_is); (case z133s5 => walk_at "m set"); intro _ _ _ _ R9 H9 a9; (try dsimp only at R9 H9); revert R9 H9 a9; intros)))
  (k_with "eval Name" => (k_here; (with_reducible show wpAny _ _ (eval (Expr.Name _ _) (lawEnv _ _ _)) _ _ _); k_dflt (refine' ldL ?z134k1 ?z134k2 ?_ ?z134k3; (case z134k1 => k_asm); (case z134k2 => assumption); (case z134k3 => rfl); k_whole)))
  trivial

theorem law_12 {w : World} {g : Heap} (G : Gr w g) {L a pen cells il : Addr} {oc o c1 c2 c3 : Obj} {W dl : Led} {cd : Value} {ml : List (Str × Value)} {k nn : Nat} {mv ov : Option Value} {xs : List (Addr × Addr)} {rs : List Rec} (hk : k < 1000) (hxl : xs.length ≤ 6) (hDL : DL xs rs dl) (hG : GoodB rs) (hin : ∀ q ∈ insts xs, q ∈ W) (hap : ∀ q ∈ dl, ∀ r ∈ W, q.1 ≠ r.1) (hil : (il, listOf (List.toArray (xs.map fun x => Value.ref x.1)) nn) ∈ W) (hcW : (cells, oc) ∈ W)
    {dp un : Nat} {fr : Option (List Env)} {gds : Option (List Code)} {s : Shared} (hdep : dp + 40 < 900) (hun : un + 8 * 40 < 9000) (S : LS w g L s.heap ml pen cells oc k mv ov o c1 c2 c3 (dl ++ W)) (l1 : mapL ml (Str.ofString "infos") = some (.ref il)) (Q : Flow → Shared → Prop) (E : Value → Shared → Prop) (hE : PassesOwn (model PRG w) { handled := none, depth := dp, frames := fr, guards := gds, units := un } (lawEnv L a cd) E) :
    wpAny (model PRG w) { handled := none, depth := dp, frames := fr, guards := gds, units := un } (exec (lawSt 11) (lawEnv L a cd)) (fun fl s' => match fl with | .next => Bx (Ex3 fun ml2 rs2 dl2 => An5 ((∀ x, x ≠ Str.ofString "one" → mapL ml2 x = mapL ml x)) (DL xs rs2 dl2) (GoodB rs2) ((∀ q ∈ dl2, ∀ r ∈ W, q.1 ≠ r.1)) (LSx w g L s ml2 pen cells oc (k + 20) mv ov (dl2 ++ W) s')) | fl => Q fl s') E s := by
  obtain ⟨p, loose, mean, mg, mb, X', T'⟩ := id G
  have hs : g.StaysIn g := fun _ _ e => e
  obtain ⟨F', N', PS, PC, d1, d2, d3, hne, hnp, hcw⟩ := S
  (with_unfolding_all show wpAny _ _ (exec (Stmt.For _ _ _ _ _) _) _ _ _)
  walk_at "m go2"
  have hW0 : ∀ q ∈ W, s.heap.get? q.1 = some q.2 := fun q hq => (N' q (.tail _ (.tail _ (.tail _ (.tail _ (List.mem_append_right _ hq)))))).1
  refine ⟨[il], (List.toArray (xs.map fun x => Value.ref x.1)).size, _, mapL ml, (pen, o) :: (dl ++ ((L + 1, c1) :: (L + 2, c2) :: (L + 3, c3) :: W)), (fun i m l => Ex4 fun ml2 o1 dl1 rs1 => An8 (m = mapL ml2) ((∀ x, x ≠ Str.ofString "one" → mapL ml2 x = mapL ml x)) (l = (pen, o1) :: (dl1 ++ ((L + 1, c1) :: (L + 2, c2) :: (L + 3, c3) :: W))) (PenS cells o1 (k + 3 * i)) (DL xs rs1 dl1) (GoodB rs1) ((∀ q ∈ dl1, q.1 ≠ pen)) (∀ q ∈ dl1, ∀ r ∈ (L + 1, c1) :: (L + 2, c2) :: (L + 3, c3) :: W, q.1 ≠ r.1)),
    for_list rfl (PySem.IsL.isList (n := nn) (hW0 _ hil)), F', Mine.News.re N' (by walk_at "m sub"), ?_, ?_, ⟨ml, o, dl, rs, rfl, fun _ _ => rfl, rfl, PS.le (by omega), hDL, hG, fun q hq => (hne q (List.mem_append_left _ hq)).1, fun q hq r hr => ?_⟩, ?_, ?_⟩
  · rintro i m l ⟨_, _, dl1, _, -, -, rfl, -⟩ b hb -
    rw [List.mem_singleton.mp hb]
    exact ⟨_, hW0 _ hil, .tail _ (List.mem_append_right _ (.tail _ (.tail _ (.tail _ hil))))⟩
  · intro hm
    exact (N' _ (.tail _ (.tail _ (.tail _ (.tail _ (List.mem_append_right _ hil)))))).2.1 (List.mem_singleton.mp hm).symm
  · have z := hne q (List.mem_append_left _ hq)
    simp only [List.mem_cons] at hr
    rcases hr with rfl | rfl | rfl | hr
    · exact z.2.1
    · exact z.2.2.1
    · exact z.2.2.2
    · exact hap q hq r hr
  · rintro i v m₁ news₁ h₁ tk₁ I oI hi hP ⟨ml2, o1, dl1, rs1, rfl, hml, rfl, PS1, hDL1, hG1, hpen1, hap1⟩ hoI hneI F₁ N₁
    have hi6 : i < xs.length := by simpa using hi
    obtain ⟨⟨x, dx⟩, hx⟩ : ∃ q, xs[i]? = some q := ⟨_, List.getElem?_eq_getElem hi6⟩
    obtain rfl : v = .ref x := by
      have : (xs.map fun x => Value.ref x.1)[i]? = some v := by simpa using hP
      rw [List.getElem?_map, hx] at this
      exact (Option.some.inj this).symm
    obtain ⟨r, hr⟩ : ∃ r, rs1[i]? = some r := ⟨_, List.getElem?_eq_getElem (by rw [← hDL1.len]; exact hi6)⟩
    have hxr : (x, instObj 135 dx) ∈ (I, oI) :: W := .tail _ ((hin _ (List.mem_map.mpr ⟨(x, dx), List.mem_of_getElem? hx, rfl⟩)))
    have hap2 : ∀ q ∈ dl1, q.1 ≠ pen ∧ q.1 ≠ L + 1 ∧ q.1 ≠ L + 2 ∧ q.1 ≠ L + 3 ∧ ∀ p ∈ (I, oI) :: W, q.1 ≠ p.1 := fun q hq => ⟨hpen1 q hq, hap1 q hq (L + 1, c1) (.head _), hap1 q hq (L + 2, c2) (.tail _ (.head _)), hap1 q hq (L + 3, c3) (.tail _ (.tail _ (.head _))), fun p hp => (List.mem_cons.mp hp).elim (fun e => e ▸ hneI q (.tail _ (List.mem_append_left _ hq))) fun hp => hap1 q hq p (.tail _ (.tail _ (.tail _ hp)))⟩
    have hnR : ∀ q ∈ (I, oI) :: W, q.1 ≠ pen := ne_cons (hneI (pen, o1) (.head _)).symm fun q hq => (hne q (List.mem_append_right _ hq)).1
    have F2 : Fr g L h₁ (mapL ((Str.ofString "one", .ref x) :: ml2)) := Mine.Fr.cong F₁ (funext fun y => by rw [mapL_cons])
    have N2 : News g L h₁ ((pen, o1) :: (L + 1, c1) :: (L + 2, c2) :: (L + 3, c3) :: (dl1 ++ ((I, oI) :: W))) := Mine.News.re N₁ (by walk_at "m sub")
    clear F₁ N₁
    have lo : mapL ((Str.ofString "one", .ref x) :: ml2) (Str.ofString "one") = some (.ref x) := by rw [mapL_cons, if_pos rfl]
    have hi7 : i < 6 := by omega
    walk_at "m body"
    walk_at "m go2"
    rename_i h8 dl9 R9 H9 a9 l9 h9 F9 N9 l19
    have hG9 : GoodB ((rs1.set i { r with mask := 1 }).set i { r with mask := 1, xa := 100 }) := by rw [List.set_set]; exact goodB_set hG1 hr rfl rfl (hG1.1.part i r hr) rfl
    generalize ((rs1.set i { r with mask := 1 }).set i { r with mask := 1, xa := 100 }) = rs9 at hG9 R9 H9
    obtain ⟨r9, hr9⟩ : ∃ r9, rs9[i]? = some r9 := ⟨_, H9⟩
    clear H9
    have hne9 : ∀ q ∈ (L + 1, c1) :: (L + 2, c2) :: (L + 3, c3) :: (dl9 ++ ((I, oI) :: W)), q.1 ≠ pen := ne_cons hnp.1.symm (ne_cons hnp.2.1.symm (ne_cons hnp.2.2.symm fun q hq => (List.mem_append.mp hq).elim (fun hq => (a9 q hq).1) (hnR q)))
    refine pick_use G (n := 0) (vs := [.int 0 tk, .int 0 (tk + 1), .int 1 (tk + 1 + 1)]) (rest := (L + 1, c1) :: (L + 2, c2) :: (L + 3, c3) :: (dl9 ++ ((I, oI) :: W))) (by omega) (by omega) F9 (Mine.News.re N9 (by walk_at "m sub")) PS1 PC (Nat.ne_of_gt l19.1) hne9 (.tail _ (.tail _ (.tail _ (List.mem_append_right _ (.tail _ hcW))))) (by simp) (by simp) (by omega) fun i9 r0 h' tk' o' hi9 F5 N5 PS5 => ?_
    obtain ⟨gl, tg, rfl⟩ : ∃ gl tg, r0 = .int gl tg := by
      match i9, hi9 with
      | 0, h => cases h; exact ⟨_, _, rfl⟩
      | 1, h => cases h; exact ⟨_, _, rfl⟩
      | 2, h => cases h; exact ⟨_, _, rfl⟩
      | i9 + 3, h => simp at h
    have N6 : News g L h' ((pen, o') :: (L + 1, c1) :: (L + 2, c2) :: (L + 3, c3) :: (dl9 ++ ((I, oI) :: W))) := Mine.News.re N5 (by walk_at "m sub")
    have hcs : h'.get? cells = some oc := (N6 _ (.tail _ (.tail _ (.tail _ (.tail _ (List.mem_append_right _ (.tail _ hcW))))))).1
    have hi66 : k + 3 * i + 1 < 100000 := by omega
    clear F9 N9 N5
    walk_at "m go2"
    rename_i h4 dl4 F4 N4 R4 H4 a4
    refine loopEnd (news := (pen, _) :: (dl4 ++ ((L + 1, c1) :: (L + 2, c2) :: (L + 3, c3) :: W))) F4 (Mine.News.re N4 fun q hq => ?_) (fun q hq => ?_) ⟨_, _, dl4, _, rfl, fun y hy => by rw [mapL_cons, if_neg hy]; exact hml y hy, rfl, PenS.le (by assumption) (by omega), R4, ?_, fun q hq => (a4 q hq).1, fun q hq r hr => ?_⟩
    · exact (by walk_at "m sub" : ∀ r ∈ _, r ∈ _) q hq
    · rcases List.mem_cons.mp hq with rfl | hq
      · exact hneI (pen, o1) (.head _)
      · rcases List.mem_append.mp hq with hq | hq
        · exact (a4 q hq).2.2.2.2 (I, oI) (.head _)
        · exact hneI q (.tail _ (List.mem_append_right _ hq))
    · rw [List.set_set]
      exact goodB_set hG9 hr9 rfl rfl (by dsimp only; omega) rfl
    · obtain ⟨z1, z2, z3, z4, z5⟩ := a4 q hq
      simp only [List.mem_cons] at hr
      rcases hr with rfl | rfl | rfl | hr
      · exact z2
      · exact z3
      · exact z4
      · exact z5 r (.tail _ hr)
  · rintro h' tk m' news' F9 N9 ⟨ml2, o1, dl1, rs1, rfl, hml, rfl, PS1, hDL1, hG1, hpen1, hap1⟩
    have hn6 : (List.toArray (xs.map fun x => Value.ref x.1)).size ≤ 6 := by simpa using hxl
    refine ⟨⟨ml2, rs1, dl1, hml, hDL1, hG1, fun q hq r hr => hap1 q hq r (.tail _ (.tail _ (.tail _ hr))), h', tk, o1, c1, c2, c3, rfl, F9, Mine.News.re N9 (by walk_at "m sub"), PS1.le (by omega), PC, d1, d2, d3, fun q hq => ?_, hnp, List.mem_append_right _ hcW⟩⟩
    rcases List.mem_append.mp hq with hq | hq
    · exact ⟨hpen1 q hq, hap1 q hq (L + 1, c1) (.head _), hap1 q hq (L + 2, c2) (.tail _ (.head _)), hap1 q hq (L + 3, c3) (.tail _ (.tail _ (.head _)))⟩
    · exact hne q (List.mem_append_right _ hq)
end S_Law12

section V_lines
theorem rows_37 : True := by
  (k_with "m mono" => first | exact MarkW.mono | exact ListsW.mono)
  (k_with "call type:dict" => (k_here; (with_reducible show wpAny _ _ (call (Value.type "dict") [Value.ref _]) _ _ _); k_dflt ((refine' dict_ledG ?z136k0 ?z136k1 ?z136k2 ?z136k3 ?z136k4 ?z136k5 ?z136k6 ?z136k7 ?z136k8 ?_); (case z136k1 => k_asm); (case z136k2 => k_asm); (case z136k3 => k_asm); (case z136k4 => assumption); (case z136k0 => walk_at "m mono"); (case z136k5 => assumption); (case z136k6 => assumption); (case z136k7 => assumption); (case z136k8 => exact rfl); intro _ _ _ _ _ _ _ _ _; (try dsimp only))))
  trivial

section S_Law3
theorem law_3 {w : World} {g : Heap} (G : Gr w g) {L a pen cells : Addr} {oc o c1 c2 c3 : Obj} {W : Led} {cd : Value} {ml : List (Str × Value)} {k : Nat} (hk : k < 1000)
    {dp un : Nat} {fr : Option (List Env)} {gds : Option (List Code)} {s : Shared} (hdep : dp + 40 < 900) (hun : un + 8 * 40 < 9000) (S : LS w g L s.heap ml pen cells oc k none none o c1 c2 c3 W) (Q : Flow → Shared → Prop) (E : Value → Shared → Prop) :
    wpAny (model PRG w) { handled := none, depth := dp, frames := fr, guards := gds, units := un } (exec (lawSt 2) (lawEnv L a cd)) (fun fl s' => match fl with | .next => Bx (Ex3 fun mk ms W2 => An5 ((∀ q ∈ W, q ∈ W2)) (TabW w MarkW W2 mk ms) (ms.map (·.1) = [4, 5, 6]) ((∀ p ∈ ms, 0 ≤ p.2.1 ∧ p.2.1 < 3)) (LSx w g L s ml pen cells oc (k + 6) (some (.ref mk)) none W2 s')) | fl => Q fl s') E s := by
  obtain ⟨p, loose, mean, mg, mb, X', T'⟩ := id G
  have hs : g.StaysIn g := fun _ _ e => e
  obtain ⟨F', N', PS, PC, d1, d2, d3, hne, hnp, hcw⟩ := S
  (with_unfolding_all show wpAny _ _ (exec (Stmt.Assign _ _ _) _) _ _ _)
  walk_at "m go2"
  rename_i D9 h9 F9 N9 l19
  have hD9 : D9 ≠ pen := fun e => by have z := l19.1; rw [e] at z; exact Nat.lt_irrefl _ z
  refine ⟨[D9], 3, _, [(pen, o)], (D9, tupO [.int 4 s.toks, .int 5 (s.toks + 1), .int 6 (s.toks + 1 + 1)]) :: (L + 1, c1) :: (L + 2, c2) :: (L + 3, c3) :: W, (fun i ys l => Ex3 fun o1 W1 ms => An7 (l = (pen, o1) :: W1) (PenS cells o1 (k + 2 * i)) ((∀ q ∈ W1, q.1 ≠ pen)) (TabG MarkW [] ms ys W1) (ys.length = i) ((∀ p ∈ ms, 0 ≤ p.2.1 ∧ p.2.1 < 3)) (ms.map (·.1) = ([4, 5, 6] : List Int).take i)),
    src_tuple (items := #[.int 4 s.toks, .int 5 (s.toks + 1), .int 6 (s.toks + 1 + 1)]) rfl (tupO_tup (vs := [.int 4 s.toks, .int 5 (s.toks + 1), .int 6 (s.toks + 1 + 1)]) (N9 _ (.head _)).1), by decide, F9, Mine.News.re N9 ((by walk_at "m sub")), ?_, ?_, ⟨o, [], [], rfl, PS.le (by omega), (fun q h => nomatch h), TabG.nil, rfl, (fun q h => nomatch h), rfl⟩, ?_, ?_, ?_⟩
  · intro b hb hm
    rw [List.mem_singleton.mp hb] at hm
    exact hD9 (by simpa using hm)
  · intro q hq hm
    have e : q.1 = pen := by simpa using hm
    rcases List.mem_cons.mp hq with rfl | hq
    · exact hD9 e
    · exact ne_cons hnp.1.symm (ne_cons hnp.2.1.symm (ne_cons hnp.2.2.symm fun q hq => (hne q hq).1)) q hq e
  · rintro i ys l ⟨_, _, _, -, -, -, -, h3, -⟩; omega
  · intro C i v s₃ m₃ ys led' g' E' F3 N3 gg grest gL hK hi hP hm _
    obtain ⟨o1, W1, ms, rfl, PS1, hW1, hT, hy, hms, hmg⟩ := hK
    refine wpAny_tests_nil ?_
    rw [if_pos rfl]
    obtain ⟨gl, tg, rfl, hgl⟩ : ∃ gl tg, v = .int gl tg ∧ ([4, 5, 6] : List Int)[i]? = some gl := by
      match i, hi, hP with
      | 0, _, hP => cases hP; exact ⟨_, _, rfl, rfl⟩
      | 1, _, hP => cases hP; exact ⟨_, _, rfl, rfl⟩
      | 2, _, hP => cases hP; exact ⟨_, _, rfl, rfl⟩
    have X3 : (frag w.params).In g' := X'.keeps gg
    have T3 := T'.keeps gg
    have hs3 : g.StaysIn g' := gg
    have hc3 : g'.get? cells = some oc := grest (cells, oc) (.tail _ (.tail _ (.tail _ (.tail _ hcw))))
    have hpc : CellAt g' (L + 1) (.ref pen) := ⟨c1, grest (L + 1, c1) (.tail _ (.head _)), d1⟩
    have hi3 : i < 3 := hi
    walk_at "m go2"
    exact mark_turn (by assumption) (by assumption) (by assumption) (by omega) hW1 hy hT (by assumption) ⟨by assumption, by assumption⟩ hms hmg hgl
  · rintro D nn h4 tk4 ys ledN hDn ⟨o1, W1, ms, rfl, PS1, hW1, hT, hy, hms, hmg⟩ F4 N4
    have hsub : ∀ q ∈ W1, q ∈ ((pen, o1) :: W1) ++ ((D9, tupO [.int 4 s.toks, .int 5 (s.toks + 1), .int 6 (s.toks + 1 + 1)]) :: (L + 1, c1) :: (L + 2, c2) :: (L + 3, c3) :: W) := fun q hq => List.mem_append_left _ (.tail _ hq)
    have hgk : ms.map (·.1) = [4, 5, 6] := hmg
    have hnd : (ms.map (·.1)).Nodup := by rw [hgk]; decide
    have hz : ms.length ≤ 1000 := by have := congrArg List.length hgk; simp at this; omega
    walk_at "m go2"
    rename_i d9 od9 h9' tk9 F9' N9' ne9 cl9 S9
    have hpW1 : ∀ q ∈ W1, q.1 ≠ L + 1 ∧ q.1 ≠ L + 2 ∧ q.1 ≠ L + 3 := fun q hq => ⟨hDn.2 q (.tail _ hq) (L + 1, c1) (.tail _ (.head _)), hDn.2 q (.tail _ hq) (L + 2, c2) (.tail _ (.tail _ (.head _))), hDn.2 q (.tail _ hq) (L + 3, c3) (.tail _ (.tail _ (.tail _ (.head _))))⟩
    have hd9 : d9 ≠ pen ∧ d9 ≠ L + 1 ∧ d9 ≠ L + 2 ∧ d9 ≠ L + 3 := ⟨fun e => ne9 (pen, o1) (.head _) e.symm, fun e => ne9 (L + 1, c1) (by walk_at "m in") e.symm, fun e => ne9 (L + 2, c2) (by walk_at "m in") e.symm, fun e => ne9 (L + 3, c3) (by walk_at "m in") e.symm⟩
    have hW2 : ∀ q ∈ (d9, od9) :: (W1 ++ W), q.1 ≠ pen ∧ q.1 ≠ L + 1 ∧ q.1 ≠ L + 2 ∧ q.1 ≠ L + 3 := fun q hq => by
      rcases List.mem_cons.mp hq with rfl | hq
      · exact hd9
      · rcases List.mem_append.mp hq with hq | hq
        · exact ⟨hW1 q hq, hpW1 q hq⟩
        · exact hne q hq
    have hc2 : (L + 2, c2) ∈ (d9, od9) :: ((pen, o1) :: W1 ++ (D9, tupO [.int 4 s.toks, .int 5 (s.toks + 1), .int 6 (s.toks + 1 + 1)]) :: (L + 1, c1) :: (L + 2, c2) :: (L + 3, c3) :: W) := by walk_at "m in"
    refine store_cell F9' N9' (c := L + 2) rfl hc2 d2 (fun h' o' F5 N5 d5 => ?_) rfl rfl
    refine ⟨⟨d9, ms, (d9, od9) :: (W1 ++ W), fun q hq => .tail _ (List.mem_append_right _ hq), S9.mono MarkW.mono (fun q hq => ?_), hmg, hms, h', _, o1, c1, o', c3, rfl, F5, ?_, PS1, PC, d1, d5, d3, hW2, hnp, .tail _ (List.mem_append_right _ hcw)⟩⟩
    · rcases List.mem_cons.mp hq with rfl | hq
      · exact .head _
      · exact .tail _ (List.mem_append_left _ (by simpa using hq))
    · refine Mine.News.re (N5 ((pen, o1) :: (L + 1, c1) :: (L + 3, c3) :: (d9, od9) :: (W1 ++ W)) fun q hq => ?_) (by walk_at "m sub")
      rcases List.mem_cons.mp hq with rfl | hq
      · exact ⟨by walk_at "m in", hnp.2.1⟩
      · rcases List.mem_cons.mp hq with rfl | hq
        · exact ⟨by walk_at "m in", by simp⟩
        · rcases List.mem_cons.mp hq with rfl | hq
          · exact ⟨by walk_at "m in", by simp⟩
          · refine ⟨?_, (hW2 q hq).2.2.1⟩
            exact (by walk_at "m sub" : ∀ r ∈ _, r ∈ _) q hq
end S_Law3

section S_Law4
theorem law_4 {w : World} {g : Heap} (G : Gr w g) {L a pen cells : Addr} {oc o c1 c2 c3 : Obj} {W : Led} {cd : Value} {ml : List (Str × Value)} {k : Nat} {mv ov : Option Value} {kd : String} {tk0 : Tok} (hkd : kd = "base" ∨ kd = "component" ∨ kd = "mark")
    {dp un : Nat} {fr : Option (List Env)} {gds : Option (List Code)} {s : Shared} (S : LS w g L s.heap ((Str.ofString "kind", .str (sN kd) tk0) :: ml) pen cells oc k mv ov o c1 c2 c3 W) (Q : Flow → Shared → Prop) (E : Value → Shared → Prop) :
    wpAny (model PRG w) { handled := none, depth := dp, frames := fr, guards := gds, units := un } (exec (lawSt 3) (lawEnv L a cd)) (fun fl s' => match fl with | .next => Bx (Ex8 fun D t0 t1 t2 a0 a1 a2 W2 => An4 ((∀ q ∈ W, q ∈ W2)) ((D, tupO [.int a0 t0, .int a1 t1, .int a2 t2]) ∈ W2) (([a0, a1, a2] = ([4, 5, 6] : List Int) ∨ [a0, a1, a2] = ([0, 1, 2] : List Int))) (LSx w g L s ((Str.ofString "others", .ref D) :: (Str.ofString "kind", .str (sN kd) tk0) :: ml) pen cells oc k mv ov W2 s')) | fl => Q fl s') E s := by
  obtain ⟨p, loose, mean, mg, mb, X', T'⟩ := id G
  have hs : g.StaysIn g := fun _ _ e => e
  obtain ⟨F', N', PS, PC, d1, d2, d3, hne, hnp, hcw⟩ := S
  have fin : ∀ {D t0 t1 t2 : Nat} {a0 a1 a2 : Int} {h' : Heap} {tk : Nat}, ([a0, a1, a2] = ([4, 5, 6] : List Int) ∨ [a0, a1, a2] = ([0, 1, 2] : List Int)) → Fr g L h' (mapL ((Str.ofString "others", .ref D) :: (Str.ofString "kind", .str (sN kd) tk0) :: ml)) → News g L h' ((D, tupO [.int a0 t0, .int a1 t1, .int a2 t2]) :: (pen, o) :: (L + 1, c1) :: (L + 2, c2) :: (L + 3, c3) :: W) → (pen < D ∧ L + 1 < D ∧ L + 2 < D ∧ L + 3 < D ∧ AllLt D W) →
      Bx (Ex8 fun D t0 t1 t2 a0 a1 a2 W2 => An4 ((∀ q ∈ W, q ∈ W2)) ((D, tupO [.int a0 t0, .int a1 t1, .int a2 t2]) ∈ W2) (([a0, a1, a2] = ([4, 5, 6] : List Int) ∨ [a0, a1, a2] = ([0, 1, 2] : List Int))) (LSx w g L s ((Str.ofString "others", .ref D) :: (Str.ofString "kind", .str (sN kd) tk0) :: ml) pen cells oc k mv ov W2 { s with heap := h', toks := tk })) := by
    intro D t0 t1 t2 a0 a1 a2 h' tk ha F N l1
    refine ⟨⟨D, t0, t1, t2, a0, a1, a2, (D, tupO [.int a0 t0, .int a1 t1, .int a2 t2]) :: W, fun q hq => .tail _ hq, .head _, ha, h', tk, o, c1, c2, c3, rfl, F, Mine.News.re N (by walk_at "m sub"), PS, PC, d1, d2, d3, fun q hq => ?_, hnp, .tail _ hcw⟩⟩
    rcases List.mem_cons.mp hq with rfl | hq
    · exact ⟨Nat.ne_of_gt l1.1, Nat.ne_of_gt l1.2.1, Nat.ne_of_gt l1.2.2.1, Nat.ne_of_gt l1.2.2.2.1⟩
    · exact hne q hq
  (with_unfolding_all show wpAny _ _ (exec (Stmt.Assign _ _ _) _) _ _ _)
  rcases hkd with rfl | rfl | rfl
  all_goals walk_at "m go2"
  all_goals first
    | exact fin (a0 := 0) (a1 := 1) (a2 := 2) (.inr rfl) (Mine.Fr.put (by assumption)) (by assumption) (by assumption)
    | exact fin (a0 := 4) (a1 := 5) (a2 := 6) (.inl rfl) (Mine.Fr.put (by assumption)) (by assumption) (by assumption)
end S_Law4

section S_Law5
theorem rows_38 : True := by
  (k_with "call ref" => (k_here; (with_reducible show wpAny _ _ (call (Value.ref 790) _) _ _ _); k_dflt ((refine' useP (law_anchors_c (by assumption) _ _ _ ?z137kZ) ?z137kF ?z137kN ?z137kP ?z137kC ?z137kQ ?z137kc ?z137k2 ?z137k3 ?z137k4 ?z137k5 ?_); (case z137kF => k_asm); (case z137kN => walk_at "m penN"); (case z137kP => assumption); (case z137kC => assumption); (case z137kZ => walk_at "m num"); (case z137kQ => walk_at "m ne"); (case z137kc => walk_at "m cells"); (case z137k2 => assumption); (case z137k3 => walk_at "m dep"); (case z137k4 => walk_at "m dep"); (case z137k5 => (intro hA9 hK9; walk_at "m preP")); intro _ _ _ _ _ N' _ _ _ post'; obtain ⟨_, _, _, _, _, e0, _, hb9, hS9⟩ := post'; subst e0; have hA9 := fresh_ne (by assumption) hb9; have N9 := grow_p hb9 (by assumption) N'; clear N'; skip; (try dsimp only); revert hb9 hS9 hA9 N9; intros)))
  (k_with "m ne" => first | assumption | exact app_ne (by assumption) (by assumption) | (intro q hq; nomatch hq))
  trivial

theorem law_5 {w : World} {g : Heap} (G : Gr w g) {L a pen cells D : Addr} {oc o c1 c2 c3 : Obj} {W : Led} {cd : Value} {ml : List (Str × Value)} {k : Nat} {mv : Option Value} {t0 t1 t2 : Tok} {a0 a1 a2 : Int} (hk : k < 1000) (hD : (D, tupO [.int a0 t0, .int a1 t1, .int a2 t2]) ∈ W) (hnd3 : ([a0, a1, a2] : List Int).Nodup)
    {dp un : Nat} {fr : Option (List Env)} {gds : Option (List Code)} {s : Shared} (hdep : dp + 40 < 900) (hun : un + 8 * 40 < 9000) (S : LS w g L s.heap ((Str.ofString "others", .ref D) :: ml) pen cells oc k mv none o c1 c2 c3 W) (Q : Flow → Shared → Prop) (E : Value → Shared → Prop) :
    wpAny (model PRG w) { handled := none, depth := dp, frames := fr, guards := gds, units := un } (exec (lawSt 4) (lawEnv L a cd)) (fun fl s' => match fl with | .next => Bx (Ex3 fun rd R W2 => An6 ((∀ q ∈ W, q ∈ W2)) (RowsW w W2 rd R) (GoodR R) ((R.map (·.1)).Nodup) (R.length ≤ 3) (LSx w g L s ((Str.ofString "rows", .ref rd) :: (Str.ofString "others", .ref D) :: ml) pen cells oc (k + 60) mv none W2 s')) | fl => Q fl s') E s := by
  obtain ⟨p, loose, mean, mg, mb, X', T'⟩ := id G
  have hs : g.StaysIn g := fun _ _ e => e
  obtain ⟨F', N', PS, PC, d1, d2, d3, hne, hnp, hcw⟩ := S
  have hDp : D ≠ pen := (hne _ hD).1
  (with_unfolding_all show wpAny _ _ (exec (Stmt.Assign _ _ _) _) _ _ _)
  walk_at "m go2"
  refine ⟨[D], 3, _, [(pen, o)], (L + 1, c1) :: (L + 2, c2) :: (L + 3, c3) :: W, (fun i ys l => Ex3 fun o1 W1 R => An7 (l = (pen, o1) :: W1) (PenS cells o1 (k + 19 * i)) ((∀ q ∈ W1, q.1 ≠ pen)) (TabG ListsW [] R ys W1) (ys.length ≤ i) (GoodR R) ((R.map (·.1)).Sublist (([a0, a1, a2] : List Int).take i))),
    src_tuple (items := #[.int a0 t0, .int a1 t1, .int a2 t2]) rfl (tupO_tup (vs := [.int a0 t0, .int a1 t1, .int a2 t2]) (N' _ (.tail _ (.tail _ (.tail _ (.tail _ hD))))).1), by decide, F', N', ?_, ?_, ⟨o, [], [], rfl, PS.le (by omega), (fun q h => nomatch h), TabG.nil, Nat.le_refl _, (fun q h => nomatch h), List.Sublist.refl _⟩, ?_, ?_, ?_⟩
  · intro b hb hm
    rw [List.mem_singleton.mp hb] at hm
    exact hDp (by simpa using hm)
  · intro q hq hm
    exact ne_cons hnp.1.symm (ne_cons hnp.2.1.symm (ne_cons hnp.2.2.symm fun q hq => (hne q hq).1)) q hq (by simpa using hm)
  · rintro i ys l ⟨_, _, _, -, -, -, -, h3, -⟩; exact h3
  · intro C i v s₃ m₃ ys led' g' E' F3 N3 gg grest gL hK hi hP hm _
    obtain ⟨o1, W1, R, rfl, PS1, hW1, hT, hy, hR, hg⟩ := hK
    obtain ⟨gl, tg, rfl, hgl⟩ : ∃ gl tg, v = .int gl tg ∧ ([a0, a1, a2] : List Int)[i]? = some gl := by
      match i, hi, hP with
      | 0, _, hP => cases hP; exact ⟨_, _, rfl, rfl⟩
      | 1, _, hP => cases hP; exact ⟨_, _, rfl, rfl⟩
      | 2, _, hP => cases hP; exact ⟨_, _, rfl, rfl⟩
    have X3 : (frag w.params).In g' := X'.keeps gg
    have T3 := T'.keeps gg
    have hs3 : g.StaysIn g' := gg
    have hc3 : g'.get? cells = some oc := grest (cells, oc) (.tail _ (.tail _ (.tail _ hcw)))
    have hpc : CellAt g' (L + 1) (.ref pen) := ⟨c1, grest (L + 1, c1) (.head _), d1⟩
    have hi3 : i < 3 := hi
    refine wpAny_tests_one ?_
    walk_at "m go2"
    · refine' rows_turn ?F ?N ?PS ?hk hW1 ?hA ?hB ?hlp hy hT hR ?hc1 ?hc2 ?S1 ?S2 hg hgl
      case F => assumption
      case N => assumption
      case PS => assumption
      case hk => omega
      case hA => assumption
      case hB => assumption
      case S1 => assumption
      case S2 => assumption
      case hc1 => assumption
      case hc2 => assumption
      case hlp => exact ne_penO (q := (_, _)) (by assumption) (.tail _ (.tail _ (.head _))) (by assumption) (.tail _ (.head _)) (by intro a b t1 t2 n e; cases e)
    · exact turned (by assumption) (by assumption) (pen_sub fun q hq => hq) ⟨_, W1, R, rfl, PenS.le (by assumption) (by omega), hW1, hT, by omega, hR, hg.trans (by rw [take_succ_get hgl]; exact List.sublist_append_left _ _)⟩
  · rintro Dl nn h4 tk4 ys ledN hDn ⟨o1, W1, R, rfl, PS1, hW1, hT, hy, hR, hg⟩ F4 N4
    have hsub : ∀ q ∈ W1, q ∈ ((pen, o1) :: W1) ++ ((L + 1, c1) :: (L + 2, c2) :: (L + 3, c3) :: W) := fun q hq => List.mem_append_left _ (.tail _ hq)
    have hg3 : (R.map (·.1)).Sublist ([a0, a1, a2] : List Int) := hg
    have hnd : (R.map (·.1)).Nodup := hnd3.sublist hg3
    have hl3 : R.length ≤ 3 := by have := hg3.length_le; simpa using this
    have hz : R.length ≤ 1000 := by omega
    walk_at "m go2"
    rename_i d9 od9 h9' tk9 ne9 cl9 S9 h8 F8 N8
    have hpW1 : ∀ q ∈ W1, q.1 ≠ L + 1 ∧ q.1 ≠ L + 2 ∧ q.1 ≠ L + 3 := fun q hq => ⟨hDn.2 q (.tail _ hq) (L + 1, c1) (.head _), hDn.2 q (.tail _ hq) (L + 2, c2) (.tail _ (.head _)), hDn.2 q (.tail _ hq) (L + 3, c3) (.tail _ (.tail _ (.head _)))⟩
    have hd9 : d9 ≠ pen ∧ d9 ≠ L + 1 ∧ d9 ≠ L + 2 ∧ d9 ≠ L + 3 := ⟨fun e => ne9 (pen, o1) (.head _) e.symm, fun e => ne9 (L + 1, c1) (by walk_at "m in") e.symm, fun e => ne9 (L + 2, c2) (by walk_at "m in") e.symm, fun e => ne9 (L + 3, c3) (by walk_at "m in") e.symm⟩
    have hW2 : ∀ q ∈ (d9, od9) :: (W1 ++ W), q.1 ≠ pen ∧ q.1 ≠ L + 1 ∧ q.1 ≠ L + 2 ∧ q.1 ≠ L + 3 := fun q hq => by
      rcases List.mem_cons.mp hq with rfl | hq
      · exact hd9
      · rcases List.mem_append.mp hq with hq | hq
        · exact ⟨hW1 q hq, hpW1 q hq⟩
        · exact hne q hq
    refine ⟨⟨d9, R, (d9, od9) :: (W1 ++ W), fun q hq => .tail _ (List.mem_append_right _ hq), S9.mono ListsW.mono (fun q hq => ?_), hR, hnd, hl3, h8, _, o1, c1, c2, c3, rfl, Mine.Fr.put F8, ?_, PS1.le (by omega), PC, d1, d2, d3, hW2, hnp, .tail _ (List.mem_append_right _ hcw)⟩⟩
    · rcases List.mem_cons.mp hq with rfl | hq
      · exact .head _
      · exact .tail _ (List.mem_append_left _ (by simpa using hq))
    · exact Mine.News.re N8 (by walk_at "m sub")
end S_Law5

section S_Law6
theorem law_6 {w : World} {g : Heap} (G : Gr w g) {L a pen cells : Addr} {oc o c1 c2 c3 : Obj} {W : Led} {cd : Value} {ml : List (Str × Value)} {k : Nat} {mv : Option Value} (hk : k < 1000)
    {dp un : Nat} {fr : Option (List Env)} {gds : Option (List Code)} {s : Shared} (hdep : dp + 40 < 900) (hun : un + 8 * 40 < 9000) (S : LS w g L s.heap ml pen cells oc k mv none o c1 c2 c3 W) (Q : Flow → Shared → Prop) (E : Value → Shared → Prop) :
    wpAny (model PRG w) { handled := none, depth := dp, frames := fr, guards := gds, units := un } (exec (lawSt 5) (lawEnv L a cd)) (fun fl s' => match fl with | .next => Bx (Ex9 fun oa a0 a1 a2 t0 t1 t2 n W2 => An4 ((∀ q ∈ W, q ∈ W2)) ((oa, listOf #[.int a0 t0, .int a1 t1, .int a2 t2] n) ∈ W2) ([a0, a1, a2] ∈ orders) (LSx w g L s ml pen cells oc (k + 1) mv (some (.ref oa)) W2 s')) | fl => Q fl s') E s := by
  obtain ⟨p, loose, mean, mg, mb, X', T'⟩ := id G
  have hs : g.StaysIn g := fun _ _ e => e
  obtain ⟨F', N', PS, PC, d1, d2, d3, hne, hnp, hcw⟩ := S
  (with_unfolding_all show wpAny _ _ (exec (Stmt.Assign _ _ _) _) _ _ _)
  walk_at "m go2"
  rename_i A1 _ p1 A2 _ p2 A3 _ p3 A4 _ p4 A5 _ p5 lo hO FO NO pO
  have nlt : ∀ {x y : Nat}, x < y → y ≠ x := fun h => Nat.ne_of_gt h
  refine order_pick G (by omega) (by omega) FO NO PS PC (fun q hq => (hne q hq).1) hnp hcw hk (nlt pO.2.2.2.2.2.1) fun oa a0 a1 a2 t0 t1 t2 B h' tk' o' hB ho hBn F5 N5 PS5 => ?_
  have hBne : ∀ q ∈ B, q.1 ≠ pen ∧ q.1 ≠ L + 1 ∧ q.1 ≠ L + 2 ∧ q.1 ≠ L + 3 := fun q hq => by
    rcases hBn q hq with e | e | e | e | e
    · rw [e]; exact ⟨nlt p1.1, nlt p1.2.1, nlt p1.2.2.1, nlt p1.2.2.2.1⟩
    · rw [e]; exact ⟨nlt p2.2.1, nlt p2.2.2.1, nlt p2.2.2.2.1, nlt p2.2.2.2.2.1⟩
    · rw [e]; exact ⟨nlt p3.2.2.1, nlt p3.2.2.2.1, nlt p3.2.2.2.2.1, nlt p3.2.2.2.2.2.1⟩
    · rw [e]; exact ⟨nlt p4.2.2.2.1, nlt p4.2.2.2.2.1, nlt p4.2.2.2.2.2.1, nlt p4.2.2.2.2.2.2.1⟩
    · rw [e]; exact ⟨nlt p5.2.2.2.2.1, nlt p5.2.2.2.2.2.1, nlt p5.2.2.2.2.2.2.1, nlt p5.2.2.2.2.2.2.2.1⟩
  have hW2 : ∀ q ∈ B ++ W, q.1 ≠ pen ∧ q.1 ≠ L + 1 ∧ q.1 ≠ L + 2 ∧ q.1 ≠ L + 3 := fun q hq => (List.mem_append.mp hq).elim (hBne q) (hne q)
  refine store_cell F5 N5 (c := L + 3) rfl (.tail _ (.tail _ (.tail _ (.head _)))) d3 (fun h9 o9 F6 N6 d6 => ?_) rfl rfl
  refine ⟨⟨oa, a0, a1, a2, t0, t1, t2, 0, B ++ W, fun q hq => List.mem_append_right _ hq, List.mem_append_left _ hB, ho, h9, _, o', c1, c2, o9, rfl, F6, ?_, PS5, PC, d1, d2, d6, hW2, hnp, List.mem_append_right _ hcw⟩⟩
  refine Mine.News.re (N6 ((pen, o') :: (L + 1, c1) :: (L + 2, c2) :: (B ++ W)) fun q hq => ?_) (by walk_at "m sub")
  rcases List.mem_cons.mp hq with rfl | hq
  · exact ⟨.head _, hnp.2.2⟩
  · rcases List.mem_cons.mp hq with rfl | hq
    · exact ⟨.tail _ (.head _), by simp⟩
    · rcases List.mem_cons.mp hq with rfl | hq
      · exact ⟨.tail _ (.tail _ (.head _)), by simp⟩
      · exact ⟨.tail _ (.tail _ (.tail _ (.tail _ hq))), (hW2 q hq).2.2.2⟩
end S_Law6

section S_Law7
theorem about_turn {g h : Heap} {C pz pz2 : Addr} {s : Shared} {tk i : Nat} {m : Str → Option Value} {W led : Led} {ys : List Value} {ms : MS} {σ : List Int} {gl n : Int} {own : Int × Int} {a : Value} {tg tt : Tok}
    (F : Fr g C h m) (N : News g C h ((pz2, tupO [.int gl tg, .ref pz]) :: (pz, tupO [.int (ordAt σ n) tt, a]) :: led)) (hy : ys.length = i) (T : TabG MarkW W ((aboutM σ ms).take i) ys led) (hm : ms[i]? = some (gl, (n, own))) (hS : Sup W (fun h => AncAt h a own)) :
    Turned g C s led (fun l => TabG MarkW W ((aboutM σ ms).take (i + 1)) (ys ++ [Value.ref pz2]) l ∧ (ys ++ [Value.ref pz2]).length = i + 1) { s with heap := h, toks := tk } := by
  have ha : (aboutM σ ms)[i]? = some (gl, (ordAt σ n, own)) := by unfold aboutM; rw [List.getElem?_map, hm]; rfl
  refine turned F N (fun q hq => List.mem_map_of_mem (.tail _ (.tail _ hq))) ⟨?_, by simp [hy]⟩
  rw [take_succ_get ha]
  exact T.snoc MarkW.mono (fun q hq => .tail _ (.tail _ hq)) (.head _) ⟨pz, tt, a, rfl, List.mem_append_left _ (.tail _ (.head _)), hS.mono fun q hq => List.mem_append_right _ hq⟩
theorem ord_item {a0 a1 a2 : Int} {t0 t1 t2 : Tok} {n : Int} (h0 : 0 ≤ n) (h3 : n < 3) : ∃ tt, ([.int a0 t0, .int a1 t1, .int a2 t2] : List Value)[n.toNat]? = some (.int (ordAt [a0, a1, a2] n) tt) := by
  have hn : n = 0 ∨ n = 1 ∨ n = 2 := by omega
  rcases hn with rfl | rfl | rfl
  · exact ⟨t0, rfl⟩
  · exact ⟨t1, rfl⟩
  · exact ⟨t2, rfl⟩
theorem law_7 {w : World} {g : Heap} (G : Gr w g) {L a pen cells mk oa : Addr} {oc o c1 c2 c3 : Obj} {W : Led} {cd : Value} {ml : List (Str × Value)} {k no : Nat} {ms : MS} {a0 a1 a2 : Int} {t0 t1 t2 : Tok} (hmk : TabW w MarkW W mk ms) (hmg : ms.map (·.1) = [4, 5, 6]) (hms : ∀ p ∈ ms, 0 ≤ p.2.1 ∧ p.2.1 < 3) (hoa : (oa, listOf #[.int a0 t0, .int a1 t1, .int a2 t2] no) ∈ W)
    {dp un : Nat} {fr : Option (List Env)} {gds : Option (List Code)} {s : Shared} (hdep : dp + 40 < 900) (hun : un + 8 * 40 < 9000) (S : LS w g L s.heap ml pen cells oc k (some (.ref mk)) (some (.ref oa)) o c1 c2 c3 W) (Q : Flow → Shared → Prop) (E : Value → Shared → Prop) :
    wpAny (model PRG w) { handled := none, depth := dp, frames := fr, guards := gds, units := un } (exec (lawSt 6) (lawEnv L a cd)) (fun fl s' => match fl with | .next => Bx (Ex2 fun ma W2 => An3 ((∀ q ∈ W, q ∈ W2)) (TabW w MarkW W2 ma (aboutM [a0, a1, a2] ms)) (LSx w g L s ((Str.ofString "marks_about", .ref ma) :: ml) pen cells oc k (some (.ref mk)) (some (.ref oa)) W2 s')) | fl => Q fl s') E s := by
  obtain ⟨p, loose, mean, mg, mb, X', T'⟩ := id G
  have hs : g.StaysIn g := fun _ _ e => e
  obtain ⟨F', N', PS, PC, d1, d2, d3, hne, hnp, hcw⟩ := S
  obtain ⟨kvs, hD, hkeys, hkv⟩ := id hmk
  have hkl : kvs.length = 3 := by have := congrArg List.length (hkeys.trans hmg); simpa using this
  have hml3 : ms.length = 3 := by have := congrArg List.length hmg; simpa using this
  have ndk : (kvs.map (·.1)).Nodup := by rw [hkeys, hmg]; decide
  (with_unfolding_all show wpAny _ _ (exec (Stmt.Assign _ _ _) _) _ _ _)
  walk_at "m go2"
  have hDs := hD s.heap fun q hq => (N' q (.tail _ (.tail _ (.tail _ (.tail _ hq))))).1
  refine ⟨[mk], kvs.length, _, [], (pen, o) :: (L + 1, c1) :: (L + 2, c2) :: (L + 3, c3) :: W, (fun i ys l => TabG MarkW W ((aboutM [a0, a1, a2] ms).take i) ys l ∧ ys.length = i), src_dict rfl hDs.1 hDs.2, (by rw [sizeLine_eq]; omega), F', N', (fun b _ h => nomatch h), (fun q _ h => nomatch h), ⟨TabG.nil, rfl⟩, ?_, ?_, ?_⟩
  · rintro i ys l ⟨-, h3⟩; omega
  · intro C i v s₃ m₃ ys led' g' E' F3 N3 gg grest gL hK hi hP hm _
    obtain ⟨hT, hy⟩ := hK
    obtain ⟨kk, x, tx, hkx, rfl⟩ := hP
    refine wpAny_tests_nil ?_
    rw [if_pos rfl]
    have hW3 : ∀ q ∈ W, g'.get? q.1 = some q.2 := fun q hq => grest q (.tail _ (.tail _ (.tail _ (.tail _ hq))))
    have X3 : (frag w.params).In g' := X'.keeps gg
    have T3 := T'.keeps gg
    have hs3 : g.StaysIn g' := gg
    have hpm : CellAt g' (L + 2) (.ref mk) := ⟨c2, grest (L + 2, c2) (.tail _ (.tail _ (.head _))), d2⟩
    have hpo : CellAt g' (L + 3) (.ref oa) := ⟨c3, grest (L + 3, c3) (.tail _ (.tail _ (.tail _ (.head _)))), d3⟩
    have hD3 := hD _ hW3
    have hva := value_at ndk hkx
    obtain ⟨mm, hmm⟩ : ∃ mm, ms[i]? = some (kk, mm) := by
      have h9 : (ms.map (·.1))[i]? = some kk := by rw [← hkeys, List.getElem?_map, hkx]; rfl
      rw [List.getElem?_map] at h9
      cases q : ms[i]? with
      | none => rw [q] at h9; cases h9
      | some p => rw [q] at h9; simp at h9; exact ⟨p.2, by rw [← h9]⟩
    obtain ⟨n, own⟩ := mm
    obtain ⟨tz, u, av, rfl, htz, hav⟩ := hkv i x (n, own) (by rw [hkx]; rfl) (by rw [hmm]; rfl)
    have hn := hms _ (List.mem_of_getElem? hmm)
    dsimp only at hn htz hav
    obtain ⟨tt, htt⟩ := ord_item (a0 := a0) (a1 := a1) (a2 := a2) (t0 := t0) (t1 := t1) (t2 := t2) hn.1 hn.2
    have hn0 := hn.1
    have hTz : IsTup g' tz (List.toArray [.int n u, av]) := tupO_tup (hW3 _ htz)
    have hOL : IsL g' oa [.int a0 t0, .int a1 t1, .int a2 t2] := ⟨no, hW3 _ hoa⟩
    have hn63 : n < 2 ^ 63 := by omega
    walk_at "m go2"
    exact about_turn (by assumption) (by assumption) hy hT hmm hav
  · rintro Dl nn h4 tk4 ys ledN hDn ⟨hT, hy⟩ F4 N4
    have hal : (aboutM [a0, a1, a2] ms).length = 3 := by simp [aboutM, hml3]
    rw [List.take_of_length_le (by omega)] at hT
    have hsub : ∀ q ∈ ledN, q ∈ ledN ++ ((pen, o) :: (L + 1, c1) :: (L + 2, c2) :: (L + 3, c3) :: W) := fun q hq => List.mem_append_left _ hq
    have hak : (aboutM [a0, a1, a2] ms).map (·.1) = [4, 5, 6] := by rw [← hmg]; simp [aboutM, Function.comp_def]
    have hnd : ((aboutM [a0, a1, a2] ms).map (·.1)).Nodup := by rw [hak]; decide
    have hz : (aboutM [a0, a1, a2] ms).length ≤ 1000 := by omega
    walk_at "m go2"
    rename_i d9 od9 h9' tk9 ne9 cl9 S9 h8 F8 N8
    have hpW1 : ∀ q ∈ ledN, q.1 ≠ pen ∧ q.1 ≠ L + 1 ∧ q.1 ≠ L + 2 ∧ q.1 ≠ L + 3 := fun q hq => ⟨hDn.2 q hq (pen, o) (.head _), hDn.2 q hq (L + 1, c1) (.tail _ (.head _)), hDn.2 q hq (L + 2, c2) (.tail _ (.tail _ (.head _))), hDn.2 q hq (L + 3, c3) (.tail _ (.tail _ (.tail _ (.head _))))⟩
    have hd9 : d9 ≠ pen ∧ d9 ≠ L + 1 ∧ d9 ≠ L + 2 ∧ d9 ≠ L + 3 := ⟨fun e => ne9 (pen, o) (by walk_at "m in") e.symm, fun e => ne9 (L + 1, c1) (by walk_at "m in") e.symm, fun e => ne9 (L + 2, c2) (by walk_at "m in") e.symm, fun e => ne9 (L + 3, c3) (by walk_at "m in") e.symm⟩
    have hW2 : ∀ q ∈ (d9, od9) :: (ledN ++ W), q.1 ≠ pen ∧ q.1 ≠ L + 1 ∧ q.1 ≠ L + 2 ∧ q.1 ≠ L + 3 := fun q hq => by
      rcases List.mem_cons.mp hq with rfl | hq
      · exact hd9
      · rcases List.mem_append.mp hq with hq | hq
        · exact hpW1 q hq
        · exact hne q hq
    refine ⟨⟨d9, (d9, od9) :: (ledN ++ W), fun q hq => .tail _ (List.mem_append_right _ hq), S9, h8, _, o, c1, c2, c3, rfl, Mine.Fr.put F8, ?_, PS, PC, d1, d2, d3, hW2, hnp, .tail _ (List.mem_append_right _ hcw)⟩⟩
    exact Mine.News.re N8 (by walk_at "m sub")
end S_Law7

section S_Law8
theorem law_8 {w : World} {g : Heap} (G : Gr w g) {L a pen cells : Addr} {oc o c1 c2 c3 : Obj} {W : Led} {cd : Value} {ml : List (Str × Value)} {k : Nat} {mv ov : Option Value}
    {dp un : Nat} {fr : Option (List Env)} {gds : Option (List Code)} {s : Shared} (hdep : dp + 40 < 900) (hun : un + 8 * 40 < 9000) (S : LS w g L s.heap ml pen cells oc k mv ov o c1 c2 c3 W) (Q : Flow → Shared → Prop) (E : Value → Shared → Prop) :
    wpAny (model PRG w) { handled := none, depth := dp, frames := fr, guards := gds, units := un } (exec (lawSt 7) (lawEnv L a cd)) (fun fl s' => match fl with | .next => Bx (Ex2 fun ra od => An4 ((ra == sysModules) = false) (Obj.IsDictOf (PySem.intKind PRG w) od []) ((∀ q ∈ W, q.1 ≠ ra)) (LSx w g L s ((Str.ofString "rows_about", .ref ra) :: ml) pen cells oc k mv ov ((ra, od) :: W) s')) | fl => Q fl s') E s := by
  obtain ⟨p, loose, mean, mg, mb, X', T'⟩ := id G
  have hs : g.StaysIn g := fun _ _ e => e
  obtain ⟨F', N', PS, PC, d1, d2, d3, hne, hnp, hcw⟩ := S
  (with_unfolding_all show wpAny _ _ (exec (Stmt.Assign _ _ _) _) _ _ _)
  walk_at "m go2"
  rename_i d9 h9 o9 lo9 hs9 fs9 hi9 fi9 l19 h8 F8 N8
  refine ⟨⟨d9, o9, lo9, hi9, fun q hq => Nat.ne_of_lt (ktn_ltOf l19.2.2.2.2 q hq), h8, _, o, c1, c2, c3, rfl, Mine.Fr.put F8, Mine.News.re N8 (by walk_at "m sub"), PS, PC, d1, d2, d3, fun q hq => ?_, hnp, .tail _ hcw⟩⟩
  rcases List.mem_cons.mp hq with rfl | hq
  · exact ⟨Nat.ne_of_gt l19.1, Nat.ne_of_gt l19.2.1, Nat.ne_of_gt l19.2.2.1, Nat.ne_of_gt l19.2.2.2.1⟩
  · exact hne q hq
end S_Law8

section S_Law10
theorem rows_39 : True := by
  (k_with "eval Name" => (k_here; (with_reducible show wpAny _ _ (eval (Expr.Name _ _) (lawEnv _ _ _)) _ _ _); k_dflt (refine' ldL ?z139k1 ?z139k2 ?_ ?z139k3; (case z139k1 => k_asm); (case z139k2 => assumption); (case z139k3 => rfl); k_whole)))
  (k_with "m pre" => ((try dsimp only); exact fun q hq => ((by assumption : News _ _ _ _) q (by walk_at "m in")).1))
  (k_with "call ref" => (k_here; (with_reducible show wpAny _ _ (call (Value.ref 795) _) _ _ _); k_dflt ((refine' use1 (law_table_component (by assumption) _ _ _ _ _ (by assumption) (by assumption) (by assumption) (by assumption)) ?z141k1 ?z141kN ?z141k2 ?z141k3 ?z141k4 ?z141k5 ?_); (case z141k1 => k_asm); (case z141kN => k_asm); (case z141k2 => assumption); (case z141k5 => walk_at "m pre"); (case z141k3 => walk_at "m dep"); (case z141k4 => walk_at "m dep"); intro _ _ _ _ N' _ _ post'; obtain ⟨_, _, _, e0, hb9, S9⟩ := post'; subst e0; have ap9 := fresh_apart (by assumption) hb9; have N9 := growB hb9 (by assumption) N'; clear N'; skip; (try dsimp only); revert hb9 S9 ap9 N9; intros)))
  (k_with "call ref" => (k_here; (with_reducible show wpAny _ _ (call (Value.ref 795) _) _ _ _); k_dflt ((refine' use1 (law_table_mark (by assumption) _ _ _ _ _ (by assumption) (by assumption) (by assumption) (by assumption)) ?z142k1 ?z142kN ?z142k2 ?z142k3 ?z142k4 ?z142k5 ?_); (case z142k1 => k_asm); (case z142kN => k_asm); (case z142k2 => assumption); (case z142k5 => walk_at "m pre"); (case z142k3 => walk_at "m dep"); (case z142k4 => walk_at "m dep"); intro _ _ _ _ N' _ _ post'; obtain ⟨_, _, _, e0, hb9, S9⟩ := post'; subst e0; have ap9 := fresh_apart (by assumption) hb9; have N9 := growB hb9 (by assumption) N'; clear N'; skip; (try dsimp only); revert hb9 S9 ap9 N9; intros)))
  (k_with "call ref" => (k_here; (with_reducible show wpAny _ _ (call (Value.ref 795) _) _ _ _); k_dflt ((refine' use1 (law_table_base (by assumption) _ _ _ _ _ (by assumption) (by assumption) (by assumption) (by assumption)) ?z143k1 ?z143kN ?z143k2 ?z143k3 ?z143k4 ?z143k5 ?_); (case z143k1 => k_asm); (case z143kN => k_asm); (case z143k2 => assumption); (case z143k5 => walk_at "m pre"); (case z143k3 => walk_at "m dep"); (case z143k4 => walk_at "m dep"); intro _ _ _ _ N' _ _ post'; obtain ⟨_, _, _, e0, hb9, S9⟩ := post'; subst e0; have ap9 := fresh_apart (by assumption) hb9; have N9 := growB hb9 (by assumption) N'; clear N'; skip; (try dsimp only); revert hb9 S9 ap9 N9; intros)))
  trivial

theorem law_10_base {w : World} {g : Heap} (G : Gr w g) {L a pen cells mk ma rd ra : Addr} {oc o c1 c2 c3 : Obj} {W : Led} {cd : Value} {ml : List (Str × Value)} {k : Nat} {ov : Option Value} {tk0 : Tok} {R R2 : RW0} (hR1 : RowsW w W rd R) (hR2 : RowsW w W ra R2) (hg1 : ∀ p ∈ R, p.2.length = 2 ∧ ∀ c ∈ p.2, c.length = 3) (hg2 : ∀ p ∈ R2, p.2.length = 2 ∧ ∀ c ∈ p.2, c.length = 3) (nd1 : (R.map (·.1)).Nodup) (nd2 : (R2.map (·.1)).Nodup) (hz1 : R.length ≤ 100) (hz2 : R2.length ≤ 100)
    {dp un : Nat} {fr : Option (List Env)} {gds : Option (List Code)} {s : Shared} (hdep : dp + 40 < 900) (hun : un + 8 * 40 < 9000) (S : LS w g L s.heap ml pen cells oc k (some (.ref mk)) ov o c1 c2 c3 W) (l1 : mapL ml (Str.ofString "kind") = some (.str (sN "base") tk0)) (l2 : mapL ml (Str.ofString "rows") = some (.ref rd)) (l3 : mapL ml (Str.ofString "marks_about") = some (.ref ma)) (l4 : mapL ml (Str.ofString "rows_about") = some (.ref ra)) (Q : Flow → Shared → Prop) (E : Value → Shared → Prop) :
    wpAny (model PRG w) { handled := none, depth := dp, frames := fr, guards := gds, units := un } (exec (lawSt 9) (lawEnv L a cd)) (fun fl s' => match fl with | .next => Bx (∃ tb tb2 bd bd2 W2, (∀ q ∈ W, q ∈ W2) ∧ Sup W2 (fun h => Has h tb 411 [(Str.ofString "marks", .ref mk), (Str.ofString "bases", .ref bd)] ∧ Tab w h bd TupCells (firsts R)) ∧ Sup W2 (fun h => Has h tb2 411 [(Str.ofString "marks", .ref ma), (Str.ofString "bases", .ref bd2)] ∧ Tab w h bd2 TupCells (firsts R2)) ∧ LSx w g L s ((Str.ofString "plain", .ref tb) :: (Str.ofString "other", .ref tb2) :: ml) pen cells oc k (some (.ref mk)) ov W2 s') | fl => Q fl s') E s := by
  obtain ⟨p, loose, mean, mg, mb, X', T'⟩ := id G
  have hs : g.StaysIn g := fun _ _ e => e
  obtain ⟨F', N', PS, PC, d1, d2, d3, hne, hnp, hcw⟩ := S
  (with_unfolding_all show wpAny _ _ (exec (Stmt.Assign _ _ _) _) _ _ _)
  walk_at "m go2"
  refine' ⟨⟨_, _, _, _, tables_fin ?F ?N ?S1 ?S2 ?a1 ?a2 PS PC d1 d2 d3 hne hnp hcw⟩⟩
  case F => assumption
  case N => assumption
  case S1 => assumption
  case S2 => assumption
  case a1 => assumption
  case a2 => assumption
theorem law_10_mark {w : World} {g : Heap} (G : Gr w g) {L a pen cells mk ma rd ra : Addr} {oc o c1 c2 c3 : Obj} {W : Led} {cd : Value} {ml : List (Str × Value)} {k : Nat} {ov : Option Value} {tk0 : Tok} {R R2 : RW0} (hR1 : RowsW w W rd R) (hR2 : RowsW w W ra R2) (hg1 : ∀ p ∈ R, p.2.length = 2 ∧ ∀ c ∈ p.2, c.length = 3) (hg2 : ∀ p ∈ R2, p.2.length = 2 ∧ ∀ c ∈ p.2, c.length = 3) (nd1 : (R.map (·.1)).Nodup) (nd2 : (R2.map (·.1)).Nodup) (hz1 : R.length ≤ 100) (hz2 : R2.length ≤ 100)
    {dp un : Nat} {fr : Option (List Env)} {gds : Option (List Code)} {s : Shared} (hdep : dp + 40 < 900) (hun : un + 8 * 40 < 9000) (S : LS w g L s.heap ml pen cells oc k (some (.ref mk)) ov o c1 c2 c3 W) (l1 : mapL ml (Str.ofString "kind") = some (.str (sN "mark") tk0)) (l2 : mapL ml (Str.ofString "rows") = some (.ref rd)) (l3 : mapL ml (Str.ofString "marks_about") = some (.ref ma)) (l4 : mapL ml (Str.ofString "rows_about") = some (.ref ra)) (Q : Flow → Shared → Prop) (E : Value → Shared → Prop) :
    wpAny (model PRG w) { handled := none, depth := dp, frames := fr, guards := gds, units := un } (exec (lawSt 9) (lawEnv L a cd)) (fun fl s' => match fl with | .next => Bx (∃ tb tb2 bd bd2 W2, (∀ q ∈ W, q ∈ W2) ∧ Sup W2 (fun h => Has h tb 465 [(Str.ofString "marks", .ref mk), (Str.ofString "others", .ref bd)] ∧ Tab w h bd TupCells (firsts R)) ∧ Sup W2 (fun h => Has h tb2 465 [(Str.ofString "marks", .ref ma), (Str.ofString "others", .ref bd2)] ∧ Tab w h bd2 TupCells (firsts R2)) ∧ LSx w g L s ((Str.ofString "plain", .ref tb) :: (Str.ofString "other", .ref tb2) :: ml) pen cells oc k (some (.ref mk)) ov W2 s') | fl => Q fl s') E s := by
  obtain ⟨p, loose, mean, mg, mb, X', T'⟩ := id G
  have hs : g.StaysIn g := fun _ _ e => e
  obtain ⟨F', N', PS, PC, d1, d2, d3, hne, hnp, hcw⟩ := S
  (with_unfolding_all show wpAny _ _ (exec (Stmt.Assign _ _ _) _) _ _ _)
  walk_at "m go2"
  refine' ⟨⟨_, _, _, _, tables_fin ?F ?N ?S1 ?S2 ?a1 ?a2 PS PC d1 d2 d3 hne hnp hcw⟩⟩
  case F => assumption
  case N => assumption
  case S1 => assumption
  case S2 => assumption
  case a1 => assumption
  case a2 => assumption
theorem law_10_component {w : World} {g : Heap} (G : Gr w g) {L a pen cells mk ma rd ra : Addr} {oc o c1 c2 c3 : Obj} {W : Led} {cd : Value} {ml : List (Str × Value)} {k : Nat} {ov : Option Value} {tk0 : Tok} {R R2 : RW0} (hR1 : RowsW w W rd R) (hR2 : RowsW w W ra R2) (hg1 : ∀ p ∈ R, p.2.length = 2 ∧ ∀ c ∈ p.2, c.length = 3) (hg2 : ∀ p ∈ R2, p.2.length = 2 ∧ ∀ c ∈ p.2, c.length = 3) (nd1 : (R.map (·.1)).Nodup) (nd2 : (R2.map (·.1)).Nodup) (hz1 : R.length ≤ 100) (hz2 : R2.length ≤ 100)
    {dp un : Nat} {fr : Option (List Env)} {gds : Option (List Code)} {s : Shared} (hdep : dp + 40 < 900) (hun : un + 8 * 40 < 9000) (S : LS w g L s.heap ml pen cells oc k (some (.ref mk)) ov o c1 c2 c3 W) (l1 : mapL ml (Str.ofString "kind") = some (.str (sN "component") tk0)) (l2 : mapL ml (Str.ofString "rows") = some (.ref rd)) (l3 : mapL ml (Str.ofString "marks_about") = some (.ref ma)) (l4 : mapL ml (Str.ofString "rows_about") = some (.ref ra)) (Q : Flow → Shared → Prop) (E : Value → Shared → Prop) :
    wpAny (model PRG w) { handled := none, depth := dp, frames := fr, guards := gds, units := un } (exec (lawSt 9) (lawEnv L a cd)) (fun fl s' => match fl with | .next => Bx (∃ tb tb2 bd bd2 W2, (∀ q ∈ W, q ∈ W2) ∧ Sup W2 (fun h => Has h tb 437 [(Str.ofString "marks", .ref mk), (Str.ofString "ligatures", .ref bd)] ∧ Tab w h bd PartsAt R) ∧ Sup W2 (fun h => Has h tb2 437 [(Str.ofString "marks", .ref ma), (Str.ofString "ligatures", .ref bd2)] ∧ Tab w h bd2 PartsAt R2) ∧ LSx w g L s ((Str.ofString "plain", .ref tb) :: (Str.ofString "other", .ref tb2) :: ml) pen cells oc k (some (.ref mk)) ov W2 s') | fl => Q fl s') E s := by
  obtain ⟨p, loose, mean, mg, mb, X', T'⟩ := id G
  have hs : g.StaysIn g := fun _ _ e => e
  obtain ⟨F', N', PS, PC, d1, d2, d3, hne, hnp, hcw⟩ := S
  (with_unfolding_all show wpAny _ _ (exec (Stmt.Assign _ _ _) _) _ _ _)
  walk_at "m go2"
  refine' ⟨⟨_, _, _, _, tables_fin ?F ?N ?S1 ?S2 ?a1 ?a2 PS PC d1 d2 d3 hne hnp hcw⟩⟩
  case F => assumption
  case N => assumption
  case S1 => assumption
  case S2 => assumption
  case a1 => assumption
  case a2 => assumption
end S_Law10

section S_Law11
theorem rows_40 : True := by
  (k_with "call ref" => (k_here; (with_reducible show wpAny _ _ (call (Value.ref 135) _) _ _ _); k_dflt ((refine' use1 (new_info (by assumption) _ _ _ _ _) ?z144k1 ?z144kN ?z144k2 ?z144k3 ?z144k4 ?z144k5 ?_); (case z144k1 => k_asm); (case z144kN => k_asm); (case z144k2 => assumption); (case z144k5 => walk_at "m pre"); (case z144k3 => walk_at "m dep"); (case z144k4 => walk_at "m dep"); intro _ _ _ _ N' _ _ post'; obtain ⟨_, post'⟩ := post'; obtain ⟨x9, dx9, es9, n9, e0, lt9, fx9, fdx9, nm9, N9⟩ := made_grow (by assumption) N' post'; clear N'; subst e0; (try dsimp only); revert post' x9 dx9 es9 n9 lt9 fx9 fdx9 nm9 N9; intros)))
  trivial

theorem info_turn {g h h0 : Heap} {C x dx pen cells l9 : Addr} {s : Shared} {tk n i k' k2 : Nat} {m : Str → Option Value} {es : List DictEntry} {xs : List (Addr × Addr)} {dl : Led} {rs : List Rec} {gl : Int} {t : Nat → Tok} {o o1 o9 : Obj}
    (F : Fr g C h m) (N : News g C h ((x, instObj 135 dx) :: (dx, dictOf es n) :: (pen, o) :: (l9, o9) :: (insts xs ++ dl))) (N0 : News g C h0 ((pen, o) :: (l9, o9) :: (insts xs ++ dl))) (hn : h0.get? dx = none) (nm : Named es (infoF (rec0 gl (i : Int)) t)) (hgl : 0 ≤ gl ∧ gl ≤ 7) (PS : PenS cells o k') (hk : k' ≤ k2) (hW : ∀ q ∈ insts xs ++ dl, q.1 ≠ pen) (hx : xs.length = i) (D : DL xs rs dl) (hG : GoodB rs) :
    Turned g C s ((pen, o1) :: (insts xs ++ dl)) (fun l => Ex4 fun o1 xs1 dl rs => An7 (l = (pen, o1) :: (insts xs1 ++ dl)) (PenS cells o1 k2) ((∀ q ∈ insts xs1 ++ dl, q.1 ≠ pen)) (xs1.length = i + 1) ((xs.map (fun x => Value.ref x.1)) ++ [Value.ref x] = xs1.map (fun x => Value.ref x.1)) (DL xs1 rs dl) (GoodB rs)) { s with heap := h, toks := tk } := by
  have hin : ∀ p ∈ insts (xs ++ [(x, dx)]) ++ (dl ++ [(dx, dictOf es n)]), p ∈ (x, instObj 135 dx) :: (dx, dictOf es n) :: (pen, o) :: (l9, o9) :: (insts xs ++ dl) := fun p hp => by
    rw [insts_snoc] at hp
    exact (by walk_at "m sub" : ∀ r ∈ _, r ∈ _) p hp
  have mp : (pen, o) ∈ (x, instObj 135 dx) :: (dx, dictOf es n) :: (pen, o) :: (l9, o9) :: (insts xs ++ dl) := .tail _ (.tail _ (.head _))
  refine turned F (led2 := (pen, o) :: (insts (xs ++ [(x, dx)]) ++ (dl ++ [(dx, dictOf es n)]))) (Mine.News.re N fun p hp => ?_) (pen_sub fun q hq => ?_) ⟨o, xs ++ [(x, dx)], dl ++ [(dx, dictOf es n)], rs ++ [rec0 gl (i : Int)], rfl, PS.le hk, ?_, by simp [hx], by simp, ?_, goodB_snoc hG hgl rfl (by simp [rec0]) empty_ok⟩
  · rcases List.mem_cons.mp hp with rfl | hp
    · exact mp
    · exact hin p hp
  · rw [insts_snoc]
    exact (by walk_at "m sub" : ∀ r ∈ _, r ∈ _) q hq
  · intro q hq
    rw [insts_snoc] at hq
    simp only [List.mem_append, List.mem_cons, List.not_mem_nil, or_false] at hq
    rcases hq with (hq | rfl) | hq | rfl
    · exact hW q (List.mem_append_left _ hq)
    · exact ne_pen N mp PS (.head _) (fun e => by cases e)
    · exact hW q (List.mem_append_right _ hq)
    · exact ne_pen N mp PS (.tail _ (.head _)) (fun e => absurd (Value.type.inj e) (by decide))
  · exact D.snoc nm fun q hq e => by
      have := (N0 q (.tail _ (.tail _ (List.mem_append_right _ hq)))).1
      rw [e, hn] at this; cases this
theorem law_11 {w : World} {g : Heap} (G : Gr w g) {L a pen cells : Addr} {oc o c1 c2 c3 : Obj} {W : Led} {cd : Value} {ml : List (Str × Value)} {k : Nat} {mv ov : Option Value} (hk : k < 1000)
    {dp un : Nat} {fr : Option (List Env)} {gds : Option (List Code)} {s : Shared} (hdep : dp + 40 < 900) (hun : un + 8 * 40 < 9000) (S : LS w g L s.heap ml pen cells oc k mv ov o c1 c2 c3 W) (Q : Flow → Shared → Prop) (E : Value → Shared → Prop) :
    wpAny (model PRG w) { handled := none, depth := dp, frames := fr, guards := gds, units := un } (exec (lawSt 10) (lawEnv L a cd)) (fun fl s' => match fl with | .next => Bx (Ex6 fun il xs rs dl nn W2 => An9 ((∀ q ∈ W, q ∈ W2)) (xs.length ≤ 6) (DL xs rs dl) (GoodB rs) ((∀ q ∈ insts xs, q ∈ W2)) ((∀ q ∈ dl, ∀ r ∈ W2, q.1 ≠ r.1)) ((il, listOf (List.toArray (xs.map fun x => Value.ref x.1)) nn) ∈ W2) ((cells, oc) ∈ W2) (LSx w g L s ((Str.ofString "infos", .ref il) :: ml) pen cells oc (k + 10) mv ov (dl ++ W2) s')) | fl => Q fl s') E s := by
  obtain ⟨p, loose, mean, mg, mb, X', T'⟩ := id G
  have hs : g.StaysIn g := fun _ _ e => e
  obtain ⟨F', N', PS, PC, d1, d2, d3, hne, hnp, hcw⟩ := S
  have hneC : ∀ q ∈ (L + 1, c1) :: (L + 2, c2) :: (L + 3, c3) :: W, q.1 ≠ pen := ne_cons hnp.1.symm (ne_cons hnp.2.1.symm (ne_cons hnp.2.2.symm fun q hq => (hne q hq).1))
  have hcs : s.heap.get? cells = some oc := (N' _ (.tail _ (.tail _ (.tail _ (.tail _ hcw))))).1
  (with_unfolding_all show wpAny _ _ (exec (Stmt.Assign _ _ _) _) _ _ _)
  walk_at "m go2"
  rename_i h7 tk7 o9 F7 N7 PS9 st9 dm9 d9 t9 hd0 hd7 h8 tk8 t1 u1 v1 hR8 F8 N8 _
  obtain ⟨n, rfl⟩ : ∃ n : Nat, d9 = (n : Int) := ⟨d9.toNat, by omega⟩
  have hn7 : n < 7 := by omega
  refine ⟨[], n, _, [(pen, o9)], (L + 1, c1) :: (L + 2, c2) :: (L + 3, c3) :: W, (fun i ys l => Ex4 fun o1 xs dl rs => An7 (l = (pen, o1) :: (insts xs ++ dl)) (PenS cells o1 (k + 1 + i)) ((∀ q ∈ insts xs ++ dl, q.1 ≠ pen)) (xs.length = i) (ys = xs.map (fun x => Value.ref x.1)) (DL xs rs dl) (GoodB rs)), src_range (n := n) rfl hR8 (by omega), (by rw [sizeLine_eq]; omega), F8, N8, (fun b h => nomatch h), ?_, ⟨o9, [], [], [], rfl, PS9.le (by omega), (fun q h => nomatch h), rfl, rfl, DL.nil, goodB_nil⟩, ?_, ?_, ?_⟩
  · intro q hq hm
    exact hneC q hq (by simpa using hm)
  · rintro i ys l ⟨_, xs, _, _, -, -, -, h3, rfl, -⟩; simp; omega
  · intro C i v s₃ m₃ ys led' g' E' F3 N3 gg grest gL hK hi hP hm _
    obtain ⟨o1, xs, dl, rs, rfl, PS1, hW1, hxl, rfl, hDL, hGd⟩ := hK
    obtain ⟨ti, rfl⟩ := hP
    refine wpAny_tests_nil ?_
    rw [if_pos rfl]
    have X3 : (frag w.params).In g' := X'.keeps gg
    have T3 := T'.keeps gg
    have hs3 : g.StaysIn g' := gg
    have hc3 : g'.get? cells = some oc := grest (cells, oc) (.tail _ (.tail _ (.tail _ hcw)))
    have hpc : CellAt g' (L + 1) (.ref pen) := ⟨c1, grest (L + 1, c1) (.head _), d1⟩
    walk_at "m go2"
    rename_i l9 h9 F9 N9 l19
    refine pick_use2 G hs3 (n := 0) (vs := [.int 0 (s₃.toks + 1), .int 1 (s₃.toks + 1 + 1), .int 2 (s₃.toks + 1 + 1 + 1), .int 4 (s₃.toks + 1 + 1 + 1 + 1), .int 5 (s₃.toks + 1 + 1 + 1 + 1 + 1), .int 6 (s₃.toks + 1 + 1 + 1 + 1 + 1 + 1), .int 7 (s₃.toks + 1 + 1 + 1 + 1 + 1 + 1 + 1)]) (rest := insts xs ++ dl) (by omega) (by omega) F9 (Mine.News.re N9 (by walk_at "m sub")) PS1 PC ?_ hW1 (F9.keep _ _ hc3) (by simp) (by simp) (by omega) fun i9 r h' tk' o' hi9 F5 N5 PS5 => ?_
    · exact Nat.ne_of_gt l19.1
    · obtain ⟨gl, tg, rfl, hgl⟩ : ∃ gl tg, r = .int gl tg ∧ 0 ≤ gl ∧ gl ≤ 7 := by
        match i9, hi9 with
        | 0, h => cases h; exact ⟨_, _, rfl, by decide, by decide⟩
        | 1, h => cases h; exact ⟨_, _, rfl, by decide, by decide⟩
        | 2, h => cases h; exact ⟨_, _, rfl, by decide, by decide⟩
        | 3, h => cases h; exact ⟨_, _, rfl, by decide, by decide⟩
        | 4, h => cases h; exact ⟨_, _, rfl, by decide, by decide⟩
        | 5, h => cases h; exact ⟨_, _, rfl, by decide, by decide⟩
        | 6, h => cases h; exact ⟨_, _, rfl, by decide, by decide⟩
        | i9 + 7, h => simp at h
      clear F9 N9
      walk_at "m go2"
      exact info_turn (by assumption) (by assumption) N5 (by assumption) (by assumption) hgl (by assumption) (by omega) hW1 hxl hDL hGd
  · rintro Dl nn h4 tk4 ys ledN hDn ⟨o1, xs, dl, rs, rfl, PS1, hW1, hxl, rfl, hDL, hGd⟩ F4 N4
    have hDl : Dl ≠ pen ∧ Dl ≠ L + 1 ∧ Dl ≠ L + 2 ∧ Dl ≠ L + 3 := ⟨fun e => hDn.1 (pen, o1) (by walk_at "m in") e.symm, fun e => hDn.1 (L + 1, c1) (by walk_at "m in") e.symm, fun e => hDn.1 (L + 2, c2) (by walk_at "m in") e.symm, fun e => hDn.1 (L + 3, c3) (by walk_at "m in") e.symm⟩
    have hW2 : ∀ q ∈ dl ++ ((Dl, listOf (List.toArray (xs.map fun x => Value.ref x.1)) nn) :: (insts xs ++ W)), q.1 ≠ pen ∧ q.1 ≠ L + 1 ∧ q.1 ≠ L + 2 ∧ q.1 ≠ L + 3 := fun q hq => by
      have inl : ∀ q ∈ insts xs ++ dl, q.1 ≠ pen ∧ q.1 ≠ L + 1 ∧ q.1 ≠ L + 2 ∧ q.1 ≠ L + 3 := fun q hq => ⟨hW1 q hq, hDn.2 q (.tail _ hq) (L + 1, c1) (.head _), hDn.2 q (.tail _ hq) (L + 2, c2) (.tail _ (.head _)), hDn.2 q (.tail _ hq) (L + 3, c3) (.tail _ (.tail _ (.head _)))⟩
      rcases List.mem_append.mp hq with hq | hq
      · exact inl q (List.mem_append_right _ hq)
      · rcases List.mem_cons.mp hq with rfl | hq
        · exact hDl
        · rcases List.mem_append.mp hq with hq | hq
          · exact inl q (List.mem_append_left _ hq)
          · exact hne q hq
    refine ⟨⟨Dl, xs, rs, dl, nn, (Dl, listOf (List.toArray (xs.map fun x => Value.ref x.1)) nn) :: (insts xs ++ W), fun q hq => .tail _ (List.mem_append_right _ hq), by omega, hDL, hGd, fun q hq => .tail _ (List.mem_append_left _ hq), fun q hq r hr => ?_, .head _, .tail _ (List.mem_append_right _ hcw), h4, tk4, o1, c1, c2, c3, rfl, Mine.Fr.put F4, ?_, PS1.le (by omega), PC, d1, d2, d3, hW2, hnp, List.mem_append_right _ (.tail _ (List.mem_append_right _ hcw))⟩⟩
    · have hqm : q ∈ (pen, o1) :: (insts xs ++ dl) := .tail _ (List.mem_append_right _ hq)
      rcases List.mem_cons.mp hr with rfl | hr
      · exact hDn.1 q (List.mem_append_left _ hqm)
      · rcases List.mem_append.mp hr with hr | hr
        · have hrm : r ∈ (pen, o1) :: (insts xs ++ dl) := .tail _ (List.mem_append_left _ hr)
          obtain ⟨i, hi, ei⟩ := List.mem_iff_getElem.mp hq
          have hi2 : i < rs.length := by rw [← hDL.len, ← hDL.dlen]; exact hi
          obtain ⟨t, es, n, b, _⟩ := hDL.at_ i rs[i] q (by simp [hi2]) (by simp [hi, ei])
          obtain ⟨x, hx, rfl⟩ := List.mem_map.mp hr
          refine fun e => ?_
          have z1 := (N4 q (.tail _ (List.mem_append_left _ hqm))).1
          have z2 := (N4 _ (.tail _ (List.mem_append_left _ hrm))).1
          rw [e, z2, b] at z1
          cases z1
        · exact hDn.2 q hqm r (.tail _ (.tail _ (.tail _ hr)))
    · exact Mine.News.re N4 (by walk_at "m sub")
end S_Law11

section S_Law13
theorem rows_41 : True := by
  (k_with "call ref" => (k_here; (with_reducible show wpAny _ _ (call (Value.ref 714) _) _ _ _); k_dflt ((refine' use1 (new_cls (by assumption) _) ?z145k1 ?z145kN ?z145k2 ?z145k3 ?z145k4 ?z145k5 ?_); (case z145k1 => k_asm); (case z145kN => k_asm); (case z145k2 => assumption); (case z145k5 => walk_at "m pre"); (case z145k3 => walk_at "m dep"); (case z145k4 => walk_at "m dep"); intro _ _ _ _ N' _ _ post'; obtain ⟨x9, dx9, es9, n9, e0, lt9, fx9, fdx9, nm9, N9⟩ := made_grow (by assumption) N' post'; clear N'; subst e0; (try dsimp only); revert post' x9 dx9 es9 n9 lt9 fx9 fdx9 nm9 N9; intros)))
  (k_with "call ref" => (k_here; (with_reducible show wpAny _ _ (call (Value.ref 762) _) _ _ _); k_dflt ((refine' use1 (new_gdef (by assumption) _ _ _) ?z146k1 ?z146kN ?z146k2 ?z146k3 ?z146k4 ?z146k5 ?_); (case z146k1 => k_asm); (case z146kN => k_asm); (case z146k2 => assumption); (case z146k5 => walk_at "m pre"); (case z146k3 => walk_at "m dep"); (case z146k4 => walk_at "m dep"); intro _ _ _ _ N' _ _ post'; obtain ⟨_, _, post'⟩ := post'; obtain ⟨x9, dx9, es9, n9, e0, lt9, fx9, fdx9, nm9, N9⟩ := made_grow (by assumption) N' post'; clear N'; subst e0; (try dsimp only); revert post' x9 dx9 es9 n9 lt9 fx9 fdx9 nm9 N9; intros)))
  trivial

def IntW (_ : Led) (v : Value) (n : Int) : Prop := ∃ t, v = .int n t
theorem IntW.mono : MonoL IntW := fun _ _ _ _ _ x => x
theorem rows_42 : True := by
  (k_with "m mono" => exact IntW.mono)
  trivial

def clsL : List (Int × Int) := [(0, 1), (1, 1), (2, 1), (3, 1), (4, 3), (5, 3), (6, 3)]
theorem cls_at {g : Int} (h0 : 0 ≤ g) (h7 : g ≤ 7) : clsL.lookup g = some (cls g) ∨ (clsL.lookup g = none ∧ cls g = 0) := by
  obtain ⟨n, rfl⟩ : ∃ n : Nat, g = (n : Int) := ⟨g.toNat, by omega⟩
  have hn : n < 8 := by omega
  clear h0 h7
  revert n
  decide
theorem cls_kvs {W : Led} {kvs : List (Int × Value)} (hk : kvs.map (·.1) = clsL.map (·.1)) (hv : ∀ (i : Nat) (v : Value) (a : Int), (kvs[i]?).map (fun x => x.2) = some v → (clsL[i]?).map (fun x => x.2) = some a → IntW W v a) : ClsKvs kvs := by
  intro g u h0 h7
  obtain ⟨a, b⟩ := assoc_lookup (g := g) hk
  cases q : valueAt kvs g with
  | none =>
    rw [q] at a
    rcases cls_at h0 h7 with e | ⟨_, e⟩
    · rw [e] at a; cases a
    · exact ⟨u, by rw [e]; rfl⟩
  | some v =>
    rw [q] at a
    rcases cls_at h0 h7 with e | ⟨e, _⟩
    · obtain ⟨i, e1, e2⟩ := b v _ q e
      obtain ⟨t, rfl⟩ := hv i v _ e1 e2
      exact ⟨t, rfl⟩
    · rw [e] at a; cases a
theorem ne_obj {g h : Heap} {L a b : Addr} {o1 o2 : Obj} {news : Led} (N : News g L h news) (m1 : (a, o1) ∈ news) (m2 : (b, o2) ∈ news) (hd : o1.data ≠ o2.data) : a ≠ b := fun e => by
  have x := (N _ m1).1
  have y := (N _ m2).1
  rw [e] at x
  exact hd (congrArg Obj.data (Option.some.inj (x.symm.trans y)))
theorem law_13 {w : World} {g : Heap} (G : Gr w g) {L a pen cells : Addr} {oc o c1 c2 c3 : Obj} {W : Led} {cd : Value} {ml : List (Str × Value)} {k : Nat} {mv ov : Option Value}
    {dp un : Nat} {fr : Option (List Env)} {gds : Option (List Code)} {s : Shared} (hdep : dp + 40 < 900) (hun : un + 8 * 40 < 9000) (S : LS w g L s.heap ml pen cells oc k mv ov o c1 c2 c3 W) (Q : Flow → Shared → Prop) (E : Value → Shared → Prop) :
    wpAny (model PRG w) { handled := none, depth := dp, frames := fr, guards := gds, units := un } (exec (lawSt 12) (lawEnv L a cd)) (fun fl s' => match fl with | .next => Bx (Ex2 fun gd W2 => An3 ((∀ q ∈ W, q ∈ W2)) (Sup W2 (fun h => GdefAt w h gd)) (LSx w g L s ((Str.ofString "gdef", .ref gd) :: ml) pen cells oc k mv ov W2 s')) | fl => Q fl s') E s := by
  obtain ⟨p, loose, mean, mg, mb, X', T'⟩ := id G
  have hs : g.StaysIn g := fun _ _ e => e
  obtain ⟨F', N', PS, PC, d1, d2, d3, hne, hnp, hcw⟩ := S
  (with_unfolding_all show wpAny _ _ (exec (Stmt.Assign _ _ _) _) _ _ _)
  walk_at "m go2"
  rename_i h8 tk8 t1 u1 v1 hR8 F8 N8 _
  refine ⟨[], 7, _, [], (pen, o) :: (L + 1, c1) :: (L + 2, c2) :: (L + 3, c3) :: W, (fun i ys l => TabG IntW [] (clsL.take i) ys l ∧ ys.length = i), src_range (n := 7) rfl hR8 (by omega), (by decide), F8, N8, (fun b h => nomatch h), (fun q _ h => nomatch h), ⟨TabG.nil, rfl⟩, ?_, ?_, ?_⟩
  · rintro i ys l ⟨-, h3⟩; omega
  · intro C i v s₃ m₃ ys led' g' E' F3 N3 gg grest gL hK hi hP hm _
    obtain ⟨hT, hy⟩ := hK
    obtain ⟨ti, rfl⟩ := hP
    refine wpAny_tests_nil ?_
    rw [if_pos rfl]
    have X3 : (frag w.params).In g' := X'.keeps gg
    have T3 := T'.keeps gg
    have hi7 : i < 7 := hi
    have hcl : clsL[i]? = some ((i : Int), if 3 < (i : Int) then 3 else 1) := by
      match i, hi7 with
      | 0, _ => rfl
      | 1, _ => rfl
      | 2, _ => rfl
      | 3, _ => rfl
      | 4, _ => rfl
      | 5, _ => rfl
      | 6, _ => rfl
    walk_at "m go2"
    · rename_i h3 D h' F5 N5 l1
      rw [if_pos h3] at hcl
      exact turned F5 N5 (fun q hq => List.mem_map_of_mem (.tail _ hq)) ⟨by rw [take_succ_get hcl]; exact hT.snoc IntW.mono (fun q hq => .tail _ hq) (.head _) ⟨_, rfl⟩, by simp [hy]⟩
    · rename_i h3 D h' F5 N5 l1
      rw [if_neg h3] at hcl
      exact turned F5 N5 (fun q hq => List.mem_map_of_mem (.tail _ hq)) ⟨by rw [take_succ_get hcl]; exact hT.snoc IntW.mono (fun q hq => .tail _ hq) (.head _) ⟨_, rfl⟩, by simp [hy]⟩
  · rintro Dl nn h4 tk4 ys ledN hDn ⟨hT, hy⟩ F4 N4
    have hT7 : TabG IntW [] clsL ys ledN := hT
    have hsub : ∀ q ∈ ledN, q ∈ ledN ++ ((pen, o) :: (L + 1, c1) :: (L + 2, c2) :: (L + 3, c3) :: W) := fun q hq => List.mem_append_left _ hq
    have hnd : (clsL.map (·.1)).Nodup := by decide
    have hz : clsL.length ≤ 1000 := by decide
    clear hT
    walk_at "m go2"
    rename_i d9 od9 h9 tk9 ne9 cl9 S9 e1 e2 e3 e4 x2 dx2 es2 n2 _ _ _ nm2 _ d h5 od e5 e6 e7 e8 e9 l1d _ _ _ _ x1 dx1 es1 n1 _ _ _ nm1 _ l h6 l1l _ _ _ _ v4 v5 x dx es n _ _ _ nm _ h' F7 N7
    obtain ⟨kvs, sD, hk, hv⟩ := S9
    let A : Led := [(x, instObj 762 dx), (dx, dictOf es n), (l, PySem.W.listOf #[] 0), (x1, instObj 714 dx1), (dx1, dictOf es1 n1), (d, od), (x2, instObj 714 dx2), (dx2, dictOf es2 n2), (d9, od9)]
    have N8 : News g L h' (A ++ (ledN ++ ((pen, o) :: (L + 1, c1) :: (L + 2, c2) :: (L + 3, c3) :: W))) := N7
    have mR : ∀ r ∈ (pen, o) :: (L + 1, c1) :: (L + 2, c2) :: (L + 3, c3) :: W, r ∈ A ++ (ledN ++ ((pen, o) :: (L + 1, c1) :: (L + 2, c2) :: (L + 3, c3) :: W)) := fun r hr => List.mem_append_right _ (List.mem_append_right _ hr)
    have mA : ∀ r ∈ A, r ∈ A ++ (ledN ++ ((pen, o) :: (L + 1, c1) :: (L + 2, c2) :: (L + 3, c3) :: W)) := fun r hr => List.mem_append_left _ hr
    have hR : ∀ r ∈ [(pen, o), (L + 1, c1), (L + 2, c2), (L + 3, c3)], r ∈ (pen, o) :: (L + 1, c1) :: (L + 2, c2) :: (L + 3, c3) :: W := by walk_at "m sub"
    have cda : ∀ {a : Addr} {c : Obj} {v : Option Value}, c.data = .cell v → (a, c).2.data ≠ .plain ∧ ∀ es n, (a, c).2.data ≠ (dictOf es n).data := fun {a c v} e => by
      show c.data ≠ _ ∧ ∀ es n, c.data ≠ _
      rw [e]; exact ⟨fun e => (by cases e), fun es n e => (by cases e)⟩
    have pda : (pen, o).2.data ≠ .plain ∧ ∀ es n, (pen, o).2.data ≠ (dictOf es n).data := by
      obtain ⟨sp, gr, t1, t2, n1, rfl, -⟩ := PS
      exact ⟨fun e => (by cases e), fun es n e => (by cases e)⟩
    have hda : ∀ r ∈ [(pen, o), (L + 1, c1), (L + 2, c2), (L + 3, c3)], r.2.data ≠ .plain ∧ ∀ es n, r.2.data ≠ (dictOf es n).data := List.forall_mem_cons.mpr ⟨pda, List.forall_mem_cons.mpr ⟨cda d1, List.forall_mem_cons.mpr ⟨cda d2, List.forall_mem_cons.mpr ⟨cda d3, List.forall_mem_nil _⟩⟩⟩⟩
    have hWr : ∀ r ∈ [(pen, o), (L + 1, c1), (L + 2, c2), (L + 3, c3)], ∀ q ∈ W, q.1 ≠ r.1 := List.forall_mem_cons.mpr ⟨fun q hq => (hne q hq).1, List.forall_mem_cons.mpr ⟨fun q hq => (hne q hq).2.1, List.forall_mem_cons.mpr ⟨fun q hq => (hne q hq).2.2.1, List.forall_mem_cons.mpr ⟨fun q hq => (hne q hq).2.2.2, List.forall_mem_nil _⟩⟩⟩⟩
    have ap : ∀ r ∈ [(pen, o), (L + 1, c1), (L + 2, c2), (L + 3, c3)], ∀ q ∈ A ++ (ledN ++ W), q.1 ≠ r.1 := by
      intro r hr
      have hr' := hR r hr
      have hI : ∀ y dy C, (y, instObj C dy) ∈ A → y ≠ r.1 := fun y dy C hm => ne_obj N8 (mA _ hm) (mR _ hr') fun e => (hda r hr).1 e.symm
      have hD : ∀ y es n, (y, dictOf es n) ∈ A → y ≠ r.1 := fun y es n hm => ne_obj N8 (mA _ hm) (mR _ hr') fun e => (hda r hr).2 es n e.symm
      exact List.forall_mem_append.mpr ⟨List.forall_mem_cons.mpr ⟨hI _ dx 762 (.head _), List.forall_mem_cons.mpr ⟨hD _ es n (.tail _ (.head _)), List.forall_mem_cons.mpr ⟨(Nat.ne_of_lt (ktn_ltOf l1l.2.2.2.2.2.2 r (List.mem_append_right _ hr'))).symm, List.forall_mem_cons.mpr ⟨hI _ dx1 714 (.tail _ (.tail _ (.tail _ (.head _)))), List.forall_mem_cons.mpr ⟨hD _ es1 n1 (.tail _ (.tail _ (.tail _ (.tail _ (.head _))))), List.forall_mem_cons.mpr ⟨(Nat.ne_of_lt (ktn_ltOf l1d.2.2.2 r (List.mem_append_right _ hr'))).symm, List.forall_mem_cons.mpr ⟨hI _ dx2 714 (.tail _ (.tail _ (.tail _ (.tail _ (.tail _ (.tail _ (.head _))))))), List.forall_mem_cons.mpr ⟨hD _ es2 n2 (.tail _ (.tail _ (.tail _ (.tail _ (.tail _ (.tail _ (.tail _ (.head _)))))))), List.forall_mem_cons.mpr ⟨(ne9 r (List.mem_append_right _ hr')).symm, List.forall_mem_nil _⟩⟩⟩⟩⟩⟩⟩⟩⟩, List.forall_mem_append.mpr ⟨fun q hq => hDn.2 q hq r hr', hWr r hr⟩⟩
    refine ⟨⟨x, A ++ (ledN ++ W), fun q hq => List.mem_append_right _ (List.mem_append_right _ hq), fun h0 hin => ⟨x2, d9, kvs, .ref x1, .ref l, v4, v5, has_led hin (.head _) (.tail _ (.head _)) nm, has_led (dx := dx2) (n := n2) hin (.tail _ (.tail _ (.tail _ (.tail _ (.tail _ (.tail _ (.head _))))))) (.tail _ (.tail _ (.tail _ (.tail _ (.tail _ (.tail _ (.tail _ (.head _)))))))) nm2, sD h0 fun q hq => hin q ?_, cls_kvs hk hv⟩, h', _, o, c1, c2, c3, rfl, ?_, Mine.News.re N8 fun q hq => ?_, PS, PC, d1, d2, d3, fun q hq => ⟨ap (pen, o) (.head _) q hq, ap (L + 1, c1) (.tail _ (.head _)) q hq, ap (L + 2, c2) (.tail _ (.tail _ (.head _))) q hq, ap (L + 3, c3) (.tail _ (.tail _ (.tail _ (.head _)))) q hq⟩, hnp, List.mem_append_right _ (List.mem_append_right _ hcw)⟩⟩
    · rcases List.mem_cons.mp hq with rfl | hq
      · exact List.mem_append_left _ (.tail _ (.tail _ (.tail _ (.tail _ (.tail _ (.tail _ (.tail _ (.tail _ (.head _)))))))))
      · exact List.mem_append_right _ (List.mem_append_left _ (by simpa using hq))
    · exact Mine.Fr.cong F7 (funext fun y => by rw [mapL_cons])
    · exact (by walk_at "m sub" : ∀ r ∈ _, r ∈ _) q hq
end S_Law13

section S_Law14
theorem ne_same {prog : Program} {w : World} {A : Around} {E : Value → Shared → Prop} {s : Shared} {a b : Addr} {d : PyData} {as bs : List Addr} {Q : Value → Shared → Prop} (ra : Reads s.heap (.ref a) d as) (rb : Reads s.heap (.ref b) d bs) (hl : d.canLay0 = true ∧ d.depth ≤ 20) (hu : A.units + 20 < cLine) (h : Q (.bool false) s) :
    wpAny (model prog w) A (compareOp .NotEq (.ref a) (.ref b)) Q E s :=
  PySem.SeqAt.compareNe_reads ra rb hl.1 hl.1 (by rw [Nat.min_self]; omega) (by rw [PySem.SeqAt.eqv_refl d hl.1]; exact h)
theorem reads_on {h h' : Heap} {v : Value} {d : PyData} {as : List Addr} (r : Reads h v d as) (k : h.StaysIn h') : Reads h' v d as := Reads.keeps k r
theorem rows_43 : True := by
  (k_with "eval Name" => (k_here; (with_reducible show wpAny _ _ (eval (Expr.Name _ _) (lawEnv _ _ _)) _ _ _); k_dflt (refine' ldL ?z148k1 ?z148k2 ?_ ?z148k3; (case z148k1 => k_asm); (case z148k2 => assumption); (case z148k3 => rfl); k_whole)))
  (k_with "m pre" => ((try dsimp only); exact fun q hq => ((by assumption : News _ _ _ _) q (by walk_at "m in")).1))
  (k_with "call builtin:len" => (k_here; (with_reducible show wpAny _ _ (call (Value.builtin "len") [Value.ref _]) _ _ _); k_dflt ((refine' led_len ?z150k1 ?z150k2 ?z150k3 ?_); (case z150k1 => k_asm); (case z150k2 => assumption); (case z150k3 => walk_at "m num"))))
  (k_with "compareOp NotEq ref ref" => (k_here; k_dflt ((refine' ne_same ?z151a ?z151b ?z151c ?z151d ?_); (case z151a => first | assumption | exact reads_on (by assumption) (by assumption)); (case z151b => assumption); (case z151c => assumption); (case z151d => (dsimp only [cLine]; omega)); k_whole)))
  (k_with "call ref" => (k_here; (with_reducible show wpAny _ _ (call (Value.ref 800) _) _ _ _); k_dflt ((refine' use1 ((by assumption)) ?z152k1 ?z152kN ?z152k2 ?z152k3 ?z152k4 ?z152k5 ?_); (case z152k1 => k_asm); (case z152kN => k_asm); (case z152k2 => assumption); (case z152k5 => walk_at "m pre"); (case z152k3 => walk_at "m dep"); (case z152k4 => walk_at "m dep"); intro _ _ _ _ _ _ _ post'; obtain ⟨_, _, e0, _⟩ := post'; subst e0; (try dsimp only))))
  trivial

theorem law_14 {w : World} {g : Heap} (G : Gr w g) {L a pen cells il gd tb tb2 : Addr} {oc o c1 c2 c3 : Obj} {W : Led} {cd : Value} {ml : List (Str × Value)} {k nn : Nat} {mv ov : Option Value} {xs : List (Addr × Addr)} {kd : String} {tk0 : Tok} {D : Nat → PyData} (hxl : xs.length ≤ 6) (hil : (il, listOf (List.toArray (xs.map fun x => Value.ref x.1)) nn) ∈ W)
    (C1 : ∀ (i : Nat) t, i < xs.length → Does w g 800 [.ref il, .ref gd, .str (sN kd) tk0, .ref tb, .int i t] 18 [] (fun h => ∀ q ∈ W, h.get? q.1 = some q.2) (fun _ q h' => ∃ b as, q = .ref b ∧ Reads h' (.ref b) (D i) as))
    (C2 : ∀ (i : Nat) t, i < xs.length → Does w g 800 [.ref il, .ref gd, .str (sN kd) tk0, .ref tb2, .int i t] 18 [] (fun h => ∀ q ∈ W, h.get? q.1 = some q.2) (fun _ q h' => ∃ b as, q = .ref b ∧ Reads h' (.ref b) (D i) as))
    (hD : ∀ i, i < xs.length → (D i).canLay0 = true ∧ (D i).depth ≤ 20)
    {dp un : Nat} {fr : Option (List Env)} {gds : Option (List Code)} {s : Shared} (hdep : dp + 40 < 900) (hun : un + 8 * 40 < 9000) (S : LS w g L s.heap ml pen cells oc k mv ov o c1 c2 c3 W) (l1 : mapL ml (Str.ofString "infos") = some (.ref il)) (l2 : mapL ml (Str.ofString "gdef") = some (.ref gd)) (l3 : mapL ml (Str.ofString "kind") = some (.str (sN kd) tk0)) (l4 : mapL ml (Str.ofString "plain") = some (.ref tb)) (l5 : mapL ml (Str.ofString "other") = some (.ref tb2)) (Q : Flow → Shared → Prop) (E : Value → Shared → Prop) (hE : PassesOwn (model PRG w) { handled := none, depth := dp, frames := fr, guards := gds, units := un } (lawEnv L a cd) E) :
    wpAny (model PRG w) { handled := none, depth := dp, frames := fr, guards := gds, units := un } (exec (lawSt 13) (lawEnv L a cd)) (fun fl s' => match fl with | .next => Bx (Ex3 fun m h' tk => s' = { s with heap := h', toks := tk } ∧ Fr g L h' m) | fl => Q fl s') E s := by
  obtain ⟨p, loose, mean, mg, mb, X', T'⟩ := id G
  have hs : g.StaysIn g := fun _ _ e => e
  obtain ⟨F', N', PS, PC, d1, d2, d3, hne, hnp, hcw⟩ := S
  (with_unfolding_all show wpAny _ _ (exec (Stmt.For _ _ _ _ _) _) _ _ _)
  have hil2 : (il, listOf (List.toArray (xs.map fun x => Value.ref x.1)) nn) ∈ (pen, o) :: (L + 1, c1) :: (L + 2, c2) :: (L + 3, c3) :: W := .tail _ (.tail _ (.tail _ (.tail _ hil)))
  refine For_invVF F' rfl rfl ?_
  refine wpAny_mono (Q := fun xv s1 => Bx (Ex4 fun r0 a1 a2 a3 => An3 (xv = .ref r0) (IsRange s1.heap r0 0 ((xs.map fun x => Value.ref x.1).length : Nat) 1 a1 a2 a3) (Stands s g L (mapL ml) ((pen, o) :: (L + 1, c1) :: (L + 2, c2) :: (L + 3, c3) :: W) s1))) ?_ ?_ (fun _ _ z => z)
  · have hvl : (xs.map fun x => Value.ref x.1).length < 1000 := by simp; omega
    walk_at "m go2"
    exact ⟨⟨_, _, _, _, rfl, by assumption, stands (by assumption) (by assumption)⟩⟩
  clear F' N'
  rintro _ _ ⟨⟨r0, a1, a2, a3, rfl, hr, h4, tk4, rfl, F', N'⟩⟩
  rw [List.length_map] at hr
  refine' kow_range (n := xs.length) [] ?kh ?k1 ?k2 ?k3 ?k4 ?k5 ?k6 ?k7
  case kh => rfl
  case k1 => exact hr
  case k4 => exact F'
  case k5 => exact N'
  · have e1 : Builtin.Range.rangeSize 0 (xs.length : Nat) 1 = (xs.length : Nat) := by
      simp only [Builtin.Range.rangeSize]
      rw [if_pos (by decide)]
      split <;> omega
    simp only [Builtin.Range.small, e1]
    rw [fitL 0 (by decide) (by decide), fitL (xs.length : Nat) (by omega) (by omega), fitL 1 (by decide) (by decide), if_pos (by decide), fitL ((xs.length : Nat) + (1 - 1)) (by omega) (by omega)]
    simp only [Bool.and_self, Bool.or_true]
  · simp only [Builtin.Range.rangeSize]
    rw [if_pos (by decide)]
    split <;> omega
  · intro k1 t1 u h2 tk2 I oI k0 k2 F2 N2 _
    obtain ⟨i, rfl⟩ : ∃ i : Nat, k1 = (i : Int) := ⟨k1.toNat, by omega⟩
    have hi : i < xs.length := by omega
    have F3 : Fr g L h2 (mapL ((Str.ofString "at", .int i t1) :: ml)) := Mine.Fr.cong F2 (funext fun y => by rw [mapL_cons]; simp)
    have q1 : mapL ((Str.ofString "at", .int i t1) :: ml) (Str.ofString "infos") = some (.ref il) := by rw [mapL_cons, if_neg (by decide)]; exact l1
    have q2 : mapL ((Str.ofString "at", .int i t1) :: ml) (Str.ofString "gdef") = some (.ref gd) := by rw [mapL_cons, if_neg (by decide)]; exact l2
    have q3 : mapL ((Str.ofString "at", .int i t1) :: ml) (Str.ofString "kind") = some (.str (sN kd) tk0) := by rw [mapL_cons, if_neg (by decide)]; exact l3
    have q4 : mapL ((Str.ofString "at", .int i t1) :: ml) (Str.ofString "plain") = some (.ref tb) := by rw [mapL_cons, if_neg (by decide)]; exact l4
    have q5 : mapL ((Str.ofString "at", .int i t1) :: ml) (Str.ofString "other") = some (.ref tb2) := by rw [mapL_cons, if_neg (by decide)]; exact l5
    have q6 : mapL ((Str.ofString "at", .int i t1) :: ml) (Str.ofString "at") = some (.int i t1) := by rw [mapL_cons, if_pos rfl]
    have K1 := C1 i t1 hi
    have K2 := C2 i t1 hi
    have hd := hD i hi
    clear F2 F' N' hr C1 C2 hD
    walk_at "m body"
    walk_at "m go2"
    exact ⟨_, _, _, _, rfl, by assumption, by assumption, fun p hp => hp, fun y hy _ => by rw [mapL_cons, if_neg hy]⟩
  · intro u h2 tk2 F2 N2
    exact ⟨⟨_, _, _, rfl, F2⟩⟩
end S_Law14

section S_Law9
theorem rows_44 : True := by
  (k_with "eval ListComp" => (k_here; k_dflt ((refine' ListComp_cell ?z153h0 ?z153a0 ?z153a1 ?z153c1 ?z153c2 ?z153a3 ?z153c3 ?z153a4 ?_ ?z153a6); (case z153h0 => rfl); (case z153a0 => k_asm); (case z153a1 => with_unfolding_all rfl); (case z153c1 => intro n; rfl); (case z153c2 => intro h; rfl); (case z153a3 => rfl); (case z153c3 => intro C; rfl); (case z153a4 => decide); (case z153a6 => intro _; rfl))))
  (k_with "eval Name" => (k_here; (with_reducible show wpAny _ _ (eval (Expr.Name _ _) (lawEnv _ _ _)) _ _ _); k_dflt (refine' ldL ?z154k1 ?z154k2 ?_ ?z154k3; (case z154k1 => k_asm); (case z154k2 => assumption); (case z154k3 => rfl); k_whole)))
  (k_with "setItem ref int" => (k_here; k_dflt (refine' set_pairs ?z155k1 ?z155k2 ?z155k3 ?z155k4 ?z155k5 ?z155k6 ?_; (case z155k1 => k_asm); (case z155k2 => k_asm); (case z155k3 => assumption); (case z155k4 => assumption); (case z155k5 => omega); (case z155k6 => assumption)); intro _ _ _ _ _))
  (k_with "getMethod ref" => (k_here; (with_reducible show wpAny _ _ (getMethod (Value.ref _) (PySem.Str.ofString "index") _) _ _ _); k_dflt (refine' gi_method ?z156N ?z156m ?_; (case z156N => k_asm); (case z156m => assumption); k_whole)))
  (k_with "call builtin:list.index" => (k_here; k_dflt (refine' gi_index ?z157N ?z157m ?z157i ?z157e ?z157z ?_; (case z157N => k_asm); (case z157m => assumption); (case z157i => rfl); (case z157e => assumption); (case z157z => simp); k_whole)))
  (k_with "subscriptTail" => (k_here; (with_reducible show wpAny _ _ (subscriptTail _ _ (Value.ref _) (Value.int _ _)) _ _ _); k_dflt (first | ((refine' di_item_h ?z158k1 ?z158k2 ?z158k3 ?z158k4 ?z158k5 ?_ ?z158k6); (case z158k1 => k_asm); (case z158k2 => k_asm); (case z158k3 => assumption); (case z158k4 => assumption); (case z158k5 => assumption); (case z158k6 => with_unfolding_all rfl); k_whole) | ((refine' li_item ?z158k1 ?z158k2 ?z158k3 ?z158k4 ?z158k5 ?_ ?z158k6); (case z158k1 => k_asm); (case z158k2 => assumption); (case z158k3 => first | assumption | omega); (case z158k4 => omega); (case z158k5 => first | assumption | exact rfl); (case z158k6 => with_unfolding_all rfl); k_whole))))
  trivial

theorem law_9 {w : World} {g : Heap} (G : Gr w g) {L a pen cells rd ra oa : Addr} {od oc o c1 c2 c3 : Obj} {W : Led} {cd : Value} {ml : List (Str × Value)} {k no : Nat} {mv : Option Value} {R : RW0} {a0 a1 a2 : Int} {t0 t1 t2 : Tok} (hra : (ra == sysModules) = false) (hod : od.IsDictOf (PySem.intKind PRG w) []) (hWra : ∀ q ∈ W, q.1 ≠ ra) (hcW : (cells, oc) ∈ W) (hRW : RowsW w W rd R) (hR : GoodR R) (nd : (R.map (·.1)).Nodup) (hz : R.length ≤ 3) (hoa : (oa, listOf #[.int a0 t0, .int a1 t1, .int a2 t2] no) ∈ W) (hσ : [a0, a1, a2] ∈ orders)
    {dp un : Nat} {fr : Option (List Env)} {gds : Option (List Code)} {s : Shared} (hdep : dp + 40 < 900) (hun : un + 8 * 40 < 9000) (S : LS w g L s.heap ml pen cells oc k mv (some (.ref oa)) o c1 c2 c3 ((ra, od) :: W)) (l1 : mapL ml (Str.ofString "rows") = some (.ref rd)) (l2 : mapL ml (Str.ofString "rows_about") = some (.ref ra)) (Q : Flow → Shared → Prop) (E : Value → Shared → Prop) (hE : PassesOwn (model PRG w) { handled := none, depth := dp, frames := fr, guards := gds, units := un } (lawEnv L a cd) E) :
    wpAny (model PRG w) { handled := none, depth := dp, frames := fr, guards := gds, units := un } (exec (lawSt 8) (lawEnv L a cd)) (fun fl s' => match fl with | .next => Bx (Ex2 fun ml2 W2 => An4 ((∀ q ∈ W, q ∈ W2)) ((∀ x, x ≠ Str.ofString "glyph" → mapL ml2 x = mapL ml x)) (RowsW w W2 ra (aboutR [a0, a1, a2] R)) (LSx w g L s ml2 pen cells oc k mv (some (.ref oa)) W2 s')) | fl => Q fl s') E s := by
  obtain ⟨p, loose, mean, mg, mb, X', T'⟩ := id G
  have hs : g.StaysIn g := fun _ _ e => e
  obtain ⟨F', N', PS, PC, d1, d2, d3, hne, hnp, hcw⟩ := S
  obtain ⟨kvs, hD, hkeys, hkv⟩ := id hRW
  have hkl : kvs.length = R.length := by have := congrArg List.length hkeys; simpa using this
  have ndk : (kvs.map (·.1)).Nodup := by rw [hkeys]; exact nd
  (with_unfolding_all show wpAny _ _ (exec (Stmt.For _ _ _ _ _) _) _ _ _)
  walk_at "m go2"
  have hW0 : ∀ q ∈ W, s.heap.get? q.1 = some q.2 := fun q hq => (N' q (.tail _ (.tail _ (.tail _ (.tail _ (.tail _ hq)))))).1
  have hDs := hD s.heap hW0
  obtain ⟨ord, hrd, mrd⟩ := sup_mem hD hW0
  have hraB : ∀ r ∈ (pen, o) :: (L + 1, c1) :: (L + 2, c2) :: (L + 3, c3) :: W, r.1 ≠ ra := fun r hr => by
    have z := hne (ra, od) (.head _)
    simp only [List.mem_cons] at hr
    rcases hr with rfl | rfl | rfl | rfl | hr
    · exact z.1.symm
    · exact z.2.1.symm
    · exact z.2.2.1.symm
    · exact z.2.2.2.symm
    · exact hWra r hr
  refine ⟨[rd], kvs.length, _, mapL ml, (ra, od) :: ([] ++ ((pen, o) :: (L + 1, c1) :: (L + 2, c2) :: (L + 3, c3) :: W)), (fun i m l => Ex3 fun ml2 od2 A => An6 (m = mapL ml2) ((∀ x, x ≠ Str.ofString "glyph" → mapL ml2 x = mapL ml x)) (l = (ra, od2) :: (A ++ ((pen, o) :: (L + 1, c1) :: (L + 2, c2) :: (L + 3, c3) :: W))) ((∀ q ∈ A, ∀ r ∈ (pen, o) :: (L + 1, c1) :: (L + 2, c2) :: (L + 3, c3) :: W, q.1 ≠ r.1)) ((∀ q ∈ A, q.1 ≠ ra)) (RowsJ w (A ++ W) od2 ((aboutR [a0, a1, a2] R).take i))),
    for_dict rfl hDs.1 hDs.2, F', Mine.News.re N' (by walk_at "m sub"), ?_, ?_, ⟨ml, od, [], rfl, fun _ _ => rfl, rfl, (fun q h => nomatch h), (fun q h => nomatch h), [], hod, rfl, (fun i v ps h => by simp at h)⟩, ?_, ?_⟩
  · rintro i m l ⟨_, _, A, -, -, rfl, -⟩ b hb -
    rw [List.mem_singleton.mp hb]
    exact ⟨ord, hrd, .tail _ (List.mem_append_right _ (.tail _ (.tail _ (.tail _ (.tail _ mrd)))))⟩
  · intro hm
    exact (N' _ (.tail _ (.tail _ (.tail _ (.tail _ (.tail _ mrd)))))).2.1 (List.mem_singleton.mp hm).symm
  · rintro i v m₁ news₁ h₁ tk₁ I oI hi ⟨kk, x, t, hkx, rfl⟩ ⟨ml2, od2, A, rfl, hml, rfl, hAB, hAra, kvs2, hod2, hk2, hv2⟩ hoI hneI F₁ N₁
    obtain ⟨ps, hps⟩ : ∃ ps, R[i]? = some (kk, ps) := by
      have h9 : (R.map (·.1))[i]? = some kk := by rw [← hkeys, List.getElem?_map, hkx]; rfl
      rw [List.getElem?_map] at h9
      cases q : R[i]? with
      | none => rw [q] at h9; cases h9
      | some p => rw [q] at h9; simp at h9; exact ⟨p.2, by rw [← h9]⟩
    obtain ⟨lp, vs, n, rfl, hlp, hvl, hvs⟩ := hkv i x ps (by rw [hkx]; rfl) (by rw [hps]; rfl)
    have hps2 := hR _ (List.mem_of_getElem? hps)
    have hva := value_at ndk hkx
    have hiR : i < R.length := by omega
    have hra2 : (aboutR [a0, a1, a2] R)[i]? = some (kk, ps.map (aboutC [a0, a1, a2])) := by unfold aboutR; rw [List.getElem?_map, hps]; rfl
    have hkR : kvs2.map (·.1) = (R.map (·.1)).take i := by rw [hk2, List.map_take]; unfold aboutR; rw [List.map_map]; rfl
    have hk2l : kvs2.length ≤ 3 := by have := congrArg List.length hkR; simp at this; omega
    have hknew : kk ∉ kvs2.map (·.1) := by
      rw [hkR]
      intro hm
      obtain ⟨j, hj, ej⟩ := List.mem_iff_getElem.mp hm
      have hj2 : j < i := by rw [List.length_take] at hj; omega
      have h1 : (R.map (·.1))[j]? = some kk := by
        rw [List.getElem_take] at ej
        rw [← ej]; exact List.getElem?_eq_getElem _
      have h2 : (R.map (·.1))[i]? = some kk := by rw [List.getElem?_map, hps]; rfl
      have := (List.getElem?_inj (by simpa using (by omega : j < R.length)) nd).mp (h1.trans h2.symm)
      omega
    have F2 : Fr g L h₁ (mapL ((Str.ofString "glyph", .int kk t) :: ml2)) := Mine.Fr.cong F₁ (funext fun y => by rw [mapL_cons])
    clear F₁
    have lr : mapL ((Str.ofString "glyph", .int kk t) :: ml2) (Str.ofString "rows") = some (.ref rd) := by rw [mapL_cons, if_neg (by decide), hml _ (by decide)]; exact l1
    have la : mapL ((Str.ofString "glyph", .int kk t) :: ml2) (Str.ofString "rows_about") = some (.ref ra) := by rw [mapL_cons, if_neg (by decide), hml _ (by decide)]; exact l2
    have lg : mapL ((Str.ofString "glyph", .int kk t) :: ml2) (Str.ofString "glyph") = some (.int kk t) := by rw [mapL_cons, if_pos rfl]
    have hWin : ∀ q ∈ W, q ∈ (I, oI) :: (ra, od2) :: (A ++ ((pen, o) :: (L + 1, c1) :: (L + 2, c2) :: (L + 3, c3) :: W)) := fun q hq => .tail _ (.tail _ (List.mem_append_right _ (.tail _ (.tail _ (.tail _ (.tail _ hq))))))
    walk_at "m body"
    walk_at "m go2"
    have hvs2 : vs.length = 2 := by rw [hvl]; exact hps2.1
    refine ⟨lp, vs.toArray, _, RowsK W [a0, a1, a2] ps, PySem.IsL.isList (n := n) (N₁ _ (hWin _ hlp)).1, rfl, (by rw [sizeLine_eq, List.size_toArray]; omega), F2, N₁, ⟨rfl, fun j v p h => by simp at h⟩, fun i ys l h => Nat.le_of_eq h.1, ?_, ?_⟩
    · rintro C i2 v2 s₃ m₃ ys led' oc2 g' E' F5 N5 hoc hneC gg grest gL hK hi2 hP2 -
      have hi2' : i2 < vs.length := by simpa using hi2
      obtain ⟨p2, hp2⟩ : ∃ p2, ps[i2]? = some p2 := ⟨_, List.getElem?_eq_getElem (by omega)⟩
      obtain ⟨l2, us, n2, rfl, hl2, hus⟩ := hvs i2 v2 p2 (by simpa using hP2) hp2
      have hW5 : ∀ q ∈ W, g'.get? q.1 = some q.2 := fun q hq => grest q (hWin q hq)
      have hp3 : p2.length = 3 := hps2.2 _ (List.mem_of_getElem? hp2)
      have hul : us.length = 3 := (hus g' hW5).1.trans hp3
      have X3 : (frag w.params).In g' := X'.keeps gg
      have T3 := T'.keeps gg
      walk_at "m go2"
      rename_i h8 tk8 u8 v8 w8 hR8 F8 N8 _
      refine ⟨[], 3, _, [], (C + 1, oc2) :: led', (fun i3 ys l => l = [] ∧ ys.length = i3 ∧ ∀ j, j < i3 → ys[j]? = us[idxOf [a0, a1, a2] j]?), src_range (n := 3) rfl hR8 (by omega), by rw [sizeLine_eq]; omega, F8, N8, (fun b h => nomatch h), (fun q _ h => nomatch h), ⟨rfl, rfl, fun j h => absurd h (by omega)⟩, ?_, ?_, ?_⟩
      · rintro i3 ys3 l ⟨-, h3, -⟩; omega
      · rintro C3 i3 v3 s4 m4 ys3 led3 g3 E3 F6 N6 gg3 grest3 gL3 ⟨rfl, hy3, hk3⟩ hi3 ⟨ti, rfl⟩ hm3 -
        refine wpAny_tests_nil ?_
        rw [if_pos rfl]
        obtain ⟨hix, hix3⟩ := ord_index (t0 := t0) (t1 := t1) (t2 := t2) hσ hi3
        obtain ⟨u, hu⟩ : ∃ u, us[idxOf [a0, a1, a2] i3]? = some u := ⟨_, List.getElem?_eq_getElem (by omega)⟩
        have hu' : us[((idxOf [a0, a1, a2] i3 : Nat) : Int).toNat]? = some u := hu
        have hpo : CellAt g3 (L + 3) (.ref oa) := ⟨c3, gg3 _ _ (grest (L + 3, c3) (.tail _ (.tail _ (List.mem_append_right _ (.tail _ (.tail _ (.tail _ (.head _)))))))), d3⟩
        have hpr : CellAt g3 (C + 1) (.ref l2) := ⟨oc2, grest3 (C + 1, oc2) (.head _), hoc⟩
        have hOL : IsL g3 oa [.int a0 t0, .int a1 t1, .int a2 t2] := ⟨no, gg3 _ _ (hW5 _ hoa)⟩
        have hUL : IsL g3 l2 us := ⟨n2, gg3 _ _ (hW5 _ hl2)⟩
        have hj0 : (0 : Int) ≤ ((idxOf [a0, a1, a2] i3 : Nat) : Int) := Int.natCast_nonneg _
        walk_at "m go2"
        refine turned F6 N6 (fun q h => nomatch h) ⟨rfl, by simp [hy3], fun j hj => ?_⟩
        by_cases hj3 : j < i3
        · rw [List.getElem?_append_left (by omega)]; exact hk3 j hj3
        · obtain rfl : j = i3 := by omega
          rw [← hy3, List.getElem?_append_right (Nat.le_refl _), Nat.sub_self, hy3, hu]; rfl
      · rintro D nn h4 tk4 ys3 ledN hDn ⟨rfl, hy3, hk3⟩ F9 N9
        refine turned F9 (Mine.News.re N9 fun q hq => ?_) (fun q hq => ?_) ⟨(D, listOf ys3.toArray nn) :: led', rfl, fun q hq => ?_, hK.snoc fun p hp => ?_⟩
        · exact (by walk_at "m sub" : ∀ r ∈ _, r ∈ _) q hq
        · simp only [List.map_cons, List.mem_cons] at hq ⊢
          rcases hq with rfl | hq
          · exact .inl rfl
          · exact .inr (.inr (List.mem_map_of_mem hq))
        · rcases List.mem_cons.mp hq with rfl | hq
          · exact fun e => hDn.1 (C + 1, oc2) (.head _) e.symm
          · exact hneC q hq
        · have e : p2 = p := Option.some.inj (hp2.symm.trans hp)
          subst e
          intro h0 hin
          exact about_cells hp3 (hus h0 hin) hy3 (fun j hj => (ord_index (t0 := t0) (t1 := t1) (t2 := t2) hσ hj).2) hk3
    · rintro D nn h4 tk4 ys ledN hDn hK F5 N5
      have hm : (ra, od2) ∈ (D, listOf ys.toArray nn) :: (ledN ++ ((I, oI) :: (ra, od2) :: (A ++ ((pen, o) :: (L + 1, c1) :: (L + 2, c2) :: (L + 3, c3) :: W)))) := by walk_at "m in"
      clear N₁ F2
      walk_at "m go2"
      rename_i h9 o9 F9 N9 D9
      have hK2 : RowsK W [a0, a1, a2] ps ps.length ys ledN := by
        have e : vs.toArray.size = ps.length := by rw [List.size_toArray]; exact hvl
        rw [← e]; exact hK
      have inR : ∀ q ∈ A ++ ((pen, o) :: (L + 1, c1) :: (L + 2, c2) :: (L + 3, c3) :: W), q ∈ (I, oI) :: (ra, od2) :: (A ++ ((pen, o) :: (L + 1, c1) :: (L + 2, c2) :: (L + 3, c3) :: W)) := fun q hq => .tail _ (.tail _ hq)
      have cut : ∀ (P : Addr × Obj → Prop), P (D, listOf ys.toArray nn) → (∀ q ∈ ledN, P q) → (∀ q ∈ A, P q) → ∀ q ∈ (D, listOf ys.toArray nn) :: (ledN ++ A), P q := fun P h1 h2 h3 q hq => by
        rcases List.mem_cons.mp hq with rfl | hq
        · exact h1
        · exact (List.mem_append.mp hq).elim (h2 q) (h3 q)
      have N10 := N9 ((I, oI) :: ((((D, listOf ys.toArray nn) :: (ledN ++ A)) ++ ((pen, o) :: (L + 1, c1) :: (L + 2, c2) :: (L + 3, c3) :: W)))) fun q hq => by
        rcases List.mem_cons.mp hq with rfl | hq
        · exact ⟨.tail _ (List.mem_append_right _ (.head _)), (hneI (ra, od2) (.head _)).symm⟩
        · rcases List.mem_append.mp hq with hq | hq
          · exact cut (fun q => q ∈ (D, listOf ys.toArray nn) :: (ledN ++ ((I, oI) :: (ra, od2) :: (A ++ ((pen, o) :: (L + 1, c1) :: (L + 2, c2) :: (L + 3, c3) :: W)))) ∧ q.1 ≠ ra) ⟨.head _, fun e => hDn.1 (ra, od2) (by walk_at "m in") e.symm⟩ (fun q hq => ⟨.tail _ (List.mem_append_left _ hq), hDn.2 q hq (ra, od2) (.tail _ (.head _))⟩) (fun q hq => ⟨.tail _ (List.mem_append_right _ (inR q (List.mem_append_left _ hq))), hAra q hq⟩) q hq
          · exact ⟨.tail _ (List.mem_append_right _ (inR q (List.mem_append_right _ hq))), hraB q hq⟩
      have hiI : ∀ q ∈ A ++ ((pen, o) :: (L + 1, c1) :: (L + 2, c2) :: (L + 3, c3) :: W), q.1 ≠ I := fun q hq => hneI q (.tail _ hq)
      have hrs := rows_snoc (k := kk) hk2 hv2 (A' := ((D, listOf ys.toArray nn) :: (ledN ++ A)) ++ W) (fun q hq => ?_) (hK2.lists (D := D) (nn := nn) (.head _) (fun q hq => .tail _ (List.mem_append_left _ (List.mem_append_left _ hq))) fun q hq => List.mem_append_right _ hq)
      · refine loopEnd (news := (ra, o9) :: (((D, listOf ys.toArray nn) :: (ledN ++ A)) ++ ((pen, o) :: (L + 1, c1) :: (L + 2, c2) :: (L + 3, c3) :: W))) F9 (Mine.News.re N10 fun q hq => ?_) (fun q hq => ?_) ⟨_, o9, (D, listOf ys.toArray nn) :: (ledN ++ A), rfl, fun x hx => ?_, rfl, ?_, ?_, ?_⟩
        · exact (by walk_at "m sub" : ∀ r ∈ _, r ∈ _) q hq
        · rcases List.mem_cons.mp hq with rfl | hq
          · exact hneI (ra, od2) (.head _)
          · rcases List.mem_append.mp hq with hq | hq
            · exact cut (fun q => q.1 ≠ I) (fun e => hDn.1 (I, oI) (by walk_at "m in") e.symm) (fun q hq => hDn.2 q hq (I, oI) (.head _)) (fun q hq => hiI q (List.mem_append_left _ hq)) q hq
            · exact hiI q (List.mem_append_right _ hq)
        · rw [mapL_cons, if_neg hx]; exact hml x hx
        · exact cut (fun q => ∀ r ∈ (pen, o) :: (L + 1, c1) :: (L + 2, c2) :: (L + 3, c3) :: W, q.1 ≠ r.1) (fun r hr e => hDn.1 r (List.mem_append_right _ (inR r (List.mem_append_right _ hr))) e.symm) (fun q hq r hr => hDn.2 q hq r (inR r (List.mem_append_right _ hr))) hAB
        · exact cut (fun q => q.1 ≠ ra) (fun e => hDn.1 (ra, od2) (by walk_at "m in") e.symm) (fun q hq => hDn.2 q hq (ra, od2) (.tail _ (.head _))) hAra
        · refine ⟨_, D9, ?_⟩
          rw [take_succ_get hra2]
          exact hrs
      · rcases List.mem_append.mp hq with hq | hq
        · exact List.mem_append_left _ (.tail _ (List.mem_append_right _ hq))
        · exact List.mem_append_right _ hq
  · rintro h' tk m' news' F9 N9 ⟨ml2, od2, A, rfl, hml, rfl, hAB, hAra, kvs2, hod2, hk2, hv2⟩
    have hfull : (aboutR [a0, a1, a2] R).take kvs.length = aboutR [a0, a1, a2] R := List.take_of_length_le (by rw [hkl]; simp [aboutR])
    rw [hfull] at hk2 hv2
    refine ⟨⟨ml2, (ra, od2) :: (A ++ W), fun q hq => .tail _ (List.mem_append_right _ hq), hml, ⟨kvs2, fun h0 hin => ⟨hra, Heap.dictOf_iff.mpr ⟨od2, hin _ (.head _), hod2⟩⟩, hk2, fun i v ps a b => ListsW.mono _ _ _ _ (fun q hq => .tail _ hq) (hv2 i v ps a b)⟩, h', tk, o, c1, c2, c3, rfl, F9, Mine.News.re N9 (by walk_at "m sub"), PS, PC, d1, d2, d3, fun q hq => ?_, hnp, .tail _ (List.mem_append_right _ hcW)⟩⟩
    rcases List.mem_cons.mp hq with rfl | hq
    · exact hne (ra, od) (.head _)
    · rcases List.mem_append.mp hq with hq | hq
      · exact ⟨hAB q hq (pen, o) (.head _), hAB q hq (L + 1, c1) (.tail _ (.head _)), hAB q hq (L + 2, c2) (.tail _ (.tail _ (.head _))), hAB q hq (L + 3, c3) (.tail _ (.tail _ (.tail _ (.head _))))⟩
      · exact hne q (.tail _ hq)
end S_Law9

section S_Law15
theorem law_15 {w : World} {g : Heap} {L a : Addr} {cd : Value} {dp un : Nat} {fr : Option (List Env)} {gds : Option (List Code)} {s : Shared} {m : Str → Option Value} (F' : Fr g L s.heap m) (Q : Flow → Shared → Prop) (E : Value → Shared → Prop) (hQ : ∀ m h' tk, Fr g L h' m → Q (.ret (.bool true)) { s with heap := h', toks := tk }) :
    wpAny (model PRG w) { handled := none, depth := dp, frames := fr, guards := gds, units := un } (execs [lawSt 14] (lawEnv L a cd)) Q E s := by
  have hs : g.StaysIn g := fun _ _ e => e
  refine wpAny_execs_cons ?_
  (with_unfolding_all show wpAny _ _ (exec (Stmt.Return _ _) _) _ _ _)
  walk_at "m go2"
  exact hQ _ _ _ (by assumption)
theorem Does.imp {w : World} {hb : Heap} {f : Addr} {vs : List Value} {d : Nat} {S : List Addr} {pre pre' : Heap → Prop} {post post' : Heap → Value → Heap → Prop} (C : Does w hb f vs d S pre post) (hp : ∀ h, pre' h → pre h) (hq : ∀ h r h', post h r h' → post' h r h') : Does w hb f vs d S pre' post' :=
  fun dp un fr gd s Q E hd hu hs hpre hQ => C dp un fr gd s Q E hd hu hs (hp _ hpre) fun r h' tk' o dm p => hQ r h' tk' o dm (hq _ _ _ p)
def SeenC (w : World) (g : Heap) (kd : String) (tk0 : Tok) (tb : Addr) (P : Heap → Prop) (f : List Rec → Nat → Int × List Rec) : Prop :=
  ∀ (il gd : Addr) (xs : List (Addr × Addr)) (rs : List Rec) (i : Nat) (t : Tok), GoodB rs → i < xs.length →
    Does w g 800 [.ref il, .ref gd, .str (sN kd) tk0, .ref tb, .int i t] 18 [] (fun h => RowAt h il xs rs ∧ GdefAt w h gd ∧ P h) (fun _ q h' => ∃ as, Reads h' q (seenP (f rs i).1 (f rs i).2) as)
theorem law_tail {w : World} {g : Heap} (G : Gr w g) {L a pen cells tb tb2 : Addr} {oc o c1 c2 c3 : Obj} {W : Led} {cd : Value} {ml : List (Str × Value)} {k : Nat} (hk : k < 500) {mv ov : Option Value} {kd : String} {tk0 : Tok} {P1 P2 : Heap → Prop} {f : List Rec → Nat → Int × List Rec}
    (K1 : SeenC w g kd tk0 tb P1 f) (K2 : SeenC w g kd tk0 tb2 P2 f) (hf : ∀ rs i, Bonds rs → Bonds (f rs i).2) (hP1 : Sup W P1) (hP2 : Sup W P2)
    {dp un : Nat} {fr : Option (List Env)} {gds : Option (List Code)} {s : Shared} (hdep : dp + 40 < 900) (hun : un + 8 * 40 < 9000) (S : LS w g L s.heap ml pen cells oc k mv ov o c1 c2 c3 W) (l3 : mapL ml (Str.ofString "kind") = some (.str (sN kd) tk0)) (l4 : mapL ml (Str.ofString "plain") = some (.ref tb)) (l5 : mapL ml (Str.ofString "other") = some (.ref tb2)) (Q : Flow → Shared → Prop) (hQ : ∀ m h' tk, Fr g L h' m → Q (.ret (.bool true)) { s with heap := h', toks := tk }) :
    wpAny (model PRG w) { handled := none, depth := dp, frames := fr, guards := gds, units := un } (execs [lawSt 10, lawSt 11, lawSt 12, lawSt 13, lawSt 14] (lawEnv L a cd)) Q (fun _ _ => False) s := by
  refine cut _ (law_11 G (by omega) hdep hun S Q _) ?_
  rintro _ ⟨⟨il, xs, rs, dl, nn, W2, hW2, hxl, hDL, hGB, hin, hap, hil, hcW, h1, tk1, o1, c11, c12, c13, rfl, S1⟩⟩
  try dsimp only
  refine cut _ (law_12 G (by omega) hxl hDL hGB hin hap hil hcW hdep hun S1 (by rw [mapL_cons, if_pos rfl]) Q _ PassesOwn.never) ?_
  rintro _ ⟨⟨ml2, rs2, dl2, hml, hDL2, hGB2, hap2, h2, tk2, o2, c21, c22, c23, rfl, S2⟩⟩
  try dsimp only
  refine cut _ (law_13 G hdep hun S2 Q _) ?_
  rintro _ ⟨⟨gd, W3, hW3, hgd, h3, tk3, o3, c31, c32, c33, rfl, S3⟩⟩
  try dsimp only
  have m1 : ∀ x, x ≠ Str.ofString "infos" → x ≠ Str.ofString "one" → x ≠ Str.ofString "gdef" → mapL ((Str.ofString "gdef", .ref gd) :: ml2) x = mapL ml x := fun x a b c => by
    rw [mapL_cons, if_neg c, hml x b, mapL_cons, if_neg a]
  have iW : ∀ q ∈ W2, q ∈ W3 := fun q hq => hW3 q (List.mem_append_right _ hq)
  have rowAt : ∀ h : Heap, (∀ q ∈ W3, h.get? q.1 = some q.2) → RowAt h il xs rs2 := fun h hin3 => hDL2.rowAt hxl ⟨nn, hin3 _ (iW _ hil)⟩ (fun q hq => hin3 q (iW _ (hin q hq))) fun q hq => hin3 q (hW3 q (List.mem_append_left _ hq))
  have pre : ∀ {P : Heap → Prop}, Sup W P → ∀ h : Heap, (∀ q ∈ W3, h.get? q.1 = some q.2) → RowAt h il xs rs2 ∧ GdefAt w h gd ∧ P h := fun hP h hin3 => ⟨rowAt h hin3, hgd h hin3, hP h fun q hq => hin3 q (iW _ (hW2 q hq))⟩
  have ref : ∀ {h' : Heap} {q : Value} {z : Int} {rs : List Rec}, (∃ as, Reads h' q (seenP z rs) as) → ∃ b as, q = .ref b ∧ Reads h' (.ref b) (seenP z rs) as := by
    rintro h' q z rs ⟨as, r⟩
    unfold seenP at r ⊢
    cases r with
    | tuple x1 x2 x3 x4 => exact ⟨_, _, rfl, .tuple x1 x2 x3 x4⟩
  refine cut _ (law_14 G (D := fun i => seenP (f rs2 i).1 (f rs2 i).2) hxl (iW _ hil) (fun i t hi => (K1 il gd xs rs2 i t hGB2 hi).imp (pre hP1) fun _ _ _ h => ref h) (fun i t hi => (K2 il gd xs rs2 i t hGB2 hi).imp (pre hP2) fun _ _ _ h => ref h) (fun i _ => seen_lay (hf rs2 i hGB2.2)) hdep hun S3
    (by rw [mapL_cons, if_neg (by decide), hml _ (by decide), mapL_cons, if_pos rfl]) (by rw [mapL_cons, if_pos rfl]) (by rw [m1 _ (by decide) (by decide) (by decide)]; exact l3) (by rw [m1 _ (by decide) (by decide) (by decide)]; exact l4) (by rw [m1 _ (by decide) (by decide) (by decide)]; exact l5) Q _ PassesOwn.never) ?_
  rintro _ ⟨⟨m4, h4, tk4, rfl, F4⟩⟩
  try dsimp only
  exact law_15 F4 Q _ fun m h' tk F => hQ m h' tk F
end S_Law15

end V_lines
end W_lines
end C_lines
end A_lines
-- Law16
theorem good_ms {ms : MS} (h : ∀ p ∈ ms, 0 ≤ p.2.1 ∧ p.2.1 < 3) : GoodM ms := ⟨fun g m e => h _ (lookup_mem e)⟩
theorem has_tab {α : Type} {w : World} {W : Led} {tb C mk bd : Addr} {fn : Str} {ms : MS} {P : Heap → Value → α → Prop} {l : List (Int × α)} (hm : TabW w MarkW W mk ms) (hS : Sup W (fun h => Has h tb C [(Str.ofString "marks", .ref mk), (fn, .ref bd)] ∧ Tab w h bd P l)) :
    Sup W (fun h => Tab w h mk MarkV ms ∧ Tab w h bd P l ∧ Has h tb C [(Str.ofString "marks", .ref mk), (fn, .ref bd)]) := fun h hin => ⟨hm.tab (fun _ _ _ x => x.markV) h hin, (hS h hin).2, (hS h hin).1⟩
theorem law_all {w : World} {g : Heap} (G : Gr w g) (L a sc : Addr) (cd : Value) (vs : List Value) (ns : List Int) (hi : IntsAre vs ns) (hvl : vs.length ≤ 63) (hl : g.IsList sc vs.toArray) {c1 c2 c3 : Obj} (d1 : c1.data = .cell none) (d2 : c2.data = .cell none) (d3 : c3.data = .cell none)
    {dp un : Nat} {fr : Option (List Env)} {gds : Option (List Code)} {s : Shared} (hdep : dp + 40 < 900) (hun : un + 8 * 40 < 9000) (F' : Fr g L s.heap (mapL [(Str.ofString "script", .ref sc)])) (N' : News g L s.heap [(L + 3, c3), (L + 2, c2), (L + 1, c1)]) (Q : Flow → Shared → Prop) (hQ : ∀ m h' tk, Fr g L h' m → Q (.ret (.bool true)) { s with heap := h', toks := tk }) :
    wpAny (model PRG w) { handled := none, depth := dp, frames := fr, guards := gds, units := un } (execs [lawSt 0, lawSt 1, lawSt 2, lawSt 3, lawSt 4, lawSt 5, lawSt 6, lawSt 7, lawSt 8, lawSt 9, lawSt 10, lawSt 11, lawSt 12, lawSt 13, lawSt 14] (lawEnv L a cd)) Q (fun _ _ => False) s := by
  refine cut _ (law_1 G L a sc cd vs ns hi hvl hl d1 d2 d3 hdep hun F' N' Q _) ?_
  rintro _ ⟨⟨pen, cells, oc, W, h1, tk1, o1, c11, c12, c13, rfl, S⟩⟩
  try dsimp only
  refine cut _ (law_2 G hdep hun S Q _) ?_
  rintro _ ⟨⟨kd, tk0, hkd, h2, tk2, o2, c21, c22, c23, rfl, S⟩⟩
  try dsimp only
  refine cut _ (law_3 G (by omega) hdep hun S Q _) ?_
  rintro _ ⟨⟨mk, ms, W3, hW3, hmk, hmg, hms, h3, tk3, o3, c31, c32, c33, rfl, S⟩⟩
  try dsimp only
  refine cut _ (law_4 G hkd S Q _) ?_
  rintro _ ⟨⟨D, t0, t1, t2, b0, b1, b2, W4, hW4, hD, hb, h4, tk4, o4, c41, c42, c43, rfl, S⟩⟩
  try dsimp only
  refine cut _ (law_5 G (by omega) hD (by rcases hb with e | e <;> rw [e] <;> decide) hdep hun S Q _) ?_
  rintro _ ⟨⟨rd, R, W5, hW5, hRW, hR, hRn, hRl, h5, tk5, o5, c51, c52, c53, rfl, S⟩⟩
  try dsimp only
  refine cut _ (law_6 G (by omega) hdep hun S Q _) ?_
  rintro _ ⟨⟨oa, a0, a1, a2, u0, u1, u2, no, W6, hW6, hoa, hσ, h6, tk6, o6, c61, c62, c63, rfl, S⟩⟩
  try dsimp only
  have hmk6 := hmk.mono MarkW.mono fun q hq => hW6 q (hW5 q (hW4 q hq))
  refine cut _ (law_7 G hmk6 hmg hms hoa hdep hun S Q _) ?_
  rintro _ ⟨⟨ma, W7, hW7, hma, h7, tk7, o7, c71, c72, c73, rfl, S⟩⟩
  try dsimp only
  have hcw7 := S.cw
  refine cut _ (law_8 G hdep hun S Q _) ?_
  rintro _ ⟨⟨ra, od, hra, hod, hWra, h8, tk8, o8, c81, c82, c83, rfl, S⟩⟩
  try dsimp only
  have hRW7 : RowsW w W7 rd R := TabW.mono ListsW.mono hRW fun q hq => hW7 q (hW6 q hq)
  refine cut _ (law_9 G hra hod hWra hcw7 hRW7 hR hRn hRl (hW7 _ hoa) hσ hdep hun S (by rw [mapL_cons, if_neg (by decide), mapL_cons, if_neg (by decide), mapL_cons, if_pos rfl]) (by rw [mapL_cons, if_pos rfl]) Q _ PassesOwn.never) ?_
  rintro _ ⟨⟨ml, W9, hW9, hml, hRA, h9, tk9, o9, c91, c92, c93, rfl, S9⟩⟩
  try dsimp only
  have hRW9 : RowsW w W9 rd R := TabW.mono ListsW.mono hRW7 hW9
  have l1 : mapL ml (Str.ofString "kind") = some (.str (sN kd) tk0) := by
    rw [hml _ (by decide), mapL_cons, if_neg (by decide), mapL_cons, if_neg (by decide), mapL_cons, if_neg (by decide), mapL_cons, if_neg (by decide), mapL_cons, if_pos rfl]
  have l2 : mapL ml (Str.ofString "rows") = some (.ref rd) := by
    rw [hml _ (by decide), mapL_cons, if_neg (by decide), mapL_cons, if_neg (by decide), mapL_cons, if_pos rfl]
  have l3 : mapL ml (Str.ofString "marks_about") = some (.ref ma) := by
    rw [hml _ (by decide), mapL_cons, if_neg (by decide), mapL_cons, if_pos rfl]
  have l4 : mapL ml (Str.ofString "rows_about") = some (.ref ra) := by
    rw [hml _ (by decide), mapL_cons, if_pos rfl]
  clear S
  have hgm := good_ms hms
  have hgma := aboutM_good hσ hgm
  have hRg := aboutR_good (σ := [a0, a1, a2]) hR
  have hRan : ((aboutR [a0, a1, a2] R).map (·.1)).Nodup := by
    have e : (aboutR [a0, a1, a2] R).map (·.1) = R.map (·.1) := by simp [aboutR, Function.comp_def]
    rw [e]; exact hRn
  have hRal : (aboutR [a0, a1, a2] R).length ≤ 100 := by simp [aboutR]; omega
  have hmk9 := hmk6.mono MarkW.mono fun q hq => hW9 q (hW7 q hq)
  have hma9 := hma.mono MarkW.mono fun q hq => hW9 q hq
  have q1 : ∀ {tb tb2 : Value}, mapL ((Str.ofString "plain", tb) :: (Str.ofString "other", tb2) :: ml) (Str.ofString "kind") = some (.str (sN kd) tk0) := by
    intro tb tb2
    rw [mapL_cons, if_neg (by decide), mapL_cons, if_neg (by decide)]; exact l1
  have q2 : ∀ {tb tb2 : Value}, mapL ((Str.ofString "plain", tb) :: (Str.ofString "other", tb2) :: ml) (Str.ofString "plain") = some tb := by
    intro tb tb2
    rw [mapL_cons, if_pos rfl]
  have q3 : ∀ {tb tb2 : Value}, mapL ((Str.ofString "plain", tb) :: (Str.ofString "other", tb2) :: ml) (Str.ofString "other") = some tb2 := by
    intro tb tb2
    rw [mapL_cons, if_neg (by decide), mapL_cons, if_pos rfl]
  have tn : ∀ i : Nat, ((i : Int)).toNat = i := fun i => rfl
  rcases hkd with rfl | rfl | rfl
  · refine cut _ (law_10_base G hRW9 hRA hR hRg hRn hRan (by omega) hRal hdep hun S9 l1 l2 l3 l4 Q _) ?_
    rintro _ ⟨⟨tb, tb2, bd, bd2, W10, hW10, S1, S2, h10, tk10, o10, c101, c102, c103, rfl, S⟩⟩
    try dsimp only
    refine law_tail G (by omega) (f := baseD ms (firsts R)) (fun il gd xs rs i t hg hi => law_seen_base G il gd tb mk bd (i : Int) tk0 t xs rs ms (firsts R) (by omega) (by omega) hg.1 hgm fun g cs e => firsts_len hR e)
      (fun il gd xs rs i t hg hi => (law_seen_base G il gd tb2 ma bd2 (i : Int) tk0 t xs rs (aboutM [a0, a1, a2] ms) (firsts (aboutR [a0, a1, a2] R)) (by omega) (by omega) hg.1 hgma fun g cs e => firsts_len hRg e).imp (fun _ x => x) fun _ _ _ x => ?_)
      (fun rs i h => bonds_base h) (has_tab (hmk9.mono MarkW.mono hW10) S1) (has_tab (hma9.mono MarkW.mono hW10) S2) hdep hun S q1 q2 q3 Q hQ
    rw [base_about hσ hgm hR] at x
    exact x
  · refine cut _ (law_10_component G hRW9 hRA hR hRg hRn hRan (by omega) hRal hdep hun S9 l1 l2 l3 l4 Q _) ?_
    rintro _ ⟨⟨tb, tb2, bd, bd2, W10, hW10, S1, S2, h10, tk10, o10, c101, c102, c103, rfl, S⟩⟩
    try dsimp only
    refine law_tail G (by omega) (f := compD ms R) (fun il gd xs rs i t hg hi => law_seen_component G il gd tb mk bd (i : Int) tk0 t xs rs ms R (by omega) (by omega) hg.1 hgm fun g ps e => hR _ (lookup_mem e))
      (fun il gd xs rs i t hg hi => (law_seen_component G il gd tb2 ma bd2 (i : Int) tk0 t xs rs (aboutM [a0, a1, a2] ms) (aboutR [a0, a1, a2] R) (by omega) (by omega) hg.1 hgma fun g ps e => hRg _ (lookup_mem e)).imp (fun _ x => x) fun _ _ _ x => ?_)
      (fun rs i h => bonds_comp h) (has_tab (hmk9.mono MarkW.mono hW10) S1) (has_tab (hma9.mono MarkW.mono hW10) S2) hdep hun S q1 q2 q3 Q hQ
    rw [comp_about hσ hgm hR] at x
    exact x
  · refine cut _ (law_10_mark G hRW9 hRA hR hRg hRn hRan (by omega) hRal hdep hun S9 l1 l2 l3 l4 Q _) ?_
    rintro _ ⟨⟨tb, tb2, bd, bd2, W10, hW10, S1, S2, h10, tk10, o10, c101, c102, c103, rfl, S⟩⟩
    try dsimp only
    refine law_tail G (by omega) (f := markD ms (firsts R)) (fun il gd xs rs i t hg hi => law_seen_mark G il gd tb mk bd (i : Int) tk0 t xs rs ms (firsts R) (by omega) (by omega) hg.1 hgm fun g cs e => firsts_len hR e)
      (fun il gd xs rs i t hg hi => (law_seen_mark G il gd tb2 ma bd2 (i : Int) tk0 t xs rs (aboutM [a0, a1, a2] ms) (firsts (aboutR [a0, a1, a2] R)) (by omega) (by omega) hg.1 hgma fun g cs e => firsts_len hRg e).imp (fun _ x => x) fun _ _ _ x => ?_)
      (fun rs i h => bonds_mark h) (has_tab (hmk9.mono MarkW.mono hW10) S1) (has_tab (hma9.mono MarkW.mono hW10) S2) hdep hun S q1 q2 q3 Q hQ
    rw [mark_about hσ hgm hR] at x
    exact x

-- Join
theorem claim_post (args : List WData) : PySem.Challenge.rw_pb0206_01.row.claim.post args (.bool true) args = true := by
  refine postW_of rfl rfl ?_
  first
  | decide
  | (simp only [PySem.W.same_iff, beq_iff_eq, decide_eq_true_eq, ofPy]; done)
  | rfl
theorem claim_raises (args : List WData) (c : ExcName) : PySem.Challenge.rw_pb0206_01.row.claim.raises args c = false := by
  first
  | rfl
  | exact raisesW_false (fun ct h => nomatch h) c
theorem law_body : bdyOf (stm lawIx) = [lawSt 0, lawSt 1, lawSt 2, lawSt 3, lawSt 4, lawSt 5, lawSt 6, lawSt 7, lawSt 8, lawSt 9, lawSt 10, lawSt 11, lawSt 12, lawSt 13, lawSt 14] := by
  have key : ∀ l : List Stmt, l.length = 15 → l = (List.range 15).map fun k => (l[k]?).getD (.Pass default) := by
    intro l h
    apply List.ext_getElem?
    intro i
    rw [List.getElem?_map]
    by_cases hi : i < 15
    · rw [List.getElem?_range hi]
      simp [List.getElem?_eq_getElem (show i < l.length by omega)]
    · rw [List.getElem?_eq_none (by omega), List.getElem?_eq_none (by simp; omega)]
      rfl
  obtain ⟨x, hx, hl⟩ := law_is
  rw [← hx] at hl
  exact key _ hl
theorem law_end {w : World} {s₁ : Shared} {h₁ : Heap} {tk₁ : Nat} {p : Program} {loose : List Str} {mean : ExcName → Option Value} {mg mb : Str → Option Value} (KX : (frag w.params).In s₁.heap) (T : Top p loose mean mg mb s₁.heap) (hg : s₁.gens = #[]) {l : Addr} {vs : List Value} {ns : List Int} (hL : s₁.heap.IsList l vs.toArray) (hI : IntsAre vs ns) (hc : ¬ ((63 : Nat) : Int) < (ns.length : Int)) {L a : Addr} {cd : Value} {m : Str → Option Value} (F : Fr s₁.heap L h₁ m) (hm : m = mapL [(Str.ofString "script", .ref l)]) {o3 o2 o1 : Obj} {m3 m2 m1 : Option Value} (d3 : o3.data = .cell m3) (d2 : o2.data = .cell m2) (d1 : o1.data = .cell m1) (z3 : m3 = none) (z2 : m2 = none) (z1 : m1 = none)
    (N : News s₁.heap L h₁ [(L + 1 + 1 + 1, o3), (L + 1 + 1, o2), (L + 1, o1)]) {dp un : Nat} {fr : Option (List Env)} {gds : Option (List Code)} (hdep : dp + 40 < 900) (hun : un + 8 * 40 < 9000) {cl : Str → Option Addr} {mean2 : ExcName → Option Value} {args : List WData} {E : Value → Shared → Prop} :
    wpAny (model PRG w) { handled := none, depth := dp, frames := fr, guards := gds, units := un } (execs (bdyOf (stm lawIx)) (lawEnv L a cd)) (fun f s' => GoodW PySem.Challenge.rw_pb0206_01.row.claim cl mean2 args s₁ (Except.ok (Flow.ret (match f with | .ret v => v | _ => .none))) s') E { heap := h₁, gens := s₁.gens, drawn := s₁.drawn, toks := tk₁, os := s₁.os } := by
  subst hm z3 z2 z1
  rw [law_body]
  have hle : vs.length ≤ 63 := by have := hI.length; omega
  refine wpAny_mono (law_all ⟨p, loose, mean, mg, mb, KX, T⟩ L a l cd vs ns hI hle hL d1 d2 d3 hdep hun F N _ fun m h' tk F2 => ?_) (fun _ _ x => x) fun _ _ x => x.elim
  exact goodW_bool F2 hg (claim_raises args) (claim_post args)

theorem rows_end : True := by
  k_with_none
  trivial
set_option Elab.async true
theorem hx2.tw11500880152897323899 : True := trivial
theorem hx2.tw11713986215564468428 : True := trivial
theorem hx2.tw15798358739637833760 : True := trivial
theorem hx2.tw1146011129610408992 : True := trivial
theorem hx2.tw14868742630344596512 : True := trivial
theorem hx2.tw2304139534524207200 : True := trivial
theorem hx2.tw7426322462088981696 : True := trivial
theorem hx2.tw18162518212819490048 : True := trivial
theorem hx2.tw2804964952220114208 : True := trivial
theorem hx2.tw14056787809431252352 : True := trivial
theorem hx2.tw15620199031631490656 : True := trivial
theorem hx2.tw3961987249728874080 : True := trivial
theorem hx2.tw7589821218136284992 : True := trivial
theorem hx2.tw12374683491326231424 : True := trivial
theorem hx2.tw865634517364885376 : True := trivial
theorem hx2.tw17416399424059279521 : True := trivial
theorem hx2.tw12541753258913663297 : True := trivial
theorem hx2.tw4041686474778925409 : True := trivial
theorem hx2.tw16523405217875324289 : True := trivial
theorem hx2.tw9878837747330814465 : True := trivial
theorem hx2.tw7088887472441194017 : True := trivial
theorem hx2.tw4653663063319561953 : True := trivial
theorem hx2.tw15733436471571049185 : True := trivial
theorem hx2.tw1191354036087773153 : True := trivial
theorem hx2.tw8863559104442624002 : True := trivial
theorem hx2.tw12322093560984105058 : True := trivial
theorem hx2.tw8657805984113762498 : True := trivial
theorem hx2.tw10731584378606496034 : True := trivial
theorem hx2.tw3508087636235717986 : True := trivial
theorem hx2.tw7882656874097911138 : True := trivial
theorem hx2.tw15493722179393594914 : True := trivial
theorem hx2.tw3380061308285255234 : True := trivial
theorem hx2.tw9073126206991982210 : True := trivial
theorem hx2.tw16773518226789401314 : True := trivial
theorem hx2.tw5956139066334994178 : True := trivial
theorem hx2.tw11095896074811772802 : True := trivial
theorem hx2.tw2967394270623513538 : True := trivial
theorem hx2.tw16178194104299682883 : True := trivial
theorem hx2.tw4795981705354007651 : True := trivial
theorem hx2.tw9868573527268618371 : True := trivial
theorem hx2.tw7388592334923414691 : True := trivial
theorem hx2.tw8735906258333791459 : True := trivial
theorem hx2.tw10433126111368543523 : True := trivial
theorem hx2.tw17612184619500924259 : True := trivial
theorem hx2.tw6358526085792983427 : True := trivial
theorem hx2.tw16740305469007242659 : True := trivial
theorem hx2.tw16585008852642936227 : True := trivial
theorem hx2.tw563285433863535075 : True := trivial
theorem hx2.tw7689632824069150307 : True := trivial
theorem hx2.tw2834823093253837507 : True := trivial
theorem hx2.tw11349673043887159011 : True := trivial
theorem hx2.tw11331752310336223971 : True := trivial
theorem hx2.tw12753437908282657539 : True := trivial
theorem hx2.tw7170590658380208899 : True := trivial
theorem hx2.tw13816273005836695331 : True := trivial
theorem hx2.tw4784215012474672995 : True := trivial
theorem hx2.tw8984382791965470595 : True := trivial
theorem hx2.tw18364180795817773027 : True := trivial
theorem hx2.tw9211681633980469348 : True := trivial
theorem hx2.tw1965596286939605252 : True := trivial
theorem hx2.tw18127526134420596068 : True := trivial
theorem hx2.tw9290603643084564996 : True := trivial
theorem hx2.tw17543159432360360516 : True := trivial
theorem hx2.tw11681158479363612228 : True := trivial
theorem hx2.tw1744928671103824452 : True := trivial
theorem hx2.tw17367417964369328772 : True := trivial
theorem hx2.tw17756495911658985252 : True := trivial
theorem hx2.tw15178595165463773028 : True := trivial
theorem hx2.tw10946654222034674628 : True := trivial
theorem hx2.tw4238560066439875524 : True := trivial
theorem hx2.tw17314269385035262916 : True := trivial
theorem hx2.tw15458954488728466501 : True := trivial
theorem hx2.tw13165036468189385829 : True := trivial
theorem hx2.tw6269370505128218917 : True := trivial
theorem hx2.tw12047212073072900517 : True := trivial
theorem hx2.tw17605744730213616101 : True := trivial
theorem hx2.tw10475067158738200101 : True := trivial
theorem hx2.tw9787394298982378053 : True := trivial
theorem hx2.tw8335019434803766917 : True := trivial
theorem hx2.tw14529269372382170885 : True := trivial
theorem hx2.tw18318313879554714501 : True := trivial
theorem hx2.tw13273428587814879173 : True := trivial
theorem hx2.tw13032483766101388358 : True := trivial
theorem hx2.tw10613242890320649350 : True := trivial
theorem hx2.tw829912645434493062 : True := trivial
theorem hx2.tw10072765417553852614 : True := trivial
theorem hx2.tw1071858552282856742 : True := trivial
theorem hx2.tw17735329452017290566 : True := trivial
theorem hx2.tw15518538708031864134 : True := trivial
theorem hx2.tw17478425241169316230 : True := trivial
theorem hx2.tw16842097703338895846 : True := trivial
theorem hx2.tw12863299993183709766 : True := trivial
theorem hx2.tw17669624413222518342 : True := trivial
theorem hx2.tw5251486643733185222 : True := trivial
theorem hx2.tw9225038635437176614 : True := trivial
theorem hx2.tw1411306016864348134 : True := trivial
theorem hx2.tw15786935693325063207 : True := trivial
theorem hx2.tw12237592545162470535 : True := trivial
theorem hx2.tw1216391193729447335 : True := trivial
theorem hx2.tw15999841490109136295 : True := trivial
theorem hx2.tw10736296619732141543 : True := trivial
theorem hx2.tw11345460655346721287 : True := trivial
theorem hx2.tw17979953412072626727 : True := trivial
theorem hx2.tw4855827283094823495 : True := trivial
theorem hx2.tw2376383456511657575 : True := trivial
theorem hx2.tw5158735458860995335 : True := trivial
theorem hx2.tw7043793021496333063 : True := trivial
theorem hx2.tw8598765274560225191 : True := trivial
theorem hx2.tw3668631160891427815 : True := trivial
theorem hx2.tw9408146899989690408 : True := trivial
theorem hx2.tw2114566318050480328 : True := trivial
theorem hx2.tw12929710175765051624 : True := trivial
theorem hx2.tw8451589149916655848 : True := trivial
theorem hx2.tw13624225864655917352 : True := trivial
theorem hx2.tw3774304736839657800 : True := trivial
theorem hx2.tw11566998806357161384 : True := trivial
theorem hx2.tw428378165396246984 : True := trivial
theorem hx2.tw9936255983440004744 : True := trivial
theorem hx2.tw18363733084579229448 : True := trivial
theorem hx2.tw2566004188150001480 : True := trivial
theorem hx2.tw8688977079439729480 : True := trivial
theorem hx2.tw3917444091460702056 : True := trivial
theorem hx2.tw120039400031795112 : True := trivial
theorem hx2.tw7361362286392169448 : True := trivial
theorem hx2.tw16572134936682736681 : True := trivial
theorem hx2.tw1684318424318664777 : True := trivial
theorem hx2.tw11434592605054505321 : True := trivial
theorem hx2.tw2035020709284058665 : True := trivial
theorem hx2.tw9083817282217371305 : True := trivial
theorem hx2.tw6940098638402616169 : True := trivial
theorem hx2.tw1691565592867461065 : True := trivial
theorem hx2.tw10734817102364425226 : True := trivial
theorem hx2.tw1467623708214152234 : True := trivial
theorem hx2.tw2488427503481976970 : True := trivial
theorem hx2.tw11540701135535442122 : True := trivial
theorem hx2.tw15218511411039932714 : True := trivial
theorem hx2.tw4773782956786244906 : True := trivial
theorem hx2.tw13228796757751960042 : True := trivial
theorem hx2.tw12856687324643255882 : True := trivial
theorem hx2.tw11124934802815738570 : True := trivial
theorem hx2.tw18395229686000398090 : True := trivial
theorem hx2.tw12472258650254624618 : True := trivial
theorem hx2.tw14714006602973748331 : True := trivial
theorem hx2.tw3742699940597152011 : True := trivial
theorem hx2.tw6469341471015813387 : True := trivial
theorem hx2.tw6355289451122328939 : True := trivial
theorem hx2.tw10400097368513846635 : True := trivial
theorem hx2.tw2955911468707697067 : True := trivial
theorem hx2.tw545217434362656203 : True := trivial
theorem hx2.tw11648890194119014891 : True := trivial
theorem hx2.tw11407579336166183467 : True := trivial
theorem hx2.tw4711879535972572747 : True := trivial
theorem hx2.tw6870178529866491499 : True := trivial
theorem hx2.tw6836773289047852715 : True := trivial
theorem hx2.tw5728117622989617835 : True := trivial
theorem hx2.tw8436234725281233643 : True := trivial
theorem hx2.tw11979370969894382379 : True := trivial
theorem hx2.tw17479700203000559403 : True := trivial
theorem hx2.tw9879895054581263179 : True := trivial
theorem hx2.tw13492038257998090091 : True := trivial
theorem hx2.tw7735900696396040075 : True := trivial
theorem hx2.tw3320253426858050475 : True := trivial
theorem hx2.tw10522759550997159948 : True := trivial
theorem hx2.tw12679471969003995404 : True := trivial
theorem hx2.tw5388658080003177804 : True := trivial
theorem hx2.tw3402761743955185068 : True := trivial
theorem hx2.tw12078229150149565996 : True := trivial
theorem hx2.tw1261112021910529612 : True := trivial
theorem hx2.tw3509581327120473740 : True := trivial
theorem hx2.tw9288208111325102796 : True := trivial
theorem hx2.tw14233197315021859660 : True := trivial
theorem hx2.tw2688689839438499756 : True := trivial
theorem hx2.tw5743609410314273933 : True := trivial
theorem hx2.tw10335481800230054061 : True := trivial
theorem hx2.tw15071029801711127757 : True := trivial
theorem hx2.tw1391452666743184621 : True := trivial
theorem hx2.tw12411448572138099981 : True := trivial
theorem hx2.tw7597135594853312781 : True := trivial
theorem hx2.tw1698404030231195949 : True := trivial
theorem hx2.tw15464100617081333101 : True := trivial
theorem hx2.tw5597035872963568109 : True := trivial
theorem hx2.tw1731074370858795501 : True := trivial
theorem hx2.tw13040462827368387085 : True := trivial
theorem hx2.tw8153448019414761165 : True := trivial
theorem hx2.tw14164777303096999725 : True := trivial
theorem hx2.tw10940642389060820781 : True := trivial
theorem hx2.tw14246132224696970125 : True := trivial
theorem hx2.tw6616147541009513518 : True := trivial
theorem hx2.tw628656983454701678 : True := trivial
theorem hx2.tw4551833134698904718 : True := trivial
theorem hx2.tw6207286862406015150 : True := trivial
theorem hx2.tw17748948118908822702 : True := trivial
theorem hx2.tw3892349399708576014 : True := trivial
theorem hx2.tw4276806526578506094 : True := trivial
theorem hx2.tw7746287604693879182 : True := trivial
theorem hx2.tw15643824987842617774 : True := trivial
theorem hx2.tw175453689398979022 : True := trivial
theorem hx2.tw18040269400969600494 : True := trivial
theorem hx2.tw582470342017889774 : True := trivial
theorem hx2.tw4130869962281763342 : True := trivial
theorem hx2.tw5419438866889605742 : True := trivial
theorem hx2.tw10117170944042745454 : True := trivial
theorem hx2.tw2868737960804966030 : True := trivial
theorem hx2.tw9617669416331028206 : True := trivial
theorem hx2.tw16685229408197631790 : True := trivial
theorem hx2.tw250362716237849454 : True := trivial
theorem hx2.tw17347944115092151182 : True := trivial
theorem hx2.tw1224689996970428334 : True := trivial
theorem hx2.tw17506670047757803535 : True := trivial
theorem hx2.tw12304878918911714383 : True := trivial
theorem hx2.tw10647338960569768047 : True := trivial
theorem hx2.tw15021595811877319887 : True := trivial
theorem hx2.tw7580911701936639215 : True := trivial
theorem hx2.tw10619259000858463599 : True := trivial
theorem hx2.tw8936510717617464815 : True := trivial
theorem hx2.tw370751247154745071 : True := trivial
theorem hx2.tw3451330038703166287 : True := trivial
theorem hx2.tw10099862817628903311 : True := trivial
theorem hx2.tw17249038179026966511 : True := trivial
theorem hx2.tw1394740437688118320 : True := trivial
theorem hx2.tw13736952523008648272 : True := trivial
theorem hx2.tw9393917371915106448 : True := trivial
theorem hx2.tw10148762167395206288 : True := trivial
theorem hx2.tw12177649944190752016 : True := trivial
theorem hx2.tw17454378048475006384 : True := trivial
theorem hx2.tw12402154867074286192 : True := trivial
theorem hx2.tw4341382189246463632 : True := trivial
theorem hx2.tw12928115057848923824 : True := trivial
theorem hx2.tw5724400103324171984 : True := trivial
theorem hx2.tw13554934292381247248 : True := trivial
theorem hx2.tw3424531221146670000 : True := trivial
theorem hx2.tw16590902855325122480 : True := trivial
theorem hx2.tw9227036958903467121 : True := trivial
theorem hx2.tw250534109053851825 : True := trivial
theorem hx2.tw13121413978078988465 : True := trivial
theorem hx2.tw193013257502948529 : True := trivial
theorem hx2.tw14021032964473892049 : True := trivial
theorem hx2.tw4807297523788316913 : True := trivial
theorem hx2.tw3000399482004173169 : True := trivial
theorem hx2.tw3452439805299173777 : True := trivial
theorem hx2.tw5199781807887114673 : True := trivial
theorem hx2.tw7450853217591397841 : True := trivial
theorem hx2.tw9099359677703869905 : True := trivial
theorem hx2.tw4105304999645347441 : True := trivial
theorem hx2.tw17693657446258549489 : True := trivial
theorem hx2.tw16367425715194894161 : True := trivial
theorem hx2.tw15760868884851245937 : True := trivial
theorem hx2.tw15499485001338165137 : True := trivial
theorem hx2.tw4166521381046880209 : True := trivial
theorem hx2.tw16188439258152486865 : True := trivial
theorem hx2.tw10395600579781451794 : True := trivial
theorem hx2.tw18241630459647972530 : True := trivial
theorem hx2.tw14721690537184795922 : True := trivial
theorem hx2.tw9765379533573161266 : True := trivial
theorem hx2.tw7676441923578511666 : True := trivial
theorem hx2.tw5452234587806134578 : True := trivial
theorem hx2.tw7484821990006366578 : True := trivial
theorem hx2.tw10575026102243684786 : True := trivial
theorem hx2.tw11099330884426702290 : True := trivial
theorem hx2.tw11119852588781948402 : True := trivial
theorem hx2.tw10207681946601606642 : True := trivial
theorem hx2.tw6341356767563313938 : True := trivial
theorem hx2.tw9077812417741635378 : True := trivial
theorem hx2.tw15899236050832683826 : True := trivial
theorem hx2.tw6412871595852553106 : True := trivial
theorem hx2.tw6171637099724535730 : True := trivial
theorem hx2.tw12590165789230600275 : True := trivial
theorem hx2.tw7757071890249016467 : True := trivial
theorem hx2.tw9951067386761412851 : True := trivial
theorem hx2.tw18141580076817753363 : True := trivial
theorem hx2.tw9047808845609690451 : True := trivial
theorem hx2.tw433674501078162771 : True := trivial
theorem hx2.tw2968926706395458931 : True := trivial
theorem hx2.tw3583799274424572339 : True := trivial
theorem hx2.tw12401234673565110771 : True := trivial
theorem hx2.tw14415604874029826707 : True := trivial
theorem hx2.tw12494325411793595059 : True := trivial
theorem hx2.tw5278210790023566067 : True := trivial
theorem hx2.tw14645561832559690483 : True := trivial
theorem hx2.tw12222914080577340147 : True := trivial
theorem hx2.tw1680040125910968051 : True := trivial
theorem hx2.tw12259076397355022099 : True := trivial
theorem hx2.tw14243720148161257235 : True := trivial
theorem hx2.tw7785382212834714419 : True := trivial
theorem hx2.tw18065736309554788179 : True := trivial
theorem hx2.tw1995845450019380083 : True := trivial
theorem hx2.tw10096163222316699603 : True := trivial
theorem hx2.tw10440633927386197012 : True := trivial
theorem hx2.tw6277613549677917300 : True := trivial
theorem hx2.tw2059461779948609684 : True := trivial
theorem hx2.tw1909938542774216852 : True := trivial
theorem hx2.tw7863954736056099252 : True := trivial
theorem hx2.tw17813460090929540564 : True := trivial
theorem hx2.tw7926218723347964436 : True := trivial
theorem hx2.tw7452346247204941428 : True := trivial
theorem hx2.tw8010500552687328980 : True := trivial
theorem hx2.tw13816757879861296852 : True := trivial
theorem hx2.tw3282012913249998580 : True := trivial
theorem hx2.tw2031232900918896372 : True := trivial
theorem hx2.tw17234430774637347604 : True := trivial
theorem hx2.tw1095836270834344852 : True := trivial
theorem hx2.tw15466322972310948820 : True := trivial
theorem hx2.tw7780286634358050804 : True := trivial
theorem hx2.tw2269110751625363477 : True := trivial
theorem hx2.tw13866612584766076949 : True := trivial
theorem hx2.tw14495684178714037461 : True := trivial
theorem hx2.tw15338790253937110325 : True := trivial
theorem hx2.tw15626694912480271733 : True := trivial
theorem hx2.tw10826863224431186293 : True := trivial
theorem hx2.tw10554171669409716693 : True := trivial
theorem hx2.tw7270280113496987125 : True := trivial
theorem hx2.tw5181828313920962069 : True := trivial
theorem hx2.tw16348581073437213333 : True := trivial
theorem hx2.tw17757872529302242101 : True := trivial
theorem hx2.tw5678758630752020341 : True := trivial
theorem hx2.tw3424658065195043733 : True := trivial
theorem hx2.tw9269674212019837845 : True := trivial
theorem hx2.tw12554578847635123606 : True := trivial
theorem hx2.tw12815300028656900534 : True := trivial
theorem hx2.tw6969646048761997750 : True := trivial
theorem hx2.tw3280783659433432534 : True := trivial
theorem hx2.tw1470022212929852950 : True := trivial
theorem hx2.tw10356168286103254582 : True := trivial
theorem hx2.tw16018052643483635286 : True := trivial
theorem hx2.tw15060299622975094390 : True := trivial
theorem hx2.tw14909469177592718038 : True := trivial
theorem hx2.tw8692265951305148182 : True := trivial
theorem hx2.tw18286561970981336854 : True := trivial
theorem hx2.tw1633826580878779222 : True := trivial
theorem hx2.tw7676537024397126614 : True := trivial
theorem hx2.tw14455957841551781846 : True := trivial
theorem hx2.tw14704053290603755510 : True := trivial
theorem hx2.tw14901859055956611062 : True := trivial
theorem hx2.tw6603514433640722422 : True := trivial
theorem hx2.tw9290539868213445719 : True := trivial
theorem hx2.tw7102920976672578647 : True := trivial
theorem hx2.tw7493477456898790551 : True := trivial
theorem hx2.tw16030365431256659191 : True := trivial
theorem hx2.tw9678665167267750167 : True := trivial
theorem hx2.tw2842379246599226679 : True := trivial
theorem hx2.tw11513521286600102231 : True := trivial
theorem hx2.tw14051574794278026583 : True := trivial
theorem hx2.tw6614459529200226679 : True := trivial
theorem hx2.tw4595903739452283575 : True := trivial
theorem hx2.tw8583704182031496055 : True := trivial
theorem hx2.tw2516430113850213303 : True := trivial
theorem hx2.tw8103063527576637399 : True := trivial
theorem hx2.tw14630638885070515224 : True := trivial
theorem hx2.tw7906079024559845432 : True := trivial
theorem hx2.tw3045340007555436696 : True := trivial
theorem hx2.tw1228017916067553432 : True := trivial
theorem hx2.tw215328960918007000 : True := trivial
theorem hx2.tw12293207244923562296 : True := trivial
theorem hx2.tw12125754018742842808 : True := trivial
theorem hx2.tw8275897642529048152 : True := trivial
theorem hx2.tw10630550225484860024 : True := trivial
theorem hx2.tw13946076737022070424 : True := trivial
theorem hx2.tw7706633721750959864 : True := trivial
theorem hx2.tw6432252875498062840 : True := trivial
theorem hx2.tw11421769596532971577 : True := trivial
theorem hx2.tw6457229049837844569 : True := trivial
theorem hx2.tw15424047233508696409 : True := trivial
theorem hx2.tw4098348105375972697 : True := trivial
theorem hx2.tw7599175297528916345 : True := trivial
theorem hx2.tw15176557675562876345 : True := trivial
theorem hx2.tw3430559939161382329 : True := trivial
theorem hx2.tw14617540069829243353 : True := trivial
theorem hx2.tw18308889984905475673 : True := trivial
theorem hx2.tw18069601707242631865 : True := trivial
theorem hx2.tw11092703272912640729 : True := trivial
theorem hx2.tw13707389634794568569 : True := trivial
theorem hx2.tw7134705939731939225 : True := trivial
theorem hx2.tw17062477106428991449 : True := trivial
theorem hx2.tw9098158117091315705 : True := trivial
theorem hx2.tw2039074973655183353 : True := trivial
theorem hx2.tw9708949062885089370 : True := trivial
theorem hx2.tw5739228699535300826 : True := trivial
theorem hx2.tw13332108303572275514 : True := trivial
theorem hx2.tw16586967022598686106 : True := trivial
theorem hx2.tw1676377711892463002 : True := trivial
theorem hx2.tw10467508153467922970 : True := trivial
theorem hx2.tw30009815233615642 : True := trivial
theorem hx2.tw12375996924918355834 : True := trivial
theorem hx2.tw5968326895979619194 : True := trivial
theorem hx2.tw14724839739024878586 : True := trivial
theorem hx2.tw15575835418609811483 : True := trivial
theorem hx2.tw2577034095902131227 : True := trivial
theorem hx2.tw5011792096384752699 : True := trivial
theorem hx2.tw4109769857205573787 : True := trivial
theorem hx2.tw4396668953600450139 : True := trivial
theorem hx2.tw4599457407366846075 : True := trivial
theorem hx2.tw3452373783468683931 : True := trivial
theorem hx2.tw16653638910422872731 : True := trivial
theorem hx2.tw3745964371857190683 : True := trivial
theorem hx2.tw15252054007082157915 : True := trivial
theorem hx2.tw14347305452043494235 : True := trivial
theorem hx2.tw7136012056393360251 : True := trivial
theorem hx2.tw1378252733872360572 : True := trivial
theorem hx2.tw5482896608690935964 : True := trivial
theorem hx2.tw3844668417392816284 : True := trivial
theorem hx2.tw16851712025548604636 : True := trivial
theorem hx2.tw280300713703725276 : True := trivial
theorem hx2.tw17181501198190275804 : True := trivial
theorem hx2.tw13002465335628530972 : True := trivial
theorem hx2.tw11854902472719866268 : True := trivial
theorem hx2.tw10181267742879694268 : True := trivial
theorem hx2.tw15769256484476942812 : True := trivial
theorem hx2.tw15233921026797675996 : True := trivial
theorem hx2.tw7201509132602839548 : True := trivial
theorem hx2.tw11307188919359931932 : True := trivial
theorem hx2.tw16470968194395328028 : True := trivial
theorem hx2.tw3701059967981434428 : True := trivial
theorem hx2.tw5481690656192526908 : True := trivial
theorem hx2.tw861595589127882364 : True := trivial
theorem hx2.tw11274197282983536316 : True := trivial
theorem hx2.tw2748590223140601564 : True := trivial
theorem hx2.tw17769304686697898780 : True := trivial
theorem hx2.tw7121950998132594556 : True := trivial
theorem hx2.tw10578263447688440989 : True := trivial
theorem hx2.tw5210672462676320477 : True := trivial
theorem hx2.tw5379448920691316989 : True := trivial
theorem hx2.tw9127318888384417053 : True := trivial
theorem hx2.tw4226925456948486525 : True := trivial
theorem hx2.tw11657979585955017085 : True := trivial
theorem hx2.tw13066371918462288285 : True := trivial
theorem hx2.tw2837908962165488189 : True := trivial
theorem hx2.tw3145124121513703005 : True := trivial
theorem hx2.tw2697424292692273789 : True := trivial
theorem hx2.tw11881913794538388157 : True := trivial
theorem hx2.tw14233781454622958301 : True := trivial
theorem hx2.tw6248979868290306909 : True := trivial
theorem hx2.tw5102239320643606461 : True := trivial
theorem hx2.tw5646419215189922813 : True := trivial
theorem hx2.tw7894117631819946078 : True := trivial
theorem hx2.tw97393568294360350 : True := trivial
theorem hx2.tw7236234982566901086 : True := trivial
theorem hx2.tw8385297878700016222 : True := trivial
theorem hx2.tw2309421582309201694 : True := trivial
theorem hx2.tw6005377483086495710 : True := trivial
theorem hx2.tw11260750037890709535 : True := trivial
theorem hx2.tw12815991022071246879 : True := trivial
theorem hx2.tw2772526158103289983 : True := trivial
theorem hx2.tw7731778458340481183 : True := trivial
theorem hx2.tw6240807402602728607 : True := trivial
theorem hx2.tw5226223470197187039 : True := trivial
theorem hx2.tw3212288549589794303 : True := trivial
theorem hx2.tw16894691679671832127 : True := trivial
theorem hx2.tw17572604805697964671 : True := trivial
theorem hx2.tw13635538263710325375 : True := trivial
theorem hx2.tw4681498116380328703 : True := trivial
theorem hx2.tw3822400497026347903 : True := trivial
theorem hx2.tw4791205781106186111 : True := trivial
theorem hx2.tw12622385668423552927 : True := trivial
theorem hx2.tw2408435753160518559 : True := trivial
theorem hx2.tw1130604737609148351 : True := trivial
theorem hx2.tw2727716466138568703 : True := trivial
theorem hx2 : PySem.Challenge.rw_pb0206_01.Holds := by
  (w_on; o_law; o_head (kHook Mine.frag Mine.fragAt (fun _ => by kernel_rfl)))
  (case hw => w_witness2)
  k_go0
  refine' law_end ?jjKX ?jjT ?jjhg ?jjhL ?jjhI ?jjhlen ?jjF ?jjhm ?jjd3 ?jjd2 ?jjd1 ?jjz3 ?jjz2 ?jjz1 ?jjN ?jjhdep ?jjhun
  case jjN => assumption
  case jjF => assumption
  case jjKX => assumption
  case jjT => assumption
  case jjhg => assumption
  case jjhL => assumption
  case jjhI => assumption
  case jjhlen => assumption
  case jjd3 => assumption
  case jjd2 => assumption
  case jjd1 => assumption
  case jjz3 => first | rfl | kernel_rfl
  case jjz2 => first | rfl | kernel_rfl
  case jjz1 => first | rfl | kernel_rfl
  case jjhm => first | (funext y; rw [mapL_cons]; rfl) | (funext y; rw [mapL_cons]; kernel_rfl) | (funext y; with_unfolding_all rfl)
  case jjhdep => first | decide | (with_unfolding_all decide)
  case jjhun => first | decide | (with_unfolding_all decide)

end Mine
theorem PySem.Challenge.cw_pb0206_01_holds : PySem.Challenge.rw_pb0206_01.Holds := by
  exact Mine.hx2
