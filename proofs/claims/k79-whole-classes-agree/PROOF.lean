import PyProof.Rows.All
import Wide.All
import OpenK.AllK
import Wide.FinOn
import HandS.ForMost
import HandS.Star
import HandS.MethStar
import HandS.Property
import HandS.IsInst
import HandS.HeadHook1
import HandS.HeadHook2
import HandS.HeadHook3
import KE.KStateDown
import HandS.Head0
import HandS.Head1
import HandS.Head2
import HandS.HeadEnd
import KE.KSuper
import HandS.ReplaceDef
import KE.GoesEnum
import HandS.SetBool
import HandS.Strs
import HandS.SetFor
import OpenK.KOps
import HandS.SlotsOwn
import HandS.FStr
import HandS.TupAny
import HandS.Conv
import HandS.NoneIn
import HandS.Text
import HandS.RaiseMore
import HandS.More
import HandS.Walk
import HandS.Codes
import PySem.Challenge.RW_burstapart_k79_whole_classes_agree
set_option Elab.async false
set_option linter.all false
set_option maxRecDepth 100000
namespace K7
open PySem PySem.Spec PyProof.Rows L2
/-! ### the text by places -/
def top (i : Nat) : Stmt := PySem.Challenge.pw_burstapart_k79_whole_classes_agree.main.body.getD i (.Pass ⟨0, 0, 0, 0⟩)
def t15 : {s : Stmt // top 15 = s} := by
  refine ⟨?_, ?_⟩
  rotate_left
  conv => lhs; whnf
abbrev s15 : Stmt := t15.1
def t16 : {s : Stmt // top 16 = s} := by
  refine ⟨?_, ?_⟩
  rotate_left
  conv => lhs; whnf
abbrev s16 : Stmt := t16.1
def t17 : {s : Stmt // top 17 = s} := by
  refine ⟨?_, ?_⟩
  rotate_left
  conv => lhs; whnf
abbrev s17 : Stmt := t17.1
def t18 : {s : Stmt // top 18 = s} := by
  refine ⟨?_, ?_⟩
  rotate_left
  conv => lhs; whnf
abbrev s18 : Stmt := t18.1
def t19 : {s : Stmt // top 19 = s} := by
  refine ⟨?_, ?_⟩
  rotate_left
  conv => lhs; whnf
abbrev s19 : Stmt := t19.1
def t24 : {s : Stmt // top 24 = s} := by
  refine ⟨?_, ?_⟩
  rotate_left
  conv => lhs; whnf
abbrev s24 : Stmt := t24.1
def t55 : {s : Stmt // top 55 = s} := by
  refine ⟨?_, ?_⟩
  rotate_left
  conv => lhs; whnf
abbrev s55 : Stmt := t55.1
def t56 : {s : Stmt // top 56 = s} := by
  refine ⟨?_, ?_⟩
  rotate_left
  conv => lhs; whnf
abbrev s56 : Stmt := t56.1
def t57_0 : {s : Stmt // inClass (top 57) 0 = s} := by
  refine ⟨?_, ?_⟩
  rotate_left
  conv => lhs; whnf
abbrev s57_0 : Stmt := t57_0.1
def t58 : {s : Stmt // top 58 = s} := by
  refine ⟨?_, ?_⟩
  rotate_left
  conv => lhs; whnf
abbrev s58 : Stmt := t58.1
def t59 : {s : Stmt // top 59 = s} := by
  refine ⟨?_, ?_⟩
  rotate_left
  conv => lhs; whnf
abbrev s59 : Stmt := t59.1
def t60 : {s : Stmt // top 60 = s} := by
  refine ⟨?_, ?_⟩
  rotate_left
  conv => lhs; whnf
abbrev s60 : Stmt := t60.1
def t61 : {s : Stmt // top 61 = s} := by
  refine ⟨?_, ?_⟩
  rotate_left
  conv => lhs; whnf
abbrev s61 : Stmt := t61.1
def t62 : {s : Stmt // top 62 = s} := by
  refine ⟨?_, ?_⟩
  rotate_left
  conv => lhs; whnf
abbrev s62 : Stmt := t62.1
def t63_1 : {s : Stmt // inClass (top 63) 1 = s} := by
  refine ⟨?_, ?_⟩
  rotate_left
  conv => lhs; whnf
abbrev s63_1 : Stmt := t63_1.1
def t63_2 : {s : Stmt // inClass (top 63) 2 = s} := by
  refine ⟨?_, ?_⟩
  rotate_left
  conv => lhs; whnf
abbrev s63_2 : Stmt := t63_2.1
def t63_4 : {s : Stmt // inClass (top 63) 4 = s} := by
  refine ⟨?_, ?_⟩
  rotate_left
  conv => lhs; whnf
abbrev s63_4 : Stmt := t63_4.1
def t63_5 : {s : Stmt // inClass (top 63) 5 = s} := by
  refine ⟨?_, ?_⟩
  rotate_left
  conv => lhs; whnf
abbrev s63_5 : Stmt := t63_5.1
def t63_6 : {s : Stmt // inClass (top 63) 6 = s} := by
  refine ⟨?_, ?_⟩
  rotate_left
  conv => lhs; whnf
abbrev s63_6 : Stmt := t63_6.1
def t63_7 : {s : Stmt // inClass (top 63) 7 = s} := by
  refine ⟨?_, ?_⟩
  rotate_left
  conv => lhs; whnf
abbrev s63_7 : Stmt := t63_7.1
def t63_8 : {s : Stmt // inClass (top 63) 8 = s} := by
  refine ⟨?_, ?_⟩
  rotate_left
  conv => lhs; whnf
abbrev s63_8 : Stmt := t63_8.1
def t63_10 : {s : Stmt // inClass (top 63) 10 = s} := by
  refine ⟨?_, ?_⟩
  rotate_left
  conv => lhs; whnf
abbrev s63_10 : Stmt := t63_10.1
def t63_12 : {s : Stmt // inClass (top 63) 12 = s} := by
  refine ⟨?_, ?_⟩
  rotate_left
  conv => lhs; whnf
abbrev s63_12 : Stmt := t63_12.1
def t63_14 : {s : Stmt // inClass (top 63) 14 = s} := by
  refine ⟨?_, ?_⟩
  rotate_left
  conv => lhs; whnf
abbrev s63_14 : Stmt := t63_14.1
def t63_16 : {s : Stmt // inClass (top 63) 16 = s} := by
  refine ⟨?_, ?_⟩
  rotate_left
  conv => lhs; whnf
abbrev s63_16 : Stmt := t63_16.1
def t63_17 : {s : Stmt // inClass (top 63) 17 = s} := by
  refine ⟨?_, ?_⟩
  rotate_left
  conv => lhs; whnf
abbrev s63_17 : Stmt := t63_17.1
def t64_1 : {s : Stmt // inClass (top 64) 1 = s} := by
  refine ⟨?_, ?_⟩
  rotate_left
  conv => lhs; whnf
abbrev s64_1 : Stmt := t64_1.1
def t64_2 : {s : Stmt // inClass (top 64) 2 = s} := by
  refine ⟨?_, ?_⟩
  rotate_left
  conv => lhs; whnf
abbrev s64_2 : Stmt := t64_2.1
def t64_3 : {s : Stmt // inClass (top 64) 3 = s} := by
  refine ⟨?_, ?_⟩
  rotate_left
  conv => lhs; whnf
abbrev s64_3 : Stmt := t64_3.1
def t65_1 : {s : Stmt // inClass (top 65) 1 = s} := by
  refine ⟨?_, ?_⟩
  rotate_left
  conv => lhs; whnf
abbrev s65_1 : Stmt := t65_1.1
def t65_2 : {s : Stmt // inClass (top 65) 2 = s} := by
  refine ⟨?_, ?_⟩
  rotate_left
  conv => lhs; whnf
abbrev s65_2 : Stmt := t65_2.1
def t67_1 : {s : Stmt // inClass (top 67) 1 = s} := by
  refine ⟨?_, ?_⟩
  rotate_left
  conv => lhs; whnf
abbrev s67_1 : Stmt := t67_1.1
def t67_2 : {s : Stmt // inClass (top 67) 2 = s} := by
  refine ⟨?_, ?_⟩
  rotate_left
  conv => lhs; whnf
abbrev s67_2 : Stmt := t67_2.1
def t74 : {s : Stmt // top 74 = s} := by
  refine ⟨?_, ?_⟩
  rotate_left
  conv => lhs; whnf
abbrev s74 : Stmt := t74.1
def t75 : {s : Stmt // top 75 = s} := by
  refine ⟨?_, ?_⟩
  rotate_left
  conv => lhs; whnf
abbrev s75 : Stmt := t75.1
def t76 : {s : Stmt // top 76 = s} := by
  refine ⟨?_, ?_⟩
  rotate_left
  conv => lhs; whnf
abbrev s76 : Stmt := t76.1
def t77 : {s : Stmt // top 77 = s} := by
  refine ⟨?_, ?_⟩
  rotate_left
  conv => lhs; whnf
abbrev s77 : Stmt := t77.1
def t78 : {s : Stmt // top 78 = s} := by
  refine ⟨?_, ?_⟩
  rotate_left
  conv => lhs; whnf
abbrev s78 : Stmt := t78.1
def t84 : {s : Stmt // top 84 = s} := by
  refine ⟨?_, ?_⟩
  rotate_left
  conv => lhs; whnf
abbrev s84 : Stmt := t84.1
def t85 : {s : Stmt // top 85 = s} := by
  refine ⟨?_, ?_⟩
  rotate_left
  conv => lhs; whnf
abbrev s85 : Stmt := t85.1
def t86 : {s : Stmt // top 86 = s} := by
  refine ⟨?_, ?_⟩
  rotate_left
  conv => lhs; whnf
abbrev s86 : Stmt := t86.1
def t87_0 : {s : Stmt // inClass (top 87) 0 = s} := by
  refine ⟨?_, ?_⟩
  rotate_left
  conv => lhs; whnf
abbrev s87_0 : Stmt := t87_0.1
def t87_1 : {s : Stmt // inClass (top 87) 1 = s} := by
  refine ⟨?_, ?_⟩
  rotate_left
  conv => lhs; whnf
abbrev s87_1 : Stmt := t87_1.1
def t87_2 : {s : Stmt // inClass (top 87) 2 = s} := by
  refine ⟨?_, ?_⟩
  rotate_left
  conv => lhs; whnf
abbrev s87_2 : Stmt := t87_2.1
def t89 : {s : Stmt // top 89 = s} := by
  refine ⟨?_, ?_⟩
  rotate_left
  conv => lhs; whnf
abbrev s89 : Stmt := t89.1
def t90 : {s : Stmt // top 90 = s} := by
  refine ⟨?_, ?_⟩
  rotate_left
  conv => lhs; whnf
abbrev s90 : Stmt := t90.1
def t91 : {s : Stmt // top 91 = s} := by
  refine ⟨?_, ?_⟩
  rotate_left
  conv => lhs; whnf
abbrev s91 : Stmt := t91.1
def t92 : {s : Stmt // top 92 = s} := by
  refine ⟨?_, ?_⟩
  rotate_left
  conv => lhs; whnf
abbrev s92 : Stmt := t92.1
def t93 : {s : Stmt // top 93 = s} := by
  refine ⟨?_, ?_⟩
  rotate_left
  conv => lhs; whnf
abbrev s93 : Stmt := t93.1
def t94 : {s : Stmt // top 94 = s} := by
  refine ⟨?_, ?_⟩
  rotate_left
  conv => lhs; whnf
abbrev s94 : Stmt := t94.1
def t95 : {s : Stmt // top 95 = s} := by
  refine ⟨?_, ?_⟩
  rotate_left
  conv => lhs; whnf
abbrev s95 : Stmt := t95.1
def t96 : {s : Stmt // top 96 = s} := by
  refine ⟨?_, ?_⟩
  rotate_left
  conv => lhs; whnf
abbrev s96 : Stmt := t96.1
def t97 : {s : Stmt // top 97 = s} := by
  refine ⟨?_, ?_⟩
  rotate_left
  conv => lhs; whnf
abbrev s97 : Stmt := t97.1
def t98 : {s : Stmt // top 98 = s} := by
  refine ⟨?_, ?_⟩
  rotate_left
  conv => lhs; whnf
abbrev s98 : Stmt := t98.1
def t99 : {s : Stmt // top 99 = s} := by
  refine ⟨?_, ?_⟩
  rotate_left
  conv => lhs; whnf
abbrev s99 : Stmt := t99.1
def t100 : {s : Stmt // top 100 = s} := by
  refine ⟨?_, ?_⟩
  rotate_left
  conv => lhs; whnf
abbrev s100 : Stmt := t100.1
/-! ### where things stand -/
abbrev ga := He.ga
abbrev ma := He.ma
/-- the getter of a property -/
def pgA (K : PySem.W.Frag) (C f : Str) : Addr := match PySem.W.recIn K (ma K (ga K C) f) "property" with
  | some (.ref g :: _) => g
  | _ => 0
inductive Pl where
  | gl (x : Str)
  | me (C f : Str)
  | pr (C f : Str)
def Pl.ad (K : PySem.W.Frag) : Pl → Addr
  | .gl x => ga K x
  | .me C f => ma K (ga K C) f
  | .pr C f => pgA K C f
structure DD where
  pl : Pl
  name : Str
  qual : Str
  st : Stmt
  clo : Option Str
def fdOf (K : PySem.W.Frag) (a : Addr) : FuncData := match K.lookup a with
  | some ⟨_, _, .func fd, _⟩ => fd
  | _ => default
abbrev FO : Type := Option (Str × Str × Arguments × FuncBody × Scope × Addr × List Str × Value × Addr)
def fo (K : PySem.W.Frag) (a : Addr) : FO := match K.lookup a with
  | some ⟨_, _, .func fd, _⟩ => some (fd.name, fd.qualname, fd.params, fd.body, fd.scope, fd.globals, fd.closure.map (·.1), fd.defaults, fd.builtins)
  | _ => none
def cloN : Option Str → List Str
  | none => []
  | some _ => ["__class__"]
def DD.val (d : DD) : FO := some (d.name, d.qual, defArgs d.st, .stmts (defBody d.st), defScope d.st, mainGlobals, cloN d.clo, .none, builtinsNs)
/-- the class cell and the code object of a def that says super() -/
def cloOk (K : PySem.W.Frag) (fd : FuncData) : Option Str → Bool
  | none => true
  | some C => (match fd.closure with
    | [(_, cc)] => (match K.lookup cc with
      | some ⟨_, _, .cell (some (.ref D)), _⟩ => D == ga K C
      | _ => false)
    | _ => false) && (match fd.code with
    | .ref c => (match K.lookup c with
      | some ⟨_, _, .fields vs, _⟩ => (match vs.toList with
        | _ :: _ :: .str file _ :: _ => PySem.Challenge.pw_burstapart_k79_whole_classes_agree.main.file == file
        | _ => false)
      | _ => false)
    | _ => false)
def DD.ok (K : PySem.W.Frag) (d : DD) : Bool := PySem.W.keepIn K (.ref (d.pl.ad K)) && (PySem.W.isFn K (.ref (d.pl.ad K)) && (PySem.W.fnIn K (d.pl.ad K) && (match K.lookup (d.pl.ad K) with
  | some ⟨_, _, .func fd, _⟩ => PySem.W.codeIn K fd.code d.qual && cloOk K fd d.clo
  | _ => false)))
def dds0 : List DD := [⟨.gl "is_integer", "is_integer", "is_integer", s15, none⟩,
  ⟨.gl "is_between", "is_between", "is_between", s16, none⟩,
  ⟨.gl "is_onto", "is_onto", "is_onto", s17, none⟩,
  ⟨.gl "is_table", "is_table", "is_table", s18, none⟩,
  ⟨.gl "need_table", "need_table", "need_table", s19, none⟩,
  ⟨.gl "back_of", "back_of", "back_of", s24, none⟩,
  ⟨.gl "is_value", "is_value", "is_value", s55, none⟩,
  ⟨.gl "need_value", "need_value", "need_value", s56, none⟩,
  ⟨.gl "copied", "copied", "copied", s58, none⟩,
  ⟨.gl "hold_ahead", "hold_ahead", "hold_ahead", s59, none⟩,
  ⟨.gl "holds_ahead", "holds_ahead", "holds_ahead", s60, none⟩,
  ⟨.gl "cuts_ahead", "cuts_ahead", "cuts_ahead", s61, none⟩]
def dds1 : List DD := [⟨.gl "go_on_alike", "go_on_alike", "go_on_alike", s62, none⟩,
  ⟨.gl "number_in", "number_in", "number_in", s74, none⟩,
  ⟨.gl "value_in", "value_in", "value_in", s75, none⟩,
  ⟨.gl "numbers_text", "numbers_text", "numbers_text", s76, none⟩,
  ⟨.gl "table_text", "table_text", "table_text", s77, none⟩,
  ⟨.gl "journal_text", "journal_text", "journal_text", s78, none⟩,
  ⟨.gl "numbers_in", "numbers_in", "numbers_in", s84, none⟩,
  ⟨.gl "values_in", "values_in", "values_in", s85, none⟩,
  ⟨.gl "spaced", "spaced", "spaced", s86, none⟩,
  ⟨.gl "_law_cell", "_law_cell", "_law_cell", s89, none⟩,
  ⟨.gl "_law_pen", "_law_pen", "_law_pen", s90, none⟩,
  ⟨.gl "_law_draw", "_law_draw", "_law_draw", s91, none⟩]
def dds2 : List DD := [⟨.gl "_law_pick", "_law_pick", "_law_pick", s92, none⟩,
  ⟨.gl "_law_table", "_law_table", "_law_table", s93, none⟩,
  ⟨.gl "_law_value", "_law_value", "_law_value", s94, none⟩,
  ⟨.gl "_law_push_all", "_law_push_all", "_law_push_all", s95, none⟩,
  ⟨.gl "_law_words", "_law_words", "_law_words", s96, none⟩,
  ⟨.gl "_law_led_right", "_law_led_right", "_law_led_right", s97, none⟩,
  ⟨.gl "_law_same_now", "_law_same_now", "_law_same_now", s98, none⟩,
  ⟨.gl "_law_undone_right", "_law_undone_right", "_law_undone_right", s99, none⟩,
  ⟨.gl "law", "law", "law", s100, none⟩,
  ⟨.me "Stand" "__init__", "__init__", "Stand.__init__", s57_0, none⟩,
  ⟨.me "Row" "__init__", "__init__", "Row.__init__", s63_1, none⟩,
  ⟨.me "Losing" "__init__", "__init__", "Row.__init__", s63_1, none⟩]
def dds3 : List DD := [⟨.me "Counting" "__init__", "__init__", "Row.__init__", s63_1, none⟩,
  ⟨.me "LosingCounting" "__init__", "__init__", "Row.__init__", s63_1, none⟩,
  ⟨.me "Link" "__init__", "__init__", "Row.__init__", s63_1, none⟩,
  ⟨.me "Row" "put_out", "put_out", "Row.put_out", s63_7, none⟩,
  ⟨.me "Losing" "put_out", "put_out", "Losing.put_out", s64_2, some "Losing"⟩,
  ⟨.me "Counting" "put_out", "put_out", "Counting.put_out", s65_2, some "Counting"⟩,
  ⟨.me "LosingCounting" "put_out", "put_out", "Counting.put_out", s65_2, some "Counting"⟩,
  ⟨.me "Link" "put_out", "put_out", "Link.put_out", s67_2, some "Link"⟩,
  ⟨.me "Row" "step", "step", "Row.step", s63_8, none⟩,
  ⟨.me "Losing" "step", "step", "Row.step", s63_8, none⟩,
  ⟨.me "Counting" "step", "step", "Row.step", s63_8, none⟩,
  ⟨.me "LosingCounting" "step", "step", "Row.step", s63_8, none⟩]
def dds4 : List DD := [⟨.me "Link" "step", "step", "Row.step", s63_8, none⟩,
  ⟨.me "Row" "push_all", "push_all", "Row.push_all", s63_10, none⟩,
  ⟨.me "Losing" "push_all", "push_all", "Row.push_all", s63_10, none⟩,
  ⟨.me "Counting" "push_all", "push_all", "Row.push_all", s63_10, none⟩,
  ⟨.me "LosingCounting" "push_all", "push_all", "Row.push_all", s63_10, none⟩,
  ⟨.me "Link" "push_all", "push_all", "Row.push_all", s63_10, none⟩,
  ⟨.me "Losing" "undo", "undo", "Row.undo", s63_12, none⟩,
  ⟨.me "LosingCounting" "undo", "undo", "Row.undo", s63_12, none⟩,
  ⟨.me "Link" "undo", "undo", "Row.undo", s63_12, none⟩,
  ⟨.me "Losing" "lose", "lose", "Losing.lose", s64_3, none⟩,
  ⟨.me "LosingCounting" "lose", "lose", "Losing.lose", s64_3, none⟩,
  ⟨.me "Link" "lose", "lose", "Losing.lose", s64_3, none⟩]
def dds5 : List DD := [⟨.me "Row" "__getitem__", "__getitem__", "Row.__getitem__", s63_14, none⟩,
  ⟨.me "Losing" "__getitem__", "__getitem__", "Row.__getitem__", s63_14, none⟩,
  ⟨.me "Losing" "__len__", "__len__", "Row.__len__", s63_16, none⟩,
  ⟨.me "Losing" "__eq__", "__eq__", "Row.__eq__", s63_17, none⟩,
  ⟨.me "Session" "__init__", "__init__", "Session.__init__", s87_0, none⟩,
  ⟨.me "Session" "say", "say", "Session.say", s87_1, none⟩,
  ⟨.me "Session" "say_alone", "say_alone", "Session.say_alone", s87_2, none⟩,
  ⟨.pr "Losing" "table", "table", "Row.table", s63_2, none⟩,
  ⟨.pr "Row" "tick", "tick", "Row.tick", s63_4, none⟩,
  ⟨.pr "Losing" "tick", "tick", "Row.tick", s63_4, none⟩,
  ⟨.pr "Counting" "tick", "tick", "Row.tick", s63_4, none⟩,
  ⟨.pr "LosingCounting" "tick", "tick", "Row.tick", s63_4, none⟩]
def dds6 : List DD := [⟨.pr "Link" "tick", "tick", "Row.tick", s63_4, none⟩,
  ⟨.pr "Row" "held", "held", "Row.held", s63_5, none⟩,
  ⟨.pr "Losing" "held", "held", "Row.held", s63_5, none⟩,
  ⟨.pr "Counting" "held", "held", "Row.held", s63_5, none⟩,
  ⟨.pr "LosingCounting" "held", "held", "Row.held", s63_5, none⟩,
  ⟨.pr "Link" "held", "held", "Link.held", s67_1, none⟩,
  ⟨.pr "Losing" "deeds", "deeds", "Row.deeds", s63_6, none⟩,
  ⟨.pr "LosingCounting" "deeds", "deeds", "Row.deeds", s63_6, none⟩,
  ⟨.pr "Link" "deeds", "deeds", "Row.deeds", s63_6, none⟩,
  ⟨.pr "Losing" "lost", "lost", "Losing.lost", s64_1, none⟩,
  ⟨.pr "LosingCounting" "lost", "lost", "Losing.lost", s64_1, none⟩,
  ⟨.pr "Link" "lost", "lost", "Losing.lost", s64_1, none⟩]
def dds7 : List DD := [⟨.pr "Counting" "overtakings", "overtakings", "Counting.overtakings", s65_1, none⟩,
  ⟨.pr "LosingCounting" "overtakings", "overtakings", "Counting.overtakings", s65_1, none⟩]
def dds : List DD := dds0 ++ (dds1 ++ (dds2 ++ (dds3 ++ (dds4 ++ (dds5 ++ (dds6 ++ (dds7)))))))
def fnN0 : List Str := ["is_integer",
  "is_between",
  "is_onto",
  "is_table",
  "need_table",
  "back_of",
  "is_value",
  "need_value",
  "copied",
  "hold_ahead",
  "holds_ahead",
  "cuts_ahead",
  "go_on_alike",
  "number_in",
  "value_in"]
def fnN1 : List Str := ["numbers_text",
  "table_text",
  "journal_text",
  "numbers_in",
  "values_in",
  "spaced",
  "_law_cell",
  "_law_pen",
  "_law_draw",
  "_law_pick",
  "_law_table",
  "_law_value",
  "_law_push_all",
  "_law_words",
  "_law_led_right"]
def fnN2 : List Str := ["_law_same_now",
  "_law_undone_right",
  "law"]
def fnN : List Str := fnN0 ++ (fnN1 ++ (fnN2))
def clN0 : List Str := ["Stand",
  "Row",
  "Losing",
  "Counting",
  "LosingCounting",
  "Link",
  "Session"]
def clN : List Str := clN0
def freeN0 : List Str := ["isinstance",
  "int",
  "bool",
  "str",
  "tuple",
  "len",
  "all",
  "enumerate",
  "max",
  "min"]
def freeN1 : List Str := ["range",
  "sorted",
  "set",
  "list",
  "dict",
  "zip",
  "super"]
def freeN : List Str := freeN0 ++ (freeN1)
def intN0 : List (Str × Int) := [("LONGEST", 24),
  ("GREATEST_HOLD", 60),
  ("MOST_LETTERS", 10),
  ("LONGEST_CUT", 400),
  ("MOST_OF_HOLD", 3),
  ("MOST_OF_NUMBER", 4),
  ("MOST_OF_VALUE", 700)]
def intN : List (Str × Int) := intN0
def strN0 : List (Str × Str) := [("LETTERS", "abcdefghijklmnopqrstuvwxyz"),
  ("DIGITS", "0123456789")]
def strN : List (Str × Str) := strN0
def noN0 : List (Str × Str) := [("Stand", "own"),
  ("Stand", "begin"),
  ("Stand", "coming"),
  ("Stand", "ins"),
  ("Stand", "outs"),
  ("Stand", "due"),
  ("Stand", "cuts"),
  ("Stand", "gone"),
  ("Stand", "many"),
  ("Stand", "later"),
  ("Row", "stands"),
  ("Losing", "stands"),
  ("Counting", "stands"),
  ("LosingCounting", "stands"),
  ("Link", "stands")]
def noN1 : List (Str × Str) := [("Session", "carried")]
def noN : List (Str × Str) := noN0 ++ (noN1)
def mtN0 : List (Str × Str) := [("Stand", "__init__"),
  ("Row", "put_out"),
  ("Row", "step"),
  ("Row", "push_all"),
  ("Losing", "put_out"),
  ("Losing", "step"),
  ("Losing", "push_all"),
  ("Counting", "put_out"),
  ("Counting", "step"),
  ("Counting", "push_all"),
  ("LosingCounting", "put_out"),
  ("LosingCounting", "step"),
  ("LosingCounting", "push_all"),
  ("Link", "put_out"),
  ("Link", "step")]
def mtN1 : List (Str × Str) := [("Link", "push_all"),
  ("Losing", "undo"),
  ("Losing", "lose"),
  ("LosingCounting", "undo"),
  ("LosingCounting", "lose"),
  ("Link", "undo"),
  ("Link", "lose"),
  ("Session", "say"),
  ("Session", "say_alone")]
def mtN : List (Str × Str) := mtN0 ++ (mtN1)
def prN0 : List (Str × Str) := [("Losing", "table"),
  ("Row", "tick"),
  ("Losing", "tick"),
  ("Counting", "tick"),
  ("LosingCounting", "tick"),
  ("Link", "tick"),
  ("Row", "held"),
  ("Losing", "held"),
  ("Counting", "held"),
  ("LosingCounting", "held"),
  ("Link", "held"),
  ("Losing", "deeds"),
  ("LosingCounting", "deeds"),
  ("Link", "deeds"),
  ("Losing", "lost")]
def prN1 : List (Str × Str) := [("LosingCounting", "lost"),
  ("Link", "lost"),
  ("Counting", "overtakings"),
  ("LosingCounting", "overtakings")]
def prN : List (Str × Str) := prN0 ++ (prN1)
def suN0 : List (Str × Str × Str) := [("Losing", "Losing", "Row"),
  ("LosingCounting", "Counting", "Losing"),
  ("LosingCounting", "Losing", "Row"),
  ("Counting", "Counting", "Row"),
  ("Link", "Link", "Losing"),
  ("Link", "Losing", "Row")]
def suN : List (Str × Str × Str) := suN0
def spN0 : List (Str × Str) := [("Row", "__getitem__"),
  ("Losing", "__getitem__"),
  ("Losing", "__len__"),
  ("Losing", "__eq__")]
def spN : List (Str × Str) := spN0
def isN0 : List Str := ["Losing",
  "LosingCounting"]
def isN : List Str := isN0
/-! ### what the top has written -/
structure Fn (K : PySem.W.Frag) (d : DD) : Prop where
  kp : PySem.W.keepIn K (.ref (d.pl.ad K)) = true
  fn : PySem.W.isFn K (.ref (d.pl.ad K)) = true
  fi : PySem.W.fnIn K (d.pl.ad K) = true
  vl : fo K (d.pl.ad K) = d.val
  cd : PySem.W.codeIn K (fdOf K (d.pl.ad K)).code d.qual = true
  cl : cloOk K (fdOf K (d.pl.ad K)) d.clo = true
structure Sup (K : PySem.W.Frag) (C D C2 : Addr) : Prop where
  mro : PySem.W.mroIn K C (.ref D) = some true
  at_ : PySem.W.ks_superIn K C D "put_out" = some (some (.ref (ma K C2 "put_out")))
  ty : PySem.W.typeIn K (.ref (ma K C2 "put_out")) = some (.type "function")
  fi : PySem.W.fnIn K (ma K C2 "put_out") = true
structure Isi (K : PySem.W.Frag) (C : Addr) : Prop where
  ha : PySem.W.findIn K (.ref C) "__class__" = some (some (.builtin "object.__class__"))
  hn : PySem.W.specialIn K (.builtin "object.__class__") "__get__" = some (some (.builtin "getset_descriptor.__get__"))
  htk : PySem.W.takesIn K (.builtin "object.__class__") = some true
  hm : PySem.W.mroIn K C (.type "object") = some true
  row : PySem.W.kitOne K (.ref C) (.ref (ga K "Row")) = some true
def aloneL : List V := [.str "undo", .str "held", .str "tick", .str "table", .str "delay", .str "spread", .str "back", .str "cards", .str "journal"]
structure Tx (K : PySem.W.Frag) (mg : Str → Option Value) : Prop where
  def_ : ∀ d, d ∈ dds → Fn K d
  glo : ∀ x, fnN.contains x = true → mg x = some (.ref (ga K x))
  cgl : ∀ x, clN.contains x = true → mg x = some (.ref (ga K x))
  free : ∀ x, freeN.contains x = true → mg x = none
  int : ∀ x i, intN.contains (x, i) = true → ∃ t, mg x = some (.int i t)
  str : ∀ x z, strN.contains (x, z) = true → ∃ t, mg x = some (.str z t)
  cls : ∀ x, clN.contains x = true → Cls K (ga K x)
  mkr : ∀ x, clN.contains x = true → Mk K (ga K x) (ma K (ga K x) "__init__")
  no : ∀ x f, noN.contains (x, f) = true → NoAttr K (ga K x) f
  mt : ∀ x m, mtN.contains (x, m) = true → Meth K (ga K x) m (ma K (ga K x) m)
  pr : ∀ x f, prN.contains (x, f) = true → PropOf K (ga K x) f (ma K (ga K x) f) (pgA K x f)
  su : ∀ C D C2, suN.contains (C, D, C2) = true → Sup K (ga K C) (ga K D) (ga K C2)
  st : PySem.W.nsIn K cStatics "thirdparty.any" = some none
  sg : PySem.W.nsIn K mainGlobals "super" = some none
  sp : ∀ x m, spN.contains (x, m) = true → PySem.W.findIn K (.ref (ga K x)) m = some (some (.ref (ma K (ga K x) m)))
  isi : ∀ x, isN.contains x = true → Isi K (ga K x)
  isr : PySem.W.typeIn K (.ref (ga K "Row")) = some (.type "type")
  bm : BMeth K (ga K "Losing") "push_all" (ma K (ga K "Losing") "push_all")
  al : ∃ a, mg "ALONE" = some (.ref a) ∧ ∀ H : Hp, SqT K H a aloneL
  lb : ∃ u, Con K (ga K "Losing") "LABEL" (.str "Losing") u
theorem fun_of {K : PySem.W.Frag} {mg : Str → Option Value} (T : Tx K mg) {d : DD} (h : d ∈ dds) (hc : d.clo = none) : Fun K d.name d.qual d.st (d.pl.ad K) (fdOf K (d.pl.ad K)) := by
  have F := T.def_ d h
  have e := F.vl
  have cd := F.cd
  unfold fo DD.val at e
  unfold fdOf at cd ⊢
  rw [hc] at e
  cases q : K.lookup (d.pl.ad K) with
  | none =>
    rw [q] at e
    cases e
  | some ob =>
    obtain ⟨oc, od, dt, osl⟩ := ob
    rw [q] at e cd
    cases dt with
    | func fd =>
      obtain ⟨n1, n2, n3, n4, n5, n6, n7, n8, n9, n10, n11, n12, n13, n14, n15⟩ := fd
      have e2 : (some (n1, n2, n3, n4, n5, n6, n7.map (·.1), n8, n15) : FO) = some (d.name, d.qual, defArgs d.st, .stmts (defBody d.st), defScope d.st, mainGlobals, [], .none, builtinsNs) := e
      simp only [Option.some.injEq, Prod.mk.injEq, List.map_eq_nil_iff] at e2
      obtain ⟨h1, h2, h3, h4, h5, h6, h7, h8, h9⟩ := e2
      subst h1 h2 h3 h4 h5 h6 h7 h8 h9
      exact ⟨⟨oc, od, n9, n10, n11, n12, n13, n14, osl, rfl, q, cd⟩, F.kp⟩
    | _ => cases e
theorem dd_at {i : Nat} {d : DD} (h : dds[i]? = some d := by rfl) : d ∈ dds := List.mem_of_getElem? h
abbrev d_is_integer : DD := ⟨.gl "is_integer", "is_integer", "is_integer", s15, none⟩
theorem md_is_integer : d_is_integer ∈ dds := dd_at (i := 0)
abbrev d_is_between : DD := ⟨.gl "is_between", "is_between", "is_between", s16, none⟩
theorem md_is_between : d_is_between ∈ dds := dd_at (i := 1)
abbrev d_is_onto : DD := ⟨.gl "is_onto", "is_onto", "is_onto", s17, none⟩
theorem md_is_onto : d_is_onto ∈ dds := dd_at (i := 2)
abbrev d_is_table : DD := ⟨.gl "is_table", "is_table", "is_table", s18, none⟩
theorem md_is_table : d_is_table ∈ dds := dd_at (i := 3)
abbrev d_need_table : DD := ⟨.gl "need_table", "need_table", "need_table", s19, none⟩
theorem md_need_table : d_need_table ∈ dds := dd_at (i := 4)
abbrev d_back_of : DD := ⟨.gl "back_of", "back_of", "back_of", s24, none⟩
theorem md_back_of : d_back_of ∈ dds := dd_at (i := 5)
abbrev d_is_value : DD := ⟨.gl "is_value", "is_value", "is_value", s55, none⟩
theorem md_is_value : d_is_value ∈ dds := dd_at (i := 6)
abbrev d_need_value : DD := ⟨.gl "need_value", "need_value", "need_value", s56, none⟩
theorem md_need_value : d_need_value ∈ dds := dd_at (i := 7)
abbrev d_copied : DD := ⟨.gl "copied", "copied", "copied", s58, none⟩
theorem md_copied : d_copied ∈ dds := dd_at (i := 8)
abbrev d_hold_ahead : DD := ⟨.gl "hold_ahead", "hold_ahead", "hold_ahead", s59, none⟩
theorem md_hold_ahead : d_hold_ahead ∈ dds := dd_at (i := 9)
abbrev d_holds_ahead : DD := ⟨.gl "holds_ahead", "holds_ahead", "holds_ahead", s60, none⟩
theorem md_holds_ahead : d_holds_ahead ∈ dds := dd_at (i := 10)
abbrev d_cuts_ahead : DD := ⟨.gl "cuts_ahead", "cuts_ahead", "cuts_ahead", s61, none⟩
theorem md_cuts_ahead : d_cuts_ahead ∈ dds := dd_at (i := 11)
abbrev d_go_on_alike : DD := ⟨.gl "go_on_alike", "go_on_alike", "go_on_alike", s62, none⟩
theorem md_go_on_alike : d_go_on_alike ∈ dds := dd_at (i := 12)
abbrev d_number_in : DD := ⟨.gl "number_in", "number_in", "number_in", s74, none⟩
theorem md_number_in : d_number_in ∈ dds := dd_at (i := 13)
abbrev d_value_in : DD := ⟨.gl "value_in", "value_in", "value_in", s75, none⟩
theorem md_value_in : d_value_in ∈ dds := dd_at (i := 14)
abbrev d_numbers_text : DD := ⟨.gl "numbers_text", "numbers_text", "numbers_text", s76, none⟩
theorem md_numbers_text : d_numbers_text ∈ dds := dd_at (i := 15)
abbrev d_table_text : DD := ⟨.gl "table_text", "table_text", "table_text", s77, none⟩
theorem md_table_text : d_table_text ∈ dds := dd_at (i := 16)
abbrev d_journal_text : DD := ⟨.gl "journal_text", "journal_text", "journal_text", s78, none⟩
theorem md_journal_text : d_journal_text ∈ dds := dd_at (i := 17)
abbrev d_numbers_in : DD := ⟨.gl "numbers_in", "numbers_in", "numbers_in", s84, none⟩
theorem md_numbers_in : d_numbers_in ∈ dds := dd_at (i := 18)
abbrev d_values_in : DD := ⟨.gl "values_in", "values_in", "values_in", s85, none⟩
theorem md_values_in : d_values_in ∈ dds := dd_at (i := 19)
abbrev d_spaced : DD := ⟨.gl "spaced", "spaced", "spaced", s86, none⟩
theorem md_spaced : d_spaced ∈ dds := dd_at (i := 20)
abbrev d__law_cell : DD := ⟨.gl "_law_cell", "_law_cell", "_law_cell", s89, none⟩
theorem md__law_cell : d__law_cell ∈ dds := dd_at (i := 21)
abbrev d__law_pen : DD := ⟨.gl "_law_pen", "_law_pen", "_law_pen", s90, none⟩
theorem md__law_pen : d__law_pen ∈ dds := dd_at (i := 22)
abbrev d__law_draw : DD := ⟨.gl "_law_draw", "_law_draw", "_law_draw", s91, none⟩
theorem md__law_draw : d__law_draw ∈ dds := dd_at (i := 23)
abbrev d__law_pick : DD := ⟨.gl "_law_pick", "_law_pick", "_law_pick", s92, none⟩
theorem md__law_pick : d__law_pick ∈ dds := dd_at (i := 24)
abbrev d__law_table : DD := ⟨.gl "_law_table", "_law_table", "_law_table", s93, none⟩
theorem md__law_table : d__law_table ∈ dds := dd_at (i := 25)
abbrev d__law_value : DD := ⟨.gl "_law_value", "_law_value", "_law_value", s94, none⟩
theorem md__law_value : d__law_value ∈ dds := dd_at (i := 26)
abbrev d__law_push_all : DD := ⟨.gl "_law_push_all", "_law_push_all", "_law_push_all", s95, none⟩
theorem md__law_push_all : d__law_push_all ∈ dds := dd_at (i := 27)
abbrev d__law_words : DD := ⟨.gl "_law_words", "_law_words", "_law_words", s96, none⟩
theorem md__law_words : d__law_words ∈ dds := dd_at (i := 28)
abbrev d__law_led_right : DD := ⟨.gl "_law_led_right", "_law_led_right", "_law_led_right", s97, none⟩
theorem md__law_led_right : d__law_led_right ∈ dds := dd_at (i := 29)
abbrev d__law_same_now : DD := ⟨.gl "_law_same_now", "_law_same_now", "_law_same_now", s98, none⟩
theorem md__law_same_now : d__law_same_now ∈ dds := dd_at (i := 30)
abbrev d__law_undone_right : DD := ⟨.gl "_law_undone_right", "_law_undone_right", "_law_undone_right", s99, none⟩
theorem md__law_undone_right : d__law_undone_right ∈ dds := dd_at (i := 31)
abbrev d_law : DD := ⟨.gl "law", "law", "law", s100, none⟩
theorem md_law : d_law ∈ dds := dd_at (i := 32)
abbrev d_Stand___init__ : DD := ⟨.me "Stand" "__init__", "__init__", "Stand.__init__", s57_0, none⟩
theorem md_Stand___init__ : d_Stand___init__ ∈ dds := dd_at (i := 33)
abbrev d_Row___init__ : DD := ⟨.me "Row" "__init__", "__init__", "Row.__init__", s63_1, none⟩
theorem md_Row___init__ : d_Row___init__ ∈ dds := dd_at (i := 34)
abbrev d_Losing___init__ : DD := ⟨.me "Losing" "__init__", "__init__", "Row.__init__", s63_1, none⟩
theorem md_Losing___init__ : d_Losing___init__ ∈ dds := dd_at (i := 35)
abbrev d_Counting___init__ : DD := ⟨.me "Counting" "__init__", "__init__", "Row.__init__", s63_1, none⟩
theorem md_Counting___init__ : d_Counting___init__ ∈ dds := dd_at (i := 36)
abbrev d_LosingCounting___init__ : DD := ⟨.me "LosingCounting" "__init__", "__init__", "Row.__init__", s63_1, none⟩
theorem md_LosingCounting___init__ : d_LosingCounting___init__ ∈ dds := dd_at (i := 37)
abbrev d_Link___init__ : DD := ⟨.me "Link" "__init__", "__init__", "Row.__init__", s63_1, none⟩
theorem md_Link___init__ : d_Link___init__ ∈ dds := dd_at (i := 38)
abbrev d_Row_put_out : DD := ⟨.me "Row" "put_out", "put_out", "Row.put_out", s63_7, none⟩
theorem md_Row_put_out : d_Row_put_out ∈ dds := dd_at (i := 39)
abbrev d_Losing_put_out : DD := ⟨.me "Losing" "put_out", "put_out", "Losing.put_out", s64_2, some "Losing"⟩
theorem md_Losing_put_out : d_Losing_put_out ∈ dds := dd_at (i := 40)
abbrev d_Counting_put_out : DD := ⟨.me "Counting" "put_out", "put_out", "Counting.put_out", s65_2, some "Counting"⟩
theorem md_Counting_put_out : d_Counting_put_out ∈ dds := dd_at (i := 41)
abbrev d_LosingCounting_put_out : DD := ⟨.me "LosingCounting" "put_out", "put_out", "Counting.put_out", s65_2, some "Counting"⟩
theorem md_LosingCounting_put_out : d_LosingCounting_put_out ∈ dds := dd_at (i := 42)
abbrev d_Link_put_out : DD := ⟨.me "Link" "put_out", "put_out", "Link.put_out", s67_2, some "Link"⟩
theorem md_Link_put_out : d_Link_put_out ∈ dds := dd_at (i := 43)
abbrev d_Row_step : DD := ⟨.me "Row" "step", "step", "Row.step", s63_8, none⟩
theorem md_Row_step : d_Row_step ∈ dds := dd_at (i := 44)
abbrev d_Losing_step : DD := ⟨.me "Losing" "step", "step", "Row.step", s63_8, none⟩
theorem md_Losing_step : d_Losing_step ∈ dds := dd_at (i := 45)
abbrev d_Counting_step : DD := ⟨.me "Counting" "step", "step", "Row.step", s63_8, none⟩
theorem md_Counting_step : d_Counting_step ∈ dds := dd_at (i := 46)
abbrev d_LosingCounting_step : DD := ⟨.me "LosingCounting" "step", "step", "Row.step", s63_8, none⟩
theorem md_LosingCounting_step : d_LosingCounting_step ∈ dds := dd_at (i := 47)
abbrev d_Link_step : DD := ⟨.me "Link" "step", "step", "Row.step", s63_8, none⟩
theorem md_Link_step : d_Link_step ∈ dds := dd_at (i := 48)
abbrev d_Row_push_all : DD := ⟨.me "Row" "push_all", "push_all", "Row.push_all", s63_10, none⟩
theorem md_Row_push_all : d_Row_push_all ∈ dds := dd_at (i := 49)
abbrev d_Losing_push_all : DD := ⟨.me "Losing" "push_all", "push_all", "Row.push_all", s63_10, none⟩
theorem md_Losing_push_all : d_Losing_push_all ∈ dds := dd_at (i := 50)
abbrev d_Counting_push_all : DD := ⟨.me "Counting" "push_all", "push_all", "Row.push_all", s63_10, none⟩
theorem md_Counting_push_all : d_Counting_push_all ∈ dds := dd_at (i := 51)
abbrev d_LosingCounting_push_all : DD := ⟨.me "LosingCounting" "push_all", "push_all", "Row.push_all", s63_10, none⟩
theorem md_LosingCounting_push_all : d_LosingCounting_push_all ∈ dds := dd_at (i := 52)
abbrev d_Link_push_all : DD := ⟨.me "Link" "push_all", "push_all", "Row.push_all", s63_10, none⟩
theorem md_Link_push_all : d_Link_push_all ∈ dds := dd_at (i := 53)
abbrev d_Losing_undo : DD := ⟨.me "Losing" "undo", "undo", "Row.undo", s63_12, none⟩
theorem md_Losing_undo : d_Losing_undo ∈ dds := dd_at (i := 54)
abbrev d_LosingCounting_undo : DD := ⟨.me "LosingCounting" "undo", "undo", "Row.undo", s63_12, none⟩
theorem md_LosingCounting_undo : d_LosingCounting_undo ∈ dds := dd_at (i := 55)
abbrev d_Link_undo : DD := ⟨.me "Link" "undo", "undo", "Row.undo", s63_12, none⟩
theorem md_Link_undo : d_Link_undo ∈ dds := dd_at (i := 56)
abbrev d_Losing_lose : DD := ⟨.me "Losing" "lose", "lose", "Losing.lose", s64_3, none⟩
theorem md_Losing_lose : d_Losing_lose ∈ dds := dd_at (i := 57)
abbrev d_LosingCounting_lose : DD := ⟨.me "LosingCounting" "lose", "lose", "Losing.lose", s64_3, none⟩
theorem md_LosingCounting_lose : d_LosingCounting_lose ∈ dds := dd_at (i := 58)
abbrev d_Link_lose : DD := ⟨.me "Link" "lose", "lose", "Losing.lose", s64_3, none⟩
theorem md_Link_lose : d_Link_lose ∈ dds := dd_at (i := 59)
abbrev d_Row___getitem__ : DD := ⟨.me "Row" "__getitem__", "__getitem__", "Row.__getitem__", s63_14, none⟩
theorem md_Row___getitem__ : d_Row___getitem__ ∈ dds := dd_at (i := 60)
abbrev d_Losing___getitem__ : DD := ⟨.me "Losing" "__getitem__", "__getitem__", "Row.__getitem__", s63_14, none⟩
theorem md_Losing___getitem__ : d_Losing___getitem__ ∈ dds := dd_at (i := 61)
abbrev d_Losing___len__ : DD := ⟨.me "Losing" "__len__", "__len__", "Row.__len__", s63_16, none⟩
theorem md_Losing___len__ : d_Losing___len__ ∈ dds := dd_at (i := 62)
abbrev d_Losing___eq__ : DD := ⟨.me "Losing" "__eq__", "__eq__", "Row.__eq__", s63_17, none⟩
theorem md_Losing___eq__ : d_Losing___eq__ ∈ dds := dd_at (i := 63)
abbrev d_Session___init__ : DD := ⟨.me "Session" "__init__", "__init__", "Session.__init__", s87_0, none⟩
theorem md_Session___init__ : d_Session___init__ ∈ dds := dd_at (i := 64)
abbrev d_Session_say : DD := ⟨.me "Session" "say", "say", "Session.say", s87_1, none⟩
theorem md_Session_say : d_Session_say ∈ dds := dd_at (i := 65)
abbrev d_Session_say_alone : DD := ⟨.me "Session" "say_alone", "say_alone", "Session.say_alone", s87_2, none⟩
theorem md_Session_say_alone : d_Session_say_alone ∈ dds := dd_at (i := 66)
abbrev d_p_Losing_table : DD := ⟨.pr "Losing" "table", "table", "Row.table", s63_2, none⟩
theorem md_p_Losing_table : d_p_Losing_table ∈ dds := dd_at (i := 67)
abbrev d_p_Row_tick : DD := ⟨.pr "Row" "tick", "tick", "Row.tick", s63_4, none⟩
theorem md_p_Row_tick : d_p_Row_tick ∈ dds := dd_at (i := 68)
abbrev d_p_Losing_tick : DD := ⟨.pr "Losing" "tick", "tick", "Row.tick", s63_4, none⟩
theorem md_p_Losing_tick : d_p_Losing_tick ∈ dds := dd_at (i := 69)
abbrev d_p_Counting_tick : DD := ⟨.pr "Counting" "tick", "tick", "Row.tick", s63_4, none⟩
theorem md_p_Counting_tick : d_p_Counting_tick ∈ dds := dd_at (i := 70)
abbrev d_p_LosingCounting_tick : DD := ⟨.pr "LosingCounting" "tick", "tick", "Row.tick", s63_4, none⟩
theorem md_p_LosingCounting_tick : d_p_LosingCounting_tick ∈ dds := dd_at (i := 71)
abbrev d_p_Link_tick : DD := ⟨.pr "Link" "tick", "tick", "Row.tick", s63_4, none⟩
theorem md_p_Link_tick : d_p_Link_tick ∈ dds := dd_at (i := 72)
abbrev d_p_Row_held : DD := ⟨.pr "Row" "held", "held", "Row.held", s63_5, none⟩
theorem md_p_Row_held : d_p_Row_held ∈ dds := dd_at (i := 73)
abbrev d_p_Losing_held : DD := ⟨.pr "Losing" "held", "held", "Row.held", s63_5, none⟩
theorem md_p_Losing_held : d_p_Losing_held ∈ dds := dd_at (i := 74)
abbrev d_p_Counting_held : DD := ⟨.pr "Counting" "held", "held", "Row.held", s63_5, none⟩
theorem md_p_Counting_held : d_p_Counting_held ∈ dds := dd_at (i := 75)
abbrev d_p_LosingCounting_held : DD := ⟨.pr "LosingCounting" "held", "held", "Row.held", s63_5, none⟩
theorem md_p_LosingCounting_held : d_p_LosingCounting_held ∈ dds := dd_at (i := 76)
abbrev d_p_Link_held : DD := ⟨.pr "Link" "held", "held", "Link.held", s67_1, none⟩
theorem md_p_Link_held : d_p_Link_held ∈ dds := dd_at (i := 77)
abbrev d_p_Losing_deeds : DD := ⟨.pr "Losing" "deeds", "deeds", "Row.deeds", s63_6, none⟩
theorem md_p_Losing_deeds : d_p_Losing_deeds ∈ dds := dd_at (i := 78)
abbrev d_p_LosingCounting_deeds : DD := ⟨.pr "LosingCounting" "deeds", "deeds", "Row.deeds", s63_6, none⟩
theorem md_p_LosingCounting_deeds : d_p_LosingCounting_deeds ∈ dds := dd_at (i := 79)
abbrev d_p_Link_deeds : DD := ⟨.pr "Link" "deeds", "deeds", "Row.deeds", s63_6, none⟩
theorem md_p_Link_deeds : d_p_Link_deeds ∈ dds := dd_at (i := 80)
abbrev d_p_Losing_lost : DD := ⟨.pr "Losing" "lost", "lost", "Losing.lost", s64_1, none⟩
theorem md_p_Losing_lost : d_p_Losing_lost ∈ dds := dd_at (i := 81)
abbrev d_p_LosingCounting_lost : DD := ⟨.pr "LosingCounting" "lost", "lost", "Losing.lost", s64_1, none⟩
theorem md_p_LosingCounting_lost : d_p_LosingCounting_lost ∈ dds := dd_at (i := 82)
abbrev d_p_Link_lost : DD := ⟨.pr "Link" "lost", "lost", "Losing.lost", s64_1, none⟩
theorem md_p_Link_lost : d_p_Link_lost ∈ dds := dd_at (i := 83)
abbrev d_p_Counting_overtakings : DD := ⟨.pr "Counting" "overtakings", "overtakings", "Counting.overtakings", s65_1, none⟩
theorem md_p_Counting_overtakings : d_p_Counting_overtakings ∈ dds := dd_at (i := 84)
abbrev d_p_LosingCounting_overtakings : DD := ⟨.pr "LosingCounting" "overtakings", "overtakings", "Counting.overtakings", s65_1, none⟩
theorem md_p_LosingCounting_overtakings : d_p_LosingCounting_overtakings ∈ dds := dd_at (i := 85)
end K7
set_option Elab.async false
set_option linter.all false
set_option maxRecDepth 100000
set_option maxHeartbeats 4000000
namespace K7
open PySem PySem.Spec PyProof.Rows L2
/-! ### what the top has written, as one truth value -/
def propB (K : PySem.W.Frag) (p : Str × Str) : Bool := He.eqO (PySem.W.findIn K (.ref (ga K p.1)) p.2) (some (some (.ref (ma K (ga K p.1) p.2)))) && (He.eqO (PySem.W.specialIn K (.ref (ma K (ga K p.1) p.2)) "__get__") (some (some (.builtin "property.__get__"))) &&
  (decide (PySem.W.takesIn K (.ref (ma K (ga K p.1) p.2)) = some true) && (match PySem.W.recIn K (ma K (ga K p.1) p.2) "property" with
    | some (.ref _ :: _) => true
    | _ => false)))
theorem propB_ok {K : PySem.W.Frag} {x f : Str} (h : propB K (x, f) = true) : PropOf K (ga K x) f (ma K (ga K x) f) (pgA K x f) := by
  obtain ⟨h1, h⟩ := He.ba h
  obtain ⟨h2, h⟩ := He.ba h
  obtain ⟨h3, h4⟩ := He.ba h
  refine ⟨He.eqO_ok h1, He.eqO_ok h2, of_decide_eq_true h3, ?_⟩
  unfold pgA
  split at h4
  · rename_i g r e
    have e' : PySem.W.recIn K (ma K (ga K x) f) "property" = some (.ref g :: r) := e
    rw [e']
    exact ⟨r, rfl⟩
  · cases h4
def supB (K : PySem.W.Frag) (t : Str × Str × Str) : Bool := decide (PySem.W.mroIn K (ga K t.1) (.ref (ga K t.2.1)) = some true) && (He.eqO (PySem.W.ks_superIn K (ga K t.1) (ga K t.2.1) "put_out") (some (some (.ref (ma K (ga K t.2.2) "put_out")))) &&
  (decide (PySem.W.typeIn K (.ref (ma K (ga K t.2.2) "put_out")) = some (.type "function")) && PySem.W.fnIn K (ma K (ga K t.2.2) "put_out")))
theorem supB_ok {K : PySem.W.Frag} {C D C2 : Str} (h : supB K (C, D, C2) = true) : Sup K (ga K C) (ga K D) (ga K C2) := by
  obtain ⟨h1, h⟩ := He.ba h
  obtain ⟨h2, h⟩ := He.ba h
  obtain ⟨h3, h4⟩ := He.ba h
  exact ⟨of_decide_eq_true h1, He.eqO_ok h2, of_decide_eq_true h3, h4⟩
def isiB (K : PySem.W.Frag) (x : Str) : Bool := He.eqO (PySem.W.findIn K (.ref (ga K x)) "__class__") (some (some (.builtin "object.__class__"))) && (He.eqO (PySem.W.specialIn K (.builtin "object.__class__") "__get__") (some (some (.builtin "getset_descriptor.__get__"))) &&
  (decide (PySem.W.takesIn K (.builtin "object.__class__") = some true) && (decide (PySem.W.mroIn K (ga K x) (.type "object") = some true) && decide (PySem.W.kitOne K (.ref (ga K x)) (.ref (ga K "Row")) = some true))))
theorem isiB_ok {K : PySem.W.Frag} {x : Str} (h : isiB K x = true) : Isi K (ga K x) := by
  obtain ⟨h1, h⟩ := He.ba h
  obtain ⟨h2, h⟩ := He.ba h
  obtain ⟨h3, h⟩ := He.ba h
  obtain ⟨h4, h5⟩ := He.ba h
  exact ⟨He.eqO_ok h1, He.eqO_ok h2, of_decide_eq_true h3, of_decide_eq_true h4, of_decide_eq_true h5⟩
def spB (K : PySem.W.Frag) (p : Str × Str) : Bool := He.eqO (PySem.W.findIn K (.ref (ga K p.1)) p.2) (some (some (.ref (ma K (ga K p.1) p.2))))
def bmB (K : PySem.W.Frag) (g : Addr) : Bool := He.eqO (PySem.W.specialIn K (.ref g) "__get__") (some (some (.builtin "function.__get__"))) && (decide (PySem.W.takesIn K (.ref g) = some false) && PySem.W.fnIn K g)
def aloneD : List He.Dv := [.str "undo", .str "held", .str "tick", .str "table", .str "delay", .str "spread", .str "back", .str "cards", .str "journal"]
def restB (K : PySem.W.Frag) : Bool := He.eqO (PySem.W.nsIn K cStatics "thirdparty.any") (some none) && (He.eqO (PySem.W.nsIn K mainGlobals "super") (some none) && (decide (PySem.W.typeIn K (.ref (ga K "Row")) = some (.type "type")) &&
  (bmB K (ma K (ga K "Losing") "push_all") && (He.tupB K "ALONE" aloneD && He.conB K "Losing" "LABEL" (.str "Losing")))))
def fas : List He.Fa := fnN.map .glo ++ (clN.map .glo ++ (freeN.map .free ++ (intN.map (fun p => .int p.1 p.2) ++ (strN.map (fun p => .str p.1 p.2) ++ (clN.map .cls ++ (clN.map .mkr ++ (noN.map (fun p => .noat p.1 p.2) ++ (mtN.map (fun p => .meth p.1 p.2) ++ [.glo "ALONE"]))))))))
def txB (K : PySem.W.Frag) : Bool := (fas.all fun f => f.ok K) && ((prN.all (propB K)) && ((suN.all (supB K)) && ((isN.all (isiB K)) && ((spN.all (spB K)) && (restB K && dds.all (DD.ok K))))))
abbrev AlX : Type := Bool × List FO
def obsX (K : PySem.W.Frag) : AlX := (txB K, dds.map fun d => fo K (d.pl.ad K))
def valX : AlX := (true, dds.map DD.val)
def SaysX (K : PySem.W.Frag) : Prop := obsX K = valX
theorem all_at {α : Type} {p : α → Bool} {l : List α} {x : α} (h : l.all p = true) (m : x ∈ l) : p x = true := List.all_eq_true.mp h x m
theorem mem_c {α : Type} [BEq α] [LawfulBEq α] {l : List α} {x : α} (h : l.contains x = true) : x ∈ l := List.contains_iff_mem.mp h
theorem fn_ofX {K : PySem.W.Frag} {d : DD} (h : DD.ok K d = true) (e : fo K (d.pl.ad K) = d.val) : Fn K d := by
  obtain ⟨h1, h⟩ := He.ba h
  obtain ⟨h2, h⟩ := He.ba h
  obtain ⟨h3, h4⟩ := He.ba h
  have k : PySem.W.codeIn K (fdOf K (d.pl.ad K)).code d.qual = true ∧ cloOk K (fdOf K (d.pl.ad K)) d.clo = true := by
    unfold fdOf
    split at h4
    · rename_i oc od fd osl q
      exact He.ba h4
    · cases h4
  exact ⟨h1, h2, h3, e, k.1, k.2⟩
theorem tx_of {K : PySem.W.Frag} {h : Heap} {mg : Str → Option Value} (X : K.In h) (G : h.Ns mainGlobals mg) (c : SaysX K) : Tx K mg := by
  have c1 : txB K = true := congrArg (fun z : AlX => z.1) c
  have c2 : (dds.map fun d => fo K (d.pl.ad K)) = dds.map DD.val := congrArg (fun z : AlX => z.2) c
  obtain ⟨f, c1⟩ := He.ba c1
  obtain ⟨b1, c1⟩ := He.ba c1
  obtain ⟨b2, c1⟩ := He.ba c1
  obtain ⟨b3, c1⟩ := He.ba c1
  obtain ⟨b4, c1⟩ := He.ba c1
  obtain ⟨b5, b6⟩ := He.ba c1
  obtain ⟨r1, b5⟩ := He.ba b5
  obtain ⟨r2, b5⟩ := He.ba b5
  obtain ⟨r3, b5⟩ := He.ba b5
  obtain ⟨r4, b5⟩ := He.ba b5
  obtain ⟨r5, r6⟩ := He.ba b5
  obtain ⟨m1, r4⟩ := He.ba r4
  obtain ⟨m2, m3⟩ := He.ba r4
  unfold fas at f
  simp only [List.all_append, Bool.and_eq_true] at f
  obtain ⟨f1, f2, f3, f4, f5, f6, f7, f8, f9, f10⟩ := f
  have mt : ∀ x m, mtN.contains (x, m) = true → Meth K (ga K x) m (ma K (ga K x) m) := fun x m h => He.meth_ok (all_at f9 (List.mem_map_of_mem (f := fun p : Str × Str => He.Fa.meth p.1 p.2) (mem_c h)))
  refine ⟨?_, ?_, ?_, ?_, ?_, ?_, ?_, ?_, ?_, mt, ?_, ?_, He.eqO_ok r1, He.eqO_ok r2, ?_, ?_, of_decide_eq_true r3, ?_, ?_, ?_⟩
  · intro d hd
    exact fn_ofX (all_at b6 hd) (List.map_inj_left.mp c2 d hd)
  · intro x h
    exact He.glo_ok X G (all_at f1 (List.mem_map_of_mem (mem_c h)))
  · intro x h
    exact He.glo_ok X G (all_at f2 (List.mem_map_of_mem (mem_c h)))
  · intro x h
    exact He.free_ok X G (all_at f3 (List.mem_map_of_mem (mem_c h)))
  · intro x i h
    exact He.int_ok X G (all_at f4 (List.mem_map_of_mem (f := fun p : Str × Int => He.Fa.int p.1 p.2) (mem_c h)))
  · intro x z h
    exact He.str_ok X G (all_at f5 (List.mem_map_of_mem (f := fun p : Str × Str => He.Fa.str p.1 p.2) (mem_c h)))
  · intro x h
    exact He.cls_ok (all_at f6 (List.mem_map_of_mem (mem_c h)))
  · intro x h
    exact He.mkr_ok (all_at f7 (List.mem_map_of_mem (mem_c h)))
  · intro x f h
    exact He.noat_ok (all_at f8 (List.mem_map_of_mem (f := fun p : Str × Str => He.Fa.noat p.1 p.2) (mem_c h)))
  · intro x f h
    exact propB_ok (all_at b1 (mem_c h))
  · intro C D C2 h
    exact supB_ok (all_at b2 (mem_c h))
  · intro x m h
    exact He.eqO_ok (all_at (p := spB K) (x := (x, m)) b4 (mem_c h))
  · intro x h
    exact isiB_ok (all_at b3 (mem_c h))
  · exact ⟨mt _ _ (by decide +kernel), He.eqO_ok m1, of_decide_eq_true m2, by decide, m3⟩
  · exact ⟨_, He.glo_ok X G (all_at f10 (List.mem_singleton.mpr rfl)), fun H => He.tupB_ok r5 H⟩
  · exact He.conB_ok r6
/-! ### the part of the heap that is looked at -/
def frontier (g : Addr → Option Obj) : Nat → List Addr → List Addr
  | 0, as => as
  | n + 1, as => as ++ frontier g n (as.flatMap fun a => match g a with
    | some o => He.refsD o
    | none => []).eraseDups
def gns (g : Addr → Option Obj) (xs : List Str) : List Addr := xs.map (ga (He.frG g [mainGlobals]))
def asX (n : Nat) (g : Addr → Option Obj) : List Addr := mainGlobals :: cStatics :: frontier g n (gns g (fnN ++ (clN ++ [("ALONE" : Str)])))
def obG (n : Nat) (g : Addr → Option Obj) : AlX := obsX (He.frG g (asX n g))
def hookX (n : Nat) : PySem.W.Hook where
  α := AlX
  obs := fun s => obG n s.heap.get?
  val := fun _ => valX
  says := fun _ h => ∃ K : PySem.W.Frag, K.In h ∧ SaysX K
  of := fun _ _ e => ⟨_, He.frG_in, e⟩
  keeps := fun _ _ _ ⟨K, hK, c⟩ k => ⟨K, PySem.W.Frag.In.keeps hK k, c⟩
theorem obG_eq {n : Nat} {g : Addr → Option Obj} {s : Shared} (h : ∀ a, g a = s.heap.get? a) : obG n g = (hookX n).obs s := by
  have e : g = s.heap.get? := funext h
  rw [e] <;> rfl
abbrev Rr : PySem.W.OpenRow := PySem.W.OpenLaw.row PySem.Challenge.rw_burstapart_k79_whole_classes_agree
def obQ (s : PySem.W.SharedT) : AlX := obG 5 (HandSHeadRun.getT s)
theorem obQ_eq (s : PySem.W.SharedT) : obQ s = (hookX 5).obs s.abs := obG_eq (HandSHeadRun.getT_eq s)
def hn0 : List Str := ["_wall", "BurstError", "NoTable", "NoWord", "NoBurst", "NoRow", "NoWay", "NoPlace", "NoValue", "BadLine", "NothingDone", "LONGEST", "GREATEST_HOLD", "is_integer", "is_between"]
def hn1 : List Str := ["is_onto", "is_table", "need_table", "hold_of", "out_of", "held_of", "turned_by", "back_of", "delay", "back", "MOST_WORD", "MOST_TICKS", "need_word", "need_ticks", "words_of"]
def hn2 : List Str := ["worst_in", "worst", "hold_at", "card_of", "cards_of", "card_row", "state_of", "does_reach", "least_of", "places_of", "first_of", "states_of", "need_tables", "joining", "LETTERS"]
def hn3 : List Str := ["MOST_LETTERS", "LONGEST_CUT", "is_value", "need_value", "Stand", "copied", "hold_ahead", "holds_ahead", "cuts_ahead", "go_on_alike", "Row", "Losing", "Counting", "LosingCounting", "Link"]
def hn4 : List Str := ["distance_of", "nearest_at", "spread", "DIGITS", "number_in", "value_in", "numbers_text", "table_text", "journal_text", "MOST_OF_HOLD", "MOST_OF_NUMBER", "MOST_OF_VALUE", "ALONE", "numbers_in", "values_in"]
def hn5 : List Str := ["spaced", "Session", "_law_cell", "_law_pen", "_law_draw", "_law_pick", "_law_table", "_law_value", "_law_push_all", "_law_words", "_law_led_right", "_law_same_now", "_law_undone_right"]
def hns : List Str := hn0 ++ (hn1 ++ (hn2 ++ (hn3 ++ (hn4 ++ hn5))))
end K7
set_option Elab.async false
set_option linter.all false
set_option maxRecDepth 100000
set_option maxHeartbeats 0
namespace K7
open PySem PySem.W PySem.Calls PyProof.Rows
theorem runX (w : World) : HandSHeadRun.RunEq Rr (view Rr.prog [100]) (hookX 5) obQ 9000 hns w := by
  intro os
  kernel_rfl
end K7
set_option Elab.async false
set_option linter.all false
set_option maxRecDepth 100000
set_option maxHeartbeats 4000000
namespace K7
open PySem PySem.Spec PyProof.Rows L2
/-! ### a def's promise by positional values -/
section
variable {P : Program} {w : World} {K : PySem.W.Frag} {mg : Str → Option Value} {base : Heap}
theorem fnR_of {x qual : Str} {st : Stmt} {f : Addr} {fd : FuncData} {N ps : List Str} {k : Nat} {sp : Sp} (F : Fun K x qual st f fd) (S : FnScope N ps (defScope st))
    (hb : ∀ (kV doc pm : Value) (an : Option Addr) (cdv ct : Value) (us : List Value), us.length = ps.length → bindArgs (PySem.W.fnOf x qual (defArgs st) (defBody st) (defScope st) .none kV doc pm an cdv ct) ⟨us, []⟩ = pure (ps.zip us))
    (len : ∀ vs H Q E, sp vs H Q E → vs.length = ps.length)
    (hbody : ∀ (cdv : Value) (A : Around) (outer : List Env) (s : Shared) (H : Hp) (vs : List V) (Q : VK) (E : XK), Room k (A.deeper (envOfC qual (defScope st) s.heap.objs.size f cdv)) → sp vs H Q E →
      ∃ t, PSs (cxOf CX0 P w K mg base N qual (defScope st) f cdv A outer s H E).nox (defBody st) t ∧ t { nx := fun _ H' => Q .non H', rt := Q } (start N vs) H) : FnR P w K mg base CX0 (k + 1) f sp :=
  FnR.imp ((F.ok S len hbody).raw (F.binds hb) .nil) fun vs H Q E h => by rw [List.append_nil]; exact h
/-- a choice of promises -/
theorem FnR.or {k : Nat} {f : Addr} {sp sp' : Sp} (F : FnR P w K mg base CX0 k f sp) (G : FnR P w K mg base CX0 k f sp') : FnR P w K mg base CX0 k f (fun vs H Q E => sp vs H Q E ∨ sp' vs H Q E) :=
  fun A outer s H us vs Q E hr e0 r h => h.elim (F A outer s H us vs Q E hr e0 r) (G A outer s H us vs Q E hr e0 r)
/-- a promise with a parameter -/
theorem FnR.ex {α : Sort _} {k : Nat} {f : Addr} {sp : α → Sp} (F : ∀ a, FnR P w K mg base CX0 k f (sp a)) : FnR P w K mg base CX0 k f (fun vs H Q E => ∃ a, sp a vs H Q E) :=
  fun A outer s H us vs Q E hr e0 r ⟨a, h⟩ => F a A outer s H us vs Q E hr e0 r h
end
/-! ### calls -/
section
variable {X : Cx} {j k : Nat} {f C p_ : Addr} {x m : Str} {sp : Sp} {p pos apos : Pos} {e o : Expr} {es : List Expr} {ta : TE} {t : TA}
abbrev FX (X : Cx) (k : Nat) (f : Addr) (sp : Sp) : Prop := FnR X.prog X.w X.K X.mg X.base CX0 k f sp
theorem run_fx {pins : List (Addr × Obj)} {σ : L2.St} {H : Hp} {s : Shared} {Q : VK} {us : List Value} {vs : List V} (F : FX X j f sp) (hr : Room k X.A) (hjk : j ≤ k) (I : Inv X pins σ H s) (r : Vals vs us) (h : sp vs H Q E0) :
    wpAny (model X.prog X.w) X.A (call (.ref f) us) (EP X pins σ Q) X.xe s := wpAny_call (run_fnR F (hr.mono hjk) pass0 I r h)
def tCl (sp : Sp) (t : TA) : TE := fun σ H Q => t σ H fun vs H1 => sp vs H1 Q E0
theorem kc_call (F : FX X j f sp) (hr : Room k X.A) (hg : Gl X x) (hm : X.mg x = some (.ref f)) (hk : PySem.W.keepIn X.K (.ref f) = true) (ha : PA X (e :: es) t) (hjk : j ≤ k := by decide)
    (hdb : (x == ("__debug__" : Str)) = false := by decide) (he : starEach (e :: es) X.env = (false, eval e X.env) :: starEach es X.env := by rfl) (hpl : (backTo pos (starEach es X.env)).any (·.1) = false := by rfl) :
    PE X (.Call (.Name x p) (e :: es) [] pos) (tCl sp t) := by
  refine ⟨fun pins s σ H Q I h => ?_⟩
  refine wpAny_Call_Name_kw (ld_glob I hg hm ?_ hdb)
  refine PySem.W.callWith_K (h₀ := X.base) I.ok.mod.kin hk (thn (ha.run pos pins s σ H _ I h) fun us s1 ⟨vs, H1, I1, r, q⟩ => ⟨I1.kIn, ?_⟩) he hpl
  exact run_fx F hr hjk I1 r q
theorem kc_call0 (F : FX X j f sp) (hr : Room k X.A) (hg : Gl X x) (hm : X.mg x = some (.ref f)) (hk : PySem.W.keepIn X.K (.ref f) = true) (hjk : j ≤ k := by decide)
    (hdb : (x == ("__debug__" : Str)) = false := by decide) : PE X (.Call (.Name x p) [] [] pos) (tCl sp tNil) := by
  refine ⟨fun pins s σ H Q I h => ?_⟩
  refine wpAny_Call_Name_kw (ld_glob I hg hm ?_ hdb)
  exact PySem.W.callWith_K0 I.kIn hk (run_fx (us := []) F hr hjk I .nil h)
/-- a method of whatever class of a family -/
structure MOk (X : Cx) (j : Nat) (C : Addr) (m : Str) (sp : Sp) : Prop where
  cl : Cls X.K C
  ex : ∃ f, Meth X.K C m f ∧ FX X j f sp
def tMF (G : Addr → Sp → Prop) (m : Str) (ta : TE) (t : TA) : TE := fun σ H Q => ta σ H fun x H1 => ∃ a C dx fs sp, x = .ref a ∧ H1 a = some (.ins C dx fs) ∧ G C sp ∧ fs.lookup m = none ∧ t σ H1 fun vs H2 => sp (x :: vs) H2 Q E0
theorem kc_methF {pl : Sem Bool} {G : Addr → Sp → Prop} (he : PE X o ta) (hG : ∀ C sp, G C sp → MOk X j C m sp) (hr : Room k X.A) (ha : PA X (e :: es) t) (hjk : j ≤ k := by decide)
    (hst : starEach (e :: es) X.env = (false, eval e X.env) :: starEach es X.env := by rfl) (hpl : (backTo pos (starEach es X.env)).any (·.1) = false := by rfl)
    (ht : eval (.Call (.Attribute o m apos) (e :: es) [] pos) X.env = (do
      let ov ← eval o X.env
      standAt apos.atName
      let (f, first) ← holding [ov] (getMethod ov m pl)
      callWith pos f first (backTo pos (starEach (e :: es) X.env)) (backToKw pos (keywordEach [] X.env))) := by rfl) :
    PE X (.Call (.Attribute o m apos) (e :: es) [] pos) (tMF G m ta t) := by
  refine ⟨fun pins s σ H Q I h => ?_⟩
  refine PySem.W.methodCall_KW (pl := pl) (thn (he.run pins s σ H _ I h) fun u s1 ⟨x, H1, I1, rx, a, C, dx, fs, sp, ex, ea, g, l, q⟩ => ?_) ht
  subst ex
  obtain rfl : u = Value.ref a := rx
  obtain ⟨c, f, hm, F⟩ := hG C sp g
  refine getmeth_ok I1 ea c hm l ?_
  refine PySem.W.callWith_K (first := [.ref a]) (h₀ := X.base) I.ok.mod.kin hm.kp (thn (ha.run pos pins s1 σ H1 _ I1 q) fun us s2 ⟨vs, H2, I2, r, q2⟩ => ⟨I2.kIn, ?_⟩) hst hpl
  exact run_fx (us := .ref a :: us) (vs := .ref a :: vs) F hr hjk I2 (.cons rfl r) q2
theorem kc_methF0 {pl : Sem Bool} {G : Addr → Sp → Prop} (he : PE X o ta) (hG : ∀ C sp, G C sp → MOk X j C m sp) (hr : Room k X.A) (hjk : j ≤ k := by decide)
    (ht : eval (.Call (.Attribute o m apos) [] [] pos) X.env = (do
      let ov ← eval o X.env
      standAt apos.atName
      let (f, first) ← holding [ov] (getMethod ov m pl)
      callWith pos f first (backTo pos (starEach [] X.env)) (backToKw pos (keywordEach [] X.env))) := by rfl) :
    PE X (.Call (.Attribute o m apos) [] [] pos) (tMF G m ta tNil) := by
  refine ⟨fun pins s σ H Q I h => ?_⟩
  refine PySem.W.methodCall_KW (pl := pl) (thn (he.run pins s σ H _ I h) fun u s1 ⟨x, H1, I1, rx, a, C, dx, fs, sp, ex, ea, g, l, q⟩ => ?_) ht
  subst ex
  obtain rfl : u = Value.ref a := rx
  obtain ⟨c, f, hm, F⟩ := hG C sp g
  refine getmeth_ok I1 ea c hm l ?_
  exact PySem.W.callWith_K0 (first := [.ref a]) I1.kIn hm.kp (run_fx (us := [.ref a]) (vs := [.ref a]) F hr hjk I1 (.cons rfl .nil) q)
/-- a property of whatever class of a family -/
structure POk (X : Cx) (j : Nat) (C : Addr) (m : Str) (sp : Sp) : Prop where
  cl : Cls X.K C
  ex : ∃ p g, PropOf X.K C m p g ∧ FX X j g sp
theorem getpropR_ok {a dx g p : Addr} {fs : List (Str × V)} {pins : List (Addr × Obj)} {σ : L2.St} {H : Hp} {s : Shared} {Q : VK} {b : Bool} {E' : Value → Shared → Prop} (I : Inv X pins σ H s) (ea : H a = some (.ins C dx fs)) (c : Cls X.K C) (hp : PropOf X.K C m p g)
    (F : FX X j g sp) (hr : Room (j + 1) X.A) (h : sp [.ref a] H Q E0) : wpAny (model X.prog X.w) X.A (getAttr (.ref a) m b) (EP X pins σ Q) E' s := by
  obtain ⟨mA, O, _, _, _, _⟩ := ins_get I.hok ea
  obtain ⟨od, J, _⟩ := O.look
  obtain ⟨rest, hrec⟩ := hp.rec_
  have I1 := I.tok (s.toks + 1)
  have hc : (PySem.W.clsIn X.K C).isSome = true := by
    obtain ⟨cd, hc, _⟩ := PySem.W.any_some c.hd
    rw [hc]
    rfl
  refine PySem.W.get_bind I.kIn J (PySem.W.plainGet_of (c.get m)).1 (PySem.W.findObj_data hc hp.at_ hp.get hp.tak) (PySem.W.plainGet_of (c.get m)).2 (wpAny_call (PySem.W.prop_get (s := { s with toks := s.toks + 1 }) I.kIn hrec ?_))
  refine codeAny_mono (F X.A.in1 X.stack { s with toks := s.toks + 1 } H [.ref a] [.ref a] Q E0 hr.in1 I1.env0.in1 (.cons rfl .nil) h) fun r s' hq => ?_
  cases r with
  | error er => exact hq.elim
  | ok fl =>
    cases fl with
    | ret u =>
      obtain ⟨v, H', I3, rv, q3⟩ := I1.after hq
      show wpAny _ _ (handedOut u) _ _ _
      rw [PySem.W.handedOut_of (handed_of rv)]
      exact wpAny_pure ⟨v, H', I3, rv, q3⟩
    | next => exact False.elim hq
    | brk => exact False.elim hq
    | cont => exact False.elim hq
def tPF (G : Addr → Sp → Prop) (ta : TE) : TE := fun σ H Q => ta σ H fun x H1 => ∃ a C dx fs sp, x = .ref a ∧ H1 a = some (.ins C dx fs) ∧ G C sp ∧ sp [.ref a] H1 Q E0
theorem kc_propF {G : Addr → Sp → Prop} (he : PE X e ta) (hG : ∀ C sp, G C sp → POk X j C m sp) (hr : Room k X.A) (hjk : j + 1 ≤ k := by decide)
    (hab : attributeBase e m X.env (eval e X.env) = eval e X.env := by rfl) : PE X (.Attribute e m pos) (tPF G ta) := by
  refine ⟨fun pins s σ H Q I h => ?_⟩
  refine attr_of hab (thn (he.run pins s σ H _ I h) fun u s1 ⟨x, H1, I1, rx, a, C, dx, fs, sp, ex, ea, g, q⟩ => ?_)
  subst ex
  obtain rfl : u = Value.ref a := rx
  obtain ⟨c, p, g', hp, F⟩ := hG C sp g
  exact getpropR_ok I1 ea c hp F (hr.mono hjk) q
/-- C(e, ..) -/
def tMk (C : Addr) (sp : Sp) (t : TA) : TE := fun σ H Q => t σ H fun vs H1 => ∀ x dx, H1 x = Option.none → H1 dx = Option.none → dx ≠ x →
  sp (V.ref x :: vs) (upd (upd H1 dx (.own x)) x (.ins C dx [])) (fun v H2 => v = .non ∧ Q (.ref x) H2) E0
theorem kc_make (M : Mk X.K C f) (F : FX X j f sp) (hr : Room k X.A) (hg : Gl X x) (hm : X.mg x = some (.ref C)) (ha : PA X (e :: es) t) (hjk : j + 1 ≤ k := by decide) (hdb : (x == ("__debug__" : Str)) = false := by decide)
    (he : starEach (e :: es) X.env = (false, eval e X.env) :: starEach es X.env := by rfl) (hpl : (backTo pos (starEach es X.env)).any (·.1) = false := by rfl) : PE X (.Call (.Name x p) (e :: es) [] pos) (tMk C sp t) :=
  StX.pe_makeR M F (hr.mono hjk) hg hm pass0 ha hdb he hpl
theorem kc_make0 (M : Mk X.K C f) (F : FX X j f sp) (hr : Room k X.A) (hg : Gl X x) (hm : X.mg x = some (.ref C)) (hjk : j + 1 ≤ k := by decide) (hdb : (x == ("__debug__" : Str)) = false := by decide) :
    PE X (.Call (.Name x p) [] [] pos) (tMk C sp tNil) := by
  refine ⟨fun pins s σ H Q I h => ?_⟩
  refine wpAny_Call_Name_kw (ld_glob I hg hm ?_ hdb)
  exact PySem.W.callWith_K0 I.kIn M.kp (StX.run_makeR (us := []) (vs := []) M F (hr.mono hjk) pass0 I .nil h)
end
end K7
set_option Elab.async false
set_option linter.all false
set_option maxRecDepth 100000
set_option maxHeartbeats 4000000
namespace K7
open PySem PySem.Spec PyProof.Rows L2
/-! ### defs that say super(): the class cell is theirs, the code that runs is known; names that a block within reads are cells of their own -/
structure FnScopeS (N Pr : List Str) (sc : Scope) : Prop where
  kind : sc.kind = .function
  co : sc.isCoroutine = false
  gen : sc.isGenerator = false
  nd : N.Nodup
  pre : N.take Pr.length = Pr
  par : ∀ x ∈ Pr, sc.names.lookup x = some .local ∨ sc.names.lookup x = some .cell
  nocls : sc.names.lookup ("__class__" : Str) ≠ some .cell
  free : ∀ y ∈ sc.names, y.2 = .free → y.1 = ("__class__" : Str)
abbrev sCells (scope : Scope) (L : Nat) (cc : Addr) : List (Str × Addr) := cellsFrom (L + 1) scope.names [] ++ [(("__class__" : Str), cc)]
abbrev sEnv (qual : Str) (scope : Scope) (L f : Addr) (cd : Value) (cc : Addr) : Env := PySem.W.envX qual scope L f cd (sCells scope L cc)
def cxS (P : Program) (w : World) (K : PySem.W.Frag) (mg : Str → Option Value) (base : Heap) (N : List Str) (qual : Str) (scope : Scope) (f : Addr) (cd : Value) (cc : Addr) (A : Around) (outer : List Env) (s : Shared) (H : Hp) : Cx where
  prog := P
  w := w
  K := K
  mg := mg
  base := base
  A := A.deeper (sEnv qual scope s.heap.objs.size f cd cc)
  N := N
  s_0 := s
  H_0 := H
  env := sEnv qual scope s.heap.objs.size f cd cc
  outer := outer
  stack := sEnv qual scope s.heap.objs.size f cd cc :: outer
  ex := []
  calm := true
  fn := fun _ => false
  pn := []
  xe := fun _ _ => False
theorem cellsFrom_app (o : List (Str × Addr)) : ∀ (names : List (Str × NameKind)) (n : Nat) (acc : List (Str × Addr)), cellsFrom n names (acc ++ o) = cellsFrom n names acc ++ o
  | [], _, _ => rfl
  | (x, k) :: r, n, acc => by
    unfold cellsFrom
    split
    · exact cellsFrom_app o r (n + 1) ((x, n) :: acc)
    · exact cellsFrom_app o r n acc
theorem lookApp {x : Str} {l r : List (Str × Addr)} : (l ++ r).lookup x = (l.lookup x).or (r.lookup x) := by
  induction l with
  | nil =>
    show r.lookup x = (none : Option Addr).or (r.lookup x)
    cases r.lookup x <;> rfl
  | cons p l ih =>
    obtain ⟨k, v⟩ := p
    rw [List.cons_append, List.lookup_cons, List.lookup_cons]
    cases x == k with
    | true => rfl
    | false => exact ih
theorem look1 {x : Str} {cc c : Addr} (h : ([(("__class__" : Str), cc)] : List (Str × Addr)).lookup x = some c) : x = ("__class__" : Str) ∧ c = cc := by
  unfold List.lookup at h
  cases e : (x == ("__class__" : Str)) with
  | true =>
    rw [e] at h
    exact ⟨beq_iff_eq.mp e, (Option.some.inj h).symm⟩
  | false =>
    rw [e] at h
    cases h
theorem lookS {x : Str} {cc c : Addr} {l : List (Str × Addr)} (h : (l ++ [(("__class__" : Str), cc)]).lookup x = some c) : l.lookup x = some c ∨ (l.lookup x = none ∧ x = ("__class__" : Str) ∧ c = cc) := by
  rw [lookApp] at h
  cases e : l.lookup x with
  | some d =>
    rw [e] at h
    exact .inl h
  | none =>
    rw [e] at h
    exact .inr ⟨rfl, look1 h⟩
/-! storing to the names of such a frame -/
section
variable {M : Model} {A : Around} {E : Value → Shared → Prop} {s₀ s : Shared} {m cm : Str → Option Value} {env : Env} {cs o : List (Str × Addr)}
theorem stLS {n : Str} {v : Value} {Q : Unit → Shared → Prop} (x : InCallC s₀ env.locals m cs cm s) (hk : env.scope.kind = .function) (hl : env.kindOf n = some .local)
    (h : ∀ s', InCallC s₀ env.locals (fun y => if y = n then some v else m y) cs cm s' → Q () s') : wpAny M A (storeName env n v) Q E s := by
  refine wpAny_storeName_local hl x.toInCall.ns (fun h' hn' hs' => h _ ⟨⟨?_, hn', fun b o e => ?_, x.toInCall.fresh⟩, fun k c hc => ?_, x.apart, x.above⟩) (by rw [hk]; rfl)
  · obtain ⟨h₁, tk, rfl⟩ := x.toInCall.same
    exact ⟨h', _, rfl⟩
  · exact hs'.extBut b o (Nat.ne_of_lt (Nat.lt_of_lt_of_le (Heap.lt_size e) x.toInCall.fresh)) (x.toInCall.keep b o e)
  · exact (x.cell k c hc).sameBut hs' (Nat.ne_of_gt (x.above k c (PySem.mem_of_lookup hc)))
theorem stCS {n : Str} {c : Addr} {v : Value} {Q : Unit → Shared → Prop} (he : env.cells = cs ++ o) (x : InCallC s₀ env.locals m cs cm s) (hk : env.scope.kind = .function) (hl : env.kindOf n = some .cell)
    (hc : cs.lookup n = some c)
    (h : ∀ s', InCallC s₀ env.locals m cs (fun y => if y = n then some v else cm y) s' → Q () s') : wpAny M A (storeName env n v) Q E s := by
  have hLc := x.above n c (PySem.mem_of_lookup hc)
  refine wpAny_storeName_cell hk hl (by rw [he, lookApp, hc]; rfl) (x.cell n c hc) fun h' hc' hs' => h _ ⟨⟨?_, x.toInCall.ns.sameBut hs' (Nat.ne_of_lt hLc), fun b o e => ?_, x.toInCall.fresh⟩, fun k c' hk' => ?_, x.apart, x.above⟩
  · obtain ⟨h₁, tk, rfl⟩ := x.toInCall.same
    exact ⟨h', _, rfl⟩
  · exact hs'.extBut b o (Nat.ne_of_lt (Nat.lt_trans (Nat.lt_of_lt_of_le (Heap.lt_size e) x.toInCall.fresh) hLc)) (x.toInCall.keep b o e)
  · by_cases hkn : k = n
    · subst hkn
      rw [hc] at hk'; cases hk'
      simpa using hc'
    · rw [if_neg hkn]
      exact (x.cell k c' hk').sameBut hs' fun e => hkn (name_of_addr x.apart (PySem.mem_of_lookup hk') (e ▸ PySem.mem_of_lookup hc))
theorem bindPS (he : env.cells = cs ++ o) (f : Str × Value → PUnit → Sem (ForInStep PUnit)) (hf : ∀ n v u, f (n, v) u = (do storeName env n v; pure (.yield ⟨⟩))) (hk : env.scope.kind = .function) :
    ∀ (binds : List (Str × Value)) (m cm : Str → Option Value) (s : Shared) (Q : PUnit → Shared → Prop), InCallC s₀ env.locals m cs cm s →
      (∀ x ∈ binds, env.kindOf x.1 = some .local ∨ (env.kindOf x.1 = some .cell ∧ (cs.lookup x.1).isSome = true)) →
      (∀ s', InCallC s₀ env.locals (bindL env.kindOf binds m) cs (bindC env.kindOf binds cm) s' → Q ⟨⟩ s') → wpAny M A (forIn binds ⟨⟩ f) Q E s
  | [], m, cm, s, Q, x, _, h => by rw [List.forIn_nil]; exact wpAny_pure (h s x)
  | (n, v) :: r, m, cm, s, Q, x, hkind, h => by
    rw [List.forIn_cons, hf]
    have hr : ∀ y ∈ r, env.kindOf y.1 = some .local ∨ (env.kindOf y.1 = some .cell ∧ (cs.lookup y.1).isSome = true) := fun y hy => hkind y (List.mem_cons_of_mem _ hy)
    rcases hkind (n, v) List.mem_cons_self with hl | ⟨hl, hc⟩
    · refine wpAny_bind (wpAny_bind (stLS x hk hl fun s' x' => wpAny_pure (bindPS he f hf hk r _ _ s' Q x' hr fun s'' x'' => h s'' ?_)))
      unfold bindL bindC; rw [if_pos hl, if_pos hl]; exact x''
    · obtain ⟨c, hc⟩ := Option.isSome_iff_exists.mp hc
      have hnl : ¬ env.kindOf n = some .local := by rw [hl]; decide
      refine wpAny_bind (wpAny_bind (stCS he x hk hl hc fun s' x' => wpAny_pure (bindPS he f hf hk r _ _ s' Q x' hr fun s'' x'' => h s'' ?_)))
      unfold bindL bindC; rw [if_neg hnl, if_neg hnl]; exact x''
end
theorem newEnvS {M : Model} {A : Around} {E : Value → Shared → Prop} {s : Shared} {scope : Scope} {globals : Addr} {binds : List (Str × Value)} {qual : Str} {func : Option Addr} {code : Value} {builtins : Addr} {o : List (Str × Addr)} {Q : Env → Shared → Prop}
    (hk : scope.kind = .function)
    (hkind : ∀ x ∈ binds, scope.names.lookup x.1 = some .local ∨ (scope.names.lookup x.1 = some .cell ∧ ((cellsFrom (s.heap.objs.size + 1) scope.names []).lookup x.1).isSome = true))
    (hQ : ∀ env, env = newEnv scope s.heap.objs.size globals (cellsFrom (s.heap.objs.size + 1) scope.names [] ++ o) qual func code none builtins →
      ∀ s', InCallC s env.locals (bindL env.kindOf binds fun _ => none) (cellsFrom (s.heap.objs.size + 1) scope.names []) (bindC env.kindOf binds fun _ => none) s' → Q env s') :
    wpAny M A (newFunctionEnv scope globals o binds qual func code none builtins) Q E s := by
  simp only [newFunctionEnv, Option.isSome_none, Bool.false_eq_true, if_false]
  refine wpAny_bind (wpAny_alloc ?_)
  refine wpAny_bind (wpAny_layCells _ (fun name kind cells => by cases hkc : kind == NameKind.cell <;> simp [hkc]) _ _ _ _ ?_)
  have ok := cellsFrom_ok scope.names (s.heap.push { cls := .type "frame", data := .dict #[] }) (s.heap.objs.size + 1) [] ⟨fun _ _ hm => (nomatch hm), List.Pairwise.nil⟩ (by rw [Heap.size_push]; exact Nat.le_refl _)
  rw [Heap.size_push] at ok
  rw [show ({ s with heap := s.heap.push { cls := .type "frame", data := .dict #[] } } : Shared).heap.objs.size = s.heap.objs.size + 1 from Heap.size_push ..]
  rw [show cellsFrom (s.heap.objs.size + 1) scope.names o = cellsFrom (s.heap.objs.size + 1) scope.names [] ++ o from cellsFrom_app o scope.names _ []]
  refine wpAny_bind (bindPS (s₀ := s) (cs := cellsFrom (s.heap.objs.size + 1) scope.names []) (o := o) (env := newEnv scope s.heap.objs.size globals (cellsFrom (s.heap.objs.size + 1) scope.names [] ++ o) qual func code none builtins)
    rfl _ (fun _ _ _ => rfl) hk binds (fun _ => none) (fun _ => none) _ _
    ⟨⟨⟨_, _, rfl⟩, (Heap.Ns.new s.heap (.type "frame")).keeps (pushCells_keeps _ _), fun b o e => pushCells_keeps _ _ b o (Heap.get?_push_of_some _ e), Nat.le_refl _⟩,
      fun n c hc => (ok.empty n c (PySem.mem_of_lookup hc)).1, ok.apart, fun n c hm => (ok.empty n c hm).2⟩
    hkind fun s' x => wpAny_pure (hQ _ rfl s' x))
theorem inv_startS {P : Program} {w : World} {K : PySem.W.Frag} {mg : Str → Option Value} {base : Heap} {N ps : List Str} {qual : Str} {scope : Scope} {f cc : Addr} {cd : Value} {A : Around} {outer : List Env} {s s1 : Shared} {H : Hp} {us : List Value} {vs : List V} {ocl : Obj} {vD : Option Value}
    (S : FnScopeS N ps scope) (hd : A.handled = none) (e0 : Env0 P w K mg base A outer s H) (hl : vs.length = ps.length) (r : Vals vs us) (hcb : base.get? cc = some ocl) (hcd : ocl.data = .cell vD)
    (x : InCallC s s.heap.objs.size (bindL (sEnv qual scope s.heap.objs.size f cd cc).kindOf (ps.zip us) fun _ => none) (cellsFrom (s.heap.objs.size + 1) scope.names []) (bindC (sEnv qual scope s.heap.objs.size f cd cc).kindOf (ps.zip us) fun _ => none) s1) :
    Inv (cxS P w K mg base N qual scope f cd cc A outer s H) [] (L2.start N vs) H s1 := by
  have hpl : ps.length ≤ N.length := by have := congrArg List.length S.pre; rw [List.length_take] at this; omega
  obtain ⟨h1, tk, rfl, hk⟩ := x.done
  have noA : ∀ b : Addr, b ∉ (cxS P w K mg base N qual scope f cd cc A outer s H).ex := fun b z => absurd (show b ∈ ([] : List Addr) from z) (by simp)
  have hcs := e0.bs cc _ hcb
  have hlt : cc < s.heap.objs.size := Heap.lt_size hcs.1
  refine ⟨⟨e0.mod, S.kind, rfl, rfl, Nat.le_refl _, fun y z c h1 h2 => ?_, fun y hy => ?_, fun y c q _ => (by cases q), fun _ => hd, Around.frames_deeper e0.frames, .inr ⟨rfl, rfl⟩, fun b z => absurd z (noA b), e0.bs, e0.bsz, fun b _ _ => noA b, fun b z => absurd z (noA b), e0.funs, e0.frf⟩,
    rfl, e0.bare, Un.kept hk, ⟨_, x.toInCall.ns, fun i y v h1 h2 h3 => ?_⟩, fun y c h => ?_, e0.hok.fresh (Nat.le_refl _), fun y c h => ?_, fun p hp => absurd (show p ∈ ([] : List (Addr × Obj)) from hp) (by simp), e0.hok.kept hk, ?_⟩
  · rcases lookS h1 with a1 | ⟨_, a1, a2⟩ <;> rcases lookS h2 with b1 | ⟨_, b1, b2⟩
    · exact name_of_addr x.apart (PySem.mem_of_lookup a1) (PySem.mem_of_lookup b1)
    · have := x.above y c (PySem.mem_of_lookup a1)
      rw [b2] at this
      exact absurd this (Nat.not_lt.mpr (Nat.le_of_lt hlt))
    · have := x.above z c (PySem.mem_of_lookup b1)
      rw [a2] at this
      exact absurd this (Nat.not_lt.mpr (Nat.le_of_lt hlt))
    · rw [a1, b1]
  · have hy : scope.names.lookup y = some .cell ∨ scope.names.lookup y = some .free := hy
    rcases hy with hy | hy
    · obtain ⟨c, e⟩ := cell_has (n := s.heap.objs.size + 1) hy
      exact ⟨c, by show (cellsFrom (s.heap.objs.size + 1) scope.names [] ++ [(("__class__" : Str), cc)]).lookup y = some c; rw [lookApp, e]; rfl⟩
    · have e := S.free _ (PySem.mem_of_lookup hy) rfl
      have e' : y = ("__class__" : Str) := e
      subst e'
      show ∃ c, (cellsFrom (s.heap.objs.size + 1) scope.names [] ++ [(("__class__" : Str), cc)]).lookup ("__class__" : Str) = some c
      rw [lookApp]
      cases (cellsFrom (s.heap.objs.size + 1) scope.names []).lookup ("__class__" : Str) with
      | some d => exact ⟨d, rfl⟩
      | none => exact ⟨cc, rfl⟩
  · have hi : i < vs.length := by
      unfold L2.start at h2
      by_cases hi : i < vs.length
      · exact hi
      · rw [List.getElem?_append_right (by simpa using hi)] at h2
        rw [List.getElem?_replicate] at h2
        split at h2 <;> cases h2
    have ha : vs[i]? = some v := by
      unfold L2.start at h2
      rw [List.getElem?_append_left (by simpa using hi), List.getElem?_map] at h2
      cases e : vs[i]? with
      | none => rw [e] at h2; cases h2
      | some a => rw [e] at h2; cases h2; rfl
    obtain ⟨u, hu, rv⟩ := r.get ha
    have hp : ps[i]? = some y := by
      rw [← S.pre, List.getElem?_take_of_lt (by omega)]; exact h1
    have ndP : ps.Nodup := by rw [← S.pre]; exact S.nd.sublist (List.take_sublist _ _)
    refine ⟨u, rv, ?_⟩
    rcases S.par y (List.mem_of_getElem? hp) with k | k
    · exact .inl ⟨k, bindL_get ndP hp hu k⟩
    · obtain ⟨c, e⟩ := cell_has (n := s.heap.objs.size + 1) k
      refine .inr ⟨.inl k, c, ?_, ?_⟩
      · show (cellsFrom (s.heap.objs.size + 1) scope.names [] ++ [(("__class__" : Str), cc)]).lookup y = some c
        rw [lookApp, e]
        rfl
      · have q := x.cell y c e
        rw [bindC_get ndP hp hu (by show scope.names.lookup y ≠ _; rw [k]; decide)] at q
        exact q
  · rcases lookS h with a | ⟨_, _, rfl⟩
    · exact ⟨_, x.cell y c a⟩
    · exact ⟨vD, _, hk _ _ hcs.1, hcd⟩
  · rcases lookS h with a | ⟨_, _, rfl⟩
    · exact e0.hok.fresh (Nat.le_of_lt (x.above y c (PySem.mem_of_lookup a)))
    · exact hcs.2
  · unfold L2.start
    show _ = N.length
    rw [List.length_append, List.length_map, List.length_replicate]
    omega

/-! ### judgements that know the running code -/
structure PSsA (X : Cx) (B st : List Stmt) (t : TS) : Prop where
  run : ∀ (pins : List (Addr × Obj)) (s : Shared) (σ : L2.St) (H : Hp) (D : Ends), Inv X pins σ H s → t D σ H → _root_.PySem.wpAt (model X.prog X.w) X.A (.func B X.env) (execs st X.env) (SP X pins D) X.xe s
structure PEA (X : Cx) (B : List Stmt) (e : Expr) (t : TE) : Prop where
  run : ∀ (pins : List (Addr × Obj)) (s : Shared) (σ : L2.St) (H : Hp) (Q : VK), Inv X pins σ H s → t σ H Q → _root_.PySem.wpAt (model X.prog X.w) X.A (.func B X.env) (eval e X.env) (EP X pins σ Q) X.xe s
section
variable {X : Cx} {B rest : List Stmt} {st : Stmt} {t u : TS} {e : Expr} {te : TE} {pos : Pos}
theorem pssA_cons (h1 : PS X st t) (h2 : PSsA X B rest u) : PSsA X B (st :: rest) (tSeq t u) := by
  refine ⟨fun pins s σ H D I h => ?_⟩
  refine ks_wpAt_execs_cons (_root_.PySem.wpAt_mono (_root_.PySem.wpAt_of_wpAny (h1.run pins s σ H { D with nx := u D } I h)) (fun f s1 q => ?_) fun _ _ z => z)
  cases f with
  | next =>
    obtain ⟨σ', H', I', q⟩ := q
    exact h2.run pins s1 σ' H' D I' q
  | ret v => exact q
  | brk => exact q
  | cont => exact q
theorem pssA_ret (he : PEA X B e te) : PSsA X B [.Return (some e) pos] (tRet te) := by
  refine ⟨fun pins s σ H D I h => ?_⟩
  refine ks_wpAt_execs_cons (ks_wpAt_Return_some (_root_.PySem.wpAt_mono (he.run pins s σ H _ I h) (fun v s1 ⟨x, H1, I1, r1, q1⟩ => ?_) fun _ _ z => z))
  exact ⟨x, σ, H1, I1, r1, q1⟩
theorem pssA_set {i : Nat} {x : Str} {pos' : Pos} (hN : X.N.Nodup) (hi : X.N[i]? = some x) (hx : X.env.scope.names.lookup x = some .local) (he : PEA X B e te) (h2 : PSs X rest u) (hs : swapsWith e (some (.Name x pos')) pos.line X.env = pure false := by rfl) :
    PSsA X B (.Assign [.Name x pos'] e pos :: rest) (tSeq (tAsg te (gName i)) u) := by
  refine ⟨fun pins s σ H D I h => ?_⟩
  refine ks_wpAt_execs_cons (ks_wpAt_Assign_Name (_root_.PySem.wpAt_mono (he.run pins s σ H _ I h) (fun v s1 ⟨y, H1, I1, r1, q1⟩ => ?_) fun _ _ z => z) hs)
  exact store_ok I1 hN hi (.inl hx) r1 (fun s2 I2 => _root_.PySem.wpAt_of_wpAny (h2.run pins s2 _ H1 D I2 q1)) (.inr hx)
end

/-! ### such a def, by its body -/
structure FunS (K : PySem.W.Frag) (x qual : Str) (st : Stmt) (f : Addr) (D : Addr) (cdA cc : Addr) (fd : FuncData) : Prop where
  ex : ∃ (oc : Value) (od : Option Addr) (kV doc pm : Value) (an : Option Addr) (ct : Value) (osl : Array (Option Value)),
    fd = PySem.W.ksFn x qual (defArgs st) (defBody st) (defScope st) .none kV doc pm an (.ref cdA) ct cc ∧ K.lookup f = some ⟨oc, od, .func fd, osl⟩
  cd : PySem.W.codeIn K (.ref cdA) qual = true
  code : ∃ ccl cdd vs ccs tf, K.lookup cdA = some ⟨ccl, cdd, .fields vs, ccs⟩ ∧ vs[2]? = some (.str PySem.Challenge.pw_burstapart_k79_whole_classes_agree.main.file tf)
  cell : ∃ cl cld csl, K.lookup cc = some ⟨cl, cld, .cell (some (.ref D)), csl⟩
  kp : PySem.W.keepIn K (.ref f) = true
section
variable {P : Program} {w : World} {K : PySem.W.Frag} {mg : Str → Option Value} {base : Heap}
theorem fnS_of {x qual : Str} {st : Stmt} {f D cdA cc : Addr} {fd : FuncData} {N ps : List Str} {k : Nat} {sp : Sp} (F : FunS K x qual st f D cdA cc fd) (S : FnScopeS N ps (defScope st))
    (hb : ∀ (kV doc pm : Value) (an : Option Addr) (ct : Value) (us : List Value), us.length = ps.length → bindArgs (PySem.W.ksFn x qual (defArgs st) (defBody st) (defScope st) .none kV doc pm an (.ref cdA) ct cc) ⟨us, []⟩ = pure (ps.zip us))
    (len : ∀ vs H Q E, sp vs H Q E → vs.length = ps.length)
    (hbody : ∀ (A : Around) (outer : List Env) (s : Shared) (H : Hp) (vs : List V) (Q : VK) (E : XK), Room k (A.deeper (sEnv qual (defScope st) s.heap.objs.size f (.ref cdA) cc)) → sp vs H Q E →
      ∃ t, PSsA (cxS P w K mg base N qual (defScope st) f (.ref cdA) cc A outer s H) (defBody st) (defBody st) t ∧ t { nx := fun _ H' => Q .non H', rt := Q } (L2.start N vs) H) : FnR P w K mg base CX0 (k + 1) f sp := by
  intro A outer s H us vs Q E hr e0 r hsp
  obtain ⟨oc, od, kV, doc, pm, an, ct, osl, rfl, lk⟩ := F.ex
  obtain ⟨cl, cld, csl, hcell⟩ := F.cell
  have hl := len _ _ _ _ hsp
  have hul : us.length = ps.length := by rw [← r.length]; exact hl
  have KX : K.In s.heap := e0.mod.kin.keeps fun b o e => (e0.bs b o e).1
  have lim : s.heap.NoLimit := e0.mod.nolimit.keeps fun b o e => (e0.bs b o e).1
  have hkind : ∀ y ∈ ps.zip us, (defScope st).names.lookup y.1 = some .local ∨ ((defScope st).names.lookup y.1 = some .cell ∧ ((cellsFrom (s.heap.objs.size + 1) (defScope st).names []).lookup y.1).isSome = true) := fun ⟨n, v⟩ hy => by
    rcases S.par n (List.of_mem_zip hy).1 with q | q
    · exact .inl q
    · exact .inr ⟨q, PySem.W.cellsFrom_some _ _ _ (.inl q)⟩
  refine codeAny_call_function hr.depth (KX _ _ lk) rfl S.co S.gen rfl (PySem.W.codeRec_of KX F.cd) ?_
  rw [hb kV doc pm an ct us hul]
  refine wpAny_pure (newEnvS S.kind hkind fun env he s1 x => ?_)
  subst he
  refine ⟨lim.keeps x.toInCall.keep, ks_codeAny_funcAt ?_⟩
  show _root_.PySem.wpAt (model P w) (A.deeper (sEnv qual (defScope st) s.heap.objs.size f (.ref cdA) cc)) (.func (defBody st) (sEnv qual (defScope st) s.heap.objs.size f (.ref cdA) cc)) (execs (defBody st) (sEnv qual (defScope st) s.heap.objs.size f (.ref cdA) cc)) _ _ _
  obtain ⟨t, ht, hq⟩ := hbody A outer s H vs Q E (hr.deeper _) hsp
  have I : Inv (cxS P w K mg base N qual (defScope st) f (.ref cdA) cc A outer s H) [] (L2.start N vs) H s1 := inv_startS S hr.hd e0 hl r (e0.mod.kin _ _ hcell) rfl x
  refine _root_.PySem.wpAt_mono (ht.run [] _ _ _ _ I hq) (fun fl s' hs => ?_) fun e s' z => z.elim
  have fin : ∀ {σ' : L2.St} {H' : Hp} {v : V} {u : Value}, Inv (cxS P w K mg base N qual (defScope st) f (.ref cdA) cc A outer s H) [] σ' H' s' → RelV v u → Q v H' → CE outer P w H s Q u s' :=
    fun {σ' H' v u} J rv q => ⟨v, H', J.os, J.bare, J.base, J.hok, rv, q⟩
  cases fl with
  | ret u =>
    obtain ⟨v, σ', H', J, rv, q⟩ := hs
    exact fin J rv q
  | next =>
    obtain ⟨σ', H', J, q⟩ := hs
    exact fin (v := V.non) (u := Value.none) J rfl q
  | brk =>
    obtain ⟨_, _, _, q⟩ := hs
    exact False.elim q
  | cont =>
    obtain ⟨_, _, _, q⟩ := hs
    exact False.elim q
end

/-! ### super().m(e, ..) -/
section
variable {X : Cx} {B : List Stmt} {j k : Nat} {f C D g cdA cc : Addr} {m : Str} {sp : Sp} {p0 p1 pos apos : Pos} {e : Expr} {es : List Expr} {t : TA}
/-- self stands in the first slot -/
def tSup (C g : Addr) (m : Str) (sp : Sp) (t : TA) : TE := fun σ H Q => ∃ x dx fs, σ[0]? = some (some (.ref x)) ∧ H x = some (.ins C dx fs) ∧ ∀ q, H q = none → t σ (upd H q (.met g x)) fun vs H2 => H2 q = some (.met g x) ∧ sp (.ref x :: vs) H2 Q E0
theorem kc_super {pl : Sem Bool} {fd : FuncData} {oc ccl cl : Value} {od cdd cld : Option Addr} {osl ccs csl : Array (Option Value)} {vs : Array Value} {file : Str} {tf : Tok} {ar : Arg} (F : FX X j g sp) (hr : Room k X.A)
    (hfu : X.env.func = some f) (hco : X.env.code = .ref cdA) (hcells : X.env.cells.lookup ("__class__" : Str) = some cc) (hN : X.N[0]? = some ar.arg) (hka : X.env.scope.names.lookup ar.arg = some .local)
    (hf : X.K.lookup f = some ⟨oc, od, .func fd, osl⟩) (hp : (fd.params.posonlyargs ++ fd.params.args).head? = some ar)
    (hcode : X.K.lookup cdA = some ⟨ccl, cdd, .fields vs, ccs⟩) (hvs : vs[2]? = some (.str file tf)) (hfile : ((X.prog.main.file : Str) == file) = true)
    (hcell : X.K.lookup cc = some ⟨cl, cld, .cell (some (.ref D)), csl⟩) (c : Cls X.K C) (cD : Cls X.K D) (hm : X.mg "super" = none) (hks : X.env.scope.names.lookup ("super" : Str) = some .globalImplicit) (hkc : X.env.scope.names.lookup ("__class__" : Str) = some .free)
    (htop : (X.prog.main.scope.names.lookup ("super" : Str)).isSome = false) (hst : PySem.W.nsIn X.K cStatics "thirdparty.any" = some none)
    (hmro : PySem.W.mroIn X.K C (.ref D) = some true) (hat : PySem.W.ks_superIn X.K C D m = some (some (.ref g))) (hty : PySem.W.typeIn X.K (.ref g) = some (.type "function")) (hfi : PySem.W.fnIn X.K g = true)
    (ha : PA X (e :: es) t) (hjk : j ≤ k) (hnc : (m == ("__class__" : Str)) = false)
    (he : eval (.Call (.Attribute (.Call (.Name "super" p0) [] [] p1) m apos) (e :: es) [] pos) X.env = (do
      let ov ← attributeBase (.Call (.Name "super" p0) [] [] p1) m X.env (eval (.Call (.Name "super" p0) [] [] p1) X.env)
      standAt apos.atName
      let (f, first) ← holding [ov] (getMethod ov m pl)
      callWith pos f first (backTo pos (starEach (e :: es) X.env)) []) := by rfl)
    (hst1 : starEach (e :: es) X.env = (false, eval e X.env) :: starEach es X.env := by rfl) (hpl : (backTo pos (starEach es X.env)).any (·.1) = false := by rfl) :
    PEA X B (.Call (.Attribute (.Call (.Name "super" p0) [] [] p1) m apos) (e :: es) [] pos) (tSup C g m sp t) := by
  refine ⟨fun pins s σ H Q I h => ?_⟩
  obtain ⟨x, dx, fs, hσ, hx, hq⟩ := h
  refine ks_wpAt_MethodCall (pl := pl) ?_ he
  have KX := I.kIn
  obtain ⟨cdD, hclsD⟩ : ∃ cd, PySem.W.clsIn X.K D = some cd := by
    obtain ⟨cd, hc, _⟩ := PySem.W.any_some cD.hd
    exact ⟨cd, hc⟩
  obtain ⟨cdC, hclsC⟩ : ∃ cd, PySem.W.clsIn X.K C = some cd := by
    obtain ⟨cd, hc, _⟩ := PySem.W.any_some c.hd
    exact ⟨cd, hc⟩
  have clsObj : ∀ {a : Addr} {cd : ClassData}, PySem.W.clsIn X.K a = some cd → ∃ o, s.heap.get? a = some o ∧ o.data = .cls cd := fun {a cd} q => by
    unfold PySem.W.clsIn at q
    split at q
    · rename_i c' d' cd' sl ho
      cases q
      exact ⟨_, KX _ _ ho, rfl⟩
    · cases q
  obtain ⟨oD, hD1, hD2⟩ := clsObj hclsD
  obtain ⟨mA, O, _, _, _, _⟩ := ins_get I.hok hx
  obtain ⟨odx, J, _⟩ := O.look
  have hxC : x ≠ C := by
    rintro rfl
    obtain ⟨o, h1, h2⟩ := clsObj hclsC
    have e1 := J.at_
    rw [h1] at e1
    cases e1
    cases h2
  have hkind : X.env.scope.kind = .function := I.ok.kind
  have hks' : X.env.kindOf "super" = some .globalImplicit := hks
  have hkc' : X.env.kindOf "__class__" = some .free := hkc
  obtain ⟨m0, hn0, hl0⟩ := id I.loc
  obtain ⟨u0, hu0, lk0⟩ := hl0 0 ar.arg (.ref x) hN hσ (.inl hka)
  cases hu0
  have hv0 : m0 ar.arg = some (.ref x) := by
    rcases lk0 with ⟨_, z⟩ | ⟨z, _⟩
    · exact z
    · have z' : X.env.scope.names.lookup ar.arg = some .cell ∨ X.env.scope.names.lookup ar.arg = some .free := z
      rw [hka] at z'
      rcases z' with z' | z' <;> cases z'
  obtain ⟨mb, hb1, hb2⟩ := I.mod.blt
  refine ks_wpAt_super_base (env := X.env) hks' hkc' hnc hfu (KX _ _ hf) rfl hp hco (KX _ _ hcode) rfl hvs hfile htop ?_
  refine PySem.W.ks_loadName_global hkind hks' (Calls.loadGlobal_builtin (by rw [I.ok.glob]; exact I.mod.glob.keeps I.bk) hm (by rw [I.ok.blt]; exact hb1.keeps I.bk) ((hb2 "super" (by decide)).trans (show bootBuiltins "super" = some (.type "super") by decide +kernel)) ⟨rfl, ?_⟩)
  refine wpAny_loadName_free hkind hkc' hcells ⟨_, KX _ _ hcell, rfl⟩ ?_
  refine wpAny_loadName_local hkind hka hn0 hv0 ?_
  obtain ⟨hh, gg, dd, tt, oos⟩ := s
  refine ks_wpAny_isType_cls hD1 hD2 ⟨rfl, ?_⟩
  refine ks_wpAny_call_super hD1 hD2 J.at_ J.cls (fun c' e' => ?_) (PySem.W.looks_mroIn KX hmro) (fun h' e' kk => ?_)
  · have z := J.no
    unfold PySem.W.notCls at z
    rw [e'] at z
    exact Bool.noConfusion z
  -- the super object stands
  have I1 : Inv X pins σ H ⟨h', gg, dd, tt, oos⟩ := I.kept (t' := tt) kk
  have KX1 := I1.kIn
  obtain ⟨og, hog, hogc⟩ : ∃ og, h'.get? g = some og ∧ og.cls = .type "function" := by
    have ht' : (X.K.lookup g).map (·.cls) = some (.type "function") := hty
    cases z : X.K.lookup g with
    | none => rw [z] at ht'; cases ht'
    | some og => rw [z] at ht'; exact ⟨og, KX1 _ _ z, Option.some.inj ht'⟩
  have hat' : PySem.W.alongIn X.K m ((cdC.mro.dropWhile (· != .ref D)).drop 1) = some (some (.ref g)) := by
    unfold PySem.W.ks_superIn at hat
    rw [hclsC] at hat
    exact hat
  refine ks_wpAny_getMethod_super e' (PySem.W.looks_opaque KX1 hst) (l₀ := cdC.mro) ?_ rfl KX1 hat' hog hogc hxC hnc ?_
  · exact fun A Q E s k q => wpAny_bind ((PySem.W.looks_clsIn KX1 hclsC) A _ E s k (wpAny_pure q))
  have hH : H h'.objs.size = none := I1.hok.fresh (Nat.le_refl _)
  have I2 : Inv X pins σ (upd H h'.objs.size (.met g x)) ⟨h'.push (PySem.W.methodObj (.ref g) (.ref x)), gg, dd, tt + 1, oos⟩ :=
    I1.laid (t' := tt + 1) (a := h'.objs.size) (o := .met g x) (fun b u z => Heap.get?_push_of_some _ z) (Nat.le_refl _)
      (show (h'.push (PySem.W.methodObj (.ref g) (.ref x))).get? h'.objs.size = some (PySem.W.methodObj (.ref g) (.ref x)) from Heap.get?_push_size h' rfl)
  show wpAny (model X.prog X.w) X.A (callWith pos (.ref h'.objs.size) [] (backTo pos (starEach (e :: es) X.env)) []) _ _ _
  rw [hst1]
  refine callwith_met (a := x) (by show ((false || (backTo pos (starEach es X.env)).any (·.1)) || false) = false; rw [hpl]; rfl) hfi ?_
  have run := ha.run pos pins _ σ _ _ I2 (hq h'.objs.size hH)
  rw [hst1] at run
  refine Calls.evalArgs_plain (thn run fun us s2 ⟨ws, H2, I3, rv, hm2, hsp⟩ => ?_)
  exact ⟨met_P I3 hm2, wpAny_call (call_met I3 hm2 (run_fnR (us := Value.ref x :: us) (vs := V.ref x :: ws) F (hr.mono hjk) pass0 I3 (.cons rfl rv) hsp))⟩
end
/-! ### the defs that say super(), as the top has left them -/
theorem funS_of {K : PySem.W.Frag} {mg : Str → Option Value} (T : Tx K mg) {d : DD} {C : Str} (h : d ∈ dds) (hc : d.clo = some C) : ∃ cdA cc fd, FunS K d.name d.qual d.st (d.pl.ad K) (ga K C) cdA cc fd := by
  have F := T.def_ d h
  have e := F.vl
  have cd := F.cd
  have cl := F.cl
  unfold fo DD.val at e
  unfold fdOf at cd cl
  rw [hc] at e cl
  cases q : K.lookup (d.pl.ad K) with
  | none =>
    rw [q] at e
    cases e
  | some ob =>
    obtain ⟨oc, od, dt, osl⟩ := ob
    rw [q] at e cd cl
    cases dt with
    | func fd =>
      obtain ⟨n1, n2, n3, n4, n5, n6, n7, n8, n9, n10, n11, n12, n13, n14, n15⟩ := fd
      have e2 : (some (n1, n2, n3, n4, n5, n6, n7.map (·.1), n8, n15) : FO) = (some (d.name, d.qual, defArgs d.st, FuncBody.stmts (defBody d.st), defScope d.st, mainGlobals, [("__class__" : Str)], Value.none, builtinsNs) : FO) := e
      simp only [Option.some.injEq, Prod.mk.injEq] at e2
      obtain ⟨h1, h2, h3, h4, h5, h6, h7, h8, h9⟩ := e2
      subst h1 h2 h3 h4 h5 h6 h8 h9
      unfold cloOk at cl
      simp only [Bool.and_eq_true] at cl
      obtain ⟨cl1, cl2⟩ := cl
      cases n7 with
      | nil =>
        have := congrArg List.length h7
        simp at this
      | cons p r =>
        cases r with
        | cons _ _ =>
          have := congrArg List.length h7
          simp at this
        | nil =>
          obtain ⟨pn, cc⟩ := p
          have hpn : pn = ("__class__" : Str) := by
            have := List.cons.inj h7
            exact this.1
          subst hpn
          simp only at cl1
          split at cl1
          · rename_i _ _ D _ hcell
            have eD : D = ga K C := beq_iff_eq.mp cl1
            subst eD
            split at cl2
            · rename_i c
              split at cl2
              · rename_i _ _ vs _ hcode
                split at cl2
                · rename_i _ _ file tf _ hvs
                  have ef := beq_iff_eq.mp cl2
                  subst ef
                  refine ⟨c, cc, _, ⟨⟨oc, od, _, _, _, _, _, osl, rfl, q⟩, cd, ⟨_, _, vs, _, tf, hcode, ?_⟩, ⟨_, _, _, hcell⟩, F.kp⟩⟩
                  rw [← Array.getElem?_toList, hvs]
                  rfl
                · cases cl2
              · cases cl2
            · cases cl2
          · cases cl1
    | _ => cases e
end K7
set_option Elab.async false
set_option linter.all false
set_option maxRecDepth 100000
set_option maxHeartbeats 4000000
namespace K7
open PySem PySem.Spec PyProof.Rows L2
/-! ### enumerate of a tuple -/
abbrev tupIt (t : Addr) : Obj := { cls := .type "tuple_iterator", data := .fields #[.ref t, .int 0 0] }
abbrev enumOb (i : Addr) : Obj := { cls := .type "enumerate", data := .fields #[.none, .bool false, .ref i, rawInt 0, .none, .none] }
theorem meets_enumT (t : Addr) (items : Array Value) :
    Meets (Builtin.«enumerate.__new__» ⟨[.type "enumerate", .ref t], []⟩) (fun _ R s => s.heap.IsTuple t items ∧
      R (.ok (.ret (.ref (s.heap.push (tupIt t)).objs.size))) { s with heap := (s.heap.push (tupIt t)).push (enumOb s.heap.objs.size) }) :=
  .of_wp fun prog w A R s h => by
    obtain ⟨hp, g, d, tk, os⟩ := s
    obtain ⟨hl, h⟩ := h
    have hsub := sub_enumerate
    have q1 : ∀ {A' : Around} {E : Value → Shared → Prop} {Q : Value → Shared → Prop}, Q (.ref hp.objs.size) ⟨hp.push (tupIt t), g, d, tk, os⟩ → wpAny (model prog w) A' (pyIter (.ref t)) Q E ⟨hp, g, d, tk, os⟩ :=
      fun q => wpAny_pyIter_tuple hl q
    wp_walk using q1
    refine wpAny_stack_any fun st => wpAny_pure ?_
    split
    · rename_i c _ _ _ _ _
      cases (c == Value.type "enumerate") <;> (wp_walk using q1; exact ⟨_, rfl, h⟩)
    · wp_walk using q1
      exact ⟨_, rfl, h⟩
theorem call_enumT {prog : Program} {w : World} {A : Around} {E : Value → Shared → Prop} {s : Shared} {t : Addr} {items : Array Value} {Q : Value → Shared → Prop} (hL : s.heap.IsTuple t items)
    (h : ∀ h', IsEnum h' (s.heap.objs.size + 1) s.heap.objs.size 0 .none → h'.IsTupleIter s.heap.objs.size t 0 → (∀ b o, s.heap.get? b = some o → h'.get? b = some o) → Q (.ref (s.heap.objs.size + 1)) { s with heap := h' }) :
    wpAny (model prog w) A (call (.type "enumerate") [.ref t]) Q E s := by
  refine callType_new F.called_enumerate (by decide) (F.typeCall_enumerate_1 _) (F.newCall_enumerate_1 _) (fun obj => F.args_object_init_2 obj _) F.entry_enumerate_new (meets_enumT t items) ⟨hL, ?_⟩
  have hz : (s.heap.push (tupIt t)).objs.size = s.heap.objs.size + 1 := Heap.size_push ..
  have he : IsEnum ((s.heap.push (tupIt t)).push (enumOb s.heap.objs.size)) (s.heap.objs.size + 1) s.heap.objs.size 0 .none := by
    have q := Heap.get?_push_size (s.heap.push (tupIt t)) (o := enumOb s.heap.objs.size) rfl
    rw [hz] at q
    exact q
  show _ ∧ _
  rw [hz]
  exact ⟨⟨_, he, rfl⟩, h _ he ⟨_, Heap.get?_push_of_some _ (Heap.get?_push_size _ rfl), rfl, rfl⟩ fun b o x => Heap.get?_push_of_some _ (Heap.get?_push_of_some _ x)⟩
/-- each item in a new pair -/
def IteT (K : PySem.W.Frag) (a : Addr) : It :=
  ⟨fun i H => ∃ (xs : List V) (x : V), SqT K H a xs ∧ xs[i]? = some x, fun i H v H' => ∃ T x, v = .ref T ∧ H T = none ∧ H' = upd H T (.tup [.int (i : Nat), x]) ∧ ∀ xs, SqT K H a xs → xs[i]? = some x, fun i H => ∃ xs : List V, SqT K H a xs ∧ xs.length = i⟩
theorem turn_enumT {P : Program} {w : World} {K : PySem.W.Frag} {elts : List Expr} {kk : Nat} {tpos : Pos} (a e it : Addr) :
    Turn P w K (.Tuple elts kk tpos) (IteT K a) [e, it] e (fun i h => (∃ old, IsEnum h e it ((i : Nat) : Int) old) ∧ h.IsTupleIter it a i ∧ e ≠ it ∧ e ≠ a ∧ a ≠ it) where
  mem := by simp
  obj := fun i h st b hb => by
    obtain ⟨⟨old, he⟩, ⟨o, ho, hc, hd⟩, _⟩ := st
    rcases (show b = e ∨ b = it by simpa using hb) with rfl | rfl
    · exact ⟨_, he, fun v q => nomatch q⟩
    · exact ⟨o, ho, fun v q => by rw [hd] at q; cases q⟩
  keep := fun i h h' st k => let ⟨⟨old, he⟩, hi, hne⟩ := st; ⟨⟨old, k e (by simp) _ he⟩, hi.at fun o q => k it (by simp) o q, hne⟩
  item := by
    intro X hP hw hK hc i pins s σ H E I hf st hg
    subst hP hw hK
    obtain ⟨⟨old, he⟩, hit, hne, hea, hai⟩ := st
    obtain ⟨xs, x, hq, hx⟩ := hg
    obtain ⟨its, rv, p, hz⟩ := I.tuple hq
    obtain ⟨u, hu, ru⟩ := rv.get hx
    have hel : e < s.heap.objs.size := Heap.lt_size he
    have hil : it < s.heap.objs.size := let ⟨_, q, _⟩ := hit; Heap.lt_size q
    have hlt : i < its.toArray.size := by
      rw [List.size_toArray]
      exact (List.getElem?_eq_some_iff.mp hu).1
    have D := Draws.tuple (prog := X.prog) (w := X.w) (A := X.A.in1) (I.ok.hd hc) it a hai its.toArray
    refine wpAny_pyNext_enum_itemD D he ⟨hit, (show s.heap.IsTuple a its.toArray from p)⟩ hlt hne (by simp [hne, hea]) fun x' h' tk hP' ho hs' hT hsz hk => ?_
    have ex : x' = u := by
      have q : its[i]? = some x' := by simpa using hP'
      rw [hu] at q
      exact (Option.some.inj q).symm
    subst ex
    refine ⟨_, rfl, wpAny_letOwnedTupleGo_enum (s := { s with heap := h', toks := tk + 1 }) ho fun h'' he' sb => ?_⟩
    have kp : ∀ b ob, b ∉ [e, it] → s.heap.get? b = some ob → h''.get? b = some ob := fun b ob hb q => (sb.2 b (fun z => hb (by simp [z]))).trans (hk b ob (fun z => hb (by simp [z])) (fun z => hb (by simp [z])) q)
    have new : ObjOk X.prog X.w (upd H s.heap.objs.size (.tup [.int (i : Nat), x])) h'' s.heap.objs.size (.tup [.int (i : Nat), x]) :=
      ⟨by show 2 ≤ sizeLine; decide, [.int i tk, x'], .cons ⟨_, rfl⟩ (.cons ru .nil), ⟨_, (sb.2 _ (Nat.ne_of_gt hel)).trans hT, rfl, _, rfl⟩⟩
    have I1 : Inv X pins σ (upd H s.heap.objs.size (.tup [.int (i : Nat), x])) { s with heap := h'', toks := tk + 1 } := I.turnedNew (ch := [e, it]) kp hf (Nat.le_refl _) new
    refine ⟨.ref s.heap.objs.size, _, I1, rfl, ⟨_, x, rfl, I.hok.fresh (Nat.le_refl _), rfl, fun ys hy => by rw [I.tuple_inj hy hq]; exact hx⟩, ⟨⟨x', ?_⟩, hs'.1.at fun o q => (sb.2 it (Ne.symm hne)).trans q, hne, hea, hai⟩, fun b hb => ?_⟩
    · rw [show ((i + 1 : Nat) : Int) = (i : Int) + 1 by omega]
      exact he'
    · have hb' : b < s.heap.objs.size := by
        rcases (show b = e ∨ b = it by simpa using hb) with rfl | rfl
        · exact hel
        · exact hil
      rw [upd_ne (Nat.ne_of_lt hb')]
      exact (hf b hb).1
  done := by
    intro X hP hw hK hc i pins s σ H E I hf st hg
    subst hP hw hK
    obtain ⟨⟨old, he⟩, hit, hne, hea, hai⟩ := st
    obtain ⟨xs, hq, hx⟩ := hg
    obtain ⟨its, rv, p, hz⟩ := I.tuple hq
    obtain ⟨f0, f1, f2, f3, f4, f5⟩ := hf it (by simp)
    have hl := rv.length
    have es : i = its.toArray.size := by rw [List.size_toArray, ← hl, hx]
    have D := Draws.tuple (prog := X.prog) (w := X.w) (A := X.A.in1) (I.ok.hd hc) it a hai its.toArray
    rw [← es] at D
    exact wpAny_pyNext_enum_endD D he ⟨hit, (show s.heap.IsTuple a its.toArray from p)⟩ fun h' eb => ⟨rfl, I.turned (t' := s.toks) (fun b o hb q => eb b o hb q) f0 f1 f3 f4 f5⟩
  self := fun A i s Q E st h => let ⟨⟨_, he⟩, _⟩ := st; wpAny_pyIter_enum he h
def iEnumT (K : PySem.W.Frag) (ta : TA) : TI := fun σ H R => ta σ H fun vs H1 => ∃ a xs, vs = [.ref a] ∧ SqT K H1 a xs ∧ R (IteT K a) H1
theorem pi_enumT {X : Cx} {e : Expr} {ta : TA} {p pos tpos : Pos} {elts : List Expr} {kk : Nat} (hg : Gl X "enumerate") (hm : X.mg "enumerate" = none) (ha : PA X [e] ta) (hs : starEach [e] X.env = [(false, eval e X.env)] := by rfl) :
    PI X (.Tuple elts kk tpos) (.Call (.Name "enumerate" p) [e] [] pos) (iEnumT X.K ta) := by
  refine ⟨fun pins s σ H R I h => ?_⟩
  refine Call_ (ld_blt I hg hm boot_enumerate (PyProof.Rows.callWith_type1 (thn (ha.run pos pins s σ H _ I h) fun us s1 ⟨vs, H1, I1, r1, q1⟩ => ?_) hs rfl))
  obtain ⟨a, xs, ex, hq, q⟩ := q1
  subst ex
  obtain ⟨u, rfl, ru⟩ := r1.one
  cases (show u = Value.ref a from ru)
  obtain ⟨its, rv, p', hz⟩ := I1.tuple hq
  have hal : a < s1.heap.objs.size := p'.lt
  refine call_enumT (show s1.heap.IsTuple a its.toArray from p') fun h' he hit hk => wpAny_pyIter_enum he ?_
  have I2 : Inv X pins σ H1 { s1 with heap := h' } := I1.kept (t' := s1.toks) hk
  refine ⟨s1.heap.objs.size + 1, [s1.heap.objs.size + 1, s1.heap.objs.size], _, _, H1, rfl, I2, turn_enumT a (s1.heap.objs.size + 1) s1.heap.objs.size, ⟨⟨.none, he⟩, hit, Nat.succ_ne_self _, Nat.ne_of_gt (Nat.lt_succ_of_lt hal), Nat.ne_of_lt hal⟩, fun b hb => ?_, q⟩
  have hle : s1.heap.objs.size ≤ b := by
    rcases (show b = s1.heap.objs.size + 1 ∨ b = s1.heap.objs.size by simpa using hb) with z | z
    · rw [z]; exact Nat.le_add_right _ _
    · rw [z]; exact Nat.le_refl _
  exact I1.fpOk hle (I1.hok.fresh hle)
end K7
set_option Elab.async false
set_option linter.all false
set_option maxRecDepth 100000
set_option maxHeartbeats 4000000
namespace K7
open PySem PySem.Spec PyProof.Rows L2
section
variable {X : Cx}
theorem addI_ok {pins : List (Addr × Obj)} {σ : L2.St} {H : Hp} {s : Shared} {E : Value → Shared → Prop} {D : Addr} {S : Int → Bool} {n : Nat} {y : Int} {t : Tok} {Q : Value → Shared → Prop} (I : Inv X pins σ H s) (hD : H D = some (SetO X.w D S n)) (room : n + 1 < scanBound)
    (h : ∀ s', Inv X pins σ (upd H D (SetO X.w D (fun j => S j || decide (j = y)) (if S y = true then n else n + 1))) s' → Q .none s') : wpAny (model X.prog X.w) X.A (call (.builtin "set.add") [.ref D, .int y t]) Q E s := by
  have R := setO_get I hD
  refine setR_add R room fun h' sb new => ?_
  have he : ∃ u, h'.get? D = some u := by
    have ⟨o, _, _, _, ho, _⟩ := new
    exact ⟨o, ho⟩
  exact h _ (I.write (e := D) (t' := s.toks + 1) (by rw [hD]; trivial) (.inl rfl) (fun b u hb hu => (sb.2 b hb).trans hu) he (setO_new new))
def tScI (w : World) (wi : TI) (g : TG) (tt : TT) (te : TE) (vs : List Nat) : TE := fun σ H Q => wi σ H fun J H1 => ∀ D, H1 D = none → ∃ W : Nat → Nat → Hp → Prop, (∃ m, W 0 m (upd H1 D (SetO w D (fun _ => false) 0))) ∧ ∀ i m H, W i m H →
  (J.stop i H ∧ Q (.ref D) H) ∨ (J.go i H ∧ ∃ Nx : Hp → Prop, (∀ H', Nx H' → ∃ m', m' < m ∧ W (i + 1) m' H') ∧ ∀ x H', J.yld i H x H' → g x (wipe σ vs) H' fun σ2 H2 => wipe σ2 vs = wipe σ vs ∧ tt σ2 H2 fun b H3 =>
    if b = true then te σ2 H3 fun y H4 => ∃ (c : Int) (S : Int → Bool) (n : Nat), y = .int c ∧ H4 D = some (SetO w D S n) ∧ n + 1 < scanBound ∧ Nx (upd H4 D (SetO w D (fun j => S j || decide (j = c)) (if S c = true then n else n + 1))) else Nx H3)
theorem scI_core {pins : List (Addr × Obj)} {s : Shared} {σ : L2.St} {H : Hp} {Q : VK} {elt tg iter : Expr} {ifs : List Expr} {scope : Scope} {own : List (PySem.Str × Nat)} {pos pos' : Pos} {wi : TI} {g : TG} {tt : TT} {te : TE} {use : Option (Value → Sem Unit)} {Qf : Value → Shared → Prop}
    (hc : X.calm = true) (hN : X.N.Nodup) (I : Inv X pins σ H s) (hi : PI X tg iter wi) (ok : BlkOk X.N X.env.scope scope own)
    (hg : ∀ (s : Shared) (H : Hp) (C : Addr) (cl : List (PySem.Str × Addr)) (fp : List Addr), PG (X.blk s H scope (compEnvC scope cl C X.env) fp) tg g) (ht : ∀ (s : Shared) (H : Hp) (C : Addr) (cl : List (PySem.Str × Addr)) (fp : List Addr), PTs (X.blk s H scope (compEnvC scope cl C X.env) fp) ifs tt)
    (he : ∀ (s : Shared) (H : Hp) (C : Addr) (cl : List (PySem.Str × Addr)) (fp : List Addr), PE (X.blk s H scope (compEnvC scope cl C X.env) fp) elt te) (hs : ∀ x, foldedSetIterable iter X.env x = pure x)
    (h : tScI X.w wi g tt te (own.map (·.2)) σ H Q)
    (hRR : ∀ D C s' m H', Inv X pins σ H' s' → Q (.ref D) H' → s'.heap.Ns C m → FpOk X pins H' C → compPost (model X.prog X.w) X.A X.xe use Qf (.ref D) C (.ok .next) s') :
    wpAny (model X.prog X.w) X.A (comprehension (.SetComp elt [⟨tg, iter, ifs, 0⟩] scope pos) scope X.env pos' (newSet (.type "set")) false (eval iter X.env) use) Qf X.xe s := by
  have hfree : ∀ y ∈ scope.names, y.2 = .free → ∃ c, X.env.cells.lookup y.1 = some c := fun y hy e => by
    rcases ok.free y hy e with k | k
    · exact I.ok.has _ (.inl k)
    · exact I.ok.has _ (.inr k)
  refine wpAny_comprehension_free (use := use) rfl hs (closure_ok hfree) ok.kind (fun y hy e => by rw [ok.uniq y hy, e])
    (thn (hi.run pins s σ H _ I h) fun xv s1 hx => thn hx fun itv s2 h2 => ?_)
  obtain ⟨it, fp, tn, J, H2, e, I2, T, st2, f2, q⟩ := h2
  subst e
  refine PpSet.newSet_ok (newEnv_comp ?_)
  generalize hD : s2.heap.objs.size = D
  have hDn : H2 D = none := I2.hok.fresh (Nat.le_of_eq hD)
  obtain ⟨W, ⟨m0, w0⟩, turn⟩ := q D hDn
  -- the new list
  generalize hs3 : ({ s2 with heap := s2.heap.push { cls := .type "set", dict := none, data := .set #[] 0 (.fresh 0 0 (!X.w.params.followText "set-order")) } } : Shared) = s3
  have I3 : Inv X pins σ (upd H2 D (SetO X.w D (fun _ => false) 0)) s3 := by
    rw [← hs3]
    refine I2.laid (t' := s2.toks) (fun b o e => Heap.get?_push_of_some _ e) (Nat.le_of_eq hD) ?_
    rw [← hD]
    exact setO_new (setR_fresh X.w)
  have h3 : s3.heap = s2.heap.push { cls := .type "set", dict := none, data := .set #[] 0 (.fresh 0 0 (!X.w.params.followText "set-order")) } := by rw [← hs3]
  have sz : ∀ b ∈ fp, b < s2.heap.objs.size := fun b hb => by
    obtain ⟨o, e, _⟩ := T.obj _ _ st2 b hb
    exact Heap.lt_size e
  have f3 : ∀ b ∈ fp, FpOk X pins (upd H2 D (SetO X.w D (fun _ => false) 0)) b ∧ b < s3.heap.objs.size := fun b hb => by
    have hlt := sz b hb
    refine ⟨⟨?_, (f2 b hb).2⟩, by rw [h3, Heap.size_push]; exact Nat.lt_succ_of_lt hlt⟩
    rw [upd_ne (by rw [← hD]; exact Nat.ne_of_lt hlt)]
    exact (f2 b hb).1
  have st3 : tn 0 s3.heap := T.keep _ _ _ st2 fun b _ o e => by rw [h3]; exact Heap.get?_push_of_some _ e
  have I4 := block_start I3 ok hN f3
  have pg := hg s3 (upd H2 D (SetO X.w D (fun _ => false) 0)) s3.heap.objs.size (cellsFrom (s3.heap.objs.size + 1) scope.names (cloFrom X.env.cells scope.names [])) fp
  have pt := ht s3 (upd H2 D (SetO X.w D (fun _ => false) 0)) s3.heap.objs.size (cellsFrom (s3.heap.objs.size + 1) scope.names (cloFrom X.env.cells scope.names [])) fp
  have pe := he s3 (upd H2 D (SetO X.w D (fun _ => false) 0)) s3.heap.objs.size (cellsFrom (s3.heap.objs.size + 1) scope.names (cloFrom X.env.cells scope.names [])) fp
  show codeAny _ _ (.compStart (.SetComp elt [⟨tg, iter, ifs, 0⟩] scope pos) 0 (.ref it) (.ref D) (compEnvC scope (cellsFrom (s3.heap.objs.size + 1) scope.names (cloFrom X.env.cells scope.names [])) s3.heap.objs.size X.env)) (compPost (model X.prog X.w) X.A X.xe use Qf (.ref D) s3.heap.objs.size) { s3 with heap := pushCells (s3.heap.push { cls := .type "dict", data := .dict #[] }) scope.names }
  have nfp : ∀ b ∈ fp, (upd H2 D (SetO X.w D (fun _ => false) 0)) b = none := fun b hb => (f3 b hb).1.1
  generalize hce : compEnvC scope (cellsFrom (s3.heap.objs.size + 1) scope.names (cloFrom X.env.cells scope.names [])) s3.heap.objs.size X.env = ce at I4 pg pt pe ⊢
  have cL : ce.locals = s3.heap.objs.size := by subst hce; rfl
  generalize hH3 : upd H2 D (SetO X.w D (fun _ => false) 0) = H3 at I3 I4 pg pt pe w0 nfp f3
  generalize hs4 : ({ s3 with heap := pushCells (s3.heap.push { cls := .type "dict", data := .dict #[] }) scope.names } : Shared) = s4 at I4 ⊢
  have st4 : tn 0 s4.heap := T.keep _ _ _ st3 fun b _ o e => by rw [← hs4]; exact pushCells_keeps _ _ _ _ (Heap.get?_push_of_some _ e)
  have stat : ∀ {σ' : L2.St} {H' : Hp} {s' : Shared}, Inv (X.blk s3 H3 scope ce fp) [] σ' H' s' → (∀ b ∈ fp, H' b = none) → ∀ b ∈ fp, FpOk (X.blk s3 H3 scope ce fp) [] H' b := fun {σ' H' s'} I' hn b hb =>
    ⟨hn b hb, (I'.ok.exf b hb).1, I'.ok.exfs b hb, .inl hb, fun x c e => (I'.ok.exf b hb).2 x c e, fun p hp => absurd (show p ∈ ([] : List (Addr × Obj)) ++ [] from hp) (by simp)⟩
  have loop : codeAny (model X.prog X.w) X.A (.compLoop (.SetComp elt [⟨tg, iter, ifs, 0⟩] scope pos) 0 (.ref it) (.ref D) ce) (compPost (model X.prog X.w) X.A X.xe use Qf (.ref D) s3.heap.objs.size) s4 := by
    refine PpSet.compLoopS_any (fun n s' => ∃ i H', Inv (X.blk s3 H3 scope ce fp) [] (wipe σ (own.map (·.2))) H' s' ∧ tn i s'.heap ∧ (∀ b ∈ fp, H' b = none) ∧ W i n H') ?_ m0 ⟨0, H3, I4, st4, nfp, w0⟩
    rintro n s5 ⟨i, H5, I5, st5, n5, w5⟩
    rcases turn i n H5 w5 with ⟨stop, qq⟩ | ⟨go, Nx, hNx, step⟩
    · have td := T.done (X.blk s3 H3 scope ce fp) rfl rfl rfl hc i [] s5 _ H5 (fun _ _ => False) I5 (stat I5 n5) st5 stop
      refine thnF td fun r s6 ⟨hr, I6⟩ => ?_
      subst hr
      -- back in the def's context
      have I7 : Inv X pins σ H5 s6 := I3.call' (ch := fp) I6.os I6.base I6.hok I6.bare fun b hb => ⟨(f3 b hb).1.2.2.2.1, (f3 b hb).1.2.1, (f3 b hb).1.2.2.2.2.1, (f3 b hb).1.2.2.2.2.2⟩
      have nC : H5 s3.heap.objs.size = none := by
        have z : H5 ce.locals = none := I6.free
        rw [cL] at z
        exact z
      obtain ⟨m, hn, _⟩ := I6.loc
      have hn : s6.heap.Ns ce.locals m := hn
      rw [cL] at hn
      exact hRR D s3.heap.objs.size s6 m H5 I7 qq hn (I3.fpOk (Nat.le_refl _) nC)
    · have ti := T.item (X.blk s3 H3 scope ce fp) rfl rfl rfl hc i [] s5 _ H5 (fun _ _ => False) I5 (stat I5 n5) st5 go
      refine thnF ti fun r s6 ⟨u, hr, h6⟩ => ?_
      subst hr
      refine thnF h6 fun _ s7 ⟨x, H7, I7, r7, y7, st7, n7⟩ => ?_
      have I7' := I7.pinned (stat I7 n7) (T.obj _ _ st7)
      refine thnF (pg.run _ s7 _ H7 x u _ I7' r7 (step x H7 y7)) fun _ s8 ⟨σ8, H8, I8, hw8, q8⟩ => ?_
      refine thnF (pt.run _ s8 σ8 H8 _ I8 q8) fun b s9 ⟨H9, I9, q9⟩ => ?_
      -- the turn's end
      have fin : ∀ {s' : Shared} {H' : Hp}, Inv (X.blk s3 H3 scope ce fp) ([] ++ pinsAt fp s7.heap) σ8 H' s' → Nx H' → ∃ m, m < n ∧ ∃ i H', Inv (X.blk s3 H3 scope ce fp) [] (wipe σ (own.map (·.2))) H' s' ∧ tn i s'.heap ∧ (∀ b ∈ fp, H' b = none) ∧ W i m H' := fun {s' H'} I' nx => by
        obtain ⟨m', hm, w'⟩ := hNx H' nx
        have pin' : ∀ b ∈ fp, ∀ o, s7.heap.get? b = some o → s'.heap.get? b = some o ∧ H' b = none := fun b hb o e =>
          let z := I'.pin (b, o) (List.mem_append_right _ (List.mem_append_right _ (mem_pinsAt hb e)))
          ⟨z.1, z.2.1⟩
        have hl : (wipe σ (own.map (·.2))).length = σ8.length := by rw [← hw8, wipe_length]
        refine ⟨m', hm, i + 1, H', (I'.unpinned (pins := [])).weak hl (fun j v e => ?_), T.keep _ _ _ st7 fun b hb o e => (pin' b hb o e).1, fun b hb => ?_, w'⟩
        · rw [← hw8] at e
          exact (wipe_some e).1
        · obtain ⟨o, e, _⟩ := T.obj _ _ st7 b hb
          exact (pin' b hb o e).2
      cases b with
      | false =>
        simp only [Bool.false_eq_true, if_false] at q9 ⊢
        exact fin I9 q9
      | true =>
        simp only [if_true] at q9 ⊢
        refine thnF (pe.run _ s9 σ8 H9 _ I9 q9) fun z s10 ⟨yv, H10, I10, r10, cb, S0, n0, ey, hD10, hz10, nx⟩ => ?_
        subst ey
        obtain ⟨tkz, ez⟩ := (show ∃ t, z = Value.int cb t from r10)
        subst ez
        exact addI_ok (X := X.blk s3 H3 scope ce fp) I10 hD10 hz10 fun s11 I11 => fin I11 nx
  exact PpSet.codeAny_compStart_set loop (T.self X.A 0 _ _ _ st4 loop)
/-- as a value -/
theorem pe_scI {elt tg iter : Expr} {ifs : List Expr} {scope : Scope} {own : List (PySem.Str × Nat)} {pos : Pos} {wi : TI} {g : TG} {tt : TT} {te : TE} (hc : X.calm = true) (hN : X.N.Nodup) (hi : PI X tg iter wi) (ok : BlkOk X.N X.env.scope scope own)
    (hg : ∀ (s : Shared) (H : Hp) (C : Addr) (cl : List (PySem.Str × Addr)) (fp : List Addr), PG (X.blk s H scope (compEnvC scope cl C X.env) fp) tg g) (ht : ∀ (s : Shared) (H : Hp) (C : Addr) (cl : List (PySem.Str × Addr)) (fp : List Addr), PTs (X.blk s H scope (compEnvC scope cl C X.env) fp) ifs tt)
    (he : ∀ (s : Shared) (H : Hp) (C : Addr) (cl : List (PySem.Str × Addr)) (fp : List Addr), PE (X.blk s H scope (compEnvC scope cl C X.env) fp) elt te) (hs : ∀ x, foldedSetIterable iter X.env x = pure x := by intro _; rfl) :
    PE X (.SetComp elt [⟨tg, iter, ifs, 0⟩] scope pos) (tScI X.w wi g tt te (own.map (·.2))) := by
  refine ⟨fun pins s σ H Q I h => ?_⟩
  rw [PpSet.eval_SetComp]
  refine scI_core hc hN I hi ok hg ht he hs h fun D C s' m H' I' q hn f => ⟨m, hn, fun h'' sb => ?_⟩
  obtain ⟨f0, f1, f2, f3, f4, f5⟩ := f
  exact ⟨.ref D, H', I'.turned (t' := s'.toks) (fun b o hb e => (sb.2 b hb).trans e) f0 f1 f3 f4 f5, rfl, q⟩
end
end K7
set_option Elab.async false
set_option linter.all false
set_option maxRecDepth 100000
set_option maxHeartbeats 4000000
namespace K7
open PySem PySem.Spec PyProof.Rows L2
section
variable {P : Program} {w : World} {A : Around} {E : Value → Shared → Prop} {s : Shared}
theorem call_set_lstI {l : Addr} {items : Array Value} (ns : List Int) {Q : Value → Shared → Prop} (hh : A.handled = none) (hl : s.heap.IsList l items) (hit : IntsAre items.toList ns) (hb : ns.length + 1 < scanBound)
    (h : ∀ (h' : Heap) (tk c : Nat), SetR w h' s.heap.objs.size (fun j => decide (j ∈ ns)) c → c ≤ ns.length → (∀ b o, s.heap.get? b = some o → h'.get? b = some o) → Q (.ref s.heap.objs.size) { s with heap := h', toks := tk }) :
    wpAny (model P w) A (call (.type "set") [.ref l]) Q E s := by
  have hisz : items.size = ns.length := by
    have q := IntsAre.length hit
    rw [Array.length_toList] at q
    exact q
  obtain ⟨c, tl, hmro⟩ := F.called_set.mro
  have hmade := F.called_set.made
  have hsub := F.called_set.sub
  refine wpAny_call (codeAny_of_tree ?_)
  show wpAny _ _ (callAny (.type "set") _) _ _ _
  refine wpAny_pure ⟨Code.quiet_builtin _ (by decide +kernel), codeAny_builtin F.entry_type_call ?_⟩
  rw [Around.under_plain (weight_type_call_type "set" [.ref l] []) rfl]
  have h1 := F.called_set.notType
  have h2 := F.called_set.canCreate
  have hct := F.typeCall_set_1 (.ref l)
  repeat (any_goals (first | assumption | wp_step))

  refine codeAny_mono (code_set_led1 (.ref l) (E := E) (Q₁ := fun obj s₁ => obj = .ref s.heap.objs.size ∧ s₁ = { s with heap := s.heap.push { cls := .type "set", dict := none, data := .set #[] 0 (.fresh 0 0 (!w.params.followText "set-order")) } }) ⟨rfl, rfl⟩) fun r s₁ hr => ?_
  cases r with
  | error e => exact hr
  | ok fl =>
    cases fl with
    | ret obj =>
      obtain ⟨rfl, rfl⟩ := hr
      have hS : (s.heap.push { cls := .type "set", dict := none, data := .set #[] 0 (.fresh 0 0 (!w.params.followText "set-order")) }).get? s.heap.objs.size = some { cls := .type "set", dict := none, data := .set #[] 0 (.fresh 0 0 (!w.params.followText "set-order")) } := Heap.get?_push_size _ rfl
      have hT : Shared.TypeIs { s with heap := s.heap.push { cls := .type "set", dict := none, data := .set #[] 0 (.fresh 0 0 (!w.params.followText "set-order")) } } (.ref s.heap.objs.size) "set" := ⟨_, hS, rfl⟩
      have hli := F.called_set.init.lookup
      have hbi := F.called_set.init.bind (.ref s.heap.objs.size)
      repeat (any_goals (first | assumption | wp_step))

      refine codeAny_mono (codeAny_call_builtin (R := wants (fun r s₂ => r = .none ∧ ∃ h' tk c, s₂ = { s with heap := h', toks := tk } ∧ SetR w h' s.heap.objs.size (fun j => decide (j ∈ ns)) c ∧ c ≤ ns.length ∧
          (∀ b o, s.heap.get? b = some o → h'.get? b = some o)) E) F.called_set.init.plain F.entry_set_init (check_set_init_1 hT ?_)) fun r₂ s₂ hr₂ => ?_
      · obtain ⟨ol, hol, hcl, nl, hdl⟩ := hl
        obtain ⟨ocls, odict, odata, oslots⟩ := ol
        simp only at hcl hdl
        subst hcl; subst hdl
        have hol' : (s.heap.push { cls := .type "set", dict := none, data := .set #[] 0 (.fresh 0 0 (!w.params.followText "set-order")) }).get? l = some { cls := .type "list", dict := odict, data := .seq items nl, slots := oslots } := Heap.get?_push_of_some _ hol
        have hsls := F.sub_list_set
        have hslf := F.sub_list_frozenset
        have hne : (Value.type "list" == Value.type "dict") = false := by decide
        have hl1 : (s.heap.push { cls := .type "set", dict := none, data := .set #[] 0 (.fresh 0 0 (!w.params.followText "set-order")) }).IsList l items := ⟨_, hol', rfl, nl, rfl⟩
        unfold Builtin.«set.__init__» noKeywords Builtin.Frozenset.updateFrom
        generalize hPI : pyIter = PI
        wp_walk
        subst hPI

        refine wpAny_pyIter_list hl1 ?_
        refine wpAny_bind (wpAny_runValue ?_)
        have hlS : l < s.heap.objs.size := Heap.lt_size hol
        have hh3 : A.in1.in1.in1.handled = none := by simp [hh]
        have hz1 : (s.heap.push { cls := .type "set", dict := none, data := .set #[] 0 (.fresh 0 0 (!w.params.followText "set-order")) }).objs.size = s.heap.objs.size + 1 := Heap.size_push ..
        have hneI : l ≠ (s.heap.push { cls := .type "set", dict := none, data := .set #[] 0 (.fresh 0 0 (!w.params.followText "set-order")) }).objs.size := by
          rw [Heap.size_push]; exact Nat.ne_of_lt (Nat.lt_succ_of_lt hlS)
        have hSf : s.heap.objs.size ∉ [(s.heap.push { cls := .type "set", dict := none, data := .set #[] 0 (.fresh 0 0 (!w.params.followText "set-order")) }).objs.size, l] := by
          rw [Heap.size_push]; simp only [List.mem_cons, List.mem_singleton, List.not_mem_nil, or_false, not_or]
          exact ⟨Nat.ne_of_lt (Nat.lt_succ_self _), Nat.ne_of_gt hlS⟩
        have hval : ∀ (i : Nat) (v : Value), items[i]? = some v → ∃ k t, ns[i]? = some k ∧ v = .int k t := fun i v hv => by
          have hi : i < ns.length := by rw [← hisz]; exact (Array.getElem?_eq_some_iff.mp hv).1
          obtain ⟨t, e⟩ := PyProof.Rows.IntsAre.int_at hit i v (by rw [Array.getElem?_toList]; exact hv)
          refine ⟨ns[i], t, List.getElem?_eq_getElem hi, ?_⟩
          rw [e, List.getD_eq_getElem?_getD, List.getElem?_eq_getElem hi] <;> rfl
        refine set_update_ints ((Walks.list hh3 _ l hneI items).toS) s.heap.objs.size
          hSf ns hisz hb hval (items.size - 0) 0 _ (by omega) (Nat.zero_le _)
          ⟨⟨_, Heap.get?_push_size _ rfl, rfl, rfl⟩, (hl1.push _)⟩ ?hS0 ?hR
        case hS0 =>
          have hget : ((s.heap.push { cls := .type "set", dict := none, data := .set #[] 0 (.fresh 0 0 (!w.params.followText "set-order")) }).push { cls := .type "list_iterator", data := .fields #[.ref l, .int 0 0] }).get? s.heap.objs.size
              = some { cls := .type "set", dict := none, data := .set #[] 0 (.fresh 0 0 (!w.params.followText "set-order")) } := Heap.get?_push_of_some _ hS
          exact ⟨0, Nat.le_refl 0, setR_new_at hget⟩
        case hR =>
          intro s' c' hm hc' hS'
          obtain ⟨h', g2, d', tk', os'⟩ := s'
          have eg : g2 = s.gens := hm.gens
          have ed : d' = s.drawn := hm.drawn
          have eo : os' = s.os := hm.os
          subst eg; subst ed; subst eo
          show wpAny _ _ _ _ _ _
          refine wpAny_pure ?_
          show wpAny _ _ (ret Value.none) _ _ _
          rw [hisz] at hc'
          refine wpAny_pure ⟨rfl, h', tk', c', rfl, hS', hc', fun b o e => ?_⟩
          have hb0 : b < s.heap.objs.size := Heap.lt_size e
          have hb1 : b ≠ s.heap.objs.size := Nat.ne_of_lt hb0
          have hb2 : b ≠ (s.heap.push { cls := .type "set", dict := none, data := .set #[] 0 (.fresh 0 0 (!w.params.followText "set-order")) }).objs.size := by
            rw [Heap.size_push]; exact Nat.ne_of_lt (Nat.lt_succ_of_lt hb0)
          exact hm.heap b o (by simp only [List.mem_cons, List.mem_singleton, List.not_mem_nil, or_false, not_or]; exact ⟨hb1, hb2⟩) (Heap.get?_push_of_some _ (Heap.get?_push_of_some _ e))

      · cases r₂ with
        | error e => exact hr₂
        | ok fl₂ =>
          cases fl₂ with
          | ret r =>
            obtain ⟨rfl, h', tk, c', rfl, hS', hc', hk'⟩ := hr₂
            repeat (any_goals (first | assumption | wp_step))
            exact h _ _ _ hS' hc' hk'
          | _ => exact hr₂.elim
    | _ => exact hr.elim

end
end K7
set_option Elab.async false
set_option linter.all false
set_option maxRecDepth 100000
set_option maxHeartbeats 4000000
namespace K7
open PySem PySem.Spec PyProof.Rows L2
section
variable {X : Cx}
/-! ### sets of ints -/
def rSetL (X : Cx) : List V → Hp → VK → Prop := fun xs H Q => ∃ (a : Addr) (ns : List Int), xs = [.ref a] ∧ SqL X.K H a (ns.map V.int) ∧ ns.length ≤ 4000 ∧ ∀ p c, H p = none → c ≤ ns.length → Q (.ref p) (upd H p (SetO X.w p (fun j => decide (j ∈ ns)) c))
theorem cr_setL (hc : X.calm = true) : CallR X (.type "set") (rSetL X) := by
  intro pins s σ H xs us Q I r h
  obtain ⟨a, ns, rfl, hs, hl, q⟩ := h
  obtain ⟨its, rv, pl, hz⟩ := I.list hs
  rw [Vals.ref1 r]
  refine call_set_lstI ns (I.ok.hd hc) pl.isList (by simpa using ints_of_vals rv) (by unfold scanBound; omega) fun h' tk c R hcl hk => ?_
  have hn : H s.heap.objs.size = none := I.hok.fresh (Nat.le_refl _)
  exact ⟨.ref s.heap.objs.size, upd H s.heap.objs.size (SetO X.w s.heap.objs.size (fun j => decide (j ∈ ns)) c), I.laid (t' := tk) hk (Nat.le_refl _) (setO_new R), rfl, q _ c hn hcl⟩
def rLenS (X : Cx) : List V → Hp → VK → Prop := fun xs H Q => ∃ (a : Addr) (S : Int → Bool) (n : Nat), xs = [.ref a] ∧ H a = some (SetO X.w a S n) ∧ n ≤ 4000 ∧ Q (.int (n : Nat)) H
theorem cr_lenS : CallR X (.builtin "len") (rLenS X) := by
  intro pins s σ H xs us Q I r h
  obtain ⟨a, S, n, rfl, ha, hl, q⟩ := h
  rw [Vals.ref1 r]
  obtain ⟨o, es, ep, t, ho, hex, hd, _, _, _, hf, hn⟩ := (setO_get I ha).setOf (P := X.prog)
  exact call_len_set ho hex hd hf (by rw [hn] <;> omega) ⟨.int (n : Nat), H, I.tok _, ⟨_, by rw [hn]⟩, q⟩
/-! ### max of a tuple of ints -/
def rMaxT (K : PySem.W.Frag) : List V → Hp → VK → Prop := fun vs H Q => ∃ (a : Addr) (ns : List Int), vs = [V.ref a] ∧ SqT K H a (ns.map V.int) ∧ 0 < ns.length ∧ ∀ m, m ∈ ns → (∀ y, y ∈ ns → y ≤ m) → Q (.int m) H
theorem max_rawT {P : Program} {w : World} {A : Around} {E : Value → Shared → Prop} {s : Shared} {l : Addr} {its : List Value} {ns : List Int} {Q : Value → Shared → Prop} (hh : A.handled = none) (hl : s.heap.IsTuple l its.toArray) (hi : IntsAre its ns) (hne : 0 < ns.length)
    (h : ∀ h' tk M t', (∀ b o, s.heap.get? b = some o → h'.get? b = some o) → M ∈ ns → (∀ a, a ∈ ns → a ≤ M) → Q (.int M t') { s with heap := h', toks := tk }) : wpAny (model P w) A (call (.builtin "max") [.ref l]) Q E s := by
  obtain ⟨xs, e⟩ := hi.allInts.items
  have hn : numsOf (intItems xs).toList = ns := by rw [← e]; exact hi.numsOf
  rw [nums_intItems] at hn
  subst hn
  rw [e] at hl
  have hsz : 0 < xs.size := by simpa using hne
  have hlt : l < s.heap.objs.size := let ⟨_, q, _⟩ := hl; Heap.lt_size q
  refine call_max_walk (wpAny_pyIter_tuple hl ?_)
  refine ⟨_, [_, l], [_], _, _, _, _, rfl, Walks.tuple (A := A.in1) hh _ l (Nat.ne_of_lt hlt) (intItems xs), ⟨⟨_, Heap.get?_push_size _ rfl, rfl, rfl⟩, hl.push _⟩, fun c hc => ?_, by simpa [intItems] using hsz, CmpOf.ints_gt (numAt xs) (fun _ _ => intItems_at), fun v h' tk hP hk => ?_⟩
  · show c < (s.heap.push _).objs.size
    rw [Heap.size_push]
    rcases (show c = s.heap.objs.size ∨ c = l by simpa using hc) with z | z
    · rw [z]; exact Nat.lt_succ_self _
    · rw [z]; exact Nat.lt_succ_of_lt hlt
  · have hk' : ∀ b o, s.heap.get? b = some o → h'.get? b = some o := fun b o q =>
      hk b o (by rw [List.mem_singleton]; exact Nat.ne_of_lt (Heap.lt_size q)) (Heap.get?_push_of_some _ q)
    obtain ⟨t, rfl⟩ := intItems_at (by simpa [intItems] using hP)
    obtain ⟨h1, h2⟩ := argBest_gt (numAt xs) (xs.size - 1)
    refine h h' tk _ t hk' ?_ fun a ha => ?_
    · rw [numAt_eq]
      refine PySem.getD_mem ?_
      rw [List.length_map, Array.length_toList]
      have h1' : argBest (fun i j => decide (numAt xs j < numAt xs i)) (xs.size - 1) ≤ xs.size - 1 := h1
      omega
    · obtain ⟨j, hj, rfl⟩ := mem_getD ha
      rw [List.length_map, Array.length_toList] at hj
      rw [← numAt_eq]; exact h2 j (by omega)
theorem cr_maxT (hc : X.calm = true) : CallR X (.builtin "max") (rMaxT X.K) := by
  intro pins s σ H vs us Q I r h
  obtain ⟨a, ns, rfl, hs, hne, q⟩ := h
  obtain ⟨its, rv, hl, _⟩ := I.tuple hs
  rw [Vals.ref1 r]
  exact max_rawT (I.ok.hd hc) hl rv.ints hne fun h' tk m t' hk h1 h2 => ⟨.int _, H, I.kept hk, ⟨_, rfl⟩, q m h1 h2⟩
/-! ### own __len__, __getitem__, __eq__ -/
variable {j k : Nat} {C g : Addr} {sp : Sp} {o i : Expr} {to ti : TE} {pos : Pos}
theorem inst_of {a C dx : Addr} {fs : List (Str × V)} {pins : List (Addr × Obj)} {σ : L2.St} {H : Hp} {s : Shared} (I : Inv X pins σ H s) (ea : H a = some (.ins C dx fs)) : ∃ od, PySem.W.InstAt s.heap a (PySem.W.instObj C dx) C od := by
  obtain ⟨mA, O, _, _, _, _⟩ := ins_get I.hok ea
  obtain ⟨od, J, _⟩ := O.look
  exact ⟨od, J⟩
/-- the callee runs one level below -/
theorem run_in1 {pins : List (Addr × Obj)} {σ : L2.St} {H : Hp} {s : Shared} {Q : VK} {us : List Value} {vs : List V} (F : FX X j g sp) (hr : Room (j + 1) X.A) (I : Inv X pins σ H s) (r : Vals vs us) (h : sp vs H Q E0) :
    wpAny (model X.prog X.w) X.A.in1 (call (.ref g) us) (EP X pins σ Q) X.xe s := by
  refine wpAny_call (codeAny_mono (F X.A.in1 X.stack s H us vs Q E0 hr.in1 I.env0.in1 r h) fun r s' hq => ?_)
  cases r with
  | error er => exact hq.elim
  | ok fl =>
    cases fl with
    | ret u => exact I.after hq
    | next => exact False.elim hq
    | brk => exact False.elim hq
    | cont => exact False.elim hq
def rLenO (C : Addr) (sp : Sp) : List V → Hp → VK → Prop := fun xs H Q => ∃ a dx fs, xs = [.ref a] ∧ H a = some (.ins C dx fs) ∧ sp [.ref a] H (fun v H' => ∃ n : Nat, v = .int (n : Nat) ∧ n < 4000 ∧ Q (.int (n : Nat)) H') E0
theorem cr_lenO (hs : PySem.W.findIn X.K (.ref C) "__len__" = some (some (.ref g))) (hf : PySem.W.isFn X.K (.ref g) = true) (F : FX X j g sp) (hr : Room (j + 1) X.A) : CallR X (.builtin "len") (rLenO C sp) := by
  intro pins s σ H xs us Q I r h
  obtain ⟨a, dx, fs, rfl, ea, q⟩ := h
  rw [Vals.ref1 r]
  obtain ⟨od, J⟩ := inst_of I ea
  obtain ⟨m, hF⟩ := I.fr
  refine PySem.W.len_K hF I.ok.mod.kin J hs hf (wpAny_mono (run_in1 (us := [.ref a]) (vs := [.ref a]) F hr I (.cons rfl .nil) q) (fun u s' z => ?_) fun _ _ x => x)
  obtain ⟨v, H', I', rv, n, rfl, hn, qn⟩ := z
  obtain ⟨t, rfl⟩ := rv
  exact ⟨⟨Int.natCast_nonneg _, by omega⟩, ⟨.int (n : Nat), H', I'.tok _, ⟨_, rfl⟩, qn⟩⟩
def tSubO (C : Addr) (sp : Sp) (to ti : TE) : TE := fun σ H Q => to σ H fun x H1 => ti σ H1 fun y H2 => ∃ a dx fs, x = .ref a ∧ H2 a = some (.ins C dx fs) ∧ sp [.ref a, y] H2 Q E0
theorem kc_sub (hs : PySem.W.findIn X.K (.ref C) "__getitem__" = some (some (.ref g))) (hf : PySem.W.isFn X.K (.ref g) = true) (hfi : PySem.W.fnIn X.K g = true) (F : FX X j g sp) (hr : Room k X.A) (ho : PE X o to) (hi : PE X i ti) (hjk : j + 1 ≤ k := by decide)
    (hsl : ∀ x u, subscripted i true (.ref x) u = runValue (.builtin "lifetime.subscript" ⟨[.ref x, u], []⟩) := by with_unfolding_all (intro _ _; rfl)) : PE X (.Subscript o i pos) (tSubO C sp to ti) := by
  refine ⟨fun pins s σ H Q I h => ?_⟩
  refine Subscript_ (thn (ho.run pins s σ H _ I h) fun ov s1 ⟨x, H1, I1, rx, q1⟩ => thn (hi.run pins s1 σ H1 _ I1 q1) fun iv s2 ⟨y, H2, I2, ry, a, dx, fs, ex, ea, q2⟩ => ?_)
  subst ex
  obtain rfl : ov = Value.ref a := rx
  obtain ⟨od, J⟩ := inst_of I2 ea
  obtain ⟨m, hF⟩ := I2.fr
  exact PySem.W.sub_K hF I2.ok.mod.kin J hs hfi hf (run_in1 (us := [.ref a, iv]) (vs := [.ref a, y]) F (hr.mono hjk) I2 (.cons rfl (.cons ry .nil)) q2) (hsl a iv)
def rEqO (C : Addr) (sp : Sp) : R2 := fun x y H Q => ∃ a dx fs b dy gs, x = .ref a ∧ y = .ref b ∧ H a = some (.ins C dx fs) ∧ H b = some (.ins C dy gs) ∧ sp [.ref a, .ref b] H Q E0
theorem op_eqO (hs : PySem.W.findIn X.K (.ref C) "__eq__" = some (some (.ref g))) (hf : PySem.W.isFn X.K (.ref g) = true) (F : FX X j g sp) (hr : Room k X.A) (hjk : j ≤ k := by decide) : OpR X (compareOp .Eq) (rEqO C sp) := by
  intro pins s σ H x y v u Q I rx ry h
  obtain ⟨a, dx, fs, b, dy, gs, rfl, rfl, ha, hb, q⟩ := h
  cases (show v = Value.ref a from rx)
  cases (show u = Value.ref b from ry)
  obtain ⟨od, J⟩ := inst_of I ha
  obtain ⟨od', J'⟩ := inst_of I hb
  obtain ⟨m, hF⟩ := I.fr
  rw [show compareOp .Eq (.ref a) (.ref b) = richCompare .Eq (.ref a) (.ref b) from rfl]
  refine PySem.W.cmp_K (op := .Eq) (tb := .ref C) hr.units0 hF I.ok.mod.kin J J'.type (by unfold PySem.W.notFirst; simp) hs hf ?_
  refine wpAny_mono (wpAny_call (run_fnR (us := [.ref a, .ref b]) (vs := [.ref a, .ref b]) F (hr.mono hjk) pass0 I (.cons rfl (.cons rfl .nil)) q)) (fun w s' z => ?_) fun _ _ x => x
  obtain ⟨z', H', I', rz, qz⟩ := z
  exact SlX.cmpback rz ⟨z', H', I', rz, qz⟩
/-! ### o.f as a target -/
def gFld (K : PySem.W.Frag) (to : TE) (f : Str) : TG := fun v σ H Q => to σ H fun x H1 => ∃ a C dx fs, x = .ref a ∧ H1 a = some (.ins C dx fs) ∧ Cls K C ∧ NoAttr K C f ∧ fs.length < 1000 ∧ Q σ (upd H1 a (.ins C dx (putF f v fs)))
theorem pg_fld {f : Str} (ho : PE X o to) : PG X (.Attribute o f pos) (gFld X.K to f) := by
  refine ⟨fun pins s σ H v u Q I r h => ?_⟩
  rw [assign_Attribute]
  refine wpAny_bind (wpAny_holding (thn (ho.run pins s σ H _ I h) fun ov s1 ⟨x, H1, I1, rx, a, C, dx, fs, ex, ea, c, n, l, q⟩ => ?_))
  subst ex
  obtain rfl : ov = Value.ref a := rx
  refine wpAny_bind (wpAny_standAt (wpAny_bind (wpAny_holding (setattr_ok I1 ea c n l r fun s2 I2 => ?_))))
  exact wpAny_release ⟨σ, _, I2, q⟩
end
end K7
set_option Elab.async false
set_option linter.all false
set_option maxRecDepth 100000
set_option maxHeartbeats 4000000
namespace K7
open PySem PySem.Spec PyProof.Rows L2
/-! ### heaps behind a step -/
/-- p was free -/
structure Nw (H : Hp) (p : Addr) : Prop where
  no : H p = none
/-- all but L stands, nothing goes -/
structure Ext (L : List Addr) (H H' : Hp) : Prop where
  ge : ∀ b o, b ∉ L → H b = some o → H' b = some o
  dom : ∀ b, H' b = none → H b = none
theorem Ext.rfl' {L : List Addr} {H : Hp} : Ext L H H := ⟨fun _ _ _ h => h, fun _ h => h⟩
theorem Ext.get {L : List Addr} {H H' : Hp} {b : Addr} {o : HO} (e : Ext L H H') (n : b ∉ L) (h : H b = some o) : H' b = some o := e.ge b o n h
structure Sub (L' L : List Addr) (H : Hp) : Prop where
  all : ∀ l ∈ L', l ∈ L ∨ H l = none
theorem Sub.nil {L : List Addr} {H : Hp} : Sub [] L H := ⟨fun _ h => absurd h List.not_mem_nil⟩
theorem Sub.cons {l : Addr} {L' L : List Addr} {H : Hp} (h : l ∈ L ∨ H l = none) (s : Sub L' L H) : Sub (l :: L') L H := ⟨fun x hx => (List.mem_cons.mp hx).elim (fun e => e ▸ h) (s.all x)⟩
theorem Ext.tr {L L' : List Addr} {H H1 H2 : Hp} (b : Ext L' H1 H2) (a : Ext L H H1) (s : Sub L' L H) : Ext L H H2 :=
  ⟨fun x o n h => b.ge x o (fun m => (s.all x m).elim n fun z => by rw [z] at h; cases h) (a.ge x o n h), fun x h => a.dom x (b.dom x h)⟩
theorem Ext.fr {L : List Addr} {H H' : Hp} {p : Addr} (e : Ext L H H') (n : Nw H' p) : H p = none := e.dom p n.no
structure Dom (H H' : Hp) : Prop where
  ba : ∀ b, H' b = none → H b = none
theorem Dom.rfl' {H : Hp} : Dom H H := ⟨fun _ h => h⟩
theorem Dom.tr {L : List Addr} {H H1 H2 : Hp} (e : Ext L H1 H2) (d : Dom H H1) : Dom H H2 := ⟨fun b h => d.ba b (e.dom b h)⟩
theorem Dom.fr {H H1 : Hp} {p : Addr} (n : Nw H1 p) (d : Dom H H1) : H p = none := d.ba p n.no
theorem Ext.new {H : Hp} {p : Addr} {o : HO} (h : H p = none) : Ext [] H (upd H p o) :=
  ⟨fun b u _ e => by rw [upd_ne (ne_of_none e h)]; exact e, fun b e => by
    by_cases q : b = p
    · rw [q]; exact h
    · rw [upd_ne q] at e; exact e⟩
theorem Ext.mut {H : Hp} {p : Addr} {o u : HO} (h : H p = some u) : Ext [p] H (upd H p o) :=
  ⟨fun b v n e => by rw [upd_ne (fun z => n (by rw [z]; exact List.mem_cons_self))]; exact e, fun b e => by
    by_cases q : b = p
    · rw [q, upd_same] at e; cases e
    · rw [upd_ne q] at e; exact e⟩
theorem Ext.same {H H' : Hp} (e : Ext [] H H') : Same H H' := fun b o h => e.ge b o List.not_mem_nil h
theorem ne_fresh {H : Hp} {p b : Addr} {o : HO} (np : Nw H p) (h : H b = some o) : b ≠ p := ne_of_none h np.no
theorem ne_fresh' {H : Hp} {p b : Addr} {o : HO} (np : Nw H p) (h : H b = some o) : p ≠ b := (ne_fresh np h).symm
theorem nin_cons {b a : Addr} {L : List Addr} (h : b ≠ a) (n : b ∉ L) : b ∉ a :: L := fun m => (List.mem_cons.mp m).elim h n
theorem get_ne {H : Hp} {a b : Addr} {o u : HO} (h : b ≠ a) (q : H b = some u) : upd H a o b = some u := by rw [upd_ne h]; exact q
/-! ### steps of readings -/
section
variable {σ : L2.St} {H : Hp} {Q : VK} {D : Ends} {K : PySem.W.Frag} {ta tb te tc : TE} {t u : TS} {c : TT}
theorem r_seq (h : t { D with nx := u D } σ H) : tSeq t u D σ H := h
theorem r_next (h : D.nx σ H) : tNext D σ H := h
theorem r_asg {g : TG} (h : te σ H fun x H1 => g x σ H1 D.nx) : tAsg te g D σ H := h
theorem r_drop (h : te σ H fun _ H1 => D.nx σ H1) : tDrop te D σ H := h
theorem r_ret (h : te σ H D.rt) : tRet te D σ H := h
theorem r_retN (h : D.rt .non H) : tRetN D σ H := h
theorem r_name {i : Nat} {v : V} {R : L2.St → Hp → Prop} (h : R (σ.set i (some v)) H) : gName i v σ H R := h
theorem r_ifS (h : c σ H fun b H1 => if b = true then t D σ H1 else u D σ H1) : tIfS c t u D σ H := h
theorem r_var {i : Nat} {v : V} (h : σ[i]? = some (some v)) (q : Q v H) : tVar i σ H Q := ⟨v, h, q⟩
theorem r_c {v : V} (q : Q v H) : tC v σ H Q := q
theorem r_op {r : R2} (h : ta σ H fun x H1 => tb σ H1 fun y H2 => r x y H2 Q) : tOp r ta tb σ H Q := h
theorem r_un {r : V → Hp → VK → Prop} (h : ta σ H fun x H1 => r x H1 Q) : tUn r ta σ H Q := h
theorem r_I0 {g : Int → Int → V} {i j : Int} (h : Q (g i j) H) : rI0 g (.int i) (.int j) H Q := ⟨i, j, rfl, rfl, h⟩
theorem r_I {C : Int → Int → Prop} {g : Int → Int → V} {i j : Int} (hc : C i j) (h : Q (g i j) H) : rI C g (.int i) (.int j) H Q := ⟨i, j, rfl, rfl, hc, h⟩
theorem r_U {g : Int → V} {i : Int} (h : Q (g i) H) : rU g (.int i) H Q := ⟨i, rfl, h⟩
theorem r_eq {x y : V} (s : scal x y = true) (h : Q (.bl (decide (x = y))) H) : rEq x y H Q := ⟨s, h⟩
theorem r_ne {x y : V} (s : scal x y = true) (h : Q (.bl (!decide (x = y))) H) : rNe x y H Q := ⟨s, h⟩
def kB (R : Bool → Hp → Prop) : VK := fun x H => ∃ k, x = .bl k ∧ R k H
theorem r_test {R : Bool → Hp → Prop} (h : te σ H (kB R)) : tTest te σ H R := h
theorem r_tB {R : Bool → Hp → Prop} (h : te σ H (kB R)) : tB te σ H R := h
theorem r_kB {R : Bool → Hp → Prop} {k : Bool} (h : R k H) : kB R (.bl k) H := ⟨k, rfl, h⟩
theorem r_and {c2 : TT} {R : Bool → Hp → Prop} (h : c σ H fun k H1 => if k = true then c2 σ H1 R else R false H1) : tAnd c c2 σ H R := h
theorem r_or {c2 : TT} {R : Bool → Hp → Prop} (h : c σ H fun k H1 => if k = true then R true H1 else c2 σ H1 R) : tOr c c2 σ H R := h
theorem r_not {R : Bool → Hp → Prop} (h : c σ H fun k H1 => R (!k) H1) : tNot c σ H R := h
def kAndV (tb : TE) (σ : L2.St) (Q : VK) : VK := fun x H1 => ∃ c, x = .bl c ∧ if c = true then tb σ H1 Q else Q (.bl false) H1
def kOrV (tb : TE) (σ : L2.St) (Q : VK) : VK := fun x H1 => ∃ c, x = .bl c ∧ if c = true then Q (.bl true) H1 else tb σ H1 Q
def kNotV (Q : VK) : VK := fun x H1 => ∃ c, x = .bl c ∧ Q (.bl (!c)) H1
theorem r_andV (h : ta σ H (kAndV tb σ Q)) : tAndV ta tb σ H Q := h
theorem r_kAndV {k : Bool} (h : if k = true then tb σ H Q else Q (.bl false) H) : kAndV tb σ Q (.bl k) H := ⟨k, rfl, h⟩
theorem r_orV (h : ta σ H (kOrV tb σ Q)) : tOrV ta tb σ H Q := h
theorem r_kOrV {k : Bool} (h : if k = true then Q (.bl true) H else tb σ H Q) : kOrV tb σ Q (.bl k) H := ⟨k, rfl, h⟩
theorem r_notV (h : ta σ H (kNotV Q)) : tNotV ta σ H Q := h
theorem r_kNotV {k : Bool} (h : Q (.bl (!k)) H) : kNotV Q (.bl k) H := ⟨k, rfl, h⟩
theorem r_ifE (h : c σ H fun k H1 => if k = true then ta σ H1 Q else tb σ H1 Q) : tIf c ta tb σ H Q := h
theorem r_iftt {A B : Prop} (h : A) : if true = true then A else B := by rw [if_pos rfl]; exact h
theorem r_ifff {A B : Prop} (h : B) : if false = true then A else B := by rw [if_neg Bool.false_ne_true]; exact h
theorem r_ifnt {A B : Prop} (h : B) : if (!true) = true then A else B := by rw [if_neg (by decide)]; exact h
theorem r_ifnf {A B : Prop} (h : A) : if (!false) = true then A else B := by rw [if_pos (by decide)]; exact h
theorem r_ifT {p A B : Prop} [Decidable p] (h : p) (q : A) : if decide p = true then A else B := by rw [decide_eq_true h]; exact r_iftt q
theorem r_ifF {p A B : Prop} [Decidable p] (h : ¬ p) (q : B) : if decide p = true then A else B := by rw [decide_eq_false h]; exact r_ifff q
theorem r_ifNT {p A B : Prop} [Decidable p] (h : ¬ p) (q : A) : if (!decide p) = true then A else B := by rw [decide_eq_false h]; exact r_iftt q
theorem r_ifNF {p A B : Prop} [Decidable p] (h : p) (q : B) : if (!decide p) = true then A else B := by rw [decide_eq_true h]; exact r_ifff q
theorem r_if2 {p A B : Prop} [Decidable p] (q1 : p → A) (q2 : ¬ p → B) : if decide p = true then A else B := by
  by_cases h : p
  · exact r_ifT h (q1 h)
  · exact r_ifF h (q2 h)
theorem r_ifN2 {p A B : Prop} [Decidable p] (q1 : ¬ p → A) (q2 : p → B) : if (!decide p) = true then A else B := by
  by_cases h : p
  · exact r_ifNF h (q2 h)
  · exact r_ifNT h (q1 h)
def kCh (r' : R2) (tc : TE) (σ : L2.St) (y : V) (Q : VK) : VK := fun z H3 => ∃ k, z = .bl k ∧ if k = true then tc σ H3 fun w H4 => r' y w H4 Q else Q (.bl false) H3
theorem r_kCh {r' : R2} {y : V} {k : Bool} (h : if k = true then tc σ H fun w H4 => r' y w H4 Q else Q (.bl false) H) : kCh r' tc σ y Q (.bl k) H := ⟨k, rfl, h⟩
/-! lists of arguments, displays -/
theorem r_nil {R : List V → Hp → Prop} (h : R [] H) : tNil σ H R := h
theorem r_cons {tr : TA} {R : List V → Hp → Prop} (h : ta σ H fun x H1 => tr σ H1 fun xs H2 => R (x :: xs) H2) : tCons ta tr σ H R := h
def kTup (Q : VK) : List V → Hp → Prop := fun xs H1 => xs.length ≤ sizeLine ∧ ∀ p, H1 p = none → Q (.ref p) (upd H1 p (.tup xs))
def kLst (Q : VK) : List V → Hp → Prop := fun xs H1 => xs.length ≤ sizeLine ∧ ∀ p, H1 p = none → Q (.ref p) (upd H1 p (.lst xs))
theorem r_tup {a : TA} (h : a σ H (kTup Q)) : tTup a σ H Q := h
theorem r_lst {a : TA} (h : a σ H (kLst Q)) : tLst a σ H Q := h
theorem sz1 {n : Nat} (h : n ≤ 100000) : n ≤ sizeLine := Nat.le_trans h (by decide)
theorem sz2 {n : Nat} (h : n < 100000) : n < sizeLine := Nat.lt_of_lt_of_le h (by decide)
theorem new_of {o : HO} {R : Addr → Hp → Prop} (h : ∀ p H2, Nw H p → Ext [] H H2 → H2 p = some o → R p H2) : ∀ p, H p = none → R p (upd H p o) := fun p np => h p _ ⟨np⟩ (.new np) upd_same
theorem r_kTup {xs : List V} (hl : xs.length ≤ 100000) (h : ∀ p H2, Nw H p → Ext [] H H2 → H2 p = some (.tup xs) → Q (.ref p) H2) : kTup Q xs H := ⟨sz1 hl, new_of h⟩
theorem r_kLst {xs : List V} (hl : xs.length ≤ 100000) (h : ∀ p H2, Nw H p → Ext [] H H2 → H2 p = some (.lst xs) → Q (.ref p) H2) : kLst Q xs H := ⟨sz1 hl, new_of h⟩
theorem r_dnew (h : ∀ p H2, Nw H p → Ext [] H H2 → H2 p = some (.dK []) → Q (.ref p) H2) : tDNewK σ H Q := new_of h
/-! attributes -/
def kFld (K : PySem.W.Frag) (f : Str) (Q : VK) : VK := fun x H1 => ∃ a C dx fs v, x = .ref a ∧ H1 a = some (.ins C dx fs) ∧ Cls K C ∧ NoAttr K C f ∧ fs.lookup f = some v ∧ Q v H1
theorem r_fld {f : Str} (h : ta σ H (kFld K f Q)) : tFld K ta f σ H Q := h
theorem r_kFld {f : Str} {a C dx : Addr} {fs : List (Str × V)} {v : V} (e : H a = some (.ins C dx fs)) (cl : Cls K C) (n : NoAttr K C f) (l : fs.lookup f = some v) (q : Q v H) : kFld K f Q (.ref a) H := ⟨a, C, dx, fs, v, rfl, e, cl, n, l, q⟩
def kSF (K : PySem.W.Frag) (f : Str) (y : V) (R : Hp → Prop) : VK := fun x H2 => ∃ a C dx fs, x = .ref a ∧ H2 a = some (.ins C dx fs) ∧ Cls K C ∧ NoAttr K C f ∧ fs.length < 1000 ∧ R (upd H2 a (.ins C dx (putF f y fs)))
theorem r_sfld {f : Str} (h : tb σ H fun y H1 => ta σ H1 (kSF K f y fun H3 => D.nx σ H3)) : sFld K ta tb f D σ H := h
theorem r_kSF {f : Str} {y : V} {R : Hp → Prop} {a C dx : Addr} {fs gs : List (Str × V)} (e : H a = some (.ins C dx fs)) (cl : Cls K C) (n : NoAttr K C f) (l : fs.length < 1000) (hg : putF f y fs = gs)
    (q : ∀ H2, Ext [a] H H2 → H2 a = some (.ins C dx gs) → R H2) : kSF K f y R (.ref a) H := ⟨a, C, dx, fs, rfl, e, cl, n, l, q _ (.mut e) (by rw [upd_same, hg])⟩
theorem r_gfld {f : Str} {v : V} {R : L2.St → Hp → Prop} (h : ta σ H (kSF K f v fun H3 => R σ H3)) : gFld K ta f v σ H R := h
/-! targets -/
theorem r_gTup {n : Nat} {g : TGs} {a : Addr} {xs : List V} {R : L2.St → Hp → Prop} (e : SqT K H a xs) (l : xs.length = n) (h : g xs σ H R) : gTup K n g (.ref a) σ H R := ⟨a, xs, rfl, e, l, h⟩
theorem r_gUnl {n : Nat} {g : TGs} {a : Addr} {xs : List V} {R : L2.St → Hp → Prop} (e : SqL K H a xs) (l : xs.length = n) (h : g xs σ H R) : gUnl K n g (.ref a) σ H R := ⟨a, xs, rfl, e, l, h⟩
theorem r_gNil {R : L2.St → Hp → Prop} (h : R σ H) : gNil [] σ H R := ⟨rfl, h⟩
theorem r_gCons {g : TG} {gs : TGs} {v : V} {r : List V} {R : L2.St → Hp → Prop} (h : g v σ H fun σ' H' => gs r σ' H' R) : gCons g gs (v :: r) σ H R := ⟨v, r, rfl, h⟩
def kPar (i j : Nat) (σ : L2.St) (R : L2.St → Hp → Prop) : List V → Hp → Prop := fun vs H1 => ∃ v w, vs = [v, w] ∧ R ((σ.set i (some v)).set j (some w)) H1
theorem r_par {i j : Nat} {a : TA} (h : a σ H (kPar i j σ D.nx)) : tPar i j a D σ H := h
theorem r_kPar {i j : Nat} {v w : V} {R : L2.St → Hp → Prop} (h : R ((σ.set i (some v)).set j (some w)) H) : kPar i j σ R [v, w] H := ⟨v, w, rfl, h⟩
/-! calls -/
theorem r_cl {sp : Sp} {a : TA} (h : a σ H fun vs H1 => sp vs H1 Q E0) : tCl sp a σ H Q := h
theorem r_cb {r : List V → Hp → VK → Prop} {a : TA} (h : a σ H fun vs H1 => r vs H1 Q) : tCB r a σ H Q := h
def kBM (K : PySem.W.Frag) (T : String) (r : V → List V → Hp → VK → Prop) (a : TA) (σ : L2.St) (Q : VK) : VK := fun x H1 => tyV K T x H1 ∧ a σ H1 fun xs H2 => r x xs H2 Q
theorem r_bm {T : String} {r : V → List V → Hp → VK → Prop} {a : TA} (h : ta σ H (kBM K T r a σ Q)) : tBM K T r ta a σ H Q := h
theorem r_kBM {T : String} {r : V → List V → Hp → VK → Prop} {a : TA} {x : V} (ty : tyV K T x H) (h : a σ H fun xs H2 => r x xs H2 Q) : kBM K T r a σ Q x H := ⟨ty, h⟩
def kBM0 (K : PySem.W.Frag) (T : String) (r : V → List V → Hp → VK → Prop) (Q : VK) : VK := fun x H1 => tyV K T x H1 ∧ r x [] H1 Q
theorem r_bm0 {T : String} {r : V → List V → Hp → VK → Prop} (h : ta σ H (kBM0 K T r Q)) : tBM0 K T r ta σ H Q := h
theorem r_kBM0 {T : String} {r : V → List V → Hp → VK → Prop} {x : V} (ty : tyV K T x H) (h : r x [] H Q) : kBM0 K T r Q x H := ⟨ty, h⟩
theorem ty_l {a : Addr} {xs : List V} (h : H a = some (.lst xs)) : tyV K "list" (.ref a) H := .inl ⟨rfl, xs, SqL.of h⟩
theorem r_append {a : Addr} {xs : List V} {y : V} (h : H a = some (.lst xs)) (hl : xs.length < 100000) (q : ∀ H2, Ext [a] H H2 → H2 a = some (.lst (xs ++ [y])) → Q .non H2) : rAppend (.ref a) [y] H Q :=
  ⟨a, xs, y, rfl, rfl, h, sz2 hl, q _ (.mut h) upd_same⟩
theorem r_pop {a : Addr} {xs : List V} {y : V} (h : H a = some (.lst xs)) (hy : xs[xs.length - 1]? = some y) (q : ∀ H2, Ext [a] H H2 → H2 a = some (.lst xs.dropLast) → Q y H2) : rPop (.ref a) [] H Q :=
  ⟨a, xs, y, rfl, rfl, h, hy, q _ (.mut h) upd_same⟩
theorem r_ixL {a : Addr} {xs : List V} {i : Int} {v : V} (h : SqL K H a xs) (e : atI xs i = some v) (q : Q v H) : rIxL K (.ref a) (.int i) H Q := ⟨a, xs, i, v, rfl, rfl, h, e, q⟩
theorem r_ixT {a : Addr} {xs : List V} {i : Int} {v : V} (h : SqT K H a xs) (e : atI xs i = some v) (q : Q v H) : rIxT K (.ref a) (.int i) H Q := ⟨a, xs, i, v, rfl, rfl, h, e, q⟩
theorem r_setL {a : Addr} {xs : List V} {k : Int} {j : Nat} {v : V} {R : Hp → Prop} (h : H a = some (.lst xs)) (e : ixN xs.length k = some j) (q : ∀ H2, Ext [a] H H2 → H2 a = some (.lst (xs.set j v)) → R H2) : L2.rSetL (.ref a) (.int k) v H R :=
  ⟨a, xs, k, j, rfl, rfl, h, e, q _ (.mut h) upd_same⟩
theorem r_gsub {to ti : TE} {ts : TSet} {v : V} {R : L2.St → Hp → Prop} (h : to σ H fun o H1 => ti σ H1 fun i H2 => ts o i v H2 fun H3 => R σ H3) : gSub to ti ts v σ H R := h
end
/-! ### own methods, properties of a known class -/
section
variable {X : Cx} {j k : Nat} {C : Addr} {m : Str} {sp : Sp} {pos apos : Pos} {e o : Expr} {es : List Expr} {ta : TE} {t : TA}
def kM (C : Addr) (m : Str) (sp : Sp) (a : TA) (σ : L2.St) (Q : VK) : VK := fun x H1 => ∃ b dx fs, x = .ref b ∧ H1 b = some (.ins C dx fs) ∧ fs.lookup m = none ∧ a σ H1 fun vs H2 => sp (x :: vs) H2 Q E0
def tM (C : Addr) (m : Str) (sp : Sp) (ta : TE) (a : TA) : TE := fun σ H Q => ta σ H (kM C m sp a σ Q)
def kP (C : Addr) (sp : Sp) (Q : VK) : VK := fun x H1 => ∃ b dx fs, x = .ref b ∧ H1 b = some (.ins C dx fs) ∧ sp [x] H1 Q E0
def tP (C : Addr) (sp : Sp) (ta : TE) : TE := fun σ H Q => ta σ H (kP C sp Q)
theorem kc_meth {pl : Sem Bool} (he : PE X o ta) (hG : MOk X j C m sp) (hr : Room k X.A) (ha : PA X (e :: es) t) (hjk : j ≤ k := by decide)
    (hst : starEach (e :: es) X.env = (false, eval e X.env) :: starEach es X.env := by rfl) (hpl : (backTo pos (starEach es X.env)).any (·.1) = false := by rfl)
    (ht : eval (.Call (.Attribute o m apos) (e :: es) [] pos) X.env = (do
      let ov ← eval o X.env
      standAt apos.atName
      let (f, first) ← holding [ov] (getMethod ov m pl)
      callWith pos f first (backTo pos (starEach (e :: es) X.env)) (backToKw pos (keywordEach [] X.env))) := by rfl) :
    PE X (.Call (.Attribute o m apos) (e :: es) [] pos) (tM C m sp ta t) := by
  refine ⟨fun pins s σ H Q I h => ?_⟩
  refine PySem.W.methodCall_KW (pl := pl) (thn (he.run pins s σ H _ I h) fun u s1 ⟨x, H1, I1, rx, a, dx, fs, ex, ea, l, q⟩ => ?_) ht
  subst ex
  obtain rfl : u = Value.ref a := rx
  obtain ⟨c, f, hm, F⟩ := hG
  refine getmeth_ok I1 ea c hm l ?_
  refine PySem.W.callWith_K (first := [.ref a]) (h₀ := X.base) I.ok.mod.kin hm.kp (thn (ha.run pos pins s1 σ H1 _ I1 q) fun us s2 ⟨vs, H2, I2, r, q2⟩ => ⟨I2.kIn, ?_⟩) hst hpl
  exact run_fx (us := .ref a :: us) (vs := .ref a :: vs) F hr hjk I2 (.cons rfl r) q2
theorem kc_meth0 {pl : Sem Bool} (he : PE X o ta) (hG : MOk X j C m sp) (hr : Room k X.A) (hjk : j ≤ k := by decide)
    (ht : eval (.Call (.Attribute o m apos) [] [] pos) X.env = (do
      let ov ← eval o X.env
      standAt apos.atName
      let (f, first) ← holding [ov] (getMethod ov m pl)
      callWith pos f first (backTo pos (starEach [] X.env)) (backToKw pos (keywordEach [] X.env))) := by rfl) :
    PE X (.Call (.Attribute o m apos) [] [] pos) (tM C m sp ta tNil) := by
  refine ⟨fun pins s σ H Q I h => ?_⟩
  refine PySem.W.methodCall_KW (pl := pl) (thn (he.run pins s σ H _ I h) fun u s1 ⟨x, H1, I1, rx, a, dx, fs, ex, ea, l, q⟩ => ?_) ht
  subst ex
  obtain rfl : u = Value.ref a := rx
  obtain ⟨c, f, hm, F⟩ := hG
  refine getmeth_ok I1 ea c hm l ?_
  exact PySem.W.callWith_K0 (first := [.ref a]) I1.kIn hm.kp (run_fx (us := [.ref a]) (vs := [.ref a]) F hr hjk I1 (.cons rfl .nil) q)
theorem kc_prop (he : PE X e ta) (hG : POk X j C m sp) (hr : Room k X.A) (hjk : j + 1 ≤ k := by decide)
    (hab : attributeBase e m X.env (eval e X.env) = eval e X.env := by rfl) : PE X (.Attribute e m pos) (tP C sp ta) := by
  refine ⟨fun pins s σ H Q I h => ?_⟩
  refine attr_of hab (thn (he.run pins s σ H _ I h) fun u s1 ⟨x, H1, I1, rx, a, dx, fs, ex, ea, q⟩ => ?_)
  subst ex
  obtain rfl : u = Value.ref a := rx
  obtain ⟨c, p, g', hp, F⟩ := hG
  exact getpropR_ok I1 ea c hp F (hr.mono hjk) q
/-- a module's constants -/
theorem pe_gi {x : Str} {i : Int} (hg : Gl X x) (h : ∃ t, X.mg x = some (.int i t)) (hd : (x == ("__debug__" : Str)) = false := by decide) : PE X (.Name x pos) (tC (.int i)) := by
  obtain ⟨t, h⟩ := h
  exact pe_glob hg h ⟨t, rfl⟩ hd
theorem pe_gs {x : Str} {z : Str} (hg : Gl X x) (h : ∃ t, X.mg x = some (.str z t)) (hd : (x == ("__debug__" : Str)) = false := by decide) : PE X (.Name x pos) (tC (.str z)) := by
  obtain ⟨t, h⟩ := h
  exact pe_glob hg h ⟨t, rfl⟩ hd
theorem pe_gr {x : Str} {a : Addr} (hg : Gl X x) (h : X.mg x = some (.ref a)) (hd : (x == ("__debug__" : Str)) = false := by decide) : PE X (.Name x pos) (tC (.ref a)) := pe_glob hg h rfl hd
end
section
variable {σ : L2.St} {H : Hp} {Q : VK} {C : Addr} {m : Str} {sp : Sp} {a : TA} {ta : TE}
theorem r_m (h : ta σ H (kM C m sp a σ Q)) : tM C m sp ta a σ H Q := h
theorem r_kM {b dx : Addr} {fs : List (Str × V)} (e : H b = some (.ins C dx fs)) (l : fs.lookup m = none) (h : a σ H fun vs H2 => sp (.ref b :: vs) H2 Q E0) : kM C m sp a σ Q (.ref b) H := ⟨b, dx, fs, rfl, e, l, h⟩
theorem r_p (h : ta σ H (kP C sp Q)) : tP C sp ta σ H Q := h
theorem r_kP {b dx : Addr} {fs : List (Str × V)} (e : H b = some (.ins C dx fs)) (h : sp [.ref b] H Q E0) : kP C sp Q (.ref b) H := ⟨b, dx, fs, rfl, e, h⟩
def kMk (C : Addr) (sp : Sp) (Q : VK) : List V → Hp → Prop := fun vs H1 => ∀ x dx, H1 x = Option.none → H1 dx = Option.none → dx ≠ x →
  sp (V.ref x :: vs) (upd (upd H1 dx (.own x)) x (.ins C dx [])) (fun v H2 => v = .non ∧ Q (.ref x) H2) E0
theorem r_mk (h : a σ H (kMk C sp Q)) : tMk C sp a σ H Q := h
theorem r_kMk {vs : List V} (h : ∀ x dx H2, Nw H x → Ext [] H H2 → H2 x = some (.ins C dx []) → sp (V.ref x :: vs) H2 (fun v H3 => v = .non ∧ Q (.ref x) H3) E0) : kMk C sp Q vs H :=
  fun x dx nx nd ne => h x dx _ ⟨nx⟩ ⟨fun b o _ e => by rw [upd_ne (ne_of_none e nx), upd_ne (ne_of_none e nd)]; exact e, fun b e => by
    by_cases q1 : b = x
    · rw [q1]; exact nx
    · rw [upd_ne q1] at e
      by_cases q2 : b = dx
      · rw [q2]; exact nd
      · rw [upd_ne q2] at e; exact e⟩ upd_same
theorem r_isi {K : PySem.W.Frag} {x c : V} {t u : Value} {b : Bool} (k : ClsV c u) (ty : TyX K H x t) (e : PySem.W.kitOne K t u = some b) (q : Q (.bl b) H) : rIsi K [x, c] H Q := ⟨x, c, t, u, b, rfl, k, ty, e, q⟩
theorem r_isiI {K : PySem.W.Frag} {i : Int} {n : String} {b : Bool} (e : kitB "int" n = some b) (q : Q (.bl b) H) : rIsi K [.int i, .ty n] H Q := r_isi (.ty n) (.base (.int i)) (kit_ty e) q
theorem r_isiS {K : PySem.W.Frag} {i : Str} {n : String} {b : Bool} (e : kitB "str" n = some b) (q : Q (.bl b) H) : rIsi K [.str i, .ty n] H Q := r_isi (.ty n) (.base (.str i)) (kit_ty e) q
theorem r_isiT {K : PySem.W.Frag} {a : Addr} {xs : List V} {n : String} {b : Bool} (h : H a = some (.tup xs)) (e : kitB "tuple" n = some b) (q : Q (.bl b) H) : rIsi K [.ref a, .ty n] H Q := r_isi (.ty n) (.base (.tup h)) (kit_ty e) q
theorem r_slL {K : PySem.W.Frag} {a : Addr} {xs : List V} {lo hi : Option Int} (h : SqL K H a xs) (q : ∀ p H2, Nw H p → Ext [] H H2 → H2 p = some (.lst (cutV xs lo hi)) → Q (.ref p) H2) : rSlL K (.ref a) lo hi H Q := ⟨a, xs, rfl, h, new_of q⟩
theorem r_slS {z : Str} {lo hi : Option Int} (h : z.length ≤ 100000) (q : Q (.str (cutS z lo hi)) H) : rSlS (.str z) lo hi H Q := ⟨z, rfl, sz1 h, q⟩
theorem r_sl {r : V → Option Int → Option Int → Hp → VK → Prop} {te : TE} {tl th : TO} (h : te σ H fun x H1 => tl σ H1 fun l H2 => th σ H2 fun u H3 => r x l u H3 Q) : tSl r te tl th σ H Q := h
def kPart (R : Option Int → Hp → Prop) : VK := fun x H1 => ∃ i, x = .int i ∧ R (some i) H1
theorem r_noPart {R : Option Int → Hp → Prop} (h : R none H) : tNoPart σ H R := h
theorem r_part {te : TE} {R : Option Int → Hp → Prop} (h : te σ H (kPart R)) : tPart te σ H R := h
theorem r_kPart {i : Int} {R : Option Int → Hp → Prop} (h : R (some i) H) : kPart R (.int i) H := ⟨i, rfl, h⟩
def kCV (R : VK) : V → Hp → Prop := R
theorem r_chain {r r' : R2} {tb tc : TE} (h : ta σ H fun x H1 => tb σ H1 fun y H2 => r x y H2 (kCh r' tc σ y Q)) : tChain r r' ta tb tc σ H Q := h
/-- loops -/
def kFor (g : TG) (tb : TS) (D : Ends) (σ : L2.St) : It → Hp → Prop := fun J H1 => ∃ W : Nat → Nat → L2.St → Hp → Prop, (∃ m, W 0 m σ H1) ∧ ∀ i m σ H, W i m σ H →
  (J.stop i H ∧ D.nx σ H) ∨ (J.go i H ∧ ∃ N : L2.St → Hp → Prop, (∀ σ' H', N σ' H' → ∃ m', m' < m ∧ W (i + 1) m' σ' H') ∧ ∀ x H', J.yld i H x H' → g x σ H' fun σ2 H2 => tb { D with nx := N, ct := N, bk := D.nx } σ2 H2)
theorem r_for {wi : TI} {g : TG} {tb : TS} {D : Ends} (h : wi σ H (kFor g tb D σ)) : tFor wi g tb D σ H := h
def kLc (g : TG) (tt : TT) (te : TE) (vs : List Nat) (σ : L2.St) (Q : VK) : It → Hp → Prop := fun J H1 => ∀ D, H1 D = none → ∃ W : Nat → Nat → Hp → Prop, (∃ m, W 0 m (upd H1 D (.lst []))) ∧ ∀ i m H, W i m H →
  (J.stop i H ∧ Q (.ref D) H) ∨ (J.go i H ∧ ∃ Nx : Hp → Prop, (∀ H', Nx H' → ∃ m', m' < m ∧ W (i + 1) m' H') ∧ ∀ x H', J.yld i H x H' → g x (wipe σ vs) H' fun σ2 H2 => wipe σ2 vs = wipe σ vs ∧ tt σ2 H2 fun b H3 =>
    if b = true then te σ2 H3 fun y H4 => ∃ acc, H4 D = some (.lst acc) ∧ acc.length < sizeLine ∧ Nx (upd H4 D (.lst (acc ++ [y]))) else Nx H3)
theorem r_lc {wi : TI} {g : TG} {tt : TT} {te : TE} {vs : List Nat} (h : wi σ H (kLc g tt te vs σ Q)) : tLc wi g tt te vs σ H Q := h
theorem r_iTup {K : PySem.W.Frag} {tl : TE} {R : It → Hp → Prop} (h : tl σ H fun x H1 => ∃ a, x = .ref a ∧ (∃ xs, SqT K H1 a xs) ∧ R (Itt K a) H1) : iTup K tl σ H R := h
theorem r_iList {K : PySem.W.Frag} {tl : TE} {R : It → Hp → Prop} (h : tl σ H fun x H1 => ∃ a, x = .ref a ∧ (∃ xs, SqL K H1 a xs) ∧ R (Itl K a) H1) : iList K tl σ H R := h
theorem r_iRng1 {t : TA} {R : It → Hp → Prop} (h : t σ H fun vs H1 => ∃ j : Int, vs = [.int j] ∧ -(2 ^ 62) ≤ j ∧ j < 2 ^ 62 ∧ R (Itr 0 j.toNat) H1) : iRng1 t σ H R := h
theorem r_iStr {te : TE} {R : It → Hp → Prop} (h : te σ H fun v H1 => ∃ x, v = .str x ∧ R (Its x) H1) : iStr te σ H R := h
theorem r_iEnumT {K : PySem.W.Frag} {t : TA} {R : It → Hp → Prop} (h : t σ H fun vs H1 => ∃ a xs, vs = [.ref a] ∧ SqT K H1 a xs ∧ R (IteT K a) H1) : iEnumT K t σ H R := h
theorem r_iZip {K : PySem.W.Frag} {t : TA} {R : It → Hp → Prop} (h : t σ H fun vs H1 => ∃ a b xs ys, vs = [.ref a, .ref b] ∧ SqL K H1 a xs ∧ SqL K H1 b ys ∧ R (Itz K a b) H1) : iZip K t σ H R := h
/-- a comprehension by its walk: F i acc: what the turns below i have given, no heap in it -/
def kAp (D : Addr) (Nx : Hp → Prop) : VK := fun y H4 => ∃ acc, H4 D = some (.lst acc) ∧ acc.length < sizeLine ∧ Nx (upd H4 D (.lst (acc ++ [y])))
def LcI (D : Addr) (L : List Addr) (H0 : Hp) (F : Nat → List V → Prop) (i : Nat) : Hp → Prop := fun H2 => ∃ acc, H2 D = some (.lst acc) ∧ Ext L H0 H2 ∧ F i acc
def kIf (te : TE) (σ : L2.St) (Q : VK) (R : Hp → Prop) : Bool → Hp → Prop := fun b H3 => if b = true then te σ H3 Q else R H3
theorem r_kIfT {te : TE} {R : Hp → Prop} (h : te σ H Q) : kIf te σ Q R true H := r_iftt h
theorem r_kIfF {te : TE} {R : Hp → Prop} (h : R H) : kIf te σ Q R false H := r_ifff h
theorem r_kIf {te : TE} {R : Hp → Prop} {k : Bool} (h : if k = true then te σ H Q else R H) : kIf te σ Q R k H := h
theorem r_yes {R : Bool → Hp → Prop} (h : R true H) : tYes σ H R := h
theorem Ext.upd_new {L : List Addr} {H H1 : Hp} {D : Addr} {o : HO} (e : Ext L H H1) (n : Nw H D) : Ext L H (upd H1 D o) :=
  ⟨fun b u nb hb => by rw [upd_ne (ne_of_none hb n.no)]; exact e.ge b u nb hb, fun b hb => by
    by_cases q : b = D
    · rw [q]; exact n.no
    · rw [upd_ne q] at hb; exact e.dom b hb⟩
theorem r_kAp {D : Addr} {L : List Addr} {H0 : Hp} {F : Nat → List V → Prop} {i : Nat} {acc : List V} {y : V} (e : H D = some (.lst acc)) (x : Ext L H0 H) (n : Nw H0 D) (hl : acc.length ≤ 90000) (f : F i (acc ++ [y])) : kAp D (LcI D L H0 F i) y H :=
  ⟨acc, e, sz2 (by omega), acc ++ [y], upd_same, x.upd_new n, f⟩
theorem r_LcI {D : Addr} {L : List Addr} {H0 : Hp} {F : Nat → List V → Prop} {i : Nat} {acc : List V} (e : H D = some (.lst acc)) (x : Ext L H0 H) (f : F i acc) : LcI D L H0 F i H := ⟨acc, e, x, f⟩
theorem r_kLc {J : It} {n : Nat} {G : Hp → Prop} {Y : Nat → Hp → V → Hp → Prop} (wk : Walk J n G Y) {g : TG} {tt : TT} {te : TE} {vs : List Nat} (L : List Addr) (F : Nat → List V → Prop)
    (h0 : F 0 []) (hG : ∀ H2, Ext L H H2 → G H2)
    (hs : ∀ D i x H1 H2 acc, i < n → Nw H D → Ext L H H1 → H1 D = some (.lst acc) → F i acc → Y i H1 x H2 → g x (wipe σ vs) H2 fun σ2 H3 => wipe σ2 vs = wipe σ vs ∧ tt σ2 H3 (kIf te σ2 (kAp D (LcI D L H F (i + 1))) (LcI D L H F (i + 1))))
    (hd : ∀ D H2 acc, Nw H D → Ext L H H2 → H2 D = some (.lst acc) → F n acc → Q (.ref D) H2) : kLc g tt te vs σ Q J H := by
  intro D hD
  refine lc_it (Qd := fun H => Q (.ref D) H) wk (LcI D L H F · ·) ⟨[], upd_same, Ext.rfl'.upd_new ⟨hD⟩, h0⟩ ?_ ?_ ?_
  · rintro i H2 hi ⟨acc, _, e, f⟩
    exact hG H2 e
  · rintro i x H1 H2 hi ⟨acc, ha, e, f⟩ y
    exact hs D i x H1 H2 acc hi ⟨hD⟩ e ha f y
  · rintro H2 ⟨acc, ha, e, f⟩
    exact hd D H2 acc ⟨hD⟩ e ha f
theorem r_for_it {J : It} {n : Nat} {G : Hp → Prop} {Y : Nat → Hp → V → Hp → Prop} (wk : Walk J n G Y) {g : TG} {tb : TS} {D : Ends} (Pv : Nat → L2.St → Hp → Prop) (h0 : Pv 0 σ H) (hG : ∀ i σ H, i ≤ n → Pv i σ H → G H)
    (hs : ∀ i x σ H H', i < n → Pv i σ H → Y i H x H' → g x σ H' fun σ2 H2 => tb { D with nx := Pv (i + 1), ct := Pv (i + 1), bk := D.nx } σ2 H2) (hd : ∀ σ H, Pv n σ H → D.nx σ H) : kFor g tb D σ J H := for_it wk Pv h0 hG hs hd
/-- the text of the program, as the super calls ask for it -/
structure TP (P : Program) : Prop where
  file : P.main.file = PySem.Challenge.pw_burstapart_k79_whole_classes_agree.main.file
  top : (P.main.scope.names.lookup ("super" : Str)).isSome = false
end
end K7
set_option Elab.async false
set_option linter.all false
set_option maxRecDepth 100000
set_option maxHeartbeats 4000000
namespace K7
open PySem PySem.Spec PyProof.Rows L2
theorem walk_enumT {K : PySem.W.Frag} {a : Addr} {xs : List V} : Walk (IteT K a) xs.length (fun H => SqT K H a xs) (YPair (fun i => some (.int (i : Nat))) (fun i => xs[i]?)) := by
  refine ⟨fun i _ hi q => ⟨xs, xs[i], q, by simp [hi]⟩, fun _ q => ⟨xs, q, rfl⟩, fun i H v H' _ q y => ?_⟩
  obtain ⟨T, x, h1, h2, h3, h4⟩ := y
  exact ⟨T, .int (i : Nat), x, h1, h2, h3, rfl, h4 xs q⟩
section
variable {w : World} {σ : L2.St} {H : Hp} {Q : VK}
def kSc (w : World) (g : TG) (tt : TT) (te : TE) (vs : List Nat) (σ : L2.St) (Q : VK) : It → Hp → Prop := fun J H1 => ∀ D, H1 D = none → ∃ W : Nat → Nat → Hp → Prop, (∃ m, W 0 m (upd H1 D (SetO w D (fun _ => false) 0))) ∧ ∀ i m H, W i m H →
  (J.stop i H ∧ Q (.ref D) H) ∨ (J.go i H ∧ ∃ Nx : Hp → Prop, (∀ H', Nx H' → ∃ m', m' < m ∧ W (i + 1) m' H') ∧ ∀ x H', J.yld i H x H' → g x (wipe σ vs) H' fun σ2 H2 => wipe σ2 vs = wipe σ vs ∧ tt σ2 H2 fun b H3 =>
    if b = true then te σ2 H3 fun y H4 => ∃ (c : Int) (S : Int → Bool) (n : Nat), y = .int c ∧ H4 D = some (SetO w D S n) ∧ n + 1 < scanBound ∧ Nx (upd H4 D (SetO w D (fun j => S j || decide (j = c)) (if S c = true then n else n + 1))) else Nx H3)
theorem r_sc {wi : TI} {g : TG} {tt : TT} {te : TE} {vs : List Nat} (h : wi σ H (kSc w g tt te vs σ Q)) : tScI w wi g tt te vs σ H Q := h
def kSp (w : World) (D : Addr) (Nx : Hp → Prop) : VK := fun y H4 => ∃ (c : Int) (S : Int → Bool) (n : Nat), y = .int c ∧ H4 D = some (SetO w D S n) ∧ n + 1 < scanBound ∧ Nx (upd H4 D (SetO w D (fun j => S j || decide (j = c)) (if S c = true then n else n + 1)))
def ScI (w : World) (D : Addr) (L : List Addr) (H0 : Hp) (us : List Int) (i : Nat) : Hp → Prop := fun H2 => H2 D = some (SetO w D (fun j => decide (j ∈ us.take i)) i) ∧ Ext L H0 H2
theorem r_kSp {D : Addr} {L : List Addr} {H0 : Hp} {us : List Int} {i : Nat} {c : Int} (nd : us.Nodup) (hc : us[i]? = some c) (hb : i + 1 < 4000) (e : H D = some (SetO w D (fun j => decide (j ∈ us.take i)) i)) (x : Ext L H0 H) (n : Nw H0 D) :
    kSp w D (ScI w D L H0 us (i + 1)) (.int c) H := by
  have hlt : i < us.length := (List.getElem?_eq_some_iff.mp hc).1
  have hci : us[i] = c := (List.getElem?_eq_some_iff.mp hc).2
  have tk : us.take (i + 1) = us.take i ++ [c] := by rw [List.take_succ, hc]; rfl
  have hnot : c ∉ us.take i := by
    have := nd.sublist (List.take_sublist (i + 1) us)
    rw [tk] at this
    have := (List.nodup_append.mp this).2.2
    intro m
    exact this c m c (by simp) rfl
  refine ⟨c, _, i, rfl, e, Nat.lt_trans hb (by decide), ?_, x.upd_new n⟩
  rw [upd_same, decide_eq_false hnot, if_neg Bool.false_ne_true]
  have : (fun j => decide (j ∈ us.take i) || decide (j = c)) = fun j => decide (j ∈ us.take (i + 1)) := by
    funext j
    rw [tk, ← Bool.decide_or]
    exact decide_eq_decide.mpr (by rw [List.mem_append, List.mem_singleton])
  rw [this]
theorem r_kSc {J : It} {n : Nat} {G : Hp → Prop} {Y : Nat → Hp → V → Hp → Prop} (wk : Walk J n G Y) {g : TG} {tt : TT} {te : TE} {vs : List Nat} (L : List Addr) (us : List Int) (hG : ∀ H2, Ext L H H2 → G H2)
    (hs : ∀ D i x H1 H2, i < n → Nw H D → Ext L H H1 → H1 D = some (SetO w D (fun j => decide (j ∈ us.take i)) i) → Y i H1 x H2 → g x (wipe σ vs) H2 fun σ2 H3 => wipe σ2 vs = wipe σ vs ∧ tt σ2 H3 (kIf te σ2 (kSp w D (ScI w D L H us (i + 1))) (ScI w D L H us (i + 1))))
    (hd : ∀ D H2, Nw H D → Ext L H H2 → H2 D = some (SetO w D (fun j => decide (j ∈ us.take n)) n) → Q (.ref D) H2) : kSc w g tt te vs σ Q J H := by
  intro D hD
  refine ⟨fun i m H1 => m = n - i ∧ i ≤ n ∧ ScI w D L H us i H1, ⟨n, by simp, Nat.zero_le _, ?_, Ext.rfl'.upd_new ⟨hD⟩⟩, ?_⟩
  · rw [upd_same]
    have : (fun j : Int => decide (j ∈ us.take 0)) = fun _ => false := by funext j; simp
    rw [this]
  rintro i m H1 ⟨rfl, hi, p, e⟩
  have q := hG H1 e
  by_cases hlt : i < n
  · refine .inr ⟨wk.goes i H1 hlt q, ScI w D L H us (i + 1), fun H' p' => ⟨n - (i + 1), by omega, rfl, hlt, p'⟩, fun x H' y => hs D i x H1 H' hlt ⟨hD⟩ e p (wk.yields i H1 x H' hlt q y)⟩
  · have e' : i = n := by omega
    subst e'
    exact .inl ⟨wk.stops H1 q, hd D H1 ⟨hD⟩ e p⟩
end
end K7
set_option Elab.async false
set_option linter.all false
set_option maxRecDepth 100000
set_option maxHeartbeats 4000000
namespace K7
open PySem PySem.Spec PyProof.Rows L2 StX
/-! the rules with the written part told (within a comprehension's block the reading must not name the block) -/
section
variable {X : Cx} {K : PySem.W.Frag} {e e2 o tg l : Expr} {es : List Expr} {te ta : TE} {t : TA} {f : Str} {pos p apos cpos : Pos}
def rLenQ (K : PySem.W.Frag) : List V → Hp → VK → Prop := fun xs H Q => ∃ p ys, xs = [.ref p] ∧ (SqL K H p ys ∨ SqT K H p ys) ∧ Q (.int ys.length) H
def rListQ (K : PySem.W.Frag) : List V → Hp → VK → Prop := fun xs H Q => ∃ p ys, xs = [.ref p] ∧ (SqL K H p ys ∨ SqT K H p ys) ∧ ∀ l, H l = none → Q (.ref l) (upd H l (.lst ys))
def rTupQ (K : PySem.W.Frag) : List V → Hp → VK → Prop := fun xs H Q => ∃ p ys, xs = [.ref p] ∧ ((SqL K H p ys ∧ ∀ l, H l = none → Q (.ref l) (upd H l (.tup ys))) ∨ (SqT K H p ys ∧ Q (.ref p) H))
theorem cl_len (hK : X.K = K) : CallR X (.builtin "len") (rLenQ K) := by subst hK; exact call_len_seq
theorem cl_list (hK : X.K = K) : CallR X (.type "list") (rListQ K) := by subst hK; exact call_list_of
theorem cl_tuple (hK : X.K = K) : CallR X (.type "tuple") (rTupQ K) := by subst hK; exact call_tuple_of
theorem cl_all (hK : X.K = K) (hc : X.calm = true) : CallR X (.builtin "all") (rAll K) := by subst hK; exact cr_all hc
theorem cl_max (hK : X.K = K) (hc : X.calm = true) : CallR X (.builtin "max") (rMax K) := by subst hK; exact cr_max hc
theorem cl_maxT (hK : X.K = K) (hc : X.calm = true) : CallR X (.builtin "max") (rMaxT K) := by subst hK; exact cr_maxT hc
theorem cl_sorted (hK : X.K = K) : CallR X (.builtin "sorted") (rSorted K) := by subst hK; exact cr_sorted
theorem cl_isi (hK : X.K = K) : CallR X (.builtin "isinstance") (rIsi K) := by subst hK; exact call_isi
theorem ixL (hK : X.K = K) : IxR X (rIxL K) := by subst hK; exact ix_list
theorem ixT (hK : X.K = K) : IxR X (rIxT K) := by subst hK; exact ix_tup
theorem slL (hK : X.K = K) : SlR X (rSlL K) := by subst hK; exact sl_list
theorem slT (hK : X.K = K) : SlR X (rSlA K) := by subst hK; exact sl_tupA
theorem opIn (hK : X.K = K) : OpR X (compareOp .In) (rIn K false) := by subst hK; exact op_in_seq
theorem opNi (hK : X.K = K) : OpR X (compareOp .NotIn) (rIn K true) := by subst hK; exact op_notIn_seq
theorem opEqD (hK : X.K = K) (hu : X.A.units + 64 < cLine) : OpR X (compareOp .Eq) (rEqD K) := by subst hK; exact op_eqD hu
theorem opNeD (hK : X.K = K) (hu : X.A.units + 64 < cLine) : OpR X (compareOp .NotEq) (rNeD K) := by subst hK; exact op_neD hu
theorem kc_fld (hK : X.K = K) (he : PE X e ta) (hb : attributeBase e f X.env (eval e X.env) = eval e X.env := by rfl) : PE X (.Attribute e f pos) (tFld K ta f) := by subst hK; exact pe_fld he hb
theorem kc_con (hK : X.K = K) (he : PE X e ta) (hb : attributeBase e f X.env (eval e X.env) = eval e X.env := by rfl) : PE X (.Attribute e f pos) (tCon K ta f) := by subst hK; exact pe_con he hb
theorem kp_sfld {value : Expr} {tv : TE} {pos' : Pos} (hK : X.K = K) (ha : PE X o ta) (hv : PE X value tv) (hs : swapsWith value (some (.Attribute o f pos')) pos.line X.env = pure false := by rfl) : PS X (.Assign [.Attribute o f pos'] value pos) (sFld K ta tv f) := by subst hK; exact ps_fld ha hv hs
theorem kg_fld (hK : X.K = K) (ho : PE X o ta) : PG X (.Attribute o f pos) (gFld K ta f) := by subst hK; exact pg_fld ho
theorem kg_tup {k : Nat} {g : TGs} {n : Nat} (hK : X.K = K) (hc : X.calm = true) (h : PGs X es g)
    (hn : (assignEach es X.env).length = n := by rfl) (hst : (assignEach es X.env).findIdx? (·.1) = none := by rfl) : PG X (.Tuple es k pos) (gTup K n g) := by subst hK; exact pg_tup hc h hn hst
theorem kg_unl {k : Nat} {g : TGs} {n : Nat} (hK : X.K = K) (hc : X.calm = true) (h : PGs X es g)
    (hn : (assignEach es X.env).length = n := by rfl) (hst : (assignEach es X.env).findIdx? (·.1) = none := by rfl) : PG X (.Tuple es k pos) (gUnl K n g) := by subst hK; exact pg_unl hc h hn hst
theorem ki_list (hK : X.K = K) (hl : PE X l te) : PI X tg l (iList K te) := by subst hK; exact pi_list hl
theorem ki_tup (hK : X.K = K) (hl : PE X l te) : PI X tg l (iTup K te) := by subst hK; exact pi_tup hl
theorem ki_enumT {elts : List Expr} {kk : Nat} {tpos : Pos} (hK : X.K = K) (hg : Gl X "enumerate") (hm : X.mg "enumerate" = none) (ha : PA X [e] t) (hs : starEach [e] X.env = [(false, eval e X.env)] := by rfl) :
    PI X (.Tuple elts kk tpos) (.Call (.Name "enumerate" p) [e] [] pos) (iEnumT K t) := by subst hK; exact pi_enumT hg hm ha hs
theorem ki_zip {elts : List Expr} {kk : Nat} {tpos : Pos} (hK : X.K = K) (hg : Gl X "zip") (hm : X.mg "zip" = none) (ha : PA X [e, e2] t)
    (hs : starEach [e, e2] X.env = (false, eval e X.env) :: starEach [e2] X.env := by rfl) (hpl : (backTo pos (starEach [e2] X.env)).any (·.1) = false := by rfl) :
    PI X (.Tuple elts kk tpos) (.Call (.Name "zip" p) [e, e2] [] pos) (iZip K t) := by subst hK; exact pi_zip hg hm ha hs hpl
theorem kc_bm0 {T id : String} {name : Str} {r : V → List V → Hp → VK → Prop} (hK : X.K = K) (pa : PlainAttrs T) (slot : Slot T name id) (hty : typeOf (.builtin id) = pure (.type "method_descriptor")) (hm : MtR X id r) (ho : PE X o ta)
    (hbase : attributeBase o name X.env (eval o X.env) = eval o X.env := by rfl) (hline : (apos.endLine == cpos.line) = true := by rfl) : PE X (.Call (.Attribute o name apos) [] [] cpos) (tBM0 K T r ta) := by subst hK; exact pe_bm0 pa slot hty hm ho hbase hline
theorem kc_bm {T id : String} {name : Str} {r : V → List V → Hp → VK → Prop} (hK : X.K = K) (pa : PlainAttrs T) (slot : Slot T name id) (hty : typeOf (.builtin id) = pure (.type "method_descriptor")) (hm : MtR X id r) (ho : PE X o ta) (ha : PA X (e :: es) t)
    (hbase : attributeBase o name X.env (eval o X.env) = eval o X.env := by rfl)
    (hfew : ((backTo cpos (starEach (e :: es) X.env)).all (fun x => !x.1) && (backToKw cpos (keywordEach [] X.env)).all (fun x => x.1.isSome)
      && decide ((e :: es).length + ([] : List Keyword).length + (if ([] : List Keyword).isEmpty then 0 else 1) < 30)) = true := by rfl)
    (hline : (apos.endLine == cpos.line) = true := by rfl) (hs : starEach (e :: es) X.env = (false, eval e X.env) :: starEach es X.env := by rfl) (hplain : (backTo cpos (starEach es X.env)).any (·.1) = false := by rfl) :
    PE X (.Call (.Attribute o name apos) (e :: es) [] cpos) (tBM K T r ta t) := by subst hK; exact pe_bm pa slot hty hm ho ha hbase hfew hline hs hplain
theorem ka_star (hK : X.K = K) (he : PE X e te) (hr : PA X es t) (hs : starEach (.Starred e p :: es) X.env = (true, eval e X.env) :: starEach es X.env := by rfl) : PA X (.Starred e p :: es) (tStar K te t) := by subst hK; exact pa_star he hr hs
/-- str of an int or a text -/
def rStrQ : List V → Hp → VK → Prop := fun xs H Q => (∃ i, xs = [.int i] ∧ i.natAbs.log2 < 1920 ∧ Q (.str (toString i)) H) ∨ ∃ a, xs = [.str a] ∧ Q (.str a) H
theorem cl_str : CallR X (.type "str") rStrQ := by
  intro pins s σ H xs us Q I r h
  rcases h with h | h
  · exact call_str_int pins s σ H xs us Q I r h
  · exact SkE.call_str_str pins s σ H xs us Q I r h
end
/-! readings of these -/
section
variable {σ : L2.St} {H : Hp} {Q : VK} {K : PySem.W.Frag} {a : Addr} {xs : List V}
theorem r_lenL (h : H a = some (.lst xs)) (q : Q (.int xs.length) H) : rLenQ K [.ref a] H Q := ⟨a, xs, rfl, .inl (SqL.of h), q⟩
theorem r_lenT (h : H a = some (.tup xs)) (q : Q (.int xs.length) H) : rLenQ K [.ref a] H Q := ⟨a, xs, rfl, .inr (SqT.of h), q⟩
theorem r_listL (h : H a = some (.lst xs)) (q : ∀ p H2, Nw H p → Ext [] H H2 → H2 p = some (.lst xs) → Q (.ref p) H2) : rListQ K [.ref a] H Q := ⟨a, xs, rfl, .inl (SqL.of h), new_of q⟩
theorem r_tupL (h : H a = some (.lst xs)) (q : ∀ p H2, Nw H p → Ext [] H H2 → H2 p = some (.tup xs) → Q (.ref p) H2) : rTupQ K [.ref a] H Q := ⟨a, xs, rfl, .inl ⟨SqL.of h, new_of q⟩⟩
theorem r_strI {i : Int} (h : i.natAbs.log2 < 1920) (q : Q (.str (toString i)) H) : rStrQ [.int i] H Q := .inl ⟨i, rfl, h, q⟩
theorem r_strS {z : Str} (q : Q (.str z) H) : rStrQ [.str z] H Q := .inr ⟨z, rfl, q⟩
theorem r_all {bs : List Bool} (h : H a = some (.lst (bs.map V.bl))) (q : Q (.bl (bs.all id)) H) : rAll K [.ref a] H Q := ⟨a, bs, rfl, SqL.of h, q⟩
end
theorem YPair.get {f g : Nat → Option V} {i : Nat} {H1 H2 : Hp} {x : V} (y : YPair f g i H1 x H2) : ∃ T x1 x2, x = .ref T ∧ Nw H1 T ∧ Ext [] H1 H2 ∧ H2 T = some (.tup [x1, x2]) ∧ f i = some x1 ∧ g i = some x2 := by
  obtain ⟨p, x1, x2, rfl, np, rfl, h1, h2⟩ := y
  exact ⟨p, x1, x2, rfl, ⟨np⟩, .new np, upd_same, h1, h2⟩
theorem mapI {ns : List Int} {i : Nat} {x : V} (h : (ns.map V.int)[i]? = some x) : ∃ z, ns[i]? = some z ∧ x = .int z := by
  rw [List.getElem?_map] at h
  cases e : ns[i]? with
  | none => rw [e] at h; cases h
  | some z => rw [e] at h; exact ⟨z, rfl, (Option.some.inj h).symm⟩
theorem r_lenS {X : Cx} {w : World} {a : Addr} {S : Int → Bool} {n : Nat} {H : Hp} {Q : VK} (hw : X.w = w) (h : H a = some (SetO w a S n)) (hn : n ≤ 4000) (q : Q (.int (n : Nat)) H) : rLenS X [.ref a] H Q := by subst hw; exact ⟨a, S, n, rfl, h, hn, q⟩
/-! more built-ins by name -/
section
variable {X : Cx}
def rLenStr : List V → Hp → VK → Prop := fun xs H Q => ∃ z, xs = [.str z] ∧ z.length ≤ sizeLine ∧ Q (.int z.length) H
theorem cl_lenS : CallR X (.builtin "len") rLenStr := call_len_str
def rMax2 : List V → Hp → VK → Prop := fun xs H Q => ∃ i j, xs = [.int i, .int j] ∧ Q (.int (if j > i then j else i)) H
def rMin2 : List V → Hp → VK → Prop := fun xs H Q => ∃ i j, xs = [.int i, .int j] ∧ Q (.int (if j < i then j else i)) H
theorem cl_max2 (hc : X.calm = true) : CallR X (.builtin "max") rMax2 := call_max2 hc
theorem cl_min2 (hc : X.calm = true) : CallR X (.builtin "min") rMin2 := call_min2 hc
def rIntS : List V → Hp → VK → Prop := fun xs H Q => ∃ a n, xs = [.str a] ∧ PySem.intText? a = some n ∧ a.length ≤ 640 ∧ Q (.int n) H
theorem cl_intS : CallR X (.type "int") rIntS := call_int_str
def rDictQ : List V → Hp → VK → Prop := fun xs H Q => ∃ (a : Addr) (kvs : List (Key × V)), xs = [.ref a] ∧ Rd H a (.dK kvs) ∧ ∀ p, H p = none → Q (.ref p) (upd H p (.dK kvs))
theorem cl_dict : CallR X (.type "dict") rDictQ := call_dictD
def rSorDI : List V → Hp → VK → Prop := fun xs H Q => ∃ (a : Addr) (kvs : List (Key × V)) (ks : List Int), xs = [.ref a] ∧ Rd H a (.dK kvs) ∧ kvs.map (·.1) = ks.map Sum.inl ∧ ks.length < 64 ∧
    ∀ (ys : List Int) (p : Addr), ys.Perm ks → ys.Pairwise (· ≤ ·) → H p = none → Q (.ref p) (upd H p (.lst (ys.map V.int)))
theorem cl_sorDI (hc : X.calm = true) : CallR X (.builtin "sorted") rSorDI := call_sortedDI hc
def rAddStr : R2 := fun x y H Q => ∃ i j, x = .str i ∧ y = .str j ∧ i.length + j.length ≤ sizeLine ∧ Q (.str (i ++ j)) H
theorem opAddS : OpR X (binaryOp .Add) rAddStr := op_add_str
def rSign (neg : Bool) : R2 := fun x y H Q => ∃ (c : Nat) (z : Str), x = .str ⟨#[c]⟩ ∧ y = .str z ∧ Q (.bl (if neg = true then !decide (c ∈ z.cps.toList) else decide (c ∈ z.cps.toList))) H
theorem opSign : OpR X (compareOp .In) (rSign false) := op_in_sign
theorem opNoSign : OpR X (compareOp .NotIn) (rSign true) := op_notIn_sign
def rIsN : R2 := fun x y H Q => y = .non ∧ Q (.bl (decide (x = .non))) H
def rNotN : R2 := fun x y H Q => y = .non ∧ Q (.bl (!decide (x = .non))) H
theorem opIsN : OpR X (compareOp .Is) rIsN := op_isN
theorem opNotN : OpR X (compareOp .IsNot) rNotN := op_notN
end
section
variable {σ : L2.St} {H : Hp} {Q : VK} {K : PySem.W.Frag} {a : Addr} {xs : List V}
theorem r_lenStr {z : Str} (h : z.length ≤ 100000) (q : Q (.int z.length) H) : rLenStr [.str z] H Q := ⟨z, rfl, sz1 h, q⟩
theorem r_max2 {i j : Int} (q : Q (.int (if j > i then j else i)) H) : rMax2 [.int i, .int j] H Q := ⟨i, j, rfl, q⟩
theorem r_min2 {i j : Int} (q : Q (.int (if j < i then j else i)) H) : rMin2 [.int i, .int j] H Q := ⟨i, j, rfl, q⟩
theorem r_dict {kvs : List (Key × V)} (h : H a = some (.dK kvs)) (q : ∀ p H2, Nw H p → Ext [] H H2 → H2 p = some (.dK kvs) → Q (.ref p) H2) : rDictQ [.ref a] H Q := ⟨a, kvs, rfl, .inl h, new_of q⟩
theorem r_addS {i j : Str} (h : i.length + j.length ≤ 100000) (q : Q (.str (i ++ j)) H) : rAddStr (.str i) (.str j) H Q := ⟨i, j, rfl, rfl, sz1 h, q⟩
theorem r_sign {c : Nat} {z : Str} (q : Q (.bl (decide (c ∈ z.cps.toList))) H) : rSign false (.str ⟨#[c]⟩) (.str z) H Q := ⟨c, z, rfl, rfl, q⟩
theorem r_isN {x : V} (q : Q (.bl (decide (x = .non))) H) : rIsN x .non H Q := ⟨rfl, q⟩
theorem r_notN {x : V} (q : Q (.bl (!decide (x = .non))) H) : rNotN x .non H Q := ⟨rfl, q⟩
theorem r_isiII {i : Int} (q : Q (.bl true) H) : rIsi K [.int i, .ty "int"] H Q := r_isi (.ty _) (.base (.int i)) (kit_ty rfl) q
theorem r_isiIB {i : Int} (q : Q (.bl false) H) : rIsi K [.int i, .ty "bool"] H Q := r_isi (.ty _) (.base (.int i)) (kit_ty (by decide +kernel)) q
theorem r_isiIS {i : Int} (q : Q (.bl false) H) : rIsi K [.int i, .ty "str"] H Q := r_isi (.ty _) (.base (.int i)) (kit_ty (by decide +kernel)) q
theorem r_isiSS {i : Str} (q : Q (.bl true) H) : rIsi K [.str i, .ty "str"] H Q := r_isi (.ty _) (.base (.str i)) (kit_ty rfl) q
theorem r_isiTT {xs : List V} (h : H a = some (.tup xs)) (q : Q (.bl true) H) : rIsi K [.ref a, .ty "tuple"] H Q := r_isi (.ty _) (.base (.tup h)) (kit_ty rfl) q
theorem r_ixStr {z : Str} {i : Int} {c : Nat} (h : z.length ≤ 100000) (e : atI z.cps.toList i = some c) (q : Q (.str ⟨#[c]⟩) H) : rIxS (.str z) (.int i) H Q := ⟨z, i, c, rfl, rfl, sz1 h, e, q⟩
theorem decT {p : Prop} [Decidable p] (h : p) : decide p = true := decide_eq_true h
theorem r_bT {p A B : Prop} [Decidable p] (h : p) (q : A) : if decide p = true then A else B := r_ifT h q
end
theorem putF_nil {f : Str} {v : V} : putF f v [] = [(f, v)] := rfl
theorem putF_hit {f : Str} {v x : V} {r : List (Str × V)} : putF f v ((f, x) :: r) = (f, v) :: r := by
  unfold putF
  exact if_pos rfl
theorem putF_miss {f g : Str} {v x : V} {r r' : List (Str × V)} (h : (g == f) = false) (e : putF f v r = r') : putF f v ((g, x) :: r) = (g, x) :: r' := by
  unfold putF
  rw [if_neg (fun z => by rw [z, beq_self_eq_true] at h; cases h), e]
theorem r_ixLast {K : PySem.W.Frag} {a : Addr} {xs : List V} {v : V} {H : Hp} {Q : VK} (h : H a = some (.lst (xs ++ [v]))) (q : Q v H) : rIxL K (.ref a) (.int (-1)) H Q := ⟨a, _, _, v, rfl, rfl, SqL.of h, atI_last xs v, q⟩
theorem r_ixPair0 {K : PySem.W.Frag} {a : Addr} {u v : V} {H : Hp} {Q : VK} (h : H a = some (.tup [u, v])) (q : Q u H) : rIxT K (.ref a) (.int 0) H Q := ⟨a, _, _, u, rfl, rfl, SqT.of h, atI_nat (j := 0) rfl, q⟩
theorem r_ixPair1 {K : PySem.W.Frag} {a : Addr} {u v : V} {H : Hp} {Q : VK} (h : H a = some (.tup [u, v])) (q : Q v H) : rIxT K (.ref a) (.int 1) H Q := ⟨a, _, _, v, rfl, rfl, SqT.of h, atI_nat (j := 1) rfl, q⟩
theorem r_sup {C g : Addr} {m : Str} {sp : Sp} {t : TA} {σ : L2.St} {H : Hp} {Q : VK} {x dx : Addr} {fs : List (Str × V)} (h : σ[0]? = some (some (.ref x))) (e : H x = some (.ins C dx fs))
    (q : ∀ q H2, Nw H q → Ext [] H H2 → H2 q = some (.met g x) → t σ H2 fun vs H3 => H3 q = some (.met g x) ∧ sp (.ref x :: vs) H3 Q E0) : tSup C g m sp t σ H Q :=
  ⟨x, dx, fs, h, e, fun p np => q p _ ⟨np⟩ (.new np) upd_same⟩
section
variable {H : Hp} {Q : VK}
theorem r_isNn (q : Q (.bl true) H) : rIsN .non .non H Q := ⟨rfl, q⟩
theorem r_isNr {a : Addr} (q : Q (.bl false) H) : rIsN (.ref a) .non H Q := ⟨rfl, q⟩
theorem r_isNi {a : Int} (q : Q (.bl false) H) : rIsN (.int a) .non H Q := ⟨rfl, q⟩
theorem r_isNs {a : Str} (q : Q (.bl false) H) : rIsN (.str a) .non H Q := ⟨rfl, q⟩
theorem r_noNn (q : Q (.bl false) H) : rNotN .non .non H Q := ⟨rfl, q⟩
theorem r_noNr {a : Addr} (q : Q (.bl true) H) : rNotN (.ref a) .non H Q := ⟨rfl, q⟩
theorem r_noNi {a : Int} (q : Q (.bl true) H) : rNotN (.int a) .non H Q := ⟨rfl, q⟩
theorem r_noNs {a : Str} (q : Q (.bl true) H) : rNotN (.str a) .non H Q := ⟨rfl, q⟩
/-- x in a tuple of ints -/
theorem inV_int {i : Int} : ∀ {ns : List Int}, inV (.int i) (ns.map V.int) = decide (i ∈ ns) := by
  intro ns
  induction ns with
  | nil => rfl
  | cons n r ih =>
    show (eqV (.int n) (.int i) || inV (.int i) (r.map V.int)) = _
    rw [ih]
    show ((n == i) || decide (i ∈ r)) = _
    rw [show (n == i) = decide (i = n) from by rw [Bool.beq_eq_decide_eq]; exact decide_eq_decide.mpr eq_comm, ← Bool.decide_or]
    exact decide_eq_decide.mpr List.mem_cons.symm
theorem flat_ints : ∀ {ns : List Int}, (ns.map V.int).all flatV = true
  | [] => rfl
  | n :: r => by rw [List.map_cons, List.all_cons, flat_ints]; rfl
theorem r_inT {K : PySem.W.Frag} {i : Int} {a : Addr} {ns : List Int} (h : H a = some (.tup (ns.map V.int))) (q : Q (.bl (decide (i ∈ ns))) H) : rIn K false (.int i) (.ref a) H Q :=
  ⟨a, _, rfl, .inr (SqT.of h), rfl, flat_ints, by rw [inV_int]; exact q⟩
end
open StX in
def kStar (K : PySem.W.Frag) (t : TA) (σ : L2.St) (R : List V → Hp → Prop) : VK := fun x H1 => ∃ p xs, x = V.ref p ∧ (SqT K H1 p xs ∨ SqL K H1 p xs) ∧ t σ H1 fun ys H2 => R (xs ++ ys) H2
theorem r_star {K : PySem.W.Frag} {te : TE} {t : TA} {σ : L2.St} {H : Hp} {R : List V → Hp → Prop} (h : te σ H (kStar K t σ R)) : StX.tStar K te t σ H R := h
theorem r_kStar {K : PySem.W.Frag} {t : TA} {σ : L2.St} {H : Hp} {R : List V → Hp → Prop} {p : Addr} {xs : List V} (h : H p = some (.tup xs)) (q : t σ H fun ys H2 => R (xs ++ ys) H2) : kStar K t σ R (.ref p) H := ⟨p, xs, rfl, .inl (SqT.of h), q⟩
/-! a dict is locked while it is walked -/
def kUn (d : Addr) (od : Obj) (u : HO) (R : L2.St → Hp → Prop) : L2.St → Hp → Prop := fun σ' H' => H' d = some (.frz od u) ∧ R σ' (upd H' d u)
theorem r_kUn {d : Addr} {od : Obj} {u : HO} {R : L2.St → Hp → Prop} {σ : L2.St} {H : Hp} (h : H d = some (.frz od u)) (q : ∀ H2, Ext [d] H H2 → H2 d = some u → R σ H2) : kUn d od u R σ H := ⟨h, q _ (.mut h) upd_same⟩
theorem r_lock {t : TS} {D : Ends} {σ : L2.St} {H : Hp} {d : Addr} {kvs : List (Key × V)} (h : H d = some (.dK kvs))
    (q : ∀ od H1, H1 d = some (.frz od (.dK kvs)) → Ext [d] H H1 → t { nx := kUn d od (.dK kvs) D.nx, rt := fun v => kUn d od (.dK kvs) (fun _ => D.rt v) σ, bk := kUn d od (.dK kvs) D.bk, ct := kUn d od (.dK kvs) D.ct } σ H1) : tLock t D σ H :=
  ⟨d, .dK kvs, h, trivial, fun od => q od _ upd_same (.mut h)⟩
theorem Ext.back {L : List Addr} {d : Addr} {u : HO} {H H' : Hp} (e : Ext (d :: L) H H') (h : H d = some u) (h' : H' d = some u) : Ext L H H' :=
  ⟨fun b o n q => by
    by_cases z : b = d
    · subst z
      rw [h] at q
      cases q
      exact h'
    · exact e.ge b o (nin_cons z n) q, e.dom⟩
theorem r_iVals {td : TE} {σ : L2.St} {H : Hp} {R : It → Hp → Prop} (h : td σ H fun x H1 => ∃ d o kvs, x = .ref d ∧ H1 d = some (.frz o (.dK kvs)) ∧ R (Itd d o kvs) H1) : iVals td σ H R := h
theorem r_iKeys {td : TE} {σ : L2.St} {H : Hp} {R : It → Hp → Prop} (h : td σ H fun x H1 => ∃ d o, x = .ref d ∧ ((∃ kvs, H1 d = some (.frz o (.dK kvs)) ∧ R (Itk d o kvs) H1) ∨ ∃ kvs, H1 d = some (.frz o (.dT kvs)) ∧ R (Itkt d o kvs) H1)) : iKeys td σ H R := h
theorem Paired.at_ {α β : Type} {F : α → β → Prop} : ∀ {l : List α} {m : List β} {i : Nat} {a : α}, Paired F l m → l[i]? = some a → ∃ b, m[i]? = some b ∧ F a b
  | _, _, i, a, .nil, h => by simp at h
  | _, _, 0, a, .cons (b := b) f _, h => ⟨b, rfl, by
    have := Option.some.inj h
    rw [← this]
    exact f⟩
  | _, _, i + 1, a, .cons _ r, h => by
    have h' := h
    rw [List.getElem?_cons_succ] at h'
    obtain ⟨b, h1, h2⟩ := Paired.at_ r h'
    exact ⟨b, by rw [List.getElem?_cons_succ]; exact h1, h2⟩
theorem Paired.len {α β : Type} {F : α → β → Prop} : ∀ {l : List α} {m : List β}, Paired F l m → l.length = m.length
  | _, _, .nil => rfl
  | _, _, .cons _ r => by rw [List.length_cons, List.length_cons, Paired.len r]
end K7
set_option Elab.async false
set_option linter.all false
set_option maxRecDepth 100000
set_option maxHeartbeats 4000000
namespace K7
open PySem PySem.Spec PyProof.Rows L2
local macro_rules | `(tactic| walk_at "hp") => `(tactic| first | assumption | exact upd_same | (apply get_ne; (focus walk_at "ne"); walk_at "hp") | (apply Ext.get; (focus assumption); (focus walk_at "nl"); walk_at "hp"))
local macro_rules | `(tactic| walk_at "nl") => `(tactic| first | exact List.not_mem_nil | (apply nin_cons; (focus walk_at "ne"); walk_at "nl"))
local macro_rules | `(tactic| walk_at "ne") => `(tactic| first | assumption | (apply Ne.symm; assumption) | (apply ne_fresh; (focus assumption); walk_at "hp") | (apply ne_fresh'; (focus assumption); walk_at "hp"))
local macro_rules | `(tactic| walk_at "ex") => `(tactic| first | exact Ext.rfl' | assumption | (apply Ext.tr; (focus assumption); (focus walk_at "ex"); walk_at "sub"))
local macro_rules | `(tactic| walk_at "dm") => `(tactic| first | exact Dom.rfl' | (apply Dom.tr; (focus assumption); walk_at "dm"))
local macro_rules | `(tactic| walk_at "sub") => `(tactic| first | exact Sub.nil | (apply Sub.cons; (focus (first | (apply Or.inl; simp; done) | (apply Or.inr; apply Dom.fr; (focus assumption); walk_at "dm"))); walk_at "sub"))
local macro_rules | `(tactic| walk_at "st") => `(tactic| first
  | (with_reducible refine r_seq ?_) | (with_reducible refine r_asg ?_) | (with_reducible refine r_name ?_) | (with_reducible refine r_drop ?_) | (with_reducible refine r_ret ?_) | (with_reducible refine r_retN ?_) | (with_reducible refine r_next ?_)
  | (with_reducible refine r_ifS ?_) | (with_reducible refine r_c ?_) | (with_reducible refine r_op ?_) | (with_reducible refine r_un ?_) | (with_reducible refine r_test ?_) | (with_reducible refine r_tB ?_) | (with_reducible refine r_kB ?_)
  | (with_reducible refine r_and ?_) | (with_reducible refine r_or ?_) | (with_reducible refine r_not ?_) | (with_reducible refine r_andV ?_) | (with_reducible refine r_kAndV ?_) | (with_reducible refine r_orV ?_) | (with_reducible refine r_kOrV ?_)
  | (with_reducible refine r_notV ?_) | (with_reducible refine r_kNotV ?_) | (with_reducible refine r_ifE ?_) | (with_reducible refine r_iftt ?_) | (with_reducible refine r_ifff ?_) | (with_reducible refine r_ifnt ?_) | (with_reducible refine r_ifnf ?_) | (with_reducible refine r_kCh ?_)
  | (with_reducible refine r_nil ?_) | (with_reducible refine r_cons ?_) | (with_reducible refine r_tup ?_) | (with_reducible refine r_lst ?_) | (with_reducible refine r_fld ?_) | (with_reducible refine r_sfld ?_) | (with_reducible refine r_gfld ?_)
  | (with_reducible refine r_gNil ?_) | (with_reducible refine r_gCons ?_) | (with_reducible refine r_par ?_) | (with_reducible refine r_kPar ?_) | (with_reducible refine r_cl ?_) | (with_reducible refine r_cb ?_) | (with_reducible refine r_bm ?_)
  | (with_reducible refine r_bm0 ?_) | (with_reducible refine r_gsub ?_) | (with_reducible refine r_m ?_) | (with_reducible refine r_p ?_) | (with_reducible refine r_mk ?_) | (with_reducible refine r_I0 ?_) | (with_reducible refine r_U ?_)
  | ((with_reducible apply r_var); focus (first | exact rfl | assumption))
  | ((with_reducible apply r_eq); focus exact rfl) | ((with_reducible apply r_ne); focus exact rfl)
  | ((with_reducible apply r_kFld); (focus walk_at "hp"); (focus walk_at "cls"); (focus walk_at "no"); (focus exact rfl))
  | ((with_reducible apply r_kSF); (focus walk_at "hp"); (focus walk_at "cls"); (focus walk_at "no"); (focus exact of_decide_eq_true (by exact rfl)); (focus walk_at "pf"); intro _ _ _)
  | ((with_reducible apply r_kTup); (focus (first | exact of_decide_eq_true (by exact rfl) | (simp; done))); intro _ _ _ _ _) | ((with_reducible apply r_kLst); (focus (first | exact of_decide_eq_true (by exact rfl) | (simp; done))); intro _ _ _ _ _) | ((with_reducible apply r_dnew); intro _ _ _ _ _)
  | ((with_reducible apply r_gTup); (focus exact SqT.of (by walk_at "hp")); (focus exact rfl)) | ((with_reducible apply r_gUnl); (focus exact SqL.of (by walk_at "hp")); (focus exact rfl))
  | (with_reducible refine r_sl ?_) | (with_reducible refine r_noPart ?_) | (with_reducible refine r_part ?_) | (with_reducible refine r_kPart ?_) | (with_reducible refine r_chain ?_) | (with_reducible refine r_for ?_) | (with_reducible refine r_lc ?_) | (with_reducible refine r_yes ?_)
  | (with_reducible refine r_iTup ?_) | (with_reducible refine r_iList ?_) | (with_reducible refine r_iRng1 ?_) | (with_reducible refine r_iStr ?_) | (with_reducible refine r_iEnumT ?_) | (with_reducible refine r_iZip ?_)
  | (with_reducible refine r_kIfT ?_) | (with_reducible refine r_kIfF ?_)
  | ((with_reducible apply r_kMk); intro _ _ _ _ _ _)
  | ((with_reducible apply r_lenL); (focus walk_at "hp")) | ((with_reducible apply r_lenT); (focus walk_at "hp")) | ((with_reducible apply r_listL); (focus walk_at "hp"); intro _ _ _ _ _) | ((with_reducible apply r_tupL); (focus walk_at "hp"); intro _ _ _ _ _)
  | (with_reducible refine r_strS ?_)
  | (with_reducible refine r_isiII ?_) | (with_reducible refine r_isiIB ?_) | (with_reducible refine r_isiIS ?_) | (with_reducible refine r_isiSS ?_) | ((with_reducible apply r_isiTT); (focus walk_at "hp"))
  | (with_reducible refine r_isNn ?_) | (with_reducible refine r_isNr ?_) | (with_reducible refine r_isNi ?_) | (with_reducible refine r_isNs ?_) | (with_reducible refine r_noNn ?_) | (with_reducible refine r_noNr ?_) | (with_reducible refine r_noNi ?_) | (with_reducible refine r_noNs ?_)
  | (with_reducible refine r_isN ?_) | (with_reducible refine r_notN ?_) | ((with_reducible apply r_inT); (focus walk_at "hp")) | (with_reducible refine r_max2 ?_) | (with_reducible refine r_min2 ?_) | (with_reducible refine r_sign ?_)
  | ((with_reducible apply r_dict); (focus walk_at "hp"); intro _ _ _ _ _)
  | ((with_reducible apply r_ixLast); (focus walk_at "hp")) | ((with_reducible apply r_ixPair0); (focus walk_at "hp")) | ((with_reducible apply r_ixPair1); (focus walk_at "hp"))
  | ((with_reducible apply r_kBM0); (focus exact ty_l (by walk_at "hp"))) | ((with_reducible apply r_kBM); (focus exact ty_l (by walk_at "hp")))
  | (with_reducible refine r_star ?_) | ((with_reducible apply r_kStar); (focus walk_at "hp"))
  | (with_reducible refine r_iVals ?_) | (with_reducible refine r_iKeys ?_)
  | ((with_reducible apply r_kM); (focus walk_at "hp"); (focus exact rfl)) | ((with_reducible apply r_kP); (focus walk_at "hp")))
local macro_rules | `(tactic| walk_at "go") => `(tactic| repeat walk_at "st")
local macro_rules | `(tactic| walk_at "cls") => `(tactic| first | assumption | exact Tx.cls (by assumption) _ (by decide +kernel))
local macro_rules | `(tactic| walk_at "no") => `(tactic| first | assumption | exact Tx.no (by assumption) _ _ (by decide +kernel))
local macro_rules | `(tactic| walk_at "fr") => `(tactic| (apply Dom.fr; (focus assumption); walk_at "dm"))
local macro_rules | `(tactic| walk_at "pf") => `(tactic| first | exact putF_nil | exact putF_hit | (apply putF_miss; (focus decide); walk_at "pf"))
section
variable {P : Program} {w : World} {K : PySem.W.Frag} {mg : Str → Option Value} {base : Heap}
def spIsInt : Sp := fun vs H Q _ => ∃ i, vs = [.int i] ∧ Q (.bl true) H
theorem sc_is_integer : FnScope ["thing"] ["thing"] (defScope s15) := ⟨rfl, rfl, rfl, by decide +kernel, rfl, by decide +kernel, by decide +kernel⟩
theorem fn_is_integer (T : Tx K mg) : FnR P w K mg base CX0 1 (d_is_integer.pl.ad K) spIsInt := by
  refine fnR_of (N := ["thing"]) (ps := ["thing"]) (fun_of T md_is_integer rfl) sc_is_integer (fun _ _ _ _ _ _ us hl => match us, hl with | [_], _ => rfl) (fun _ _ _ _ ⟨_, e, _⟩ => by rw [e]; rfl) fun cdv A outer s H vs Q E hr hsp => ?_
  obtain ⟨i, rfl, q⟩ := hsp
  refine ⟨_, (pss_one (ps_ret (pe_and (pe_callB (cl_isi (K := K) rfl) (by rfl) (T.free "isinstance" (by decide +kernel)) (by decide +kernel) (pa_cons (pv 0) (pa_cons (pe_bltn (v := .ty "int") (by rfl) (T.free "int" (by decide +kernel)) (by decide +kernel) rfl) pa_nil))) (pe_one (pe_not (pe_callB (cl_isi (K := K) rfl) (by rfl) (T.free "isinstance" (by decide +kernel)) (by decide +kernel) (pa_cons (pv 0) (pa_cons (pe_bltn (v := .ty "bool") (by rfl) (T.free "bool" (by decide +kernel)) (by decide +kernel) rfl) pa_nil)))))))), ?_⟩
  walk_at "go"
  exact q
def spBetween : Sp := fun vs H Q _ => ∃ i lo hi, vs = [.int i, .int lo, .int hi] ∧ Q (.bl (decide (lo ≤ i ∧ i ≤ hi))) H
theorem sc_is_between : FnScope ["thing", "low", "high"] ["thing", "low", "high"] (defScope s16) := ⟨rfl, rfl, rfl, by decide +kernel, rfl, by decide +kernel, by decide +kernel⟩
theorem fn_is_between (T : Tx K mg) : FnR P w K mg base CX0 2 (d_is_between.pl.ad K) spBetween := by
  refine fnR_of (N := ["thing", "low", "high"]) (ps := ["thing", "low", "high"]) (fun_of T md_is_between rfl) sc_is_between (fun _ _ _ _ _ _ us hl => match us, hl with | [_, _, _], _ => rfl) (fun _ _ _ _ ⟨_, _, _, e, _⟩ => by rw [e]; rfl) fun cdv A outer s H vs Q E hr hsp => ?_
  obtain ⟨i, lo, hi, rfl, q⟩ := hsp
  refine ⟨_, (pss_one (ps_ret (pe_and (kc_call (fn_is_integer (K := K) (mg := mg) T) hr (by rfl) (T.glo "is_integer" (by decide +kernel)) (T.def_ _ md_is_integer).kp (pa_cons (pv 0) pa_nil)) (pe_one (pe_chain op_le op_le (pv 1) (pv 0) (pv 2)))))), ?_⟩
  walk_at "go"
  refine ⟨_, rfl, ?_⟩
  walk_at "go"
  refine r_if2 (fun h1 => ?_) fun h1 => ?_
  · walk_at "go"
    rw [show (decide (lo ≤ i ∧ i ≤ hi)) = decide (i ≤ hi) from by simp [h1]] at q
    exact q
  · rw [show (decide (lo ≤ i ∧ i ≤ hi)) = false from by simp [h1]] at q
    exact q
/-- a table that stands the test -/
structure OkT (ns : List Int) : Prop where
  pos : 0 < ns.length
  le : ns.length ≤ 24
  bd : ∀ x ∈ ns, 0 ≤ x ∧ x ≤ 60
  onto : (ns.zipIdx.map fun p => ((p.2 : Int) + p.1).fmod (ns.length : Int)).Nodup
def spOnto : Sp := fun vs H Q _ => ∃ a ns, vs = [.ref a] ∧ H a = some (.tup (ns.map V.int)) ∧ OkT ns ∧ ∀ H', Ext [] H H' → Q (.bl true) H'
theorem sc_is_onto : FnScope ["holds", "place", "hold"] ["holds"] (defScope s17) := ⟨rfl, rfl, rfl, by decide +kernel, rfl, by decide +kernel, by decide +kernel⟩
theorem fn_is_onto (T : Tx K mg) : FnR P w K mg base CX0 1 (d_is_onto.pl.ad K) spOnto := by
  refine fnR_of (N := ["holds", "place", "hold"]) (ps := ["holds"]) (fun_of T md_is_onto rfl) sc_is_onto (fun _ _ _ _ _ _ us hl => match us, hl with | [_], _ => rfl) (fun _ _ _ _ ⟨_, _, e, _⟩ => by rw [e]; rfl) fun cdv A outer s H vs Q E hr hsp => ?_
  obtain ⟨a, ns, rfl, ha, ok, q⟩ := hsp
  refine ⟨_, (pss_one (ps_ret (pe_cmpR op_eq (pe_callB cr_lenS (by rfl) (T.free "len" (by decide +kernel)) (by decide +kernel) (pa_cons (pe_scI (own := [("place", 1), ("hold", 2)]) (tt := tYes) rfl sc_is_onto.nd (ki_enumT (K := K) rfl (by rfl) (T.free "enumerate" (by decide +kernel)) (pa_cons (pv 0) pa_nil)) (blkOk_by (N := ["holds", "place", "hold"]) (sc := defScope s17) (by decide +kernel)) (fun _ _ _ _ _ => (kg_tup (K := K) (n := 2) rfl rfl (pgs_cons (pg_name (i := 1) sc_is_onto.nd rfl (Or.inl rfl)) (pgs_cons (pg_name (i := 2) sc_is_onto.nd rfl (Or.inl rfl)) pgs_nil)))) (fun _ _ _ _ _ => pts_nil) (fun _ _ _ _ _ => (pe_op op_modN (pe_op op_add (pv 1) (pv 2)) (pe_callB (cl_len (K := K) rfl) (by rfl) (T.free "len" (by decide +kernel)) (by decide +kernel) (pa_cons (pv 0) pa_nil))))) pa_nil)) (pe_callB (cl_len (K := K) rfl) (by rfl) (T.free "len" (by decide +kernel)) (by decide +kernel) (pa_cons (pv 0) pa_nil)) (nomark _)))), ?_⟩
  walk_at "go"
  refine r_sc ?_
  walk_at "go"
  refine ⟨a, _, rfl, SqT.of ha, ?_⟩
  have hnd := ok.onto
  have hlen : (ns.zipIdx.map fun p => ((p.2 : Int) + p.1).fmod (ns.length : Int)).length = ns.length := by simp
  have hpos := ok.pos
  have hle := ok.le
  refine r_kSc (walk_enumT (xs := ns.map V.int)) [] (ns.zipIdx.map fun p => ((p.2 : Int) + p.1).fmod (ns.length : Int)) ?_ ?_ ?_
  · intro H2 e
    refine SqT.of ?_
    walk_at "hp"
  · intro D i x H1 H2 hi nw e hD y
    obtain ⟨p, x1, x2, rfl, np, e2, hp2, h1, h2⟩ := YPair.get y
    cases h1
    obtain ⟨z, hz, rfl⟩ := mapI h2
    walk_at "go"
    refine ⟨rfl, ?_⟩
    walk_at "go"
    refine r_I (by rw [List.length_map]; omega) ?_
    refine r_kSp hnd ?_ (by simp at hi; omega) (by walk_at "hp") (by walk_at "ex") nw
    simp [hz]
  · intro D H2 nw e hD
    walk_at "go"
    refine r_lenS rfl hD (by simp; omega) ?_
    walk_at "go"
    rw [show decide (V.int (((ns.map V.int).length : Nat) : Int) = V.int (((ns.map V.int).length : Nat) : Int)) = true from by simp]
    exact q _ (by walk_at "ex")
def spIsTable : Sp := fun vs H Q _ => ∃ a ns, vs = [.ref a] ∧ H a = some (.tup (ns.map V.int)) ∧ OkT ns ∧ ∀ H', Ext [] H H' → Q (.bl true) H'
theorem sc_is_table : FnScope ["thing", "hold"] ["thing"] (defScope s18) := ⟨rfl, rfl, rfl, by decide +kernel, rfl, by decide +kernel, by decide +kernel⟩
theorem fn_is_table (T : Tx K mg) : FnR P w K mg base CX0 3 (d_is_table.pl.ad K) spIsTable := by
  refine fnR_of (N := ["thing", "hold"]) (ps := ["thing"]) (fun_of T md_is_table rfl) sc_is_table (fun _ _ _ _ _ _ us hl => match us, hl with | [_], _ => rfl) (fun _ _ _ _ ⟨_, _, e, _⟩ => by rw [e]; rfl) fun cdv A outer s H vs Q E hr hsp => ?_
  obtain ⟨a, ns, rfl, ha, ok, q⟩ := hsp
  refine ⟨_, (pss_cons (ps_if (PW.pt (pw_or (pt_not (pt_val (pe_callB (cl_isi (K := K) rfl) (by rfl) (T.free "isinstance" (by decide +kernel)) (by decide +kernel) (pa_cons (pv 0) (pa_cons (pe_bltn (v := .ty "tuple") (by rfl) (T.free "tuple" (by decide +kernel)) (by decide +kernel) rfl) pa_nil))))) (pw_or1 (pt_not (pt_chain op_le op_le pe_int (pe_callB (cl_len (K := K) rfl) (by rfl) (T.free "len" (by decide +kernel)) (by decide +kernel) (pa_cons (pv 0) pa_nil)) (pe_gi (by rfl) (T.int "LONGEST" 24 (by decide +kernel))))))))
  (pss_one (ps_ret pe_bl))
  pss_nil)
  (pss_one (ps_ret (pe_and (pe_callB (cl_all (K := K) rfl rfl) (by rfl) (T.free "all" (by decide +kernel)) (by decide +kernel) (pa_cons (pe_lc (own := [("hold", 1)]) (g := gName 1) (tt := tYes) rfl sc_is_table.nd (ki_tup (K := K) rfl (pv 0)) (blkOk_by (N := ["thing", "hold"]) (sc := defScope s18) (by decide +kernel)) (fun _ _ _ _ _ => (pg_name (i := 1) sc_is_table.nd rfl (Or.inl rfl))) (fun _ _ _ _ _ => pts_nil) (fun _ _ _ _ _ => (kc_call (fn_is_between (K := K) (mg := mg) T) hr (by rfl) (T.glo "is_between" (by decide +kernel)) (T.def_ _ md_is_between).kp (pa_cons (pv 1) (pa_cons pe_int (pa_cons (pe_gi (by rfl) (T.int "GREATEST_HOLD" 60 (by decide +kernel))) pa_nil)))))) pa_nil)) (pe_one (kc_call (fn_is_onto (K := K) (mg := mg) T) hr (by rfl) (T.glo "is_onto" (by decide +kernel)) (T.def_ _ md_is_onto).kp (pa_cons (pv 0) pa_nil))))))), ?_⟩
  have hpos := ok.pos
  have hle := ok.le
  have hbd := ok.bd
  walk_at "go"
  apply r_ifT
  · rw [List.length_map]; omega
  walk_at "go"
  rw [show (!decide (((ns.map V.int).length : Int) ≤ 24)) = false from by rw [List.length_map]; simp; omega]
  walk_at "go"
  refine ⟨a, rfl, ⟨_, SqT.of ha⟩, ?_⟩
  refine r_kLc (walk_tup (xs := ns.map V.int)) [] (fun i acc => acc = List.replicate i (V.bl true)) rfl ?_ ?_ ?_
  · intro H2 e
    refine SqT.of ?_
    walk_at "hp"
  · rintro D i x H1 H2 acc hi nw e hD rfl ⟨rfl, hx⟩
    obtain ⟨z, hz, rfl⟩ := mapI hx
    walk_at "go"
    refine ⟨rfl, ?_⟩
    walk_at "go"
    refine ⟨_, _, _, rfl, ?_⟩
    rw [decide_eq_true (hbd z (List.mem_of_getElem? hz))]
    exact r_kAp hD e nw (by simp at hi ⊢; omega) (by rw [List.replicate_succ'])
  · rintro D H2 acc nw e hD rfl
    walk_at "go"
    refine r_all (bs := List.replicate (ns.map V.int).length true) (by rw [List.map_replicate]; exact hD) ?_
    walk_at "go"
    rw [show (List.replicate (ns.map V.int).length true).all id = true from by simp]
    walk_at "go"
    refine ⟨a, ns, rfl, by walk_at "hp", ok, fun H' e' => ?_⟩
    exact q _ (by walk_at "ex")
def spNeedTable : Sp := fun vs H Q _ => ∃ a ns, vs = [.ref a] ∧ H a = some (.tup (ns.map V.int)) ∧ OkT ns ∧ ∀ H', Ext [] H H' → Q .non H'
theorem sc_need_table : FnScope ["table"] ["table"] (defScope s19) := ⟨rfl, rfl, rfl, by decide +kernel, rfl, by decide +kernel, by decide +kernel⟩
theorem fn_need_table (T : Tx K mg) : FnR P w K mg base CX0 4 (d_need_table.pl.ad K) spNeedTable := by
  refine fnR_of (N := ["table"]) (ps := ["table"]) (fun_of T md_need_table rfl) sc_need_table (fun _ _ _ _ _ _ us hl => match us, hl with | [_], _ => rfl) (fun _ _ _ _ ⟨_, _, e, _⟩ => by rw [e]; rfl) fun cdv A outer s H vs Q E hr hsp => ?_
  obtain ⟨a, ns, rfl, ha, ok, q⟩ := hsp
  refine ⟨_, (pss_one (ps_if (pt_not (pt_val (kc_call (fn_is_table (K := K) (mg := mg) T) hr (by rfl) (T.glo "is_table" (by decide +kernel)) (T.def_ _ md_is_table).kp (pa_cons (pv 0) pa_nil))))
  (pss_one ps_never)
  pss_nil)), ?_⟩
  walk_at "go"
  refine ⟨a, ns, rfl, ha, ok, fun H' e' => ?_⟩
  walk_at "go"
  exact q _ e'
def spBackOf : Sp := fun vs H Q _ => ∃ a ns, vs = [.ref a] ∧ H a = some (.tup (ns.map V.int)) ∧ OkT ns ∧ ∀ (H' : Hp) (p : Addr) (ms : List Int), Ext [] H H' → H' p = some (.tup (ms.map V.int)) → ms.length = ns.length → Q (.ref p) H'
theorem sc_back_of : FnScope ["table", "holds", "place", "hold"] ["table"] (defScope s24) := ⟨rfl, rfl, rfl, by decide +kernel, rfl, by decide +kernel, by decide +kernel⟩
theorem fn_back_of (T : Tx K mg) : FnR P w K mg base CX0 1 (d_back_of.pl.ad K) spBackOf := by
  refine fnR_of (N := ["table", "holds", "place", "hold"]) (ps := ["table"]) (fun_of T md_back_of rfl) sc_back_of (fun _ _ _ _ _ _ us hl => match us, hl with | [_], _ => rfl) (fun _ _ _ _ ⟨_, _, e, _⟩ => by rw [e]; rfl) fun cdv A outer s H vs Q E hr hsp => ?_
  obtain ⟨a, ns, rfl, ha, ok, q⟩ := hsp
  refine ⟨_, (pss_cons (ps_set (i := 1) sc_back_of.nd rfl (Or.inl rfl) (pe_op op_rep (pe_lst (pa_cons pe_int pa_nil)) (pe_callB (cl_len (K := K) rfl) (by rfl) (T.free "len" (by decide +kernel)) (by decide +kernel) (pa_cons (pv 0) pa_nil))))
  (pss_cons (ps_for PassesOwn.never rfl (ki_enumT (K := K) rfl (by rfl) (T.free "enumerate" (by decide +kernel)) (pa_cons (pv 0) pa_nil)) (kg_tup (K := K) (n := 2) rfl rfl (pgs_cons (pg_name (i := 2) sc_back_of.nd rfl (Or.inl rfl)) (pgs_cons (pg_name (i := 3) sc_back_of.nd rfl (Or.inl rfl)) pgs_nil)))
  (pss_one (ps_asg (pe_op op_sub (pe_callB (cl_maxT (K := K) rfl rfl) (by rfl) (T.free "max" (by decide +kernel)) (by decide +kernel) (pa_cons (pv 0) pa_nil)) (pv 3)) (pg_sub (pv 1) (pe_op op_modN (pe_op op_add (pv 2) (pv 3)) (pe_callB (cl_len (K := K) rfl) (by rfl) (T.free "len" (by decide +kernel)) (by decide +kernel) (pa_cons (pv 0) pa_nil))) set_list))))
  (pss_one (ps_ret (pe_callTy (cl_tuple (K := K) rfl) (by rfl) (T.free "tuple" (by decide +kernel)) (by decide +kernel) (pa_cons (pv 1) pa_nil)))))), ?_⟩
  walk_at "go"
  have hpos := ok.pos
  have hle := ok.le
  rename_i p0 H1 np0 e0 hp0
  refine ⟨p0, _, _, rfl, rfl, hp0, by omega, by rw [List.length_map]; omega, by rw [List.length_map]; simp; exact sz1 (by omega), ?_⟩
  refine new_of fun p1 H2 np1 e1 hp1 => ?_
  walk_at "go"
  refine ⟨a, _, rfl, SqT.of (by walk_at "hp"), ?_⟩
  have hp1' : H2 p1 = some (.lst ((List.replicate ns.length (0 : Int)).map V.int)) := by
    rw [hp1]
    simp [List.length_map, List.map_replicate]
  refine r_for_it (walk_enumT (xs := ns.map V.int)) (fun i σ H3 => ∃ (x y : Option V) (ms : List Int), σ = [some (.ref a), some (.ref p1), x, y] ∧ Ext [] H H3 ∧ H3 p1 = some (.lst (ms.map V.int)) ∧ ms.length = ns.length) ?_ ?_ ?_ ?_
  · exact ⟨_, _, _, rfl, by walk_at "ex", hp1', by simp⟩
  · rintro i σ H3 hi ⟨x, y, ms, rfl, e3, h3, hm⟩
    exact SqT.of (by walk_at "hp")
  · rintro i x σ H3 H4 hi ⟨x', y', ms, rfl, e3, h3, hm⟩ y
    obtain ⟨p, x1, x2, rfl, np, e4, hp4, h1, h2⟩ := YPair.get y
    cases h1
    obtain ⟨z, hz, rfl⟩ := mapI h2
    walk_at "go"
    refine ⟨a, ns, rfl, SqT.of (by walk_at "hp"), hpos, fun m hm1 hm2 => ?_⟩
    walk_at "go"
    refine r_I (by rw [List.length_map]; omega) ?_
    have h0 : (0 : Int) < (ns.length : Int) := by omega
    have hb1 := Int.fmod_nonneg_of_pos ((i : Int) + z) h0
    have hb2 := Int.fmod_lt_of_pos ((i : Int) + z) h0
    apply r_setL (j := (((i : Int) + z).fmod (ns.length : Int)).toNat) (a := p1) (xs := ms.map V.int)
    · walk_at "hp"
    · unfold ixN
      rw [List.length_map, List.length_map, if_pos hb1, if_pos (by omega)]
    · intro H5 e5 h5
      refine ⟨_, _, ms.set (((i : Int) + z).fmod (ns.length : Int)).toNat (m - z), rfl, ?_, ?_, by simp [hm]⟩
      · walk_at "ex"
      · rw [h5, List.map_set]
  · rintro σ H3 ⟨x, y, ms, rfl, e3, h3, hm⟩
    walk_at "go"
    exact q _ _ ms (by walk_at "ex") (by assumption) hm
def OkS (z : Str) : Prop := 1 ≤ z.length ∧ z.length ≤ 10 ∧ ∀ c ∈ z.cps.toList, 97 ≤ c ∧ c ≤ 122
def OkV (v : V) : Prop := (∃ i, v = .int i) ∨ ∃ z, v = .str z ∧ OkS z
def spIsValue : Sp := fun vs H Q _ => ∃ v, vs = [v] ∧ OkV v ∧ ∀ H', Ext [] H H' → Q (.bl true) H'
theorem sc_is_value : FnScope ["thing", "sign"] ["thing"] (defScope s55) := ⟨rfl, rfl, rfl, by decide +kernel, rfl, by decide +kernel, by decide +kernel⟩
theorem fn_is_value (T : Tx K mg) : FnR P w K mg base CX0 2 (d_is_value.pl.ad K) spIsValue := by
  refine fnR_of (N := ["thing", "sign"]) (ps := ["thing"]) (fun_of T md_is_value rfl) sc_is_value (fun _ _ _ _ _ _ us hl => match us, hl with | [_], _ => rfl) (fun _ _ _ _ ⟨_, e, _⟩ => by rw [e]; rfl) fun cdv A outer s H vs Q E hr hsp => ?_
  obtain ⟨v, rfl, ok, q⟩ := hsp
  refine ⟨_, (pss_cons (ps_if (pt_val (pe_callB (cl_isi (K := K) rfl) (by rfl) (T.free "isinstance" (by decide +kernel)) (by decide +kernel) (pa_cons (pv 0) (pa_cons (pe_bltn (v := .ty "str") (by rfl) (T.free "str" (by decide +kernel)) (by decide +kernel) rfl) pa_nil))))
  (pss_one (ps_ret (pe_and (pe_chain op_le op_le pe_int (pe_callB cl_lenS (by rfl) (T.free "len" (by decide +kernel)) (by decide +kernel) (pa_cons (pv 0) pa_nil)) (pe_gi (by rfl) (T.int "MOST_LETTERS" 10 (by decide +kernel)))) (pe_one (pe_callB (cl_all (K := K) rfl rfl) (by rfl) (T.free "all" (by decide +kernel)) (by decide +kernel) (pa_cons (pe_lc (own := [("sign", 1)]) (g := gName 1) (tt := tYes) rfl sc_is_value.nd (pi_str (pv 0)) (blkOk_by (N := ["thing", "sign"]) (sc := defScope s55) (by decide +kernel)) (fun _ _ _ _ _ => (pg_name (i := 1) sc_is_value.nd rfl (Or.inl rfl))) (fun _ _ _ _ _ => pts_nil) (fun _ _ _ _ _ => (pe_cmpR opSign (pv 1) (pe_gs (by rfl) (T.str "LETTERS" "abcdefghijklmnopqrstuvwxyz" (by decide +kernel))) (by rfl)))) pa_nil))))))
  pss_nil)
  (pss_one (ps_ret (kc_call (fn_is_integer (K := K) (mg := mg) T) hr (by rfl) (T.glo "is_integer" (by decide +kernel)) (T.def_ _ md_is_integer).kp (pa_cons (pv 0) pa_nil))))), ?_⟩
  rcases ok with ⟨i, rfl⟩ | ⟨z, rfl, ok⟩
  · walk_at "go"
    refine ⟨i, rfl, q _ (by walk_at "ex")⟩
  · obtain ⟨h1, h2, h3⟩ := ok
    walk_at "go"
    refine r_lenStr (by omega) ?_
    walk_at "go"
    refine r_bT (by omega) ?_
    walk_at "go"
    rw [decT (show ((z.length : Nat) : Int) ≤ 10 by omega)]
    walk_at "go"
    refine ⟨z, rfl, ?_⟩
    refine r_kLc walk_str [] (fun i acc => acc = List.replicate i (V.bl true)) rfl (fun _ _ => trivial) ?_ ?_
    · rintro D i x H1 H2 acc hi nw e hD rfl ⟨rfl, c, hc, rfl⟩
      walk_at "go"
      refine ⟨rfl, ?_⟩
      walk_at "go"
      have hc' : c ∈ z.cps.toList := by
        rw [← Array.getElem?_toList] at hc
        exact List.mem_of_getElem? hc
      have hb := h3 c hc'
      rw [show decide (c ∈ ((Str.ofString "abcdefghijklmnopqrstuvwxyz").cps.toList)) = true from ?_]
      · exact r_kAp hD e nw (by
          have : z.cps.size = z.length := rfl
          simp
          omega) (by rw [List.replicate_succ'])
      · have key : ∀ n : Nat, n < 26 → decide ((97 + n) ∈ ((Str.ofString "abcdefghijklmnopqrstuvwxyz").cps.toList)) = true := by decide +kernel
        have := key (c - 97) (by omega)
        rwa [show 97 + (c - 97) = c by omega] at this
    · rintro D H2 acc nw e hD rfl
      walk_at "go"
      refine r_all (bs := List.replicate z.cps.size true) (by rw [List.map_replicate]; exact hD) ?_
      rw [show (List.replicate z.cps.size true).all id = true from by simp]
      exact q _ (by walk_at "ex")
def spNeedValue : Sp := fun vs H Q _ => ∃ v, vs = [v] ∧ OkV v ∧ ∀ H', Ext [] H H' → Q .non H'
theorem sc_need_value : FnScope ["value"] ["value"] (defScope s56) := ⟨rfl, rfl, rfl, by decide +kernel, rfl, by decide +kernel, by decide +kernel⟩
theorem fn_need_value (T : Tx K mg) : FnR P w K mg base CX0 3 (d_need_value.pl.ad K) spNeedValue := by
  refine fnR_of (N := ["value"]) (ps := ["value"]) (fun_of T md_need_value rfl) sc_need_value (fun _ _ _ _ _ _ us hl => match us, hl with | [_], _ => rfl) (fun _ _ _ _ ⟨_, e, _⟩ => by rw [e]; rfl) fun cdv A outer s H vs Q E hr hsp => ?_
  obtain ⟨v, rfl, ok, q⟩ := hsp
  refine ⟨_, (pss_one (ps_if (pt_not (pt_val (kc_call (fn_is_value (K := K) (mg := mg) T) hr (by rfl) (T.glo "is_value" (by decide +kernel)) (T.def_ _ md_is_value).kp (pa_cons (pv 0) pa_nil))))
  (pss_one ps_never)
  pss_nil)), ?_⟩
  walk_at "go"
  refine ⟨v, rfl, ok, fun H' e' => ?_⟩
  walk_at "go"
  exact q _ e'
end
/-! ### stands -/
structure Ad where
  a : Addr
  dx : Addr
  own : Addr
  coming : Addr
  ins : Addr
  outs : Addr
  due : Addr
  cuts : Addr
  gone : Addr
  later : Addr
structure SD where
  ins : List V
  outs : List V
  due : List (Int × Int × V)
  cuts : List Int
  gone : List Int
  many : Int
  later : List (Key × V)
def sd0 : SD := ⟨[], [], [], [], [], 0, []⟩
def flds (A : Ad) (s : SD) : List (Str × V) := [("own", .ref A.own), ("begin", .int 0), ("coming", .ref A.coming), ("ins", .ref A.ins), ("outs", .ref A.outs), ("due", .ref A.due), ("cuts", .ref A.cuts), ("gone", .ref A.gone), ("many", .int s.many), ("later", .ref A.later)]
def DueAt (H : Hp) (kvs : List (Key × V)) (due : List (Int × Int × V)) : Prop := Paired (fun (kv : Key × V) (d : Int × Int × V) => ∃ p, kv = (Sum.inl d.1, .ref p) ∧ H p = some (.tup [.int d.2.1, d.2.2])) kvs due
structure Stn (K : PySem.W.Frag) (H : Hp) (A : Ad) (tb : List Int) (s : SD) : Prop where
  inst : H A.a = some (.ins (ga K "Stand") A.dx (flds A s))
  own : H A.own = some (.tup (tb.map V.int))
  coming : H A.coming = some (.tup [])
  ins : H A.ins = some (.lst s.ins)
  outs : H A.outs = some (.lst s.outs)
  due : ∃ kvs, H A.due = some (.dK kvs) ∧ DueAt H kvs s.due
  cuts : H A.cuts = some (.tup (s.cuts.map V.int))
  gone : H A.gone = some (.tup (s.gone.map V.int))
  later : H A.later = some (.dK s.later)
  d1 : A.ins ≠ A.outs
  d2 : A.due ≠ A.later
structure FrA (H : Hp) (A : Ad) : Prop where
  ins : H A.ins = none
  outs : H A.outs = none
  due : H A.due = none
  later : H A.later = none
theorem Paired.mp {α β : Type} {F G : α → β → Prop} (h : ∀ a b, F a b → G a b) : ∀ {l : List α} {m : List β}, Paired F l m → Paired G l m
  | _, _, .nil => .nil
  | _, _, .cons a b => .cons (h _ _ a) (Paired.mp h b)
theorem DueAt.same {H H' : Hp} {kvs : List (Key × V)} {due : List (Int × Int × V)} (e : ∀ b xs, H b = some (.tup xs) → H' b = some (.tup xs)) (h : DueAt H kvs due) : DueAt H' kvs due := Paired.mp (fun _ _ ⟨p, e1, e2⟩ => ⟨p, e1, e p _ e2⟩) h
theorem Stn.same {K : PySem.W.Frag} {H H' : Hp} {A : Ad} {tb : List Int} {s : SD} (e : Ext [] H H') (h : Stn K H A tb s) : Stn K H' A tb s := by
  obtain ⟨kvs, h1, h2⟩ := h.due
  have g : ∀ b o, H b = some o → H' b = some o := fun b o q => e.ge b o List.not_mem_nil q
  exact ⟨g _ _ h.inst, g _ _ h.own, g _ _ h.coming, g _ _ h.ins, g _ _ h.outs, ⟨kvs, g _ _ h1, h2.same fun b xs q => g _ _ q⟩, g _ _ h.cuts, g _ _ h.gone, g _ _ h.later, h.d1, h.d2⟩
/-- all but the instance itself -/
structure StnR (K : PySem.W.Frag) (H : Hp) (A : Ad) (tb : List Int) (s : SD) : Prop where
  own : H A.own = some (.tup (tb.map V.int))
  coming : H A.coming = some (.tup [])
  ins : H A.ins = some (.lst s.ins)
  outs : H A.outs = some (.lst s.outs)
  due : ∃ kvs, H A.due = some (.dK kvs) ∧ DueAt H kvs s.due
  cuts : H A.cuts = some (.tup (s.cuts.map V.int))
  gone : H A.gone = some (.tup (s.gone.map V.int))
  later : H A.later = some (.dK s.later)
theorem Stn.rest {K : PySem.W.Frag} {H H' : Hp} {A : Ad} {tb : List Int} {s : SD} (h : Stn K H A tb s) (e : Ext [A.a] H H') : StnR K H' A tb s := by
  obtain ⟨kvs, h1, h2⟩ := h.due
  have g : ∀ b o, H b = some o → (HO.ins (ga K "Stand") A.dx (flds A s) ≠ o) → H' b = some o := fun b o q n => e.ge b o (fun m => by
    rw [List.mem_singleton.mp m, h.inst] at q
    exact n (Option.some.inj q)) q
  exact ⟨g _ _ h.own (by intro z; cases z), g _ _ h.coming (by intro z; cases z), g _ _ h.ins (by intro z; cases z), g _ _ h.outs (by intro z; cases z), ⟨kvs, g _ _ h1 (by intro z; cases z), h2.same fun b xs q => g _ _ q (by intro z; cases z)⟩, g _ _ h.cuts (by intro z; cases z), g _ _ h.gone (by intro z; cases z), g _ _ h.later (by intro z; cases z)⟩
def holdN (tb : List Int) (n : Int) : Int := tb.getD (n.fmod (tb.length : Int)).toNat 0
section
variable {P : Program} {w : World} {K : PySem.W.Frag} {mg : Str → Option Value} {base : Heap}
def spStandI (K : PySem.W.Frag) : Sp := fun vs H Q _ => ∃ x dx own tb, vs = [.ref x, .ref own] ∧ H x = some (.ins (ga K "Stand") dx []) ∧ H own = some (.tup (tb.map V.int)) ∧ ∀ H' A, Ext [x] H H' → A.a = x → FrA H A → Stn K H' A tb sd0 → Q .non H'
theorem sc_Stand_init : FnScope ["self", "own"] ["self", "own"] (defScope s57_0) := ⟨rfl, rfl, rfl, by decide +kernel, rfl, by decide +kernel, by decide +kernel⟩
theorem fn_Stand_init (T : Tx K mg) : FnR P w K mg base CX0 1 (d_Stand___init__.pl.ad K) (spStandI K) := by
  refine fnR_of (N := ["self", "own"]) (ps := ["self", "own"]) (fun_of T md_Stand___init__ rfl) sc_Stand_init (fun _ _ _ _ _ _ us hl => match us, hl with | [_, _], _ => rfl) (fun _ _ _ _ ⟨_, _, _, _, e, _⟩ => by rw [e]; rfl) fun cdv A outer s H vs Q E hr hsp => ?_
  obtain ⟨x, dx, own, tb, rfl, hx, ho, q⟩ := hsp
  refine ⟨_, (pss_cons (ps_asg (pe_tup (pa_cons (pv 1) (pa_cons pe_int (pa_cons (pe_tup pa_nil) pa_nil)))) (kg_tup (K := K) (n := 3) rfl rfl (pgs_cons (kg_fld (K := K) rfl (pv 0)) (pgs_cons (kg_fld (K := K) rfl (pv 0)) (pgs_cons (kg_fld (K := K) rfl (pv 0)) pgs_nil)))))
  (pss_cons (ps_asg (pe_tup (pa_cons (pe_lst pa_nil) (pa_cons (pe_lst pa_nil) (pa_cons pe_dnewK pa_nil)))) (kg_tup (K := K) (n := 3) rfl rfl (pgs_cons (kg_fld (K := K) rfl (pv 0)) (pgs_cons (kg_fld (K := K) rfl (pv 0)) (pgs_cons (kg_fld (K := K) rfl (pv 0)) pgs_nil)))))
  (pss_one (ps_asg (pe_tup (pa_cons (pe_tup pa_nil) (pa_cons (pe_tup pa_nil) (pa_cons pe_int (pa_cons pe_dnewK pa_nil))))) (kg_tup (K := K) (n := 4) rfl rfl (pgs_cons (kg_fld (K := K) rfl (pv 0)) (pgs_cons (kg_fld (K := K) rfl (pv 0)) (pgs_cons (kg_fld (K := K) rfl (pv 0)) (pgs_cons (kg_fld (K := K) rfl (pv 0)) pgs_nil))))))))), ?_⟩
  walk_at "go"
  have hox : own ≠ x := ne_of ho hx (by intro z; cases z)
  have hS : Stn K _ ⟨x, dx, own, _, _, _, _, _, _, _⟩ tb sd0 := ⟨by assumption, by walk_at "hp", by walk_at "hp", by walk_at "hp", by walk_at "hp", ⟨[], by walk_at "hp", .nil⟩, by walk_at "hp", by walk_at "hp", by walk_at "hp", by walk_at "ne", by walk_at "ne"⟩
  exact q _ _ (by walk_at "ex") rfl ⟨by walk_at "fr", by walk_at "fr", by walk_at "fr", by walk_at "fr"⟩ hS
/-- a stand and its copy -/
def spCopied (K : PySem.W.Frag) : Sp := fun vs H Q _ => ∃ A tb s, vs = [.ref A.a] ∧ Stn K H A tb s ∧ s.ins.length ≤ 1000 ∧ s.outs.length ≤ 1000 ∧ ∀ H' A', Ext [] H H' → H A'.a = none → FrA H A' → Stn K H' A' tb s → Q (.ref A'.a) H'
theorem sc_copied : FnScope ["stood", "found"] ["stood"] (defScope s58) := ⟨rfl, rfl, rfl, by decide +kernel, rfl, by decide +kernel, by decide +kernel⟩
theorem fn_copied (T : Tx K mg) : FnR P w K mg base CX0 3 (d_copied.pl.ad K) (spCopied K) := by
  refine fnR_of (N := ["stood", "found"]) (ps := ["stood"]) (fun_of T md_copied rfl) sc_copied (fun _ _ _ _ _ _ us hl => match us, hl with | [_], _ => rfl) (fun _ _ _ _ ⟨_, _, _, e, _⟩ => by rw [e]; rfl) fun cdv A outer s H vs Q E hr hsp => ?_
  obtain ⟨A0, tb, s0, rfl, hst, hl1, hl2, q⟩ := hsp
  refine ⟨_, (pss_cons (ps_set (i := 1) sc_copied.nd rfl (Or.inl rfl) (kc_make (T.mkr "Stand" (by decide +kernel)) (fn_Stand_init (K := K) (mg := mg) T) hr (by rfl) (T.cgl "Stand" (by decide +kernel)) (pa_cons (kc_fld (K := K) rfl (pv 0)) pa_nil)))
  (pss_cons (ps_asg (pe_tup (pa_cons (kc_fld (K := K) rfl (pv 0)) (pa_cons (kc_fld (K := K) rfl (pv 0)) pa_nil))) (kg_tup (K := K) (n := 2) rfl rfl (pgs_cons (kg_fld (K := K) rfl (pv 1)) (pgs_cons (kg_fld (K := K) rfl (pv 1)) pgs_nil))))
  (pss_cons (ps_asg (pe_tup (pa_cons (pe_callTy (cl_list (K := K) rfl) (by rfl) (T.free "list" (by decide +kernel)) (by decide +kernel) (pa_cons (kc_fld (K := K) rfl (pv 0)) pa_nil)) (pa_cons (pe_callTy (cl_list (K := K) rfl) (by rfl) (T.free "list" (by decide +kernel)) (by decide +kernel) (pa_cons (kc_fld (K := K) rfl (pv 0)) pa_nil)) (pa_cons (pe_callTy cl_dict (by rfl) (T.free "dict" (by decide +kernel)) (by decide +kernel) (pa_cons (kc_fld (K := K) rfl (pv 0)) pa_nil)) pa_nil)))) (kg_tup (K := K) (n := 3) rfl rfl (pgs_cons (kg_fld (K := K) rfl (pv 1)) (pgs_cons (kg_fld (K := K) rfl (pv 1)) (pgs_cons (kg_fld (K := K) rfl (pv 1)) pgs_nil)))))
  (pss_cons (ps_asg (pe_tup (pa_cons (kc_fld (K := K) rfl (pv 0)) (pa_cons (kc_fld (K := K) rfl (pv 0)) (pa_cons (kc_fld (K := K) rfl (pv 0)) (pa_cons (pe_callTy cl_dict (by rfl) (T.free "dict" (by decide +kernel)) (by decide +kernel) (pa_cons (kc_fld (K := K) rfl (pv 0)) pa_nil)) pa_nil))))) (kg_tup (K := K) (n := 4) rfl rfl (pgs_cons (kg_fld (K := K) rfl (pv 1)) (pgs_cons (kg_fld (K := K) rfl (pv 1)) (pgs_cons (kg_fld (K := K) rfl (pv 1)) (pgs_cons (kg_fld (K := K) rfl (pv 1)) pgs_nil))))))
  (pss_one (ps_ret (pv 1))))))), ?_⟩
  obtain ⟨a0, dx0, own0, com0, ins0, outs0, due0, cuts0, gone0, lat0⟩ := A0
  obtain ⟨hI, hown, hcom, hins, houts, ⟨kvs, hdue, hdd⟩, hcuts, hgone, hlat, hd1, hd2⟩ := hst
  dsimp only [flds] at hI hown hcom hins houts hdue hcuts hgone hlat hd1 hd2
  walk_at "go"
  rename_i x1 dx1 H2 nx1 e2 hx1
  refine ⟨_, _, _, tb, rfl, hx1, by walk_at "hp", fun H3 A1 e3 ea fr3 hs3 => ⟨rfl, ?_⟩⟩
  obtain ⟨a1, dx2, own1, com1, ins1, outs1, due1, cuts1, gone1, lat1⟩ := A1
  obtain rfl : a1 = x1 := ea
  obtain ⟨f1, f2, f3, f4⟩ := fr3
  have n1 : Nw H2 ins1 := ⟨f1⟩
  have n2 : Nw H2 outs1 := ⟨f2⟩
  have n3 : Nw H2 due1 := ⟨f3⟩
  have n4 : Nw H2 lat1 := ⟨f4⟩
  obtain ⟨gI, gown, gcom, gins, gouts, ⟨gkvs, gdue, gdd⟩, gcuts, ggone, glat, gd1, gd2⟩ := hs3
  dsimp only [flds] at f1 f2 f3 f4 gI gown gcom gins gouts gdue gcuts ggone glat gd1 gd2
  walk_at "go"
  rename_i H9 e9 h9
  have hoa : own1 ≠ a1 := ne_of gown gI (by intro z; cases z)
  have hS : Stn K H9 ⟨a1, dx2, own1, _, _, _, _, _, _, _⟩ tb s0 := ⟨by exact h9, by walk_at "hp", by walk_at "hp", by walk_at "hp", by walk_at "hp", ⟨kvs, by walk_at "hp", hdd.same fun b xs hb => by walk_at "hp"⟩, by walk_at "hp", by walk_at "hp", by walk_at "hp", by walk_at "ne", by walk_at "ne"⟩
  exact q _ _ (by walk_at "ex") nx1.no ⟨by walk_at "fr", by walk_at "fr", by walk_at "fr", by walk_at "fr"⟩ hS
/-- what will be held far ahead -/
def spHoldAhead (K : PySem.W.Frag) : Sp := fun vs H Q _ => ∃ A far tb s, vs = [.ref A.a, .int far] ∧ Stn K H A tb s ∧ 0 ≤ far ∧ 0 < tb.length ∧ Q (.int (holdN tb ((s.ins.length : Int) + far))) H
theorem sc_hold_ahead : FnScope ["stood", "far"] ["stood", "far"] (defScope s59) := ⟨rfl, rfl, rfl, by decide +kernel, rfl, by decide +kernel, by decide +kernel⟩
theorem fn_hold_ahead (T : Tx K mg) : FnR P w K mg base CX0 1 (d_hold_ahead.pl.ad K) (spHoldAhead K) := by
  refine fnR_of (N := ["stood", "far"]) (ps := ["stood", "far"]) (fun_of T md_hold_ahead rfl) sc_hold_ahead (fun _ _ _ _ _ _ us hl => match us, hl with | [_, _], _ => rfl) (fun _ _ _ _ ⟨_, _, _, _, e, _⟩ => by rw [e]; rfl) fun cdv A outer s H vs Q E hr hsp => ?_
  obtain ⟨A0, far, tb, s0, rfl, hst, hf, hn, q⟩ := hsp
  refine ⟨_, (pss_cons (ps_if (pt_cmpR op_lt (pv 1) (pe_callB (cl_len (K := K) rfl) (by rfl) (T.free "len" (by decide +kernel)) (by decide +kernel) (pa_cons (kc_fld (K := K) rfl (pv 0)) pa_nil)) (nomark _))
  (pss_one (ps_ret (pe_ix (ixT (K := K) rfl) (kc_fld (K := K) rfl (pv 0)) (pv 1) (fun _ _ => rfl))))
  pss_nil)
  (pss_one (ps_ret (pe_ix (ixT (K := K) rfl) (kc_fld (K := K) rfl (pv 0)) (pe_op op_modN (pe_op op_sub (pe_op op_add (pe_callB (cl_len (K := K) rfl) (by rfl) (T.free "len" (by decide +kernel)) (by decide +kernel) (pa_cons (kc_fld (K := K) rfl (pv 0)) pa_nil)) (pv 1)) (kc_fld (K := K) rfl (pv 0))) (pe_callB (cl_len (K := K) rfl) (by rfl) (T.free "len" (by decide +kernel)) (by decide +kernel) (pa_cons (kc_fld (K := K) rfl (pv 0)) pa_nil))) (fun _ _ => rfl))))), ?_⟩
  obtain ⟨a0, dx0, own0, com0, ins0, outs0, due0, cuts0, gone0, lat0⟩ := A0
  obtain ⟨hI, hown, hcom, hins, houts, ⟨kvs, hdue, hdd⟩, hcuts, hgone, hlat, hd1, hd2⟩ := hst
  dsimp only [flds] at hI hown hcom hins houts hdue hcuts hgone hlat hd1 hd2
  walk_at "go"
  apply r_ifF
  · show ¬ far < ((([] : List V).length : Nat) : Int)
    simp
    omega
  walk_at "go"
  refine r_I (by rw [List.length_map]; omega) ?_
  rw [List.length_map, Int.sub_zero]
  have h0 : (0 : Int) < (tb.length : Int) := by omega
  have hb1 := Int.fmod_nonneg_of_pos ((s0.ins.length : Int) + far) h0
  have hb2 := Int.fmod_lt_of_pos ((s0.ins.length : Int) + far) h0
  have hj : (((s0.ins.length : Int) + far).fmod (tb.length : Int)).toNat < tb.length := by omega
  apply r_ixT (v := .int (holdN tb ((s0.ins.length : Int) + far)))
  · exact SqT.of hown
  · refine at_of (j := (((s0.ins.length : Int) + far).fmod (tb.length : Int)).toNat) (by omega) ?_
    unfold holdN
    rw [List.getElem?_map, List.getElem?_eq_getElem hj, List.getD_eq_getElem?_getD, List.getElem?_eq_getElem hj]
    rfl
  exact q
def spHoldsAhead (K : PySem.W.Frag) : Sp := fun vs H Q _ => ∃ A many tb s, vs = [.ref A.a, .int many] ∧ Stn K H A tb s ∧ 0 ≤ many ∧ many ≤ 1000 ∧ 0 < tb.length ∧
  ∀ H' p, Ext [] H H' → H' p = some (.lst ((List.range many.toNat).map fun (i : Nat) => V.int (holdN tb ((s.ins.length : Int) + (i : Int))))) → Q (.ref p) H'
theorem sc_holds_ahead : FnScope ["stood", "many", "far"] ["stood", "many"] (defScope s60) := ⟨rfl, rfl, rfl, by decide +kernel, rfl, by decide +kernel, by decide +kernel⟩
theorem fn_holds_ahead (T : Tx K mg) : FnR P w K mg base CX0 2 (d_holds_ahead.pl.ad K) (spHoldsAhead K) := by
  refine fnR_of (N := ["stood", "many", "far"]) (ps := ["stood", "many"]) (fun_of T md_holds_ahead rfl) sc_holds_ahead (fun _ _ _ _ _ _ us hl => match us, hl with | [_, _], _ => rfl) (fun _ _ _ _ ⟨_, _, _, _, e, _⟩ => by rw [e]; rfl) fun cdv A outer s H vs Q E hr hsp => ?_
  obtain ⟨A0, many, tb, s0, rfl, hst, hm0, hm, hn, q⟩ := hsp
  refine ⟨_, (pss_one (ps_ret (pe_lc (own := [("far", 2)]) (g := gName 2) (tt := tYes) rfl sc_holds_ahead.nd (pi_range1 (by rfl) (T.free "range" (by decide +kernel)) (pa_cons (pv 1) pa_nil)) (blkOk_by (N := ["stood", "many", "far"]) (sc := defScope s60) (by decide +kernel)) (fun _ _ _ _ _ => (pg_name (i := 2) sc_holds_ahead.nd rfl (Or.inl rfl))) (fun _ _ _ _ _ => pts_nil) (fun _ _ _ _ _ => (kc_call (fn_hold_ahead (K := K) (mg := mg) T) hr (by rfl) (T.glo "hold_ahead" (by decide +kernel)) (T.def_ _ md_hold_ahead).kp (pa_cons (pv 0) (pa_cons (pv 2) pa_nil))))))), ?_⟩
  walk_at "go"
  refine ⟨many, rfl, by omega, by omega, ?_⟩
  refine r_kLc walk_range [] (fun i acc => acc = (List.range i).map fun (i : Nat) => V.int (holdN tb ((s0.ins.length : Int) + (i : Int)))) rfl (fun _ _ => trivial) ?_ ?_
  · rintro D i x H1 H2 acc hi nw e hD rfl ⟨rfl, rfl⟩
    walk_at "go"
    refine ⟨rfl, ?_⟩
    walk_at "go"
    refine ⟨A0, _, tb, s0, rfl, hst.same e, by omega, hn, ?_⟩
    refine r_kAp hD e nw (by simp; omega) ?_
    rw [List.range_succ, List.map_append, Int.zero_add]
    rfl
  · rintro D H2 acc nw e hD rfl
    exact q _ _ (by walk_at "ex") hD
def cutsN (n : Nat) (cuts : List Int) : List Int := cuts.filter fun c => decide ((n : Int) ≤ c)
def spCutsAhead (K : PySem.W.Frag) : Sp := fun vs H Q _ => ∃ A tb s, vs = [.ref A.a] ∧ Stn K H A tb s ∧ s.cuts.length ≤ 1000 ∧
  ∀ H' p, Nw H p → Ext [] H H' → H' p = some (.lst ((cutsN s.ins.length s.cuts).map V.int)) → Q (.ref p) H'
theorem sc_cuts_ahead : FnScope ["stood", "when"] ["stood"] (defScope s61) := ⟨rfl, rfl, rfl, by decide +kernel, rfl, by decide +kernel, by decide +kernel⟩
theorem fn_cuts_ahead (T : Tx K mg) : FnR P w K mg base CX0 1 (d_cuts_ahead.pl.ad K) (spCutsAhead K) := by
  refine fnR_of (N := ["stood", "when"]) (ps := ["stood"]) (fun_of T md_cuts_ahead rfl) sc_cuts_ahead (fun _ _ _ _ _ _ us hl => match us, hl with | [_], _ => rfl) (fun _ _ _ _ ⟨_, _, _, e, _⟩ => by rw [e]; rfl) fun cdv A outer s H vs Q E hr hsp => ?_
  obtain ⟨A0, tb, s0, rfl, hst, hl, q⟩ := hsp
  refine ⟨_, (pss_one (ps_ret (pe_lc (own := [("when", 1)]) (g := gName 1) rfl sc_cuts_ahead.nd (ki_tup (K := K) rfl (kc_fld (K := K) rfl (pv 0))) (blkOk_by (N := ["stood", "when"]) (sc := defScope s61) (by decide +kernel)) (fun _ _ _ _ _ => (pg_name (i := 1) sc_cuts_ahead.nd rfl (Or.inl rfl))) (fun _ _ _ _ _ => (pts_one (pt_cmpR op_ge (pv 1) (pe_callB (cl_len (K := K) rfl) (by rfl) (T.free "len" (by decide +kernel)) (by decide +kernel) (pa_cons (kc_fld (K := K) rfl (pv 0)) pa_nil)) (nomark _)))) (fun _ _ _ _ _ => (pv 1))))), ?_⟩
  obtain ⟨a0, dx0, own0, com0, ins0, outs0, due0, cuts0, gone0, lat0⟩ := A0
  obtain ⟨hI, hown, hcom, hins, houts, ⟨kvs, hdue, hdd⟩, hcuts, hgone, hlat, hd1, hd2⟩ := hst
  dsimp only [flds] at hI hown hcom hins houts hdue hcuts hgone hlat hd1 hd2
  walk_at "go"
  refine ⟨cuts0, rfl, ⟨_, SqT.of hcuts⟩, ?_⟩
  refine r_kLc (walk_tup (xs := s0.cuts.map V.int)) [] (fun i acc => acc = (cutsN s0.ins.length (s0.cuts.take i)).map V.int) rfl ?_ ?_ ?_
  · intro H2 e
    refine SqT.of ?_
    walk_at "hp"
  · rintro D i x H1 H2 acc hi nw e hD rfl ⟨rfl, hx⟩
    obtain ⟨z, hz, rfl⟩ := mapI hx
    have tk : s0.cuts.take (i + 1) = s0.cuts.take i ++ [z] := by rw [List.take_succ, hz]; rfl
    have hl2 : (cutsN s0.ins.length (s0.cuts.take i)).length ≤ 1000 := by
      unfold cutsN
      have := List.length_filter_le (fun c => decide ((s0.ins.length : Int) ≤ c)) (s0.cuts.take i)
      have := List.length_take_le i s0.cuts
      simp at *
      omega
    walk_at "go"
    refine ⟨rfl, ?_⟩
    walk_at "go"
    refine r_kIf ?_
    apply r_if2
    · intro hc
      walk_at "go"
      refine r_kAp hD e nw (by rw [List.length_map]; omega) ?_
      rw [tk]
      unfold cutsN
      rw [List.filter_append, List.map_append]
      simp [hc]
    · intro hc
      refine r_LcI hD e ?_
      rw [tk]
      unfold cutsN
      rw [List.filter_append, List.map_append]
      simp [hc]
  · rintro D H2 acc nw e hD rfl
    refine q _ _ nw (by walk_at "ex") ?_
    rw [List.take_of_length_le (by simp)] at hD
    exact hD
end
/-! ### rows -/
structure RowAt (H : Hp) (C x dx L : Addr) (xs : List V) : Prop where
  inst : H x = some (.ins C dx [("stands", .ref L)])
  st : H L = some (.lst xs)
/-- a row's class, as the top has left it -/
structure RC (K : PySem.W.Frag) (C : Addr) : Prop where
  cl : Cls K C
  no : NoAttr K C "stands"
  tick : ∃ p g x q fd, PropOf K C "tick" p g ∧ Fun K x q s63_4 g fd
section
variable {P : Program} {w : World} {K : PySem.W.Frag} {mg : Str → Option Value} {base : Heap}
theorem at_last {xs : List V} {v : V} : atI (xs ++ [v]) (-1) = some v := atI_last xs v
def spRowI (K : PySem.W.Frag) (C : Addr) : Sp := fun vs H Q _ => ∃ x dx own tb, vs = [.ref x, .ref own] ∧ H x = some (.ins C dx []) ∧ H own = some (.tup (tb.map V.int)) ∧ OkT tb ∧
  ∀ H' L A, Ext [x] H H' → RowAt H' C x dx L [.ref A.a] → Nw H L → H A.a = none → FrA H A → Stn K H' A tb sd0 → Q .non H'
theorem sc_Row_init : FnScope ["self", "table"] ["self", "table"] (defScope s63_1) := ⟨rfl, rfl, rfl, by decide +kernel, rfl, by decide +kernel, by decide +kernel⟩
theorem fn_Row_init (T : Tx K mg) {x qual : Str} {f : Addr} {fd : FuncData} (F : Fun K x qual s63_1 f fd) {C : Addr} (cl : Cls K C) (no : NoAttr K C "stands") : FnR P w K mg base CX0 5 f (spRowI K C) := by
  refine fnR_of (N := ["self", "table"]) (ps := ["self", "table"]) (F) sc_Row_init (fun _ _ _ _ _ _ us hl => match us, hl with | [_, _], _ => rfl) (fun _ _ _ _ ⟨_, _, _, _, e, _⟩ => by rw [e]; rfl) fun cdv A outer s H vs Q E hr hsp => ?_
  obtain ⟨x, dx, own, tb, rfl, hx, ho, ok, q⟩ := hsp
  refine ⟨_, (pss_cons (ps_expr (kc_call (fn_need_table (K := K) (mg := mg) T) hr (by rfl) (T.glo "need_table" (by decide +kernel)) (T.def_ _ md_need_table).kp (pa_cons (pv 1) pa_nil)))
  (pss_one (kp_sfld (K := K) rfl (pv 0) (pe_lst (pa_cons (kc_make (T.mkr "Stand" (by decide +kernel)) (fn_Stand_init (K := K) (mg := mg) T) hr (by rfl) (T.cgl "Stand" (by decide +kernel)) (pa_cons (pv 1) pa_nil)) pa_nil))))), ?_⟩
  walk_at "go"
  refine ⟨own, tb, rfl, ho, ok, fun H1 e1 => ?_⟩
  walk_at "go"
  rename_i x1 dx1 H2 nx1 e2 hx1
  refine ⟨x1, dx1, own, tb, rfl, hx1, by walk_at "hp", fun H3 A1 e3 ea fr3 hs3 => ⟨rfl, ?_⟩⟩
  subst ea
  walk_at "go"
  obtain ⟨f1, f2, f3, f4⟩ := fr3
  have d1 : ∀ b, H2 b = none → H b = none := fun b h => e1.dom b (e2.dom b h)
  have hx3 : x ≠ A1.a := by walk_at "ne"
  have n1 : Nw H2 A1.ins := ⟨f1⟩
  have n2 : Nw H2 A1.outs := ⟨f2⟩
  have n3 : Nw H2 A1.due := ⟨f3⟩
  have n4 : Nw H2 A1.later := ⟨f4⟩
  obtain ⟨gI, gown, gcom, gins, gouts, ⟨gkvs, gdue, gdd⟩, gcuts, ggone, glat, gd1, gd2⟩ := hs3
  have hx' : H3 x = some (.ins C dx []) := by walk_at "hp"
  have y1 : A1.own ≠ x := ne_of gown hx' (by intro z; cases z)
  have y2 : A1.coming ≠ x := ne_of gcom hx' (by intro z; cases z)
  have y3 : A1.cuts ≠ x := ne_of gcuts hx' (by intro z; cases z)
  have y4 : A1.gone ≠ x := ne_of ggone hx' (by intro z; cases z)
  refine q _ _ A1 (by walk_at "ex") ⟨by walk_at "hp", by walk_at "hp"⟩ ⟨by walk_at "fr"⟩ (by walk_at "fr") ⟨d1 _ f1, d1 _ f2, d1 _ f3, d1 _ f4⟩ ⟨by walk_at "hp", by walk_at "hp", by walk_at "hp", by walk_at "hp", by walk_at "hp", ⟨gkvs, by walk_at "hp", ?_⟩, by walk_at "hp", by walk_at "hp", by walk_at "hp", gd1, gd2⟩
  cases gdd
  exact .nil
def spTick (K : PySem.W.Frag) (C : Addr) : Sp := fun vs H Q _ => ∃ x dx L ys A tb s, vs = [.ref x] ∧ RowAt H C x dx L (ys ++ [.ref A.a]) ∧ Stn K H A tb s ∧ Q (.int s.ins.length) H
theorem sc_Row_tick : FnScope ["self"] ["self"] (defScope s63_4) := ⟨rfl, rfl, rfl, by decide +kernel, rfl, by decide +kernel, by decide +kernel⟩
theorem fn_Row_tick (T : Tx K mg) {x qual : Str} {f : Addr} {fd : FuncData} (F : Fun K x qual s63_4 f fd) {C : Addr} (cl : Cls K C) (no : NoAttr K C "stands") : FnR P w K mg base CX0 1 f (spTick K C) := by
  refine fnR_of (N := ["self"]) (ps := ["self"]) (F) sc_Row_tick (fun _ _ _ _ _ _ us hl => match us, hl with | [_], _ => rfl) (fun _ _ _ _ ⟨_, _, _, _, _, _, _, e, _⟩ => by rw [e]; rfl) fun cdv A outer s H vs Q E hr hsp => ?_
  obtain ⟨x, dx, L, ys, A0, tb, s0, rfl, ⟨hr1, hr2⟩, hst, q⟩ := hsp
  refine ⟨_, (pss_one (ps_ret (pe_callB (cl_len (K := K) rfl) (by rfl) (T.free "len" (by decide +kernel)) (by decide +kernel) (pa_cons (kc_fld (K := K) rfl (pe_ix (ixL (K := K) rfl) (kc_fld (K := K) rfl (pv 0)) (pe_un un_neg pe_int) (fun _ _ => rfl))) pa_nil)))), ?_⟩
  obtain ⟨a0, dx0, own0, com0, ins0, outs0, due0, cuts0, gone0, lat0⟩ := A0
  obtain ⟨hI, hown, hcom, hins, houts, ⟨kvs, hdue, hdd⟩, hcuts, hgone, hlat, hd1, hd2⟩ := hst
  dsimp only [flds] at hI hown hcom hins houts hdue hcuts hgone hlat hd1 hd2
  dsimp only at *
  walk_at "go"
  exact q
theorem po_tick (T : Tx K mg) {C : Addr} (r : RC K C) {X : Cx} (hK : X.K = K) (hm : X.mg = mg) : POk X 1 C "tick" (spTick K C) := by
  subst hK hm
  obtain ⟨p, g, x, q, fd, h1, h2⟩ := r.tick
  exact ⟨r.cl, p, g, h1, fn_Row_tick T h2 r.cl r.no⟩
def spTable (K : PySem.W.Frag) (C : Addr) : Sp := fun vs H Q _ => ∃ x dx L ys A tb s, vs = [.ref x] ∧ RowAt H C x dx L (ys ++ [.ref A.a]) ∧ Stn K H A tb s ∧ Q (.ref A.own) H
theorem sc_Row_table : FnScope ["self"] ["self"] (defScope s63_2) := ⟨rfl, rfl, rfl, by decide +kernel, rfl, by decide +kernel, by decide +kernel⟩
theorem fn_Row_table (T : Tx K mg) {x qual : Str} {f : Addr} {fd : FuncData} (F : Fun K x qual s63_2 f fd) {C : Addr} (cl : Cls K C) (no : NoAttr K C "stands") : FnR P w K mg base CX0 1 f (spTable K C) := by
  refine fnR_of (N := ["self"]) (ps := ["self"]) (F) sc_Row_table (fun _ _ _ _ _ _ us hl => match us, hl with | [_], _ => rfl) (fun _ _ _ _ ⟨_, _, _, _, _, _, _, e, _⟩ => by rw [e]; rfl) fun cdv A outer s H vs Q E hr hsp => ?_
  obtain ⟨x, dx, L, ys, A0, tb, s0, rfl, ⟨hr1, hr2⟩, hst, q⟩ := hsp
  refine ⟨_, (pss_one (ps_ret (kc_fld (K := K) rfl (pe_ix (ixL (K := K) rfl) (kc_fld (K := K) rfl (pv 0)) (pe_un un_neg pe_int) (fun _ _ => rfl))))), ?_⟩
  obtain ⟨a0, dx0, own0, com0, ins0, outs0, due0, cuts0, gone0, lat0⟩ := A0
  obtain ⟨hI, hown, hcom, hins, houts, ⟨kvs, hdue, hdd⟩, hcuts, hgone, hlat, hd1, hd2⟩ := hst
  dsimp only [flds] at hI hown hcom hins houts hdue hcuts hgone hlat hd1 hd2
  dsimp only at *
  walk_at "go"
  exact q
def spDeeds (K : PySem.W.Frag) (C : Addr) : Sp := fun vs H Q _ => ∃ x dx L ys, vs = [.ref x] ∧ RowAt H C x dx L ys ∧ Q (.int ((ys.length : Int) - 1)) H
theorem sc_Row_deeds : FnScope ["self"] ["self"] (defScope s63_6) := ⟨rfl, rfl, rfl, by decide +kernel, rfl, by decide +kernel, by decide +kernel⟩
theorem fn_Row_deeds (T : Tx K mg) {x qual : Str} {f : Addr} {fd : FuncData} (F : Fun K x qual s63_6 f fd) {C : Addr} (cl : Cls K C) (no : NoAttr K C "stands") : FnR P w K mg base CX0 1 f (spDeeds K C) := by
  refine fnR_of (N := ["self"]) (ps := ["self"]) (F) sc_Row_deeds (fun _ _ _ _ _ _ us hl => match us, hl with | [_], _ => rfl) (fun _ _ _ _ ⟨_, _, _, _, e, _⟩ => by rw [e]; rfl) fun cdv A outer s H vs Q E hr hsp => ?_
  obtain ⟨x, dx, L, ys, rfl, ⟨hr1, hr2⟩, q⟩ := hsp
  refine ⟨_, (pss_one (ps_ret (pe_op op_sub (pe_callB (cl_len (K := K) rfl) (by rfl) (T.free "len" (by decide +kernel)) (by decide +kernel) (pa_cons (kc_fld (K := K) rfl (pv 0)) pa_nil)) pe_int))), ?_⟩
  walk_at "go"
  exact q
def spLost (K : PySem.W.Frag) (C : Addr) : Sp := fun vs H Q _ => ∃ x dx L ys A tb s, vs = [.ref x] ∧ RowAt H C x dx L (ys ++ [.ref A.a]) ∧ Stn K H A tb s ∧ Q (.ref A.gone) H
theorem sc_Losing_lost : FnScope ["self"] ["self"] (defScope s64_1) := ⟨rfl, rfl, rfl, by decide +kernel, rfl, by decide +kernel, by decide +kernel⟩
theorem fn_Losing_lost (T : Tx K mg) {x qual : Str} {f : Addr} {fd : FuncData} (F : Fun K x qual s64_1 f fd) {C : Addr} (cl : Cls K C) (no : NoAttr K C "stands") : FnR P w K mg base CX0 1 f (spLost K C) := by
  refine fnR_of (N := ["self"]) (ps := ["self"]) (F) sc_Losing_lost (fun _ _ _ _ _ _ us hl => match us, hl with | [_], _ => rfl) (fun _ _ _ _ ⟨_, _, _, _, _, _, _, e, _⟩ => by rw [e]; rfl) fun cdv A outer s H vs Q E hr hsp => ?_
  obtain ⟨x, dx, L, ys, A0, tb, s0, rfl, ⟨hr1, hr2⟩, hst, q⟩ := hsp
  refine ⟨_, (pss_one (ps_ret (kc_fld (K := K) rfl (pe_ix (ixL (K := K) rfl) (kc_fld (K := K) rfl (pv 0)) (pe_un un_neg pe_int) (fun _ _ => rfl))))), ?_⟩
  obtain ⟨a0, dx0, own0, com0, ins0, outs0, due0, cuts0, gone0, lat0⟩ := A0
  obtain ⟨hI, hown, hcom, hins, houts, ⟨kvs, hdue, hdd⟩, hcuts, hgone, hlat, hd1, hd2⟩ := hst
  dsimp only [flds] at hI hown hcom hins houts hdue hcuts hgone hlat hd1 hd2
  dsimp only at *
  walk_at "go"
  exact q
def spOver (K : PySem.W.Frag) (C : Addr) : Sp := fun vs H Q _ => ∃ x dx L ys A tb s, vs = [.ref x] ∧ RowAt H C x dx L (ys ++ [.ref A.a]) ∧ Stn K H A tb s ∧ Q (.int s.many) H
theorem sc_Counting_overtakings : FnScope ["self"] ["self"] (defScope s65_1) := ⟨rfl, rfl, rfl, by decide +kernel, rfl, by decide +kernel, by decide +kernel⟩
theorem fn_Counting_over (T : Tx K mg) {x qual : Str} {f : Addr} {fd : FuncData} (F : Fun K x qual s65_1 f fd) {C : Addr} (cl : Cls K C) (no : NoAttr K C "stands") : FnR P w K mg base CX0 1 f (spOver K C) := by
  refine fnR_of (N := ["self"]) (ps := ["self"]) (F) sc_Counting_overtakings (fun _ _ _ _ _ _ us hl => match us, hl with | [_], _ => rfl) (fun _ _ _ _ ⟨_, _, _, _, _, _, _, e, _⟩ => by rw [e]; rfl) fun cdv A outer s H vs Q E hr hsp => ?_
  obtain ⟨x, dx, L, ys, A0, tb, s0, rfl, ⟨hr1, hr2⟩, hst, q⟩ := hsp
  refine ⟨_, (pss_one (ps_ret (kc_fld (K := K) rfl (pe_ix (ixL (K := K) rfl) (kc_fld (K := K) rfl (pv 0)) (pe_un un_neg pe_int) (fun _ _ => rfl))))), ?_⟩
  obtain ⟨a0, dx0, own0, com0, ins0, outs0, due0, cuts0, gone0, lat0⟩ := A0
  obtain ⟨hI, hown, hcom, hins, houts, ⟨kvs, hdue, hdd⟩, hcuts, hgone, hlat, hd1, hd2⟩ := hst
  dsimp only [flds] at hI hown hcom hins houts hdue hcuts hgone hlat hd1 hd2
  dsimp only at *
  walk_at "go"
  exact q
def spRowLen (K : PySem.W.Frag) (C : Addr) : Sp := fun vs H Q _ => ∃ x dx L ys A tb s, vs = [.ref x] ∧ RowAt H C x dx L (ys ++ [.ref A.a]) ∧ Stn K H A tb s ∧ Q (.int s.outs.length) H
theorem sc_Row_len : FnScope ["self"] ["self"] (defScope s63_16) := ⟨rfl, rfl, rfl, by decide +kernel, rfl, by decide +kernel, by decide +kernel⟩
theorem fn_Row_len (T : Tx K mg) {x qual : Str} {f : Addr} {fd : FuncData} (F : Fun K x qual s63_16 f fd) {C : Addr} (cl : Cls K C) (no : NoAttr K C "stands") : FnR P w K mg base CX0 1 f (spRowLen K C) := by
  refine fnR_of (N := ["self"]) (ps := ["self"]) (F) sc_Row_len (fun _ _ _ _ _ _ us hl => match us, hl with | [_], _ => rfl) (fun _ _ _ _ ⟨_, _, _, _, _, _, _, e, _⟩ => by rw [e]; rfl) fun cdv A outer s H vs Q E hr hsp => ?_
  obtain ⟨x, dx, L, ys, A0, tb, s0, rfl, ⟨hr1, hr2⟩, hst, q⟩ := hsp
  refine ⟨_, (pss_one (ps_ret (pe_callB (cl_len (K := K) rfl) (by rfl) (T.free "len" (by decide +kernel)) (by decide +kernel) (pa_cons (kc_fld (K := K) rfl (pe_ix (ixL (K := K) rfl) (kc_fld (K := K) rfl (pv 0)) (pe_un un_neg pe_int) (fun _ _ => rfl))) pa_nil)))), ?_⟩
  obtain ⟨a0, dx0, own0, com0, ins0, outs0, due0, cuts0, gone0, lat0⟩ := A0
  obtain ⟨hI, hown, hcom, hins, houts, ⟨kvs, hdue, hdd⟩, hcuts, hgone, hlat, hd1, hd2⟩ := hst
  dsimp only [flds] at hI hown hcom hins houts hdue hcuts hgone hlat hd1 hd2
  dsimp only at *
  walk_at "go"
  exact q
/-- undo, getitem -/
theorem po_deeds (T : Tx K mg) {C : Addr} (r : RC K C) {X : Cx} (hK : X.K = K) (hm : X.mg = mg) (h : ∃ p g x q fd, PropOf K C "deeds" p g ∧ Fun K x q s63_6 g fd) : POk X 1 C "deeds" (spDeeds K C) := by
  subst hK hm
  obtain ⟨p, g, x, q, fd, h1, h2⟩ := h
  exact ⟨r.cl, p, g, h1, fn_Row_deeds T h2 r.cl r.no⟩
def spUndo (K : PySem.W.Frag) (C : Addr) : Sp := fun vs H Q _ => ∃ x dx L ys v, vs = [.ref x] ∧ RowAt H C x dx L (ys ++ [v]) ∧ ys ≠ [] ∧ ∀ H', Ext [L] H H' → H' L = some (.lst ys) → Q .non H'
theorem sc_Row_undo : FnScope ["self"] ["self"] (defScope s63_12) := ⟨rfl, rfl, rfl, by decide +kernel, rfl, by decide +kernel, by decide +kernel⟩
theorem fn_Row_undo (T : Tx K mg) {x qual : Str} {f : Addr} {fd : FuncData} (F : Fun K x qual s63_12 f fd) {C : Addr} (r : RC K C) (hd : ∃ p g x q fd, PropOf K C "deeds" p g ∧ Fun K x q s63_6 g fd) : FnR P w K mg base CX0 3 f (spUndo K C) := by
  have cl := r.cl
  have no := r.no
  refine fnR_of (N := ["self"]) (ps := ["self"]) (F) sc_Row_undo (fun _ _ _ _ _ _ us hl => match us, hl with | [_], _ => rfl) (fun _ _ _ _ ⟨_, _, _, _, _, e, _⟩ => by rw [e]; rfl) fun cdv A outer s H vs Q E hr hsp => ?_
  obtain ⟨x, dx, L, ys, v, rfl, ⟨hr1, hr2⟩, hne, q⟩ := hsp
  refine ⟨_, (pss_cons (ps_if (pt_cmpR op_eq (kc_prop (pv 0) (po_deeds T r rfl rfl hd) hr) pe_int (nomark _))
  (pss_one ps_never)
  pss_nil)
  (pss_one (ps_expr (kc_bm0 (K := K) rfl PySem.F.plainAttrs_list PySem.F.slot_list_pop PySem.F.type_list_pop mt_pop (kc_fld (K := K) rfl (pv 0)))))), ?_⟩
  walk_at "go"
  refine ⟨x, dx, L, _, rfl, ⟨hr1, hr2⟩, ?_⟩
  walk_at "go"
  apply r_ifF
  · intro z
    have := V.int.inj z
    have h1 : 0 < ys.length := by
      cases ys with
      | nil => exact absurd rfl hne
      | cons _ _ => simp
    rw [List.length_append] at this
    simp only [List.length_cons, List.length_nil] at this
    omega
  walk_at "go"
  apply r_pop (y := v) hr2 (by simp)
  intro H2 e2 h2
  walk_at "go"
  rw [List.dropLast_concat] at h2
  exact q _ (by walk_at "ex") h2
def spGetitem (K : PySem.W.Frag) (C : Addr) : Sp := fun vs H Q _ => ∃ x dx L ys A tb s i v, vs = [.ref x, .int (i : Nat)] ∧ RowAt H C x dx L (ys ++ [.ref A.a]) ∧ Stn K H A tb s ∧ s.outs[i]? = some v ∧ i < s.ins.length ∧ Q v H
theorem sc_Row_getitem : FnScope ["self", "tick"] ["self", "tick"] (defScope s63_14) := ⟨rfl, rfl, rfl, by decide +kernel, rfl, by decide +kernel, by decide +kernel⟩
theorem fn_Row_getitem (T : Tx K mg) {x qual : Str} {f : Addr} {fd : FuncData} (F : Fun K x qual s63_14 f fd) {C : Addr} (r : RC K C) : FnR P w K mg base CX0 4 f (spGetitem K C) := by
  have cl := r.cl
  have no := r.no
  refine fnR_of (N := ["self", "tick"]) (ps := ["self", "tick"]) (F) sc_Row_getitem (fun _ _ _ _ _ _ us hl => match us, hl with | [_, _], _ => rfl) (fun _ _ _ _ ⟨_, _, _, _, _, _, _, _, _, e, _⟩ => by rw [e]; rfl) fun cdv A outer s H vs Q E hr hsp => ?_
  obtain ⟨x, dx, L, ys, A0, tb, s0, i, v, rfl, hrow, hst, hi, hi2, q⟩ := hsp
  have hrow' := hrow
  have hst' := hst
  obtain ⟨hr1, hr2⟩ := hrow'
  refine ⟨_, (pss_cons (ps_if (pt_not (pt_val (kc_call (fn_is_between (K := K) (mg := mg) T) hr (by rfl) (T.glo "is_between" (by decide +kernel)) (T.def_ _ md_is_between).kp (pa_cons (pv 1) (pa_cons pe_int (pa_cons (pe_op op_sub (kc_prop (pv 0) (po_tick T r rfl rfl) hr) pe_int) pa_nil))))))
  (pss_one ps_never)
  pss_nil)
  (pss_one (ps_ret (pe_ix (ixL (K := K) rfl) (kc_fld (K := K) rfl (pe_ix (ixL (K := K) rfl) (kc_fld (K := K) rfl (pv 0)) (pe_un un_neg pe_int) (fun _ _ => rfl))) (pv 1) (fun _ _ => rfl))))), ?_⟩
  walk_at "go"
  refine ⟨x, dx, L, ys, A0, tb, s0, rfl, hrow, hst, ?_⟩
  walk_at "go"
  refine ⟨_, _, _, rfl, ?_⟩
  walk_at "go"
  rw [decT (show (0 : Int) ≤ (i : Int) ∧ (i : Int) ≤ (s0.ins.length : Int) - 1 by omega)]
  obtain ⟨a0, dx0, own0, com0, ins0, outs0, due0, cuts0, gone0, lat0⟩ := A0
  obtain ⟨hI, hown, hcom, hins, houts, ⟨kvs, hdue, hdd⟩, hcuts, hgone, hlat, hd1, hd2⟩ := hst
  dsimp only [flds] at hI hown hcom hins houts hdue hcuts hgone hlat hd1 hd2
  dsimp only at *
  walk_at "go"
  refine r_ixL (SqL.of (by walk_at "hp")) (atI_nat hi) ?_
  exact q
end
/-! ### put_out, class by class -/
abbrev Po := SD → Int → Option (Int × V) → SD → V → Prop
structure MuEq (A A' : Ad) : Prop where
  a : A'.a = A.a
  ins : A'.ins = A.ins
  outs : A'.outs = A.outs
  due : A'.due = A.due
  later : A'.later = A.later
theorem MuEq.rfl' {A : Ad} : MuEq A A := ⟨rfl, rfl, rfl, rfl, rfl⟩
def Fnd (H : Hp) (fv : V) (fnd : Option (Int × V)) : Prop := (fv = .non ∧ fnd = none) ∨ ∃ p c v, fv = .ref p ∧ H p = some (.tup [.int c, v]) ∧ fnd = some (c, v)
theorem Fnd.same {H H' : Hp} {fv : V} {fnd : Option (Int × V)} (e : ∀ b xs, H b = some (.tup xs) → H' b = some (.tup xs)) (h : Fnd H fv fnd) : Fnd H' fv fnd := by
  rcases h with h | ⟨p, c, v, h1, h2, h3⟩
  · exact .inl h
  · exact .inr ⟨p, c, v, h1, e _ _ h2, h3⟩
structure PutP (K : PySem.W.Frag) (H : Hp) (C x : Addr) (A : Ad) (tb : List Int) (s : SD) (fv : V) (fnd : Option (Int × V)) : Prop where
  row : ∃ dx fs, H x = some (.ins C dx fs)
  stn : Stn K H A tb s
  ok : OkT tb
  fnd : Fnd H fv fnd
  ne : x ≠ A.a
  g1 : s.gone.length ≤ 1000
  l1 : s.later.length ≤ 1000
  c1 : s.cuts.length ≤ 1000
  u1 : s.due.length ≤ 1000
def spPut (K : PySem.W.Frag) (C : Addr) (po : Po) : Sp := fun vs H Q _ => ∃ x A now fv fnd tb s, vs = [.ref x, .ref A.a, .int now, fv] ∧ PutP K H C x A tb s fv fnd ∧
  ∀ r H' A' s', Ext [A.a, A.later] H H' → MuEq A A' → Stn K H' A' tb s' → po s now fnd s' r → Q r H'
def outV : Option (Int × V) → V
  | none => .non
  | some (_, v) => v
def poRow : Po := fun s _ fnd s' r => s' = s ∧ r = outV fnd
def poLosing (po : Po) : Po := fun s now fnd s' r => (fnd.isSome = true ∧ now ∈ s.cuts ∧ s' = { s with gone := s.gone ++ [now] } ∧ r = .non) ∨ (¬ (fnd.isSome = true ∧ now ∈ s.cuts) ∧ po s now fnd s' r)
section
variable {P : Program} {w : World} {K : PySem.W.Frag} {mg : Str → Option Value} {base : Heap}
theorem sc_Row_put_out : FnScope ["self", "stood", "now", "found"] ["self", "stood", "now", "found"] (defScope s63_7) := ⟨rfl, rfl, rfl, by decide +kernel, rfl, by decide +kernel, by decide +kernel⟩
theorem fn_Row_put (T : Tx K mg) {x qual : Str} {f : Addr} {fd : FuncData} (F : Fun K x qual s63_7 f fd) {C : Addr} : FnR P w K mg base CX0 1 f (spPut K C poRow) := by
  refine fnR_of (N := ["self", "stood", "now", "found"]) (ps := ["self", "stood", "now", "found"]) (F) sc_Row_put_out (fun _ _ _ _ _ _ us hl => match us, hl with | [_, _, _, _], _ => rfl) (fun _ _ _ _ ⟨_, _, _, _, _, _, _, e, _⟩ => by rw [e]; rfl) fun cdv A outer s H vs Q E hr hsp => ?_
  obtain ⟨x, A0, now, fv, fnd, tb, s0, rfl, hp, q⟩ := hsp
  refine ⟨_, (pss_one (ps_ret (pe_ifExp (pt_cmpR opIsN (pv 3) pe_non (nomark _)) pe_non (pe_ix (ixT (K := K) rfl) (pv 3) pe_int (fun _ _ => rfl))))), ?_⟩
  rcases hp.fnd with ⟨rfl, rfl⟩ | ⟨p, c, v, rfl, h1, rfl⟩
  · walk_at "go"
    exact q _ _ A0 s0 Ext.rfl' MuEq.rfl' hp.stn ⟨rfl, rfl⟩
  · walk_at "go"
    exact q _ _ A0 s0 Ext.rfl' MuEq.rfl' hp.stn ⟨rfl, rfl⟩
theorem sc_Losing_put : FnScopeS ["self", "stood", "now", "found"] ["self", "stood", "now", "found"] (defScope s64_2) := ⟨rfl, rfl, rfl, by decide +kernel, rfl, by decide +kernel, by decide +kernel, by decide +kernel⟩
theorem fn_Losing_put (TPP : TP P) (T : Tx K mg) {x qual : Str} {f D cdA cc : Addr} {fd : FuncData} (FS : FunS K x qual s64_2 f D cdA cc fd) {C C2 : Addr} (cl : Cls K C) (cD : Cls K D) (su : Sup K C D C2) {po2 : Po} {j : Nat}
    (F2 : FnR P w K mg base CX0 j (ma K C2 "put_out") (spPut K C po2)) : FnR P w K mg base CX0 (j + 1) f (spPut K C (poLosing po2)) := by
  obtain ⟨oc, od, kV, doc, pm, an, ct, osl, efd, lk⟩ := FS.ex
  obtain ⟨ccl, cdd, vs_, ccs, tf, hcode, hvs⟩ := FS.code
  obtain ⟨ccl2, cld2, csl2, hcell⟩ := FS.cell
  subst efd
  refine fnS_of (N := ["self", "stood", "now", "found"]) (ps := ["self", "stood", "now", "found"]) FS sc_Losing_put (fun _ _ _ _ _ us hl => match us, hl with | [_, _, _, _], _ => rfl) (fun _ _ _ _ ⟨_, _, _, _, _, _, _, e, _⟩ => by rw [e]; rfl) fun A outer s H vs Q E hr hsp => ?_
  obtain ⟨x, A0, now, fv, fnd, tb, s0, rfl, hp, q⟩ := hsp
  refine ⟨_, (pssA_cons (ps_if (PW.pt (pw_and (pt_cmpR opNotN (pv 3) pe_non (nomark _)) (pw_and1 (pt_cmpR (opIn (K := K) rfl) (pv 2) (kc_fld (K := K) rfl (pv 1)) (by first | rfl | exact nomark _)))))
  (pss_cons (kp_sfld (K := K) rfl (pv 1) (pe_tup (ka_star (K := K) rfl (kc_fld (K := K) rfl (pv 1)) (pa_cons (pv 2) pa_nil))))
  (pss_one (ps_ret pe_non)))
  pss_nil) (pssA_ret (kc_super F2 hr rfl rfl rfl rfl rfl lk rfl hcode hvs (beq_iff_eq.mpr TPP.file) hcell cl cD (T.free "super" (by decide +kernel)) rfl rfl TPP.top T.st su.mro su.at_ su.ty su.fi (pa_cons (pv 1) (pa_cons (pv 2) (pa_cons (pv 3) pa_nil))) (Nat.le_refl _) (by decide)))), ?_⟩
  have hp' := hp
  obtain ⟨⟨dx, fs, hx⟩, hst, hok, hfn, hne, hg1, hl1, hc1, hu1⟩ := hp'
  rcases hfn with ⟨rfl, rfl⟩ | ⟨p, c, v, rfl, h1, rfl⟩
  · walk_at "go"
    refine r_sup rfl hx fun m H1 nm e1 hm => ?_
    walk_at "go"
    refine ⟨hm, x, A0, now, .non, none, tb, s0, rfl, ⟨⟨dx, fs, by walk_at "hp"⟩, hst.same e1, hok, .inl ⟨rfl, rfl⟩, hne, hg1, hl1, hc1, hu1⟩, fun r H2 A' s' e2 mu st' po => ?_⟩
    exact q _ _ A' s' (by walk_at "ex") mu st' (.inr ⟨fun z => by simp at z, po⟩)
  · have hst0 := hst
    obtain ⟨a0, dx0, own0, com0, ins0, outs0, due0, cuts0, gone0, lat0⟩ := A0
    obtain ⟨hI, hown, hcom, hins, houts, ⟨kvs, hdue, hdd⟩, hcuts, hgone, hlat, hd1, hd2⟩ := hst
    dsimp only [flds] at hI hown hcom hins houts hdue hcuts hgone hlat hd1 hd2
    dsimp only at *
    walk_at "go"
    apply r_if2
    · intro hmem
      walk_at "go"
      refine r_kTup (by simp; omega) fun p1 H1 n1 e1 h2 => ?_
      walk_at "go"
      rename_i H2 e2 h3
      obtain ⟨r1, r2, r3, r4, ⟨kv, r5, r5'⟩, r6, r7, r8⟩ := (hst0.same e1).rest e2
      refine q _ _ ⟨a0, dx0, own0, com0, ins0, outs0, due0, cuts0, p1, lat0⟩ { s0 with gone := s0.gone ++ [now] } (by walk_at "ex") ⟨rfl, rfl, rfl, rfl, rfl⟩ ⟨h3, r1, r2, r3, r4, ⟨kv, r5, r5'⟩, r6, ?_, r8, hd1, hd2⟩ (.inl ⟨rfl, hmem, rfl, rfl⟩)
      have hn : p1 ≠ a0 := by walk_at "ne"
      show H2 p1 = _
      rw [List.map_append]
      walk_at "hp"
    · intro hmem
      walk_at "go"
      refine r_sup rfl hx fun m H1 nm e1 hm => ?_
      walk_at "go"
      refine ⟨hm, x, ⟨a0, dx0, own0, com0, ins0, outs0, due0, cuts0, gone0, lat0⟩, now, .ref p, some (c, v), tb, s0, rfl, ⟨⟨dx, fs, by walk_at "hp"⟩, hst0.same e1, hok, .inr ⟨p, c, v, rfl, by walk_at "hp", rfl⟩, hne, hg1, hl1, hc1, hu1⟩, fun r H2 A' s' e2 mu st' po => ?_⟩
      exact q _ _ A' s' (by walk_at "ex") mu st' (.inr ⟨fun z => hmem z.2, po⟩)
/-- how many that are still due came behind c -/
def behind (due : List (Int × Int × V)) (c : Int) : Int := ((due.filter fun d => decide (c < d.2.1)).length : Nat)
def tick1 (s : SD) (now : Int) : Option (Int × V) → SD
  | none => s
  | some (c, _) => { s with many := s.many + now - c - behind s.due c }
def poCounting (po : Po) : Po := fun s now fnd s' r => po (tick1 s now fnd) now fnd s' r
theorem sc_Counting_put : FnScopeS ["self", "stood", "now", "found", "waiting", "came", "value"] ["self", "stood", "now", "found"] (defScope s65_2) := ⟨rfl, rfl, rfl, by decide +kernel, rfl, by decide +kernel, by decide +kernel, by decide +kernel⟩
theorem fn_Counting_put (TPP : TP P) (T : Tx K mg) {x qual : Str} {f D cdA cc : Addr} {fd : FuncData} (FS : FunS K x qual s65_2 f D cdA cc fd) {C C2 : Addr} (cl : Cls K C) (cD : Cls K D) (su : Sup K C D C2) {po2 : Po} {j : Nat}
    (F2 : FnR P w K mg base CX0 j (ma K C2 "put_out") (spPut K C po2)) : FnR P w K mg base CX0 (j + 1) f (spPut K C (poCounting po2)) := by
  obtain ⟨oc, od, kV, doc, pm, an, ct, osl, efd, lk⟩ := FS.ex
  obtain ⟨ccl, cdd, vs_, ccs, tf, hcode, hvs⟩ := FS.code
  obtain ⟨ccl2, cld2, csl2, hcell⟩ := FS.cell
  subst efd
  refine fnS_of (N := ["self", "stood", "now", "found", "waiting", "came", "value"]) (ps := ["self", "stood", "now", "found"]) FS sc_Counting_put (fun _ _ _ _ _ us hl => match us, hl with | [_, _, _, _], _ => rfl) (fun _ _ _ _ ⟨_, _, _, _, _, _, _, e, _⟩ => by rw [e]; rfl) fun A outer s H vs Q E hr hsp => ?_
  obtain ⟨x, A0, now, fv, fnd, tb, s0, rfl, hp, q⟩ := hsp
  refine ⟨_, (pssA_cons (ps_if (pt_cmpR opNotN (pv 3) pe_non (nomark _))
  (pss_cons (ps_lock (ps_setLc (i := 4) (own := [("came", 5), ("value", 6)]) rfl sc_Counting_put.nd rfl rfl (sw_true rfl rfl rfl (by decide +kernel)) (pi_values (kc_fld (K := K) rfl (pv 1))) (blkOk_by (N := ["self", "stood", "now", "found", "waiting", "came", "value"]) (sc := defScope s65_2) (by decide +kernel)) (fun _ _ _ _ _ => (kg_tup (K := K) (n := 2) rfl rfl (pgs_cons (pg_name (i := 5) sc_Counting_put.nd rfl (Or.inl rfl)) (pgs_cons (pg_name (i := 6) sc_Counting_put.nd rfl (Or.inl rfl)) pgs_nil)))) (fun _ _ _ _ _ => (pts_one (pt_cmpR op_gt (pv 5) (pe_ix (ixT (K := K) rfl) (pv 3) pe_int (fun _ _ => rfl)) (nomark _)))) (fun _ _ _ _ _ => (pv 5))))
  (pss_one (kp_sfld (K := K) rfl (pv 1) (pe_op op_sub (pe_op op_sub (pe_op op_add (kc_fld (K := K) rfl (pv 1)) (pv 2)) (pe_ix (ixT (K := K) rfl) (pv 3) pe_int (fun _ _ => rfl))) (pe_callB (cl_len (K := K) rfl) (by rfl) (T.free "len" (by decide +kernel)) (by decide +kernel) (pa_cons (pv 4) pa_nil))))))
  pss_nil) (pssA_ret (kc_super F2 hr rfl rfl rfl rfl rfl lk rfl hcode hvs (beq_iff_eq.mpr TPP.file) hcell cl cD (T.free "super" (by decide +kernel)) rfl rfl TPP.top T.st su.mro su.at_ su.ty su.fi (pa_cons (pv 1) (pa_cons (pv 2) (pa_cons (pv 3) pa_nil))) (Nat.le_refl _) (by decide)))), ?_⟩
  have hp' := hp
  obtain ⟨⟨dx, fs, hx⟩, hst, hok, hfn, hne, hg1, hl1, hc1, hu1⟩ := hp'
  rcases hfn with ⟨rfl, rfl⟩ | ⟨p, c, v, rfl, h1, rfl⟩
  · walk_at "go"
    refine r_sup rfl hx fun m H1 nm e1 hm => ?_
    walk_at "go"
    refine ⟨hm, x, A0, now, .non, none, tb, s0, rfl, ⟨⟨dx, fs, by walk_at "hp"⟩, hst.same e1, hok, .inl ⟨rfl, rfl⟩, hne, hg1, hl1, hc1, hu1⟩, fun r H2 A' s' e2 mu st' po => ?_⟩
    exact q _ _ A' s' (by walk_at "ex") mu st' po
  · have hst0 := hst
    obtain ⟨a0, dx0, own0, com0, ins0, outs0, due0, cuts0, gone0, lat0⟩ := A0
    obtain ⟨hI, hown, hcom, hins, houts, ⟨kvs, hdue, hdd⟩, hcuts, hgone, hlat, hd1, hd2⟩ := hst
    dsimp only [flds] at hI hown hcom hins houts hdue hcuts hgone hlat hd1 hd2
    dsimp only at *
    walk_at "go"
    refine r_lock hdue fun od H1 h1d e1 => ?_
    have hne1 : ∀ b o, H b = some o → b ≠ due0 → H1 b = some o := fun b o hb n => e1.ge b o (fun m => n (List.mem_singleton.mp m)) hb
    have hdd1 : DueAt H1 kvs s0.due := hdd.same fun b xs hb => hne1 b _ hb (ne_of hb hdue (by intro z; cases z))
    have a0d : a0 ≠ due0 := ne_of hI hdue (by intro z; cases z)
    have pd : p ≠ due0 := ne_of h1 hdue (by intro z; cases z)
    have hlen := Paired.len (show Paired _ kvs s0.due from hdd)
    walk_at "go"
    refine ⟨due0, od, kvs, rfl, h1d, ?_⟩
    refine r_kLc (walk_values (kvs := kvs)) [] (fun i acc => ∃ ws : List Int, acc = ws.map V.int ∧ ws.length = ((s0.due.take i).filter fun d => decide (c < d.2.1)).length) ⟨[], rfl, rfl⟩ (fun H2 e => by walk_at "hp") ?_ ?_
    · rintro D' i y H2 H3 acc hi nw e hD ⟨ws, rfl, hws⟩ ⟨rfl, k, hk⟩
      obtain ⟨⟨k1, c1, v1⟩, hd1', p1, hp1, hp2⟩ := Paired.at_ hdd1 hk
      cases hp1
      have tk : s0.due.take (i + 1) = s0.due.take i ++ [(k1, c1, v1)] := by rw [List.take_succ, hd1']; rfl
      have hwl : ws.length ≤ 1000 := by
        rw [hws]
        have := List.length_filter_le (fun d : Int × Int × V => decide (c < d.2.1)) (s0.due.take i)
        have := List.length_take_le i s0.due
        simp at *
        omega
      walk_at "go"
      refine ⟨rfl, ?_⟩
      walk_at "go"
      refine r_kIf ?_
      apply r_if2
      · intro hc
        walk_at "go"
        refine r_kAp hD e nw (by rw [List.length_map]; omega) ⟨ws ++ [c1], by rw [List.map_append]; rfl, ?_⟩
        rw [tk, List.filter_append, List.length_append, List.length_append, hws]
        simp [hc]
      · intro hc
        refine r_LcI hD e ⟨ws, rfl, ?_⟩
        rw [tk, List.filter_append, List.length_append, hws]
        simp [hc]
    · rintro D' H2 acc nw e hD ⟨ws, rfl, hws⟩
      rw [List.take_of_length_le (by omega)] at hws
      walk_at "go"
      refine r_kUn (by walk_at "hp") fun H3 e3 h3 => ?_
      have hD3 : D' ≠ due0 := by
        have : H1 due0 = some (.frz od (.dK kvs)) := h1d
        exact ne_fresh' nw this
      have hDD : H3 D' = some (.lst (ws.map V.int)) := by walk_at "hp"
      have ee : Ext [] H H3 := Ext.back (d := due0) (by walk_at "ex") hdue h3
      have gI : H3 a0 = _ := ee.ge _ _ List.not_mem_nil hI
      have gp : H3 p = _ := ee.ge _ _ List.not_mem_nil h1
      walk_at "go"
      rename_i H4 e4 h4
      obtain ⟨r1, r2, r3, r4, ⟨kv, r5, r5'⟩, r6, r7, r8⟩ := (hst0.same ee).rest e4
      have hs1 : Stn K H4 ⟨a0, dx0, own0, com0, ins0, outs0, due0, cuts0, gone0, lat0⟩ tb (tick1 s0 now (some (c, v))) := by
        refine ⟨?_, r1, r2, r3, r4, ⟨kv, r5, r5'⟩, r6, r7, r8, hd1, hd2⟩
        rw [h4]
        unfold tick1 behind
        rw [List.length_map, hws]
        rfl
      have hxx : H3 x = _ := ee.ge _ _ List.not_mem_nil hx
      have gp4 : H4 p = _ := e4.ge _ _ (fun m => absurd gI (by rw [← List.mem_singleton.mp m, gp]; simp)) gp
      refine r_sup rfl (e4.ge _ _ (fun m => hne (List.mem_singleton.mp m)) hxx) fun m H5 nm e5 hm => ?_
      walk_at "go"
      refine ⟨hm, x, ⟨a0, dx0, own0, com0, ins0, outs0, due0, cuts0, gone0, lat0⟩, now, .ref p, some (c, v), tb, _, rfl, ⟨⟨dx, fs, e5.ge _ _ List.not_mem_nil (e4.ge _ _ (fun m => hne (List.mem_singleton.mp m)) hxx)⟩, hs1.same e5, hok, .inr ⟨p, c, v, rfl, e5.ge _ _ List.not_mem_nil gp4, rfl⟩, hne, hg1, hl1, hc1, hu1⟩, fun r H6 A' s' e6 mu st' po => ?_⟩
      refine q _ _ A' s' ?_ mu st' po
      have z1 : Ext [a0, lat0] H H4 := Ext.tr e4 (Ext.tr ee Ext.rfl' Sub.nil) (Sub.cons (.inl (by simp)) Sub.nil)
      exact Ext.tr e6 (Ext.tr e5 z1 Sub.nil) (Sub.cons (.inl (by simp)) (Sub.cons (.inl (by simp)) Sub.nil))
end
end K7
set_option Elab.async false
set_option linter.all false
set_option maxRecDepth 100000
set_option maxHeartbeats 4000000
namespace K7
open PySem PySem.Spec PyProof.Rows L2
section
variable {σ : L2.St} {H : Hp} {Q : VK} {D : Ends} {td ty tv tx : TE}
def kDPut (v x y : V) (R : Hp → Prop) : Hp → Prop := fun H3 => ∃ a H4, x = .ref a ∧ DPut H3 a y v H4 ∧ R H4
theorem r_dput (h : tv σ H fun v H1 => td σ H1 fun x H2 => ty σ H2 fun y H3 => kDPut v x y (fun H4 => D.nx σ H4) H3) : sDPut td ty tv D σ H := h
theorem r_kDPut {a : Addr} {k : Int} {v : V} {kvs : List (Key × V)} {R : Hp → Prop} (h : H a = some (.dK kvs)) (l : kvs.length < 100000) (q : ∀ H2, Ext [a] H H2 → H2 a = some (.dK (putK kvs (Sum.inl k) v)) → R H2) : kDPut v (.ref a) (.int k) R H :=
  ⟨a, _, rfl, DPut.k (k := Sum.inl k) h (sz2 l), q _ (.mut h) upd_same⟩
def kDPop1 (ty tx : TE) (σ : L2.St) (Q : VK) : VK := fun x H1 => ∃ a, x = .ref a ∧ IsD H1 a ∧ ty σ H1 fun y H2 => tx σ H2 fun z H3 => ∃ kvs k, H3 a = some (.dK kvs) ∧ y = kV k ∧
  (∀ v, valV kvs k = some v → Q v (upd H3 a (.dK (dropK kvs k)))) ∧ (valV kvs k = none → Q z H3)
def kDPop2 (a : Addr) (Q : VK) : V → V → Hp → Prop := fun y z H3 => ∃ kvs k, H3 a = some (.dK kvs) ∧ y = kV k ∧
  (∀ v, valV kvs k = some v → Q v (upd H3 a (.dK (dropK kvs k)))) ∧ (valV kvs k = none → Q z H3)
theorem r_dpop (h : td σ H (kDPop1 ty tx σ Q)) : tDPop2 td ty tx σ H Q := h
theorem r_kDPop1 {a : Addr} {kvs : List (Key × V)} (h : H a = some (.dK kvs)) (q : ty σ H fun y H2 => tx σ H2 fun z H3 => kDPop2 a Q y z H3) : kDPop1 ty tx σ Q (.ref a) H := ⟨a, rfl, .inl ⟨kvs, .inl h⟩, q⟩
theorem r_kDPop2 {a : Addr} {k : Int} {z : V} {kvs : List (Key × V)} (h : H a = some (.dK kvs)) (q1 : ∀ v H2, valV kvs (Sum.inl k) = some v → Ext [a] H H2 → H2 a = some (.dK (dropK kvs (Sum.inl k))) → Q v H2) (q2 : valV kvs (Sum.inl k) = none → Q z H) : kDPop2 a Q (.int k) z H :=
  ⟨kvs, Sum.inl k, h, rfl, fun v e => q1 v _ e (.mut h) upd_same, q2⟩
def kDGet (Q : VK) (x y : V) : Hp → Prop := fun H2 => ∃ a v, x = .ref a ∧ DGet H2 a y (some v) ∧ Q v H2
theorem r_dget (h : td σ H fun x H1 => ty σ H1 fun y H2 => kDGet Q x y H2) : tDGet td ty σ H Q := h
theorem r_kDGet {a : Addr} {k : Int} {kvs : List (Key × V)} {v : V} (h : H a = some (.dK kvs)) (e : valV kvs (Sum.inl k) = some v) (q : Q v H) : kDGet Q (.ref a) (.int k) H := ⟨a, v, rfl, by rw [← e]; exact DGet.k (k := Sum.inl k) h, q⟩
theorem putK_len {kvs : List (Key × V)} {k : Key} {v : V} : (putK kvs k v).length ≤ kvs.length + 1 := by
  unfold putK
  split
  · rw [List.length_map]; omega
  · rw [List.length_append]; simp
theorem dropK_le {kvs : List (Key × V)} {k : Key} : (dropK kvs k).length ≤ kvs.length := List.length_filter_le _ _
end
end K7
set_option Elab.async false
set_option linter.all false
set_option maxRecDepth 100000
set_option maxHeartbeats 4000000
namespace K7
open PySem PySem.Spec PyProof.Rows L2
local macro_rules | `(tactic| walk_at "hp") => `(tactic| first | assumption | exact upd_same | (apply get_ne; (focus walk_at "ne"); walk_at "hp") | (apply Ext.get; (focus assumption); (focus walk_at "nl"); walk_at "hp"))
local macro_rules | `(tactic| walk_at "nl") => `(tactic| first | exact List.not_mem_nil | (apply nin_cons; (focus walk_at "ne"); walk_at "nl"))
local macro_rules | `(tactic| walk_at "ne") => `(tactic| first | assumption | (apply Ne.symm; assumption) | (apply ne_fresh; (focus assumption); walk_at "hp") | (apply ne_fresh'; (focus assumption); walk_at "hp"))
local macro_rules | `(tactic| walk_at "ex") => `(tactic| first | exact Ext.rfl' | assumption | (apply Ext.tr; (focus assumption); (focus walk_at "ex"); walk_at "sub"))
local macro_rules | `(tactic| walk_at "dm") => `(tactic| first | exact Dom.rfl' | (apply Dom.tr; (focus assumption); walk_at "dm"))
local macro_rules | `(tactic| walk_at "sub") => `(tactic| first | exact Sub.nil | (apply Sub.cons; (focus (first | (apply Or.inl; simp; done) | (apply Or.inr; apply Dom.fr; (focus assumption); walk_at "dm"))); walk_at "sub"))
local macro_rules | `(tactic| walk_at "st") => `(tactic| first
  | (with_reducible refine r_seq ?_) | (with_reducible refine r_asg ?_) | (with_reducible refine r_name ?_) | (with_reducible refine r_drop ?_) | (with_reducible refine r_ret ?_) | (with_reducible refine r_retN ?_) | (with_reducible refine r_next ?_)
  | (with_reducible refine r_ifS ?_) | (with_reducible refine r_c ?_) | (with_reducible refine r_op ?_) | (with_reducible refine r_un ?_) | (with_reducible refine r_test ?_) | (with_reducible refine r_tB ?_) | (with_reducible refine r_kB ?_)
  | (with_reducible refine r_and ?_) | (with_reducible refine r_or ?_) | (with_reducible refine r_not ?_) | (with_reducible refine r_andV ?_) | (with_reducible refine r_kAndV ?_) | (with_reducible refine r_orV ?_) | (with_reducible refine r_kOrV ?_)
  | (with_reducible refine r_notV ?_) | (with_reducible refine r_kNotV ?_) | (with_reducible refine r_ifE ?_) | (with_reducible refine r_iftt ?_) | (with_reducible refine r_ifff ?_) | (with_reducible refine r_ifnt ?_) | (with_reducible refine r_ifnf ?_) | (with_reducible refine r_kCh ?_)
  | (with_reducible refine r_nil ?_) | (with_reducible refine r_cons ?_) | (with_reducible refine r_tup ?_) | (with_reducible refine r_lst ?_) | (with_reducible refine r_fld ?_) | (with_reducible refine r_sfld ?_) | (with_reducible refine r_gfld ?_)
  | (with_reducible refine r_gNil ?_) | (with_reducible refine r_gCons ?_) | (with_reducible refine r_par ?_) | (with_reducible refine r_kPar ?_) | (with_reducible refine r_cl ?_) | (with_reducible refine r_cb ?_) | (with_reducible refine r_bm ?_)
  | (with_reducible refine r_bm0 ?_) | (with_reducible refine r_gsub ?_) | (with_reducible refine r_m ?_) | (with_reducible refine r_p ?_) | (with_reducible refine r_mk ?_) | (with_reducible refine r_I0 ?_) | (with_reducible refine r_U ?_)
  | ((with_reducible apply r_var); focus (first | exact rfl | assumption))
  | ((with_reducible apply r_eq); focus exact rfl) | ((with_reducible apply r_ne); focus exact rfl)
  | ((with_reducible apply r_kFld); (focus walk_at "hp"); (focus walk_at "cls"); (focus walk_at "no"); (focus exact rfl))
  | ((with_reducible apply r_kSF); (focus walk_at "hp"); (focus walk_at "cls"); (focus walk_at "no"); (focus exact of_decide_eq_true (by exact rfl)); (focus walk_at "pf"); intro _ _ _)
  | ((with_reducible apply r_kTup); (focus (first | exact of_decide_eq_true (by exact rfl) | (simp; done))); intro _ _ _ _ _) | ((with_reducible apply r_kLst); (focus (first | exact of_decide_eq_true (by exact rfl) | (simp; done))); intro _ _ _ _ _) | ((with_reducible apply r_dnew); intro _ _ _ _ _)
  | ((with_reducible apply r_gTup); (focus exact SqT.of (by walk_at "hp")); (focus exact rfl)) | ((with_reducible apply r_gUnl); (focus exact SqL.of (by walk_at "hp")); (focus exact rfl))
  | (with_reducible refine r_sl ?_) | (with_reducible refine r_noPart ?_) | (with_reducible refine r_part ?_) | (with_reducible refine r_kPart ?_) | (with_reducible refine r_chain ?_) | (with_reducible refine r_for ?_) | (with_reducible refine r_lc ?_) | (with_reducible refine r_yes ?_)
  | (with_reducible refine r_iTup ?_) | (with_reducible refine r_iList ?_) | (with_reducible refine r_iRng1 ?_) | (with_reducible refine r_iStr ?_) | (with_reducible refine r_iEnumT ?_) | (with_reducible refine r_iZip ?_)
  | (with_reducible refine r_kIfT ?_) | (with_reducible refine r_kIfF ?_)
  | ((with_reducible apply r_kMk); intro _ _ _ _ _ _)
  | ((with_reducible apply r_lenL); (focus walk_at "hp")) | ((with_reducible apply r_lenT); (focus walk_at "hp")) | ((with_reducible apply r_listL); (focus walk_at "hp"); intro _ _ _ _ _) | ((with_reducible apply r_tupL); (focus walk_at "hp"); intro _ _ _ _ _)
  | (with_reducible refine r_strS ?_)
  | (with_reducible refine r_isiII ?_) | (with_reducible refine r_isiIB ?_) | (with_reducible refine r_isiIS ?_) | (with_reducible refine r_isiSS ?_) | ((with_reducible apply r_isiTT); (focus walk_at "hp"))
  | (with_reducible refine r_isNn ?_) | (with_reducible refine r_isNr ?_) | (with_reducible refine r_isNi ?_) | (with_reducible refine r_isNs ?_) | (with_reducible refine r_noNn ?_) | (with_reducible refine r_noNr ?_) | (with_reducible refine r_noNi ?_) | (with_reducible refine r_noNs ?_)
  | (with_reducible refine r_isN ?_) | (with_reducible refine r_notN ?_) | ((with_reducible apply r_inT); (focus walk_at "hp")) | (with_reducible refine r_max2 ?_) | (with_reducible refine r_min2 ?_) | (with_reducible refine r_sign ?_)
  | ((with_reducible apply r_dict); (focus walk_at "hp"); intro _ _ _ _ _)
  | ((with_reducible apply r_ixLast); (focus walk_at "hp")) | ((with_reducible apply r_ixPair0); (focus walk_at "hp")) | ((with_reducible apply r_ixPair1); (focus walk_at "hp"))
  | ((with_reducible apply r_kBM0); (focus exact ty_l (by walk_at "hp"))) | ((with_reducible apply r_kBM); (focus exact ty_l (by walk_at "hp")))
  | (with_reducible refine r_star ?_) | ((with_reducible apply r_kStar); (focus walk_at "hp"))
  | (with_reducible refine r_iVals ?_) | (with_reducible refine r_iKeys ?_)
  | (with_reducible refine r_dput ?_) | (with_reducible refine r_dpop ?_) | ((with_reducible apply r_kDPop1); (focus walk_at "hp")) | (with_reducible refine r_dget ?_)
  | ((with_reducible apply r_kM); (focus walk_at "hp"); (focus exact rfl)) | ((with_reducible apply r_kP); (focus walk_at "hp")))
local macro_rules | `(tactic| walk_at "go") => `(tactic| repeat walk_at "st")
local macro_rules | `(tactic| walk_at "cls") => `(tactic| first | assumption | exact Tx.cls (by assumption) _ (by decide +kernel))
local macro_rules | `(tactic| walk_at "no") => `(tactic| first | assumption | exact Tx.no (by assumption) _ _ (by decide +kernel))
local macro_rules | `(tactic| walk_at "fr") => `(tactic| (apply Dom.fr; (focus assumption); walk_at "dm"))
local macro_rules | `(tactic| walk_at "pf") => `(tactic| first | exact putF_nil | exact putF_hit | (apply putF_miss; (focus decide); walk_at "pf"))
def poLink (po : Po) : Po := fun s now fnd s' _ => ∃ s1 r1 lt, po s now fnd s1 r1 ∧ s' = { s1 with later := lt } ∧ lt.length ≤ s1.later.length + 1
theorem Stn.later_ {K : PySem.W.Frag} {H H' : Hp} {A : Ad} {tb : List Int} {s : SD} {lt : List (Key × V)} (h : Stn K H A tb s) (e : Ext [A.later] H H') (hl : H' A.later = some (.dK lt)) : Stn K H' A tb { s with later := lt } := by
  obtain ⟨kvs, h1, h2⟩ := h.due
  have g : ∀ b o, H b = some o → b ≠ A.later → H' b = some o := fun b o q n => e.ge b o (fun m => n (List.mem_singleton.mp m)) q
  have k : ∀ b o, H b = some o → HO.dK s.later ≠ o → H' b = some o := fun b o q n => g b o q fun z => by
    rw [z, h.later] at q
    exact n (Option.some.inj q)
  exact ⟨k _ _ h.inst (by intro z; cases z), k _ _ h.own (by intro z; cases z), k _ _ h.coming (by intro z; cases z), k _ _ h.ins (by intro z; cases z), k _ _ h.outs (by intro z; cases z), ⟨kvs, g _ _ h1 h.d2, h2.same fun b xs q => k _ _ q (by intro z; cases z)⟩,
    k _ _ h.cuts (by intro z; cases z), k _ _ h.gone (by intro z; cases z), hl, h.d1, h.d2⟩
section
variable {P : Program} {w : World} {K : PySem.W.Frag} {mg : Str → Option Value} {base : Heap}
theorem sc_Link_put : FnScopeS ["self", "stood", "now", "found", "crossed", "again"] ["self", "stood", "now", "found"] (defScope s67_2) := ⟨rfl, rfl, rfl, by decide +kernel, rfl, by decide +kernel, by decide +kernel, by decide +kernel⟩
theorem fn_Link_put (TPP : TP P) (T : Tx K mg) {x qual : Str} {f D cdA cc : Addr} {fd : FuncData} (FS : FunS K x qual s67_2 f D cdA cc fd) {C C2 : Addr} (cl : Cls K C) (cD : Cls K D) (su : Sup K C D C2) {po2 : Po}
    (F2 : FnR P w K mg base CX0 2 (ma K C2 "put_out") (spPut K C po2)) (hpo : ∀ s now fnd s' r, po2 s now fnd s' r → s'.later = s.later) : FnR P w K mg base CX0 3 f (spPut K C (poLink po2)) := by
  obtain ⟨oc, od, kV, doc, pm, an, ct, osl, efd, lk⟩ := FS.ex
  obtain ⟨ccl, cdd, vs_, ccs, tf, hcode, hvs⟩ := FS.code
  obtain ⟨ccl2, cld2, csl2, hcell⟩ := FS.cell
  subst efd
  refine fnS_of (N := ["self", "stood", "now", "found", "crossed", "again"]) (ps := ["self", "stood", "now", "found"]) FS sc_Link_put (fun _ _ _ _ _ us hl => match us, hl with | [_, _, _, _], _ => rfl) (fun _ _ _ _ ⟨_, _, _, _, _, _, _, e, _⟩ => by rw [e]; rfl) fun A outer s H vs Q E hr hsp => ?_
  obtain ⟨x, A0, now, fv, fnd, tb, s0, rfl, hp, q⟩ := hsp
  refine ⟨_, (pssA_set (i := 4) sc_Link_put.nd rfl rfl (kc_super F2 hr rfl rfl rfl rfl rfl lk rfl hcode hvs (beq_iff_eq.mpr TPP.file) hcell cl cD (T.free "super" (by decide +kernel)) rfl rfl TPP.top T.st su.mro su.at_ su.ty su.fi (pa_cons (pv 1) (pa_cons (pv 2) (pa_cons (pv 3) pa_nil))) (Nat.le_refl _) (by decide)) (pss_cons (ps_if (pt_cmpR opNotN (pv 4) pe_non (nomark _))
  (pss_cons (ps_set (i := 5) sc_Link_put.nd rfl (Or.inl rfl) (kc_call (fn_back_of (K := K) (mg := mg) T) hr (by rfl) (T.glo "back_of" (by decide +kernel)) (T.def_ _ md_back_of).kp (pa_cons (kc_fld (K := K) rfl (pv 1)) pa_nil)))
  (pss_one (ps_dput (hu_of hr) (kc_fld (K := K) rfl (pv 1)) (pe_op op_add (pv 2) (pe_ix (ixT (K := K) rfl) (pv 5) (pe_op op_modN (pv 2) (pe_callB (cl_len (K := K) rfl) (by rfl) (T.free "len" (by decide +kernel)) (by decide +kernel) (pa_cons (pv 5) pa_nil))) (fun _ _ => rfl))) (pv 4) rfl)))
  pss_nil)
  (pss_one (ps_ret (pe_dpop2 (kc_fld (K := K) rfl (pv 1)) (pv 2) pe_non ⟨rfl, rfl, rfl, rfl⟩))))), ?_⟩
  have hp' := hp
  obtain ⟨⟨dx, fs, hx⟩, hst, hok, hfn, hne, hg1, hl1, hc1, hu1⟩ := hp'
  walk_at "go"
  refine r_sup rfl hx fun m H1 nm e1 hm => ?_
  walk_at "go"
  refine ⟨hm, x, A0, now, fv, fnd, tb, s0, rfl, ⟨⟨dx, fs, by walk_at "hp"⟩, hst.same e1, hok, hfn.same (fun b xs h => e1.ge b _ List.not_mem_nil h), hne, hg1, hl1, hc1, hu1⟩, fun r H2 A' s' e2 mu st' po => ?_⟩
  have hst2 := st'
  have hlt := hpo _ _ _ _ _ po
  obtain ⟨b0, dy0, ow0, cm0, in0, ou0, du0, cu0, gn0, lt0⟩ := A'
  obtain ⟨m1, m2, m3, m4, m5⟩ := mu
  obtain ⟨hI, hown, hcom, hins, houts, ⟨kvs, hdue, hdd⟩, hcuts, hgone, hlat, hd1, hd2⟩ := st'
  dsimp only [flds] at hI hown hcom hins houts hdue hcuts hgone hlat hd1 hd2
  dsimp only at *
  subst m1 m5
  walk_at "go"
  have ex2 : Ext [A0.a, A0.later] H H2 := by walk_at "ex"
  have fin : ∀ (H3 : Hp) (lt : List (Key × V)), Ext [A0.later] H2 H3 → H3 A0.later = some (.dK lt) → lt.length ≤ s'.later.length + 1 → ∀ r', Q r' H3 := fun H3 lt e3 h3 l3 r' =>
    q r' H3 ⟨A0.a, dy0, ow0, cm0, in0, ou0, du0, cu0, gn0, A0.later⟩ { s' with later := lt } (Ext.tr e3 ex2 (Sub.cons (.inl (by simp)) Sub.nil)) ⟨rfl, m2, m3, m4, rfl⟩ (hst2.later_ e3 h3) ⟨s', r, lt, po, rfl, l3⟩
  clear ex2
  have hal : A0.a ≠ A0.later := ne_of hI hlat (by intro z; cases z)
  apply r_ifN2
  · intro hr0
    walk_at "go"
    refine ⟨_, tb, rfl, hown, hok, fun H3 p ms e3 hp3 hms => ?_⟩
    walk_at "go"
    have hpos := hok.pos
    have hle := hok.le
    refine r_I (by rw [List.length_map]; omega) ?_
    have h0 : (0 : Int) < (ms.length : Int) := by omega
    have hb1 := Int.fmod_nonneg_of_pos now h0
    have hb2 := Int.fmod_lt_of_pos now h0
    have hj : (now.fmod (ms.length : Int)).toNat < ms.length := by omega
    rw [List.length_map]
    apply r_ixT (v := .int ms[(now.fmod (ms.length : Int)).toNat]) (SqT.of hp3)
    · refine at_of (j := (now.fmod (ms.length : Int)).toNat) (by omega) ?_
      rw [List.getElem?_map, List.getElem?_eq_getElem hj]
      rfl
    walk_at "go"
    apply r_kDPut (kvs := s'.later)
    · walk_at "hp"
    · rw [hlt]; omega
    intro H4 e4 h4
    walk_at "go"
    have e24 : Ext [A0.later] H2 H4 := Ext.tr e4 (Ext.tr e3 Ext.rfl' Sub.nil) (Sub.cons (.inl (by simp)) Sub.nil)
    have l4 : ∀ (k : Key) (v : V), (putK s'.later k v).length ≤ s'.later.length + 1 := fun _ _ => putK_len
    apply r_kDPop2 h4
    · intro v H5 hv e5 h5
      exact fin H5 _ (Ext.tr e5 e24 (Sub.cons (.inl (by simp)) Sub.nil)) h5 (Nat.le_trans dropK_le (l4 _ _)) v
    · intro _
      exact fin H4 _ e24 h4 (l4 _ _) _
  · intro hr0
    walk_at "go"
    apply r_kDPop2 hlat
    · intro v H5 hv e5 h5
      exact fin H5 _ e5 h5 (Nat.le_trans dropK_le (by omega)) v
    · intro _
      exact fin H2 _ Ext.rfl' hlat (by omega) _
end
/-! ### step -/
def dput (due : List (Int × Int × V)) (k : Int) (e : Int × V) : List (Int × Int × V) := if (due.any fun d => decide (d.1 = k)) = true then due.map (fun d => if d.1 = k then (d.1, e) else d) else due ++ [(k, e)]
def ddrop (due : List (Int × Int × V)) (k : Int) : List (Int × Int × V) := due.filter fun d => decide (d.1 ≠ k)
def dget (due : List (Int × Int × V)) (k : Int) : Option (Int × V) := (due.find? fun d => decide (d.1 = k)).map (·.2)
theorem key_iff {kv : Key × V} {d : Int × Int × V} {k : Int} (h : kv.1 = Sum.inl d.1) : kv.1 = Sum.inl k ↔ d.1 = k := by rw [h]; exact ⟨fun z => Sum.inl.inj z, fun z => by rw [z]⟩
theorem DueAt.put {H : Hp} {k c : Int} {v : V} {p : Addr} (hp : H p = some (.tup [.int c, v])) : ∀ {kvs : List (Key × V)} {due : List (Int × Int × V)}, DueAt H kvs due → DueAt H (putK kvs (Sum.inl k) (.ref p)) (dput due k (c, v)) := by
  intro kvs due h
  have hany : (kvs.any fun kv => decide (kv.1 = Sum.inl k)) = (due.any fun d => decide (d.1 = k)) := by
    induction h with
    | nil => rfl
    | cons f _ ih =>
      obtain ⟨q, e, _⟩ := f
      rw [List.any_cons, List.any_cons, ih, decide_eq_decide.mpr (key_iff (by rw [e]))]
  unfold putK dput
  rw [hany]
  split
  · rename_i hh
    clear hany hh
    induction h with
    | nil => exact .nil
    | @cons kv d _ _ f _ ih =>
      obtain ⟨q, e, h2⟩ := f
      refine .cons ?_ ih
      dsimp only
      by_cases z : d.1 = k
      · have z' : kv.1 = Sum.inl k := (key_iff (by rw [e])).mpr z
        rw [if_pos z', if_pos z]
        exact ⟨p, by rw [e], hp⟩
      · have z' : ¬ kv.1 = Sum.inl k := fun y => z ((key_iff (kv := kv) (d := d) (by rw [e])).mp y)
        rw [if_neg z', if_neg z]
        exact ⟨q, e, h2⟩
  · exact Paired.snoc h ⟨p, rfl, hp⟩
theorem DueAt.drop {H : Hp} {k : Int} {kvs : List (Key × V)} {due : List (Int × Int × V)} (h : DueAt H kvs due) : DueAt H (dropK kvs (Sum.inl k)) (ddrop due k) := by
  unfold dropK ddrop
  induction h with
  | nil => exact .nil
  | @cons kv d _ _ f _ ih =>
    obtain ⟨q, e, h2⟩ := f
    rw [List.filter_cons, List.filter_cons]
    by_cases z : d.1 = k
    · rw [if_neg (by simp [(key_iff (kv := kv) (by rw [e])).mpr z]), if_neg (by simp [z])]
      exact ih
    · have z' : ¬ kv.1 = Sum.inl k := fun y => z ((key_iff (kv := kv) (d := d) (by rw [e])).mp y)
      rw [if_pos (by simp [z']), if_pos (by simp [z])]
      exact .cons ⟨q, e, h2⟩ ih
theorem DueAt.get {H : Hp} {k : Int} {kvs : List (Key × V)} {due : List (Int × Int × V)} (h : DueAt H kvs due) : (valV kvs (Sum.inl k) = none ∧ dget due k = none) ∨ ∃ p c v, valV kvs (Sum.inl k) = some (.ref p) ∧ dget due k = some (c, v) ∧ H p = some (.tup [.int c, v]) := by
  induction h with
  | nil => exact .inl ⟨rfl, rfl⟩
  | @cons kv d _ _ f _ ih =>
    obtain ⟨q, e, h2⟩ := f
    by_cases z : d.1 = k
    · refine .inr ⟨q, d.2.1, d.2.2, ?_, ?_, h2⟩
      · rw [valV_pos ((key_iff (by rw [e])).mpr z), e]
      · unfold dget
        rw [List.find?_cons, decide_eq_true z]
        rfl
    · rw [valV_neg (fun y => z ((key_iff (by rw [e])).mp y))]
      have this : ∀ r, dget (d :: r) k = dget r k := fun r => by
        unfold dget
        rw [List.find?_cons, decide_eq_false z]
      rw [this]
      exact ih
theorem DueAt.len {H : Hp} {kvs : List (Key × V)} {due : List (Int × Int × V)} (h : DueAt H kvs due) : kvs.length = due.length := Paired.len h
theorem dput_len {due : List (Int × Int × V)} {k : Int} {e : Int × V} : (dput due k e).length ≤ due.length + 1 := by
  unfold dput
  split
  · rw [List.length_map]; omega
  · rw [List.length_append]; simp
theorem ddrop_len {due : List (Int × Int × V)} {k : Int} : (ddrop due k).length ≤ due.length := List.length_filter_le _ _
def mid (tb : List Int) (s : SD) (v : V) : SD := { s with due := ddrop (dput s.due ((s.ins.length : Int) + holdN tb ((s.ins.length : Int) + 0)) ((s.ins.length : Int), v)) (s.ins.length : Int), ins := s.ins ++ [v] }
def found (tb : List Int) (s : SD) (v : V) : Option (Int × V) := dget (dput s.due ((s.ins.length : Int) + holdN tb ((s.ins.length : Int) + 0)) ((s.ins.length : Int), v)) (s.ins.length : Int)
def stepR (po : Po) (tb : List Int) (s : SD) (v : V) (s' : SD) (r : V) : Prop := ∃ s1, po (mid tb s v) (s.ins.length : Int) (found tb s v) s1 r ∧ s' = { s1 with outs := s1.outs ++ [r] }
structure Sml (s : SD) (n : Nat) : Prop where
  ins : s.ins.length ≤ n
  outs : s.outs.length ≤ n
  due : s.due.length ≤ n
  cuts : s.cuts.length ≤ n
  gone : s.gone.length ≤ n
  later : s.later.length ≤ n
def spStep (K : PySem.W.Frag) (C : Addr) (po : Po) : Sp := fun vs H Q _ => ∃ x A v tb s, vs = [.ref x, .ref A.a, v] ∧ (∃ dx L, H x = some (.ins C dx [("stands", .ref L)])) ∧ Stn K H A tb s ∧ OkT tb ∧ x ≠ A.a ∧ Sml s 900 ∧
  ∀ r H' A' s', Ext [A.a, A.ins, A.outs, A.due, A.later] H H' → MuEq A A' → Stn K H' A' tb s' → stepR po tb s v s' r → Q r H'
section
variable {P : Program} {w : World} {K : PySem.W.Frag} {mg : Str → Option Value} {base : Heap}
theorem r_slWhole {K : PySem.W.Frag} {a : Addr} {H : Hp} {Q : VK} (h : H a = some (.tup [])) (q : Q (.ref a) H) : rSlA K (.ref a) (some 1) none H Q :=
  ⟨a, [], rfl, SqT.of h, fun _ => q, fun n => absurd ⟨by decide, by decide⟩ n⟩
theorem r_kDPop3 {a : Addr} {k : Int} {z : V} {kvs : List (Key × V)} {H : Hp} {Q : VK} (h : H a = some (.dK kvs))
    (q : ∀ fv H2 k2, Ext [a] H H2 → H2 a = some (.dK k2) → ((valV kvs (Sum.inl k) = none ∧ fv = z ∧ k2 = kvs) ∨ (valV kvs (Sum.inl k) = some fv ∧ k2 = dropK kvs (Sum.inl k))) → Q fv H2) : kDPop2 a Q (.int k) z H :=
  r_kDPop2 h (fun v H2 e x y => q v H2 _ x y (.inr ⟨e, rfl⟩)) fun e => q z H kvs Ext.rfl' h (.inl ⟨e, rfl, rfl⟩)
theorem ddrop_no {due : List (Int × Int × V)} {k : Int} (h : dget due k = none) : ddrop due k = due := by
  unfold ddrop
  rw [List.filter_eq_self]
  intro d hd
  unfold dget at h
  rw [Option.map_eq_none_iff, List.find?_eq_none] at h
  have := h d hd
  simpa using this
theorem Stn.outs_ {K : PySem.W.Frag} {H H' : Hp} {A : Ad} {tb : List Int} {s : SD} {o : List V} (h : Stn K H A tb s) (e : Ext [A.outs] H H') (hl : H' A.outs = some (.lst o)) : Stn K H' A tb { s with outs := o } := by
  obtain ⟨kvs, h1, h2⟩ := h.due
  have g : ∀ b o, H b = some o → b ≠ A.outs → H' b = some o := fun b o q n => e.ge b o (fun m => n (List.mem_singleton.mp m)) q
  have k : ∀ b o, H b = some o → HO.lst s.outs ≠ o → H' b = some o := fun b o q n => g b o q fun z => by
    rw [z, h.outs] at q
    exact n (Option.some.inj q)
  exact ⟨k _ _ h.inst (by intro z; cases z), k _ _ h.own (by intro z; cases z), k _ _ h.coming (by intro z; cases z), g _ _ h.ins h.d1, hl, ⟨kvs, k _ _ h1 (by intro z; cases z), h2.same fun b xs q => k _ _ q (by intro z; cases z)⟩,
    k _ _ h.cuts (by intro z; cases z), k _ _ h.gone (by intro z; cases z), k _ _ h.later (by intro z; cases z), h.d1, h.d2⟩
theorem sc_Row_step : FnScope ["self", "stood", "value", "now", "out"] ["self", "stood", "value"] (defScope s63_8) := ⟨rfl, rfl, rfl, by decide +kernel, rfl, by decide +kernel, by decide +kernel⟩
theorem fn_Row_step (T : Tx K mg) {x qual : Str} {f : Addr} {fd : FuncData} (F : Fun K x qual s63_8 f fd) {C : Addr} (cl : Cls K C) (no : NoAttr K C "stands") {po : Po} {fp : Addr} (hm : Meth K C "put_out" fp) (FP : FnR P w K mg base CX0 3 fp (spPut K C po))
    (hou : ∀ s now fnd s' r, po s now fnd s' r → s'.outs = s.outs) : FnR P w K mg base CX0 4 f (spStep K C po) := by
  refine fnR_of (N := ["self", "stood", "value", "now", "out"]) (ps := ["self", "stood", "value"]) (F) sc_Row_step (fun _ _ _ _ _ _ us hl => match us, hl with | [_, _, _], _ => rfl) (fun _ _ _ _ ⟨_, _, _, _, _, e, _⟩ => by rw [e]; rfl) fun cdv A outer s H vs Q E hr hsp => ?_
  obtain ⟨x, A0, v, tb, s0, rfl, ⟨dx, L, hx⟩, hst, hok, hne, hsm, q⟩ := hsp
  have MP : MOk (cxOf CX0 P w K mg base ["self", "stood", "value", "now", "out"] qual (defScope s63_8) f cdv A outer s H E).nox 3 C "put_out" (spPut K C po) := ⟨cl, fp, hm, FP⟩
  refine ⟨_, (pss_cons (ps_set (i := 3) sc_Row_step.nd rfl (Or.inl rfl) (pe_callB (cl_len (K := K) rfl) (by rfl) (T.free "len" (by decide +kernel)) (by decide +kernel) (pa_cons (kc_fld (K := K) rfl (pv 1)) pa_nil)))
  (pss_cons (ps_dput (hu_of hr) (kc_fld (K := K) rfl (pv 1)) (pe_op op_add (pv 3) (kc_call (fn_hold_ahead (K := K) (mg := mg) T) hr (by rfl) (T.glo "hold_ahead" (by decide +kernel)) (T.def_ _ md_hold_ahead).kp (pa_cons (pv 1) (pa_cons pe_int pa_nil)))) (pe_tup (pa_cons (pv 3) (pa_cons (pv 2) pa_nil))) rfl)
  (pss_cons (kp_sfld (K := K) rfl (pv 1) (pe_slice (slT (K := K) rfl) (kc_fld (K := K) rfl (pv 1)) (po_some pe_int) po_none))
  (pss_cons (ps_expr (kc_bm (K := K) rfl PySem.F.plainAttrs_list PySem.F.slot_list_append PySem.F.type_list_append mt_append (kc_fld (K := K) rfl (pv 1)) (pa_cons (pv 2) pa_nil)))
  (pss_cons (ps_set (i := 4) sc_Row_step.nd rfl (Or.inl rfl) (kc_meth (pv 0) MP hr (pa_cons (pv 1) (pa_cons (pv 3) (pa_cons (pe_dpop2 (kc_fld (K := K) rfl (pv 1)) (pv 3) pe_non ⟨rfl, rfl, rfl, rfl⟩) pa_nil)))))
  (pss_cons (ps_expr (kc_bm (K := K) rfl PySem.F.plainAttrs_list PySem.F.slot_list_append PySem.F.type_list_append mt_append (kc_fld (K := K) rfl (pv 1)) (pa_cons (pv 4) pa_nil)))
  (pss_one (ps_ret (pv 4))))))))), ?_⟩
  have hst0 := hst
  obtain ⟨a0, dx0, own0, com0, ins0, outs0, due0, cuts0, gone0, lat0⟩ := A0
  obtain ⟨hI, hown, hcom, hins, houts, ⟨kvs, hdue, hdd⟩, hcuts, hgone, hlat, hd1, hd2⟩ := hst
  dsimp only [flds] at hI hown hcom hins houts hdue hcuts hgone hlat hd1 hd2
  dsimp only at *
  have n_a0_ins0 : a0 ≠ ins0 := ne_of hI hins (by intro z; cases z)
  have n_a0_outs0 : a0 ≠ outs0 := ne_of hI houts (by intro z; cases z)
  have n_a0_due0 : a0 ≠ due0 := ne_of hI hdue (by intro z; cases z)
  have n_a0_lat0 : a0 ≠ lat0 := ne_of hI hlat (by intro z; cases z)
  have n_own0_a0 : own0 ≠ a0 := ne_of hown hI (by intro z; cases z)
  have n_own0_ins0 : own0 ≠ ins0 := ne_of hown hins (by intro z; cases z)
  have n_own0_outs0 : own0 ≠ outs0 := ne_of hown houts (by intro z; cases z)
  have n_own0_due0 : own0 ≠ due0 := ne_of hown hdue (by intro z; cases z)
  have n_own0_lat0 : own0 ≠ lat0 := ne_of hown hlat (by intro z; cases z)
  have n_com0_a0 : com0 ≠ a0 := ne_of hcom hI (by intro z; cases z)
  have n_com0_ins0 : com0 ≠ ins0 := ne_of hcom hins (by intro z; cases z)
  have n_com0_outs0 : com0 ≠ outs0 := ne_of hcom houts (by intro z; cases z)
  have n_com0_due0 : com0 ≠ due0 := ne_of hcom hdue (by intro z; cases z)
  have n_com0_lat0 : com0 ≠ lat0 := ne_of hcom hlat (by intro z; cases z)
  have n_ins0_a0 : ins0 ≠ a0 := ne_of hins hI (by intro z; cases z)
  have n_ins0_due0 : ins0 ≠ due0 := ne_of hins hdue (by intro z; cases z)
  have n_ins0_lat0 : ins0 ≠ lat0 := ne_of hins hlat (by intro z; cases z)
  have n_outs0_a0 : outs0 ≠ a0 := ne_of houts hI (by intro z; cases z)
  have n_outs0_due0 : outs0 ≠ due0 := ne_of houts hdue (by intro z; cases z)
  have n_outs0_lat0 : outs0 ≠ lat0 := ne_of houts hlat (by intro z; cases z)
  have n_due0_a0 : due0 ≠ a0 := ne_of hdue hI (by intro z; cases z)
  have n_due0_ins0 : due0 ≠ ins0 := ne_of hdue hins (by intro z; cases z)
  have n_due0_outs0 : due0 ≠ outs0 := ne_of hdue houts (by intro z; cases z)
  have n_cuts0_a0 : cuts0 ≠ a0 := ne_of hcuts hI (by intro z; cases z)
  have n_cuts0_ins0 : cuts0 ≠ ins0 := ne_of hcuts hins (by intro z; cases z)
  have n_cuts0_outs0 : cuts0 ≠ outs0 := ne_of hcuts houts (by intro z; cases z)
  have n_cuts0_due0 : cuts0 ≠ due0 := ne_of hcuts hdue (by intro z; cases z)
  have n_cuts0_lat0 : cuts0 ≠ lat0 := ne_of hcuts hlat (by intro z; cases z)
  have n_gone0_a0 : gone0 ≠ a0 := ne_of hgone hI (by intro z; cases z)
  have n_gone0_ins0 : gone0 ≠ ins0 := ne_of hgone hins (by intro z; cases z)
  have n_gone0_outs0 : gone0 ≠ outs0 := ne_of hgone houts (by intro z; cases z)
  have n_gone0_due0 : gone0 ≠ due0 := ne_of hgone hdue (by intro z; cases z)
  have n_gone0_lat0 : gone0 ≠ lat0 := ne_of hgone hlat (by intro z; cases z)
  have n_lat0_a0 : lat0 ≠ a0 := ne_of hlat hI (by intro z; cases z)
  have n_lat0_ins0 : lat0 ≠ ins0 := ne_of hlat hins (by intro z; cases z)
  have n_lat0_outs0 : lat0 ≠ outs0 := ne_of hlat houts (by intro z; cases z)
  obtain ⟨l1, l2, l3, l4, l5, l6⟩ := hsm
  have hkl := DueAt.len hdd
  have hpos := hok.pos
  walk_at "go"
  rename_i p1 H1 np1 e1 hp1
  have n_x_ins : x ≠ ins0 := ne_of hx hins (by intro z; cases z)
  have n_x_outs : x ≠ outs0 := ne_of hx houts (by intro z; cases z)
  have n_x_due : x ≠ due0 := ne_of hx hdue (by intro z; cases z)
  have n_x_lat : x ≠ lat0 := ne_of hx hlat (by intro z; cases z)
  refine ⟨⟨a0, dx0, own0, com0, ins0, outs0, due0, cuts0, gone0, lat0⟩, 0, tb, s0, rfl, hst0.same e1, by omega, hpos, ?_⟩
  walk_at "go"
  apply r_kDPut (kvs := kvs)
  · walk_at "hp"
  · omega
  intro H2 e2 h2
  walk_at "go"
  apply r_slWhole
  · walk_at "hp"
  walk_at "go"
  apply r_append (xs := s0.ins)
  · walk_at "hp"
  · omega
  intro H4 e4 h4
  walk_at "go"
  have pd : DueAt H1 (putK kvs (Sum.inl ((s0.ins.length : Int) + holdN tb ((s0.ins.length : Int) + 0))) (.ref p1)) (dput s0.due ((s0.ins.length : Int) + holdN tb ((s0.ins.length : Int) + 0)) ((s0.ins.length : Int), v)) :=
    DueAt.put hp1 (hdd.same fun b xs hb => by walk_at "hp")
  have f1 : H1 due0 = some (.dK kvs) := by walk_at "hp"
  have f2 : H1 a0 = _ := e1.ge _ _ List.not_mem_nil hI
  have f3 : H1 ins0 = some (.lst s0.ins) := by walk_at "hp"
  have f4 : H1 outs0 = some (.lst s0.outs) := by walk_at "hp"
  have f5 : H1 lat0 = some (.dK s0.later) := by walk_at "hp"
  have tups : ∀ (b : Addr) (xs : List V), H1 b = some (.tup xs) → H4 b = some (.tup xs) := fun b xs hb => by
    have y1 : b ≠ due0 := ne_of hb f1 (by intro z; cases z)
    have y2 : b ≠ a0 := ne_of hb f2 (by intro z; cases z)
    have y3 : b ≠ ins0 := ne_of hb f3 (by intro z; cases z)
    walk_at "hp"
  have pd4 := pd.same tups
  have h4d : H4 due0 = some (.dK (putK kvs (Sum.inl ((s0.ins.length : Int) + holdN tb ((s0.ins.length : Int) + 0))) (.ref p1))) := by walk_at "hp"
  apply r_kDPop3 h4d
  intro fv H5 k5 e5 h5 hc
  have tup5 : ∀ (b : Addr) (xs : List V), H4 b = some (.tup xs) → H5 b = some (.tup xs) := fun b xs hb => by
    have y1 : b ≠ due0 := ne_of hb h4d (by intro z; cases z)
    walk_at "hp"
  have fd : Fnd H5 fv (found tb s0 v) ∧ DueAt H5 k5 (mid tb s0 v).due := by
    have pd5 := pd4.same tup5
    unfold found mid
    dsimp only
    rcases pd5.get (k := (s0.ins.length : Int)) with ⟨g1, g2⟩ | ⟨p, c, u, g1, g2, g3⟩
    · rcases hc with ⟨_, rfl, rfl⟩ | ⟨hv, _⟩
      · refine ⟨.inl ⟨rfl, g2⟩, ?_⟩
        rw [ddrop_no g2]
        exact pd5
      · rw [g1] at hv
        cases hv
    · rcases hc with ⟨hv, _, _⟩ | ⟨hv, rfl⟩
      · rw [g1] at hv
        cases hv
      · rw [g1] at hv
        cases hv
        exact ⟨.inr ⟨p, c, u, rfl, g3, g2⟩, pd5.drop⟩
  walk_at "go"
  have l7 : (mid tb s0 v).due.length ≤ 901 := by
    unfold mid
    dsimp only
    exact Nat.le_trans ddrop_len (Nat.le_trans dput_len (by omega))
  refine ⟨x, ⟨a0, dx0, own0, com0, ins0, outs0, due0, cuts0, gone0, lat0⟩, _, fv, found tb s0 v, tb, mid tb s0 v, rfl,
    ⟨⟨dx, _, by walk_at "hp"⟩, ⟨by walk_at "hp", by walk_at "hp", by walk_at "hp", by walk_at "hp", by walk_at "hp", ⟨k5, h5, fd.2⟩, by walk_at "hp", by walk_at "hp", by walk_at "hp", hd1, hd2⟩, hok, fd.1, hne, by show s0.gone.length ≤ 1000; omega, by show s0.later.length ≤ 1000; omega, by show s0.cuts.length ≤ 1000; omega, by omega⟩, fun r H6 A' s' e6 mu st' hpo => ?_⟩
  have ho := hou _ _ _ _ _ hpo
  have st6 := st'
  obtain ⟨b0, dy0, ow0, cm0, in0, ou0, du0, cu0, gn0, lt0⟩ := A'
  obtain ⟨m1, m2, m3, m4, m5⟩ := mu
  dsimp only at m1 m2 m3 m4 m5
  subst m1 m2 m3 m4 m5
  obtain ⟨gI, gown, gcom, gins, gouts, _, _, _, _, _, _⟩ := st'
  dsimp only [flds] at gI gown gcom gins gouts
  walk_at "go"
  apply r_append (xs := s'.outs)
  · walk_at "hp"
  · rw [ho]
    show s0.outs.length < 100000
    omega
  intro H7 e7 h7
  walk_at "go"
  exact q r H7 ⟨b0, dy0, ow0, cm0, in0, ou0, du0, cu0, gn0, lt0⟩ { s' with outs := s'.outs ++ [r] } (by walk_at "ex") ⟨rfl, rfl, rfl, rfl, rfl⟩ (st6.outs_ e7 h7) ⟨s', hpo, rfl⟩
end
/-! ### push_all -/
inductive Steps (po : Po) (tb : List Int) (s : SD) : List V → List V → SD → Prop
  | nil : Steps po tb s [] [] s
  | snoc {vs outs : List V} {s1 s2 : SD} {v r : V} : Steps po tb s vs outs s1 → stepR po tb s1 v s2 r → Steps po tb s (vs ++ [v]) (outs ++ [r]) s2
structure PoOk (po : Po) : Prop where
  ok : ∀ s now fnd s' r, po s now fnd s' r → s'.ins = s.ins ∧ s'.outs = s.outs ∧ s'.due = s.due ∧ s'.cuts = s.cuts ∧ s'.gone.length ≤ s.gone.length + 1 ∧ s'.later.length ≤ s.later.length + 1
theorem Sml.step {po : Po} (h : PoOk po) {tb : List Int} {s s' : SD} {v r : V} {n : Nat} (a : Sml s n) (b : stepR po tb s v s' r) : Sml s' (n + 1) := by
  obtain ⟨s1, b1, rfl⟩ := b
  obtain ⟨h1, h2, h3, h4, h5, h6⟩ := h.ok _ _ _ _ _ b1
  obtain ⟨a1, a2, a3, a4, a5, a6⟩ := a
  have e3 : (mid tb s v).due.length ≤ s.due.length + 1 := Nat.le_trans ddrop_len dput_len
  refine ⟨?_, ?_, ?_, ?_, ?_, ?_⟩
  · show s1.ins.length ≤ n + 1
    rw [h1]
    show (s.ins ++ [v]).length ≤ n + 1
    simp
    omega
  · show (s1.outs ++ [r]).length ≤ n + 1
    rw [h2]
    show (s.outs ++ [r]).length ≤ n + 1
    simp
    omega
  · show s1.due.length ≤ n + 1
    rw [h3]
    omega
  · show s1.cuts.length ≤ n + 1
    rw [h4]
    show s.cuts.length ≤ n + 1
    omega
  · show s1.gone.length ≤ n + 1
    have : (mid tb s v).gone.length = s.gone.length := rfl
    omega
  · show s1.later.length ≤ n + 1
    have : (mid tb s v).later.length = s.later.length := rfl
    omega
theorem Steps.sml {po : Po} (h : PoOk po) {tb : List Int} {s s' : SD} {vs outs : List V} {n : Nat} (a : Sml s n) (b : Steps po tb s vs outs s') : Sml s' (n + vs.length) := by
  induction b with
  | nil => exact a
  | snoc _ c ih =>
    rw [List.length_append]
    exact ih.step h c
theorem Steps.len {po : Po} {tb : List Int} {s s' : SD} {vs outs : List V} (b : Steps po tb s vs outs s') : outs.length = vs.length := by
  induction b with
  | nil => rfl
  | snoc _ c ih => rw [List.length_append, List.length_append, ih]; rfl
theorem MuEq.trans {A B C : Ad} (h : MuEq A B) (k : MuEq B C) : MuEq A C := ⟨k.a.trans h.a, k.ins.trans h.ins, k.outs.trans h.outs, k.due.trans h.due, k.later.trans h.later⟩
/-- a list that is none of the stand's grows -/
theorem Stn.lst_ {K : PySem.W.Frag} {H H' : Hp} {A : Ad} {tb : List Int} {s : SD} {D : Addr} {acc : List V} (h : Stn K H A tb s) (e : Ext [D] H H') (hD : H D = some (.lst acc)) (n1 : A.ins ≠ D) (n2 : A.outs ≠ D) : Stn K H' A tb s := by
  obtain ⟨kvs, h1, h2⟩ := h.due
  have g : ∀ b o, H b = some o → b ≠ D → H' b = some o := fun b o q n => e.ge b o (fun m => n (List.mem_singleton.mp m)) q
  have k : ∀ b o, H b = some o → HO.lst acc ≠ o → H' b = some o := fun b o q n => g b o q fun z => by
    rw [z, hD] at q
    exact n (Option.some.inj q)
  exact ⟨k _ _ h.inst (by intro z; cases z), k _ _ h.own (by intro z; cases z), k _ _ h.coming (by intro z; cases z), g _ _ h.ins n1, g _ _ h.outs n2, ⟨kvs, k _ _ h1 (by intro z; cases z), h2.same fun b xs q => k _ _ q (by intro z; cases z)⟩,
    k _ _ h.cuts (by intro z; cases z), k _ _ h.gone (by intro z; cases z), k _ _ h.later (by intro z; cases z), h.d1, h.d2⟩
/-! comprehensions whose turns change the heap -/
section
variable {σ : L2.St} {H : Hp} {Q : VK}
def LcJ (D : Addr) (L : List Addr) (H0 : Hp) (F : Nat → Hp → List V → Prop) (i : Nat) : Hp → Prop := fun H2 => ∃ acc, H2 D = some (.lst acc) ∧ Ext L H0 H2 ∧ F i H2 acc
theorem r_kApH {D : Addr} {L : List Addr} {H0 : Hp} {F : Nat → Hp → List V → Prop} {i : Nat} {acc : List V} {y : V} (e : H D = some (.lst acc)) (x : Ext L H0 H) (n : Nw H0 D) (hl : acc.length ≤ 90000)
    (f : ∀ H2, Ext [D] H H2 → H2 D = some (.lst (acc ++ [y])) → F i H2 (acc ++ [y])) : kAp D (LcJ D L H0 F i) y H :=
  ⟨acc, e, sz2 (by omega), acc ++ [y], upd_same, x.upd_new n, f _ (.mut e) upd_same⟩
theorem r_kLcH {J : It} {n : Nat} {G : Hp → Prop} {Y : Nat → Hp → V → Hp → Prop} (wk : Walk J n G Y) {g : TG} {tt : TT} {te : TE} {vs : List Nat} (L : List Addr) (F : Nat → Hp → List V → Prop)
    (h0 : ∀ D H2, Nw H D → Ext [] H H2 → F 0 H2 []) (hG : ∀ i H2 acc, Ext L H H2 → F i H2 acc → G H2)
    (hs : ∀ D i x H1 H2 acc, i < n → Nw H D → Ext L H H1 → H1 D = some (.lst acc) → F i H1 acc → Y i H1 x H2 → g x (wipe σ vs) H2 fun σ2 H3 => wipe σ2 vs = wipe σ vs ∧ tt σ2 H3 (kIf te σ2 (kAp D (LcJ D L H F (i + 1))) (LcJ D L H F (i + 1))))
    (hd : ∀ D H2 acc, Nw H D → Ext L H H2 → H2 D = some (.lst acc) → F n H2 acc → Q (.ref D) H2) : kLc g tt te vs σ Q J H := by
  intro D hD
  refine lc_it (Qd := fun H => Q (.ref D) H) wk (LcJ D L H F · ·) ⟨[], upd_same, Ext.rfl'.upd_new ⟨hD⟩, h0 D _ ⟨hD⟩ (.new hD)⟩ ?_ ?_ ?_
  · rintro i H2 hi ⟨acc, _, e, f⟩
    exact hG i H2 acc e f
  · rintro i x H1 H2 hi ⟨acc, ha, e, f⟩ y
    exact hs D i x H1 H2 acc hi ⟨hD⟩ e ha f y
  · rintro H2 ⟨acc, ha, e, f⟩
    exact hd D H2 acc ⟨hD⟩ e ha f
end
/-- what push_all asks and gives -/
def PushPost (K : PySem.W.Frag) (po : Po) (H : Hp) (L : Addr) (ys : List V) (A : Ad) (tb : List Int) (s : SD) (vals : List V) (Q : VK) : Prop :=
  ∀ p H' A' s' outs, Ext [L] H H' → H' L = some (.lst (ys ++ [.ref A.a] ++ [.ref A'.a])) → H A'.a = none → FrA H A' → Stn K H' A' tb s' → H' p = some (.tup outs) → Steps po tb s vals outs s' → Q (.ref p) H'
def spPushIn (K : PySem.W.Frag) (C : Addr) (po : Po) : Sp := fun vs H Q _ => ∃ x dx L ys A tb s p vals, vs = [.ref x, .ref p] ∧ H p = some (.tup vals) ∧ RowAt H C x dx L (ys ++ [.ref A.a]) ∧ Stn K H A tb s ∧ OkT tb ∧ Sml s 800 ∧ ys.length ≤ 1000 ∧ vals.length ≤ 5 ∧ (∀ v ∈ vals, OkV v) ∧ PushPost K po H L ys A tb s vals Q
def spPush (K : PySem.W.Frag) (C : Addr) (po : Po) : Sp := fun vs H Q _ => ∃ x dx L ys A tb s vals, vs = .ref x :: vals ∧ RowAt H C x dx L (ys ++ [.ref A.a]) ∧ Stn K H A tb s ∧ OkT tb ∧ Sml s 800 ∧ ys.length ≤ 1000 ∧ vals.length ≤ 5 ∧ (∀ v ∈ vals, OkV v) ∧ PushPost K po H L ys A tb s vals Q
section
variable {P : Program} {w : World} {K : PySem.W.Frag} {mg : Str → Option Value} {base : Heap}
theorem sc_Row_push_all : FnScope ["self", "values", "value", "stood", "found"] ["self", "values"] (defScope s63_10) := ⟨rfl, rfl, rfl, by decide +kernel, rfl, by decide +kernel, by decide +kernel⟩
theorem fn_Row_push_in (T : Tx K mg) {x qual : Str} {f : Addr} {fd : FuncData} (F : Fun K x qual s63_10 f fd) {C : Addr} (cl : Cls K C) (no : NoAttr K C "stands") {po : Po} (hpo : PoOk po) {fs : Addr} (hm : Meth K C "step" fs) (FP : FnR P w K mg base CX0 4 fs (spStep K C po)) :
    FnR P w K mg base CX0 5 f (fun vs H Q E => ∃ v rest, vs = v :: rest ∧ rest.length ≤ 5 ∧ ∀ p, H p = none → spPushIn K C po [v, .ref p] (upd H p (.tup rest)) Q E) := by
  obtain ⟨oc, od, kV, doc, pm, an, cdv, ct, osl, rfl, lk, hcd⟩ := F.ex
  refine fn_ofV (N := ["self", "values", "value", "stood", "found"]) (pa := "self") (pv := "values") (nmax := 5) (sp := spPushIn K C po) lk hcd sc_Row_push_all (by decide) (fun u rest h => match rest, h with | [], _ => rfl | [_], _ => rfl | [_, _], _ => rfl | [_, _, _], _ => rfl | [_, _, _, _], _ => rfl | [_, _, _, _, _], _ => rfl) ?_ fun A outer s H vs Q E hr hsp => ?_
  · unfold CXNew; intros; assumption
  obtain ⟨x, dx, L, ys, A0, tb, s0, p, vals, rfl, hp, ⟨hr1, hr2⟩, hst, hok, hsm, hys, hvl, hov, q⟩ := hsp
  suffices h : ∃ t, PSs (cxOf CX0 P w K mg base ["self", "values", "value", "stood", "found"] qual (defScope s63_10) f cdv A outer s H E).nox (defBody s63_10) t ∧ t { nx := fun _ H' => Q .non H', rt := Q } (start ["self", "values", "value", "stood", "found"] [.ref x, .ref p]) H from
    let ⟨t, h1, h2⟩ := h
    ⟨t, h1.nox, h2⟩
  refine ⟨_, (pss_cons (ps_for PassesOwn.never rfl (ki_tup (K := K) rfl (pv 1)) (pg_name (i := 2) sc_Row_push_all.nd rfl (Or.inl rfl))
  (pss_one (ps_expr (kc_call (fn_need_value (K := K) (mg := mg) T) hr (by rfl) (T.glo "need_value" (by decide +kernel)) (T.def_ _ md_need_value).kp (pa_cons (pv 2) pa_nil)))))
  (pss_cons (ps_set (i := 3) sc_Row_push_all.nd rfl (Or.inr rfl) (kc_call (fn_copied (K := K) (mg := mg) T) hr (by rfl) (T.glo "copied" (by decide +kernel)) (T.def_ _ md_copied).kp (pa_cons (pe_ix (ixL (K := K) rfl) (kc_fld (K := K) rfl (pv 0)) (pe_un un_neg pe_int) (fun _ _ => rfl)) pa_nil)))
  (pss_cons (ps_set (i := 4) sc_Row_push_all.nd rfl (Or.inl rfl) (pe_callTy (cl_tuple (K := K) rfl) (by rfl) (T.free "tuple" (by decide +kernel)) (by decide +kernel) (pa_cons (pe_lc (own := [("value", 2)]) (g := gName 2) (tt := tYes) rfl sc_Row_push_all.nd (ki_tup (K := K) rfl (pv 1)) (blkOk_by (N := ["self", "values", "value", "stood", "found"]) (sc := defScope s63_10) (by decide +kernel)) (fun _ _ _ _ _ => (pg_name (i := 2) sc_Row_push_all.nd rfl (Or.inl rfl))) (fun _ _ _ _ _ => pts_nil) (fun _ _ _ _ _ => (kc_meth (pv 0) ⟨cl, fs, hm, FP⟩ hr (pa_cons (pv 3) (pa_cons (pv 2) pa_nil))))) pa_nil)))
  (pss_cons (ps_expr (kc_bm (K := K) rfl PySem.F.plainAttrs_list PySem.F.slot_list_append PySem.F.type_list_append mt_append (kc_fld (K := K) rfl (pv 0)) (pa_cons (pv 3) pa_nil)))
  (pss_one (ps_ret (pv 4))))))), ?_⟩
  walk_at "go"
  refine ⟨p, rfl, ⟨_, SqT.of hp⟩, ?_⟩
  refine r_for_it (walk_tup (xs := vals)) (fun i σ H1 => ∃ y, σ = [some (.ref x), some (.ref p), y, none, none] ∧ Ext [] H H1) ⟨_, rfl, Ext.rfl'⟩ ?_ ?_ ?_
  · rintro i σ H1 hi ⟨y, rfl, e⟩
    exact SqT.of (e.ge _ _ List.not_mem_nil hp)
  · rintro i v σ H1 H2 hi ⟨y, rfl, e⟩ ⟨rfl, hv⟩
    walk_at "go"
    refine ⟨v, rfl, hov v (List.mem_of_getElem? hv), fun H3 e3 => ?_⟩
    exact ⟨_, rfl, by walk_at "ex"⟩
  · rintro σ H1 ⟨y, rfl, e1⟩
    obtain ⟨l1, l2, l3, l4, l5, l6⟩ := hsm
    walk_at "go"
    refine ⟨A0, tb, s0, rfl, hst.same e1, by omega, by omega, fun H2 A2 e2 na fr2 st2 => ?_⟩
    obtain ⟨f1, f2, f3, f4⟩ := fr2
    have old : ∀ b o, H b = some o → b ∉ [A2.a, A2.ins, A2.outs, A2.due, A2.later] := fun b o hb => by
      have hb1 := e1.ge b o List.not_mem_nil hb
      exact nin_cons (ne_of_none hb1 na) (nin_cons (ne_of_none hb1 f1) (nin_cons (ne_of_none hb1 f2) (nin_cons (ne_of_none hb1 f3) (nin_cons (ne_of_none hb1 f4) List.not_mem_nil))))
    have e12 : ∀ b o, H b = some o → H2 b = some o := fun b o hb => e2.ge b o List.not_mem_nil (e1.ge b o List.not_mem_nil hb)
    have keep : ∀ H3, Ext [A2.a, A2.ins, A2.outs, A2.due, A2.later] H2 H3 → ∀ b o, H b = some o → H3 b = some o := fun H3 e b o hb => e.ge b o (old b o hb) (e12 b o hb)
    walk_at "go"
    refine ⟨p, rfl, ⟨_, SqT.of (e12 _ _ hp)⟩, ?_⟩
    refine r_kLcH (walk_tup (xs := vals)) [A2.a, A2.ins, A2.outs, A2.due, A2.later] (fun i H acc => ∃ A3 s3, MuEq A2 A3 ∧ Stn K H A3 tb s3 ∧ Steps po tb s0 (vals.take i) acc s3) ?_ ?_ ?_ ?_
    · intro D H3 nw e3
      exact ⟨A2, s0, MuEq.rfl', st2.same e3, by rw [List.take_zero]; exact .nil⟩
    · intro i H3 acc e3 _
      exact SqT.of (keep H3 e3 _ _ hp)
    · rintro D i v H3 H4 acc hi nw e3 hD ⟨A3, s3, mu, st3, stp⟩ ⟨rfl, hv⟩
      have gx := keep H4 e3 _ _ hr1
      have hxa : x ≠ A2.a := ne_of_none (e1.ge _ _ List.not_mem_nil hr1) na
      walk_at "go"
      refine ⟨rfl, ?_⟩
      walk_at "go"
      have hsm3 := stp.sml hpo (n := 800) ⟨l1, l2, l3, l4, l5, l6⟩
      have htl : (vals.take i).length ≤ 5 := by
        have := List.length_take_le i vals
        have := List.length_take_le' i vals
        omega
      obtain ⟨k1, k2, k3, k4, k5, k6⟩ := hsm3
      refine ⟨x, A3, v, tb, s3, by rw [mu.a], ⟨dx, L, gx⟩, st3, hok, by rw [mu.a]; exact hxa, ⟨by omega, by omega, by omega, by omega, by omega, by omega⟩, fun r H5 A5 s5 e5 mu5 st5 hstep => ?_⟩
      rw [mu.a, mu.ins, mu.outs, mu.due, mu.later] at e5
      have dn : D ∉ [A2.a, A2.ins, A2.outs, A2.due, A2.later] := by
        obtain ⟨kk, st5', _⟩ := st2.due
        exact nin_cons (ne_fresh' nw st2.inst) (nin_cons (ne_fresh' nw st2.ins) (nin_cons (ne_fresh' nw st2.outs) (nin_cons (ne_fresh' nw st5') (nin_cons (ne_fresh' nw st2.later) List.not_mem_nil))))
      have hD5 := e5.ge _ _ dn hD
      have hlen := stp.len
      refine r_kApH hD5 (Ext.tr e5 e3 ⟨fun l hl => .inl hl⟩) nw (by omega) fun H6 e6 h6 => ?_
      refine ⟨A5, s5, mu.trans mu5, st5.lst_ e6 hD5 ?_ ?_, ?_⟩
      · rw [mu5.ins, mu.ins]
        exact fun z => dn (by rw [← z]; simp)
      · rw [mu5.outs, mu.outs]
        exact fun z => dn (by rw [← z]; simp)
      · rw [List.take_succ, hv]
        exact stp.snoc hstep
    · rintro D H3 acc nw e3 hD ⟨A3, s3, mu, st3, stp⟩
      rw [List.take_length] at stp
      have gx := keep H3 e3 _ _ hr1
      have gL := keep H3 e3 _ _ hr2
      have nLi : A2.ins ≠ L := fun z => old _ _ hr2 (by rw [← z]; simp)
      have nLo : A2.outs ≠ L := fun z => old _ _ hr2 (by rw [← z]; simp)
      walk_at "go"
      rename_i p4 H4 np4 e4 h4
      apply r_append (xs := ys ++ [.ref A0.a])
      · exact e4.ge _ _ List.not_mem_nil gL
      · simp
        omega
      intro H5 e5 h5
      walk_at "go"
      have ee : Ext [A2.a, A2.ins, A2.outs, A2.due, A2.later] H H3 := Ext.tr e3 (Ext.tr e2 (Ext.tr e1 Ext.rfl' Sub.nil) Sub.nil) ⟨fun l hl => .inl hl⟩
      have e0 : Ext [] H H3 := ⟨fun b o _ hb => keep H3 e3 b o hb, ee.dom⟩
      refine q p4 H5 A3 s3 acc (Ext.tr e5 (Ext.tr e4 (Ext.tr e0 Ext.rfl' Sub.nil) Sub.nil) ⟨fun l hl => .inl hl⟩) ?_ ?_ ?_ ?_ ?_ stp
      · rw [mu.a]
        exact h5
      · rw [mu.a]
        exact e1.dom _ na
      · refine ⟨?_, ?_, ?_, ?_⟩
        · rw [mu.ins]; exact e1.dom _ f1
        · rw [mu.outs]; exact e1.dom _ f2
        · rw [mu.due]; exact e1.dom _ f3
        · rw [mu.later]; exact e1.dom _ f4
      · exact (st3.same e4).lst_ e5 (e4.ge _ _ List.not_mem_nil gL) (by rw [mu.ins]; exact nLi) (by rw [mu.outs]; exact nLo)
      · exact e5.ge _ _ (fun m => ne_of h4 (e4.ge _ _ List.not_mem_nil gL) (by intro z; cases z) (List.mem_singleton.mp m)) h4
theorem fn_Row_push (T : Tx K mg) {x qual : Str} {f : Addr} {fd : FuncData} (F : Fun K x qual s63_10 f fd) {C : Addr} (cl : Cls K C) (no : NoAttr K C "stands") {po : Po} (hpo : PoOk po) {fs : Addr} (hm : Meth K C "step" fs) (FP : FnR P w K mg base CX0 4 fs (spStep K C po)) :
    FnR P w K mg base CX0 5 f (spPush K C po) := FnR.imp (fn_Row_push_in T F cl no hpo hm FP) fun vs H Q E h => by
  obtain ⟨x, dx, L, ys, A0, tb, s0, vals, rfl, ⟨hr1, hr2⟩, hst, hok, hsm, hys, hvl, hov, q⟩ := h
  refine ⟨_, vals, rfl, hvl, fun p np => ?_⟩
  have e : Ext [] H (upd H p (.tup vals)) := .new np
  refine ⟨x, dx, L, ys, A0, tb, s0, p, vals, rfl, upd_same, ⟨e.ge _ _ List.not_mem_nil hr1, e.ge _ _ List.not_mem_nil hr2⟩, hst.same e, hok, hsm, hys, hvl, hov, ?_⟩
  intro p' H' A' s' outs e1 h1 h2 h3 h4 h5 h6
  exact q p' H' A' s' outs (Ext.tr e1 (Ext.tr e Ext.rfl' Sub.nil) ⟨fun l hl => .inl hl⟩) h1 (e.dom _ h2) ⟨e.dom _ h3.ins, e.dom _ h3.outs, e.dom _ h3.due, e.dom _ h3.later⟩ h4 h5 h6
end
/-! ### lose, held -/
section
variable {P : Program} {w : World} {K : PySem.W.Frag} {mg : Str → Option Value} {base : Heap}
theorem Stn.cuts_ {K : PySem.W.Frag} {H H' : Hp} {A : Ad} {tb : List Int} {s : SD} {cs : List Int} {c : Addr} (h : Stn K H A tb s) (e : Ext [A.a] H H') (hi : H' A.a = some (.ins (ga K "Stand") A.dx (flds { A with cuts := c } { s with cuts := cs }))) (hl : H c = some (.tup (cs.map V.int))) : Stn K H' { A with cuts := c } tb { s with cuts := cs } := by
  obtain ⟨r1, r2, r3, r4, r5, r6, r7, r8⟩ := h.rest e
  exact ⟨hi, r1, r2, r3, r4, r5, e.ge _ _ (fun m => ne_of hl h.inst (by intro z; cases z) (List.mem_singleton.mp m)) hl, r7, r8, h.d1, h.d2⟩
theorem r_cat {p q : Addr} {xs zs : List V} {H : Hp} {Q : VK} (h : H p = some (.lst xs)) (h2 : H q = some (.lst zs)) (hl : xs.length + zs.length ≤ 100000) (k : ∀ r H2, Nw H r → Ext [] H H2 → H2 r = some (.lst (xs ++ zs)) → Q (.ref r) H2) : rCat (.ref p) (.ref q) H Q :=
  ⟨p, q, xs, zs, rfl, rfl, h, h2, sz1 hl, new_of k⟩
theorem r_setI {X : Cx} {a : Addr} {ns : List Int} {H : Hp} {Q : VK} (h : H a = some (.lst (ns.map V.int))) (hl : ns.length ≤ 4000) (k : ∀ p H2 c, Nw H p → Ext [] H H2 → c ≤ ns.length → H2 p = some (SetO X.w p (fun j => decide (j ∈ ns)) c) → Q (.ref p) H2) : rSetL X [.ref a] H Q :=
  ⟨a, ns, rfl, SqL.of h, hl, fun p c np hc => k p _ c ⟨np⟩ (.new np) hc upd_same⟩
theorem r_sorS {w : World} {a : Addr} {S : Int → Bool} {n : Nat} {H : Hp} {Q : VK} (h : H a = some (SetO w a S n)) (hn : n < 64) (k : ∀ (ns : List Int) (p : Addr) (H2 : Hp), ns.Pairwise (· < ·) → (∀ j : Int, j ∈ ns ↔ S j = true) → ns.length = n → Nw H p → Ext [] H H2 → H2 p = some (.lst (ns.map V.int)) → Q (.ref p) H2) : rSortedSet w [.ref a] H Q :=
  ⟨a, S, n, rfl, h, hn, fun ns p h1 h2 h3 np => k ns p _ h1 h2 h3 ⟨np⟩ (.new np) upd_same⟩
def LosePost (K : PySem.W.Frag) (H : Hp) (L : Addr) (ys : List V) (A : Ad) (tb : List Int) (s : SD) (ticks : Int) (Q : VK) : Prop :=
  ∀ H' A' cs, Ext [L] H H' → H' L = some (.lst (ys ++ [.ref A.a] ++ [.ref A'.a])) → H A'.a = none → FrA H A' → Stn K H' A' tb { s with cuts := cs } → cs.Pairwise (· < ·) → (∀ k, k ∈ cs ↔ k ∈ cutsN s.ins.length s.cuts ∨ ((s.ins.length : Int) ≤ k ∧ k < (s.ins.length : Int) + ticks)) → Q .non H'
def spLose (K : PySem.W.Frag) (C : Addr) : Sp := fun vs H Q _ => ∃ x dx L ys A tb s ticks, vs = [.ref x, .int ticks] ∧ RowAt H C x dx L (ys ++ [.ref A.a]) ∧ Stn K H A tb s ∧ Sml s 800 ∧ s.cuts.length ≤ 20 ∧ ys.length ≤ 1000 ∧ 1 ≤ ticks ∧ ticks ≤ 20 ∧ LosePost K H L ys A tb s ticks Q
theorem sc_Losing_lose : FnScope ["self", "ticks", "stood", "more", "far"] ["self", "ticks"] (defScope s64_3) := ⟨rfl, rfl, rfl, by decide +kernel, rfl, by decide +kernel, by decide +kernel⟩
theorem fn_Losing_lose (T : Tx K mg) {x qual : Str} {f : Addr} {fd : FuncData} (F : Fun K x qual s64_3 f fd) {C : Addr} (r : RC K C) : FnR P w K mg base CX0 4 f (spLose K C) := by
  have cl := r.cl
  have no := r.no
  refine fnR_of (N := ["self", "ticks", "stood", "more", "far"]) (ps := ["self", "ticks"]) (F) sc_Losing_lose (fun _ _ _ _ _ _ us hl => match us, hl with | [_, _], _ => rfl) (fun _ _ _ _ ⟨_, _, _, _, _, _, _, _, e, _⟩ => by rw [e]; rfl) fun cdv A outer s H vs Q E hr hsp => ?_
  obtain ⟨x, dx, L, ys, A0, tb, s0, ticks, rfl, hrow, hst, ⟨l1, l2, l3, l4, l5, l6⟩, hcl, hys, ht1, ht2, q⟩ := hsp
  have hrow0 := hrow
  obtain ⟨hx1, hx2⟩ := hrow
  refine ⟨_, (pss_cons (ps_if (pt_not (pt_val (kc_call (fn_is_between (K := K) (mg := mg) T) hr (by rfl) (T.glo "is_between" (by decide +kernel)) (T.def_ _ md_is_between).kp (pa_cons (pv 1) (pa_cons pe_int (pa_cons (pe_gi (by rfl) (T.int "LONGEST_CUT" 400 (by decide +kernel))) pa_nil))))))
  (pss_one ps_never)
  pss_nil)
  (pss_cons (ps_set (i := 2) sc_Losing_lose.nd rfl (Or.inl rfl) (kc_call (fn_copied (K := K) (mg := mg) T) hr (by rfl) (T.glo "copied" (by decide +kernel)) (T.def_ _ md_copied).kp (pa_cons (pe_ix (ixL (K := K) rfl) (kc_fld (K := K) rfl (pv 0)) (pe_un un_neg pe_int) (fun _ _ => rfl)) pa_nil)))
  (pss_cons (ps_setLc (i := 3) (own := [("far", 4)]) (g := gName 4) (tt := tYes) rfl sc_Losing_lose.nd rfl rfl (sw_true rfl rfl rfl (by decide +kernel)) (pi_range1 (by rfl) (T.free "range" (by decide +kernel)) (pa_cons (pv 1) pa_nil)) (blkOk_by (N := ["self", "ticks", "stood", "more", "far"]) (sc := defScope s64_3) (by decide +kernel)) (fun _ _ _ _ _ => (pg_name (i := 4) sc_Losing_lose.nd rfl (Or.inl rfl))) (fun _ _ _ _ _ => pts_nil) (fun _ _ _ _ _ => (pe_op op_add (kc_prop (pv 0) (po_tick T r rfl rfl) hr) (pv 4))))
  (pss_cons (kp_sfld (K := K) rfl (pv 2) (pe_callTy (cl_tuple (K := K) rfl) (by rfl) (T.free "tuple" (by decide +kernel)) (by decide +kernel) (pa_cons (pe_callB (cr_sortedSet rfl) (by rfl) (T.free "sorted" (by decide +kernel)) (by decide +kernel) (pa_cons (pe_callTy (cr_setL rfl) (by rfl) (T.free "set" (by decide +kernel)) (by decide +kernel) (pa_cons (pe_op op_cat (kc_call (fn_cuts_ahead (K := K) (mg := mg) T) hr (by rfl) (T.glo "cuts_ahead" (by decide +kernel)) (T.def_ _ md_cuts_ahead).kp (pa_cons (pv 2) pa_nil)) (pv 3)) pa_nil)) pa_nil)) pa_nil)))
  (pss_one (ps_expr (kc_bm (K := K) rfl PySem.F.plainAttrs_list PySem.F.slot_list_append PySem.F.type_list_append mt_append (kc_fld (K := K) rfl (pv 0)) (pa_cons (pv 2) pa_nil)))))))), ?_⟩
  walk_at "go"
  refine ⟨_, _, _, rfl, ?_⟩
  rw [decT (show (1 : Int) ≤ ticks ∧ ticks ≤ 400 by omega)]
  walk_at "go"
  refine ⟨A0, tb, s0, rfl, hst, by omega, by omega, fun H1 A1 e1 na fr1 st1 => ?_⟩
  walk_at "go"
  refine ⟨ticks, rfl, by omega, by omega, ?_⟩
  refine r_kLc walk_range [] (fun i acc => acc = (List.range i).map fun (j : Nat) => V.int ((s0.ins.length : Int) + (j : Int))) rfl (fun _ _ => trivial) ?_ ?_
  · rintro D i v H2 H3 acc hi nw e hD rfl ⟨rfl, rfl⟩
    walk_at "go"
    refine ⟨rfl, ?_⟩
    walk_at "go"
    refine ⟨x, dx, L, ys, A0, tb, s0, rfl, ⟨by walk_at "hp", by walk_at "hp"⟩, (hst.same e1).same e, ?_⟩
    walk_at "go"
    refine r_kAp hD e nw (by simp; omega) ?_
    rw [List.range_succ, List.map_append, Int.zero_add]
    rfl
  · rintro D H2 acc nw e hD rfl
    walk_at "go"
    refine ⟨A1, tb, s0, rfl, st1.same e, by omega, fun H3 p3 np3 e3 h3 => ?_⟩
    walk_at "go"
    have cl1 : (cutsN s0.ins.length s0.cuts).length ≤ 20 := Nat.le_trans (List.length_filter_le _ _) hcl
    have hD3 : H3 D = some (.lst (((List.range ticks.toNat).map fun (j : Nat) => (s0.ins.length : Int) + (j : Int)).map V.int)) := by
      rw [List.map_map]
      walk_at "hp"
    refine r_cat h3 hD3 (by simp; omega) fun p4 H4 np4 e4 h4 => ?_
    rw [← List.map_append] at h4
    walk_at "go"
    refine r_setI h4 (by simp; omega) fun p5 H5 c5 np5 e5 hc5 h5 => ?_
    walk_at "go"
    refine r_sorS h5 (by simp at hc5; omega) fun cs p6 H6 hcs1 hcs2 hcs3 np6 e6 h6 => ?_
    walk_at "go"
    rename_i p7 H7 np7 e7 h7
    have st7 : Stn K H7 A1 tb s0 := (((((st1.same e).same e3).same e4).same e5).same e6).same e7
    have gx : H7 x = _ := e7.ge _ _ List.not_mem_nil (e6.ge _ _ List.not_mem_nil (e5.ge _ _ List.not_mem_nil (e4.ge _ _ List.not_mem_nil (e3.ge _ _ List.not_mem_nil (e.ge _ _ List.not_mem_nil (e1.ge _ _ List.not_mem_nil hx1))))))
    have gL : H7 L = _ := e7.ge _ _ List.not_mem_nil (e6.ge _ _ List.not_mem_nil (e5.ge _ _ List.not_mem_nil (e4.ge _ _ List.not_mem_nil (e3.ge _ _ List.not_mem_nil (e.ge _ _ List.not_mem_nil (e1.ge _ _ List.not_mem_nil hx2))))))
    have nLa : L ≠ A1.a := ne_of_none hx2 na
    have nxa : x ≠ A1.a := ne_of_none hx1 na
    have gI := st7.inst
    dsimp only [flds] at gI
    have e07 : Ext [] H H7 := by walk_at "ex"
    walk_at "go"
    rename_i H8 e8 h8
    have st8 := st7.cuts_ (cs := cs) (c := p7) e8 h8 h7
    have gL8 := e8.ge _ _ (fun m => nLa (List.mem_singleton.mp m)) gL
    have gx8 := e8.ge _ _ (fun m => nxa (List.mem_singleton.mp m)) gx
    have e08 : Ext [] H H8 := ⟨fun b o _ hb => e8.ge b o (fun m => ne_of_none hb na (List.mem_singleton.mp m)) (e07.ge b o List.not_mem_nil hb), fun b hb => e07.dom b (e8.dom b hb)⟩
    apply r_append gL8
    · simp
      omega
    intro H9 e9 h9
    have nLi : A1.ins ≠ L := (ne_of_none hx2 fr1.ins).symm
    have nLo : A1.outs ≠ L := (ne_of_none hx2 fr1.outs).symm
    refine q H9 { A1 with cuts := p7 } cs (Ext.tr e9 (Ext.tr e08 Ext.rfl' Sub.nil) ⟨fun l hl => .inl hl⟩) h9 na ⟨fr1.ins, fr1.outs, fr1.due, fr1.later⟩ (st8.lst_ e9 gL8 nLi nLo) hcs1 fun k => ?_
    rw [hcs2, decide_eq_true_iff, List.mem_append, List.mem_map]
    constructor
    · rintro (h | ⟨j, hj, rfl⟩)
      · exact .inl h
      · rw [List.mem_range] at hj
        exact .inr ⟨by omega, by omega⟩
    · rintro (h | ⟨ha, hb⟩)
      · exact .inl h
      · exact .inr ⟨(k - (s0.ins.length : Int)).toNat, by rw [List.mem_range]; omega, by omega⟩
/-- what is held: by its time, from now -/
def heldR (due : List (Int × Int × V)) (n : Nat) (hv : List (Int × V)) : Prop := ∃ ks : List Int, ks.Perm (due.map (·.1)) ∧ ks.Pairwise (· ≤ ·) ∧ Paired (fun k (h : Int × V) => ∃ e, dget due k = some e ∧ h = (k - (n : Int), e.2)) ks hv
def PairsAt (H : Hp) (xs : List V) (hv : List (Int × V)) : Prop := Paired (fun (v : V) (h : Int × V) => ∃ p, v = .ref p ∧ H p = some (.tup [.int h.1, h.2])) xs hv
theorem dget_mem {due : List (Int × Int × V)} {k : Int} (h : k ∈ due.map (·.1)) : ∃ e, dget due k = some e := by
  obtain ⟨d, hd, rfl⟩ := List.mem_map.mp h
  cases e : due.find? (fun x => decide (x.1 = d.1)) with
  | none =>
    rw [List.find?_eq_none] at e
    have := e d hd
    simp at this
  | some y => exact ⟨y.2, by unfold dget; rw [e]; rfl⟩
theorem DueAt.keys {H : Hp} {kvs : List (Key × V)} {due : List (Int × Int × V)} (h : DueAt H kvs due) : kvs.map (·.1) = (due.map (·.1)).map Sum.inl := by
  induction h with
  | nil => rfl
  | cons f _ ih =>
    obtain ⟨q, e, _⟩ := f
    rw [List.map_cons, List.map_cons, List.map_cons, ih, e]
theorem PairsAt.same {H H' : Hp} {xs : List V} {hv : List (Int × V)} (e : ∀ b xs, H b = some (.tup xs) → H' b = some (.tup xs)) (h : PairsAt H xs hv) : PairsAt H' xs hv := Paired.mp (fun _ _ ⟨p, e1, e2⟩ => ⟨p, e1, e p _ e2⟩) h
theorem r_sorDI {a : Addr} {kvs : List (Key × V)} {ks : List Int} {H : Hp} {Q : VK} (h : H a = some (.dK kvs)) (hk : kvs.map (·.1) = ks.map Sum.inl) (hl : ks.length < 64)
    (q : ∀ (ys : List Int) (p : Addr) (H2 : Hp), ys.Perm ks → ys.Pairwise (· ≤ ·) → Nw H p → Ext [] H H2 → H2 p = some (.lst (ys.map V.int)) → Q (.ref p) H2) : rSorDI [.ref a] H Q :=
  ⟨a, kvs, ks, rfl, .inl h, hk, hl, fun ys p h1 h2 np => q ys p _ h1 h2 ⟨np⟩ (.new np) upd_same⟩
def spHeld (K : PySem.W.Frag) (C : Addr) : Sp := fun vs H Q _ => ∃ x dx L ys A tb s, vs = [.ref x] ∧ RowAt H C x dx L (ys ++ [.ref A.a]) ∧ Stn K H A tb s ∧ s.due.length ≤ 60 ∧
  ∀ H' p xs hv, Ext [] H H' → H' p = some (.tup xs) → PairsAt H' xs hv → heldR s.due s.ins.length hv → Q (.ref p) H'
theorem sc_Row_held : FnScope ["self", "due", "when"] ["self"] (defScope s63_5) := ⟨rfl, rfl, rfl, by decide +kernel, rfl, by decide +kernel, by decide +kernel⟩
theorem fn_Row_held (T : Tx K mg) {x qual : Str} {f : Addr} {fd : FuncData} (F : Fun K x qual s63_5 f fd) {C : Addr} (r : RC K C) : FnR P w K mg base CX0 3 f (spHeld K C) := by
  have cl := r.cl
  have no := r.no
  refine fnR_of (N := ["self", "due", "when"]) (ps := ["self"]) (F) sc_Row_held (fun _ _ _ _ _ _ us hl => match us, hl with | [_], _ => rfl) (fun _ _ _ _ ⟨_, _, _, _, _, _, _, e, _⟩ => by rw [e]; rfl) fun cdv A outer s H vs Q E hr hsp => ?_
  obtain ⟨x, dx, L, ys, A0, tb, s0, rfl, hrow, hst, hdl, q⟩ := hsp
  have hrow0 := hrow
  obtain ⟨hx1, hx2⟩ := hrow
  refine ⟨_, (pss_cons (ps_set (i := 1) sc_Row_held.nd rfl (Or.inr rfl) (kc_fld (K := K) rfl (pe_ix (ixL (K := K) rfl) (kc_fld (K := K) rfl (pv 0)) (pe_un un_neg pe_int) (fun _ _ => rfl))))
  (pss_one (ps_ret (pe_callTy (cl_tuple (K := K) rfl) (by rfl) (T.free "tuple" (by decide +kernel)) (by decide +kernel) (pa_cons (pe_lc (own := [("when", 2)]) (g := gName 2) (tt := tYes) rfl sc_Row_held.nd (ki_list (K := K) rfl (pe_callB (cl_sorDI rfl) (by rfl) (T.free "sorted" (by decide +kernel)) (by decide +kernel) (pa_cons (pv 1) pa_nil))) (blkOk_by (N := ["self", "due", "when"]) (sc := defScope s63_5) (by decide +kernel)) (fun _ _ _ _ _ => (pg_name (i := 2) sc_Row_held.nd rfl (Or.inl rfl))) (fun _ _ _ _ _ => pts_nil) (fun _ _ _ _ _ => (pe_tup (pa_cons (pe_op op_sub (pv 2) (kc_prop (pv 0) (po_tick T r rfl rfl) hr)) (pa_cons (pe_ix (ixT (K := K) rfl) (pe_dget (hu_of hr) (pv 1) (pv 2) (fun _ _ => rfl)) pe_int (fun _ _ => rfl)) pa_nil))))) pa_nil))))), ?_⟩
  have hst0 := hst
  obtain ⟨a0, dx0, own0, com0, ins0, outs0, due0, cuts0, gone0, lat0⟩ := A0
  obtain ⟨hI, hown, hcom, hins, houts, ⟨kvs, hdue, hdd⟩, hcuts, hgone, hlat, hd1, hd2⟩ := hst
  dsimp only [flds] at hI hown hcom hins houts hdue hcuts hgone hlat hd1 hd2
  dsimp only at *
  walk_at "go"
  refine r_sorDI hdue hdd.keys (by rw [List.length_map]; omega) fun ks p1 H1 hperm hsort np1 e1 h1 => ?_
  refine ⟨p1, rfl, ⟨_, SqL.of h1⟩, ?_⟩
  refine r_kLcH (walk_list (xs := ks.map V.int)) [] (fun i H acc => ∃ hv, PairsAt H acc hv ∧ Paired (fun k (h : Int × V) => ∃ e, dget s0.due k = some e ∧ h = (k - (s0.ins.length : Int), e.2)) (ks.take i) hv) ?_ ?_ ?_ ?_
  · intro D H2 nw e
    exact ⟨[], .nil, .nil⟩
  · intro i H2 acc e _
    refine SqL.of ?_
    walk_at "hp"
  · rintro D i v H2 H3 acc hi nw e hD ⟨hv, hpa, hpr⟩ ⟨rfl, hk⟩
    obtain ⟨k, hk1, rfl⟩ := mapI hk
    have hkm : k ∈ s0.due.map (·.1) := hperm.mem_iff.mp (List.mem_of_getElem? hk1)
    obtain ⟨ec, hec⟩ := dget_mem hkm
    have e13 : Ext [] H H3 := by walk_at "ex"
    rcases hdd.get (k := k) with ⟨_, g2⟩ | ⟨p, c, u, g1, g2, g3⟩
    · rw [g2] at hec
      cases hec
    rw [g2] at hec
    cases hec
    have hal : acc.length ≤ 60 := by
      have a1 := Paired.len (show Paired _ acc hv from hpa)
      have a2 := Paired.len hpr
      have a3 := List.length_take_le' i ks
      have a4 := hperm.length_eq
      rw [List.length_map] at a4
      omega
    walk_at "go"
    refine ⟨rfl, ?_⟩
    walk_at "go"
    refine ⟨x, dx, L, ys, _, tb, s0, rfl, ⟨e13.ge _ _ List.not_mem_nil hx1, e13.ge _ _ List.not_mem_nil hx2⟩, hst0.same e13, ?_⟩
    walk_at "go"
    apply r_kDGet (e13.ge _ _ List.not_mem_nil hdue) g1
    apply r_ixPair1 (e13.ge _ _ List.not_mem_nil g3)
    walk_at "go"
    rename_i p5 H5 np5 e5 h5
    have hD5 := e5.ge _ _ List.not_mem_nil hD
    refine r_kApH hD5 (by walk_at "ex") nw (by omega) fun H6 e6 h6 => ⟨hv ++ [(k - (s0.ins.length : Int), u)], ?_, ?_⟩
    · have tt : ∀ b xs, H5 b = some (.tup xs) → H6 b = some (.tup xs) := fun b xs hb => e6.ge b _ (fun m => ne_of hb hD5 (by intro z; cases z) (List.mem_singleton.mp m)) hb
      exact Paired.snoc ((hpa.same fun b xs hb => e5.ge b _ List.not_mem_nil hb).same tt) ⟨p5, rfl, tt _ _ h5⟩
    · rw [List.take_succ, hk1]
      exact Paired.snoc hpr ⟨(c, u), g2, rfl⟩
  · rintro D H2 acc nw e hD ⟨hv, hpa, hpr⟩
    walk_at "go"
    rename_i p5 H5 np5 e5 h5
    rw [List.take_of_length_le (by simp)] at hpr
    exact q H5 p5 acc hv (by walk_at "ex") h5 (hpa.same fun b xs hb => e5.ge b _ List.not_mem_nil hb) ⟨ks, hperm, hsort, hpr⟩
end
/-! ### the end of a lap: Link.held, == -/
theorem r_neSame {K : PySem.W.Frag} {x y : V} {d : PyData} {H : Hp} {Q : VK} (hx : Dp K H x d) (hy : Dp K H y d) (s : SeqAt.shaped d = true) (q : Q (.bl false) H) : rNeD K x y H Q :=
  ⟨d, d, hx, hy, s, s, by rw [SeqAt.eqv_refl d (SeqAt.canLay_of_shaped s)]; exact q⟩
theorem r_eqSame {K : PySem.W.Frag} {x y : V} {d : PyData} {H : Hp} {Q : VK} (hx : Dp K H x d) (hy : Dp K H y d) (s : SeqAt.shaped d = true) (q : Q (.bl true) H) : rEqD K x y H Q :=
  ⟨d, d, hx, hy, s, s, by rw [SeqAt.eqv_refl d (SeqAt.canLay_of_shaped s)]; exact q⟩
theorem dp_ints {K : PySem.W.Frag} {H : Hp} : ∀ {ns : List Int}, DpAll K H (ns.map V.int) (ns.map PyData.int)
  | [] => .nil
  | _ :: _ => .cons (.int _) dp_ints
theorem shaped_intsT (ns : List Int) : SeqAt.shaped (.tuple (ns.map PyData.int)) = true := by
  have := PySem.W.ke_canLayAll0 ns
  have h2 := PySem.W.ke_depthAll ns
  simp [SeqAt.shaped, PyData.canLay0, PyData.depth, this, h2]
section
variable {P : Program} {w : World} {K : PySem.W.Frag} {mg : Str → Option Value} {base : Heap}
def spLinkHeld (K : PySem.W.Frag) (C : Addr) : Sp := fun vs H Q _ => ∃ x dx L ys A tb s, vs = [.ref x] ∧ RowAt H C x dx L (ys ++ [.ref A.a]) ∧ Stn K H A tb s ∧ s.due = [] ∧ s.later = [] ∧
  ∀ H' p, Ext [] H H' → H' p = some (.tup []) → Q (.ref p) H'
theorem sc_Link_held : FnScope ["self", "stood", "found", "when", "came", "value"] ["self"] (defScope s67_1) := ⟨rfl, rfl, rfl, by decide +kernel, rfl, by decide +kernel, by decide +kernel⟩
theorem fn_Link_held (T : Tx K mg) {x qual : Str} {f : Addr} {fd : FuncData} (F : Fun K x qual s67_1 f fd) {C : Addr} (r : RC K C) : FnR P w K mg base CX0 3 f (spLinkHeld K C) := by
  have cl := r.cl
  have no := r.no
  refine fnR_of (N := ["self", "stood", "found", "when", "came", "value"]) (ps := ["self"]) (F) sc_Link_held (fun _ _ _ _ _ _ us hl => match us, hl with | [_], _ => rfl) (fun _ _ _ _ ⟨_, _, _, _, _, _, _, e, _⟩ => by rw [e]; rfl) fun cdv A outer s H vs Q E hr hsp => ?_
  obtain ⟨x, dx, L, ys, A0, tb, s0, rfl, hrow, hst, hd0, hlt0, q⟩ := hsp
  have hrow0 := hrow
  obtain ⟨hx1, hx2⟩ := hrow
  refine ⟨_, (pss_cons (ps_set (i := 1) sc_Link_held.nd rfl (Or.inl rfl) (pe_ix (ixL (K := K) rfl) (kc_fld (K := K) rfl (pv 0)) (pe_un un_neg pe_int) (fun _ _ => rfl)))
  (pss_cons (ps_set (i := 2) sc_Link_held.nd rfl (Or.inr rfl) (pe_callTy cl_dict (by rfl) (T.free "dict" (by decide +kernel)) (by decide +kernel) (pa_cons (kc_fld (K := K) rfl (pv 1)) pa_nil)))
  (pss_cons (ps_lock (ps_for PassesOwn.never rfl (pi_keys (kc_fld (K := K) rfl (pv 1))) (pg_name (i := 3) sc_Link_held.nd rfl (Or.inl rfl))
  (pss_one ps_never)))
  (pss_one (ps_ret (pe_callTy (cl_tuple (K := K) rfl) (by rfl) (T.free "tuple" (by decide +kernel)) (by decide +kernel) (pa_cons (pe_lc (own := [("when", 3)]) (g := gName 3) (tt := tYes) rfl sc_Link_held.nd (ki_list (K := K) rfl (pe_callB (cl_sorDI rfl) (by rfl) (T.free "sorted" (by decide +kernel)) (by decide +kernel) (pa_cons (pv 2) pa_nil))) (blkOk_by (N := ["self", "stood", "found", "when", "came", "value"]) (sc := defScope s67_1) (by decide +kernel)) (fun _ _ _ _ _ => (pg_name (i := 3) sc_Link_held.nd rfl (Or.inl rfl))) (fun _ _ _ _ _ => pts_nil) (fun _ _ _ _ _ => (pe_tup (pa_cons (pe_op op_sub (pv 3) (kc_prop (pv 0) (po_tick T r rfl rfl) hr)) (pa_cons (pe_dget (hu_of hr) (pv 2) (pv 3) (fun _ _ => rfl)) pa_nil))))) pa_nil))))))), ?_⟩
  have hst0 := hst
  obtain ⟨a0, dx0, own0, com0, ins0, outs0, due0, cuts0, gone0, lat0⟩ := A0
  obtain ⟨hI, hown, hcom, hins, houts, ⟨kvs, hdue, hdd⟩, hcuts, hgone, hlat, hd1, hd2⟩ := hst
  dsimp only [flds] at hI hown hcom hins houts hdue hcuts hgone hlat hd1 hd2
  dsimp only at *
  rw [hd0] at hdd
  cases hdd
  rw [hlt0] at hlat
  walk_at "go"
  rename_i p1 H1 np1 e1 h1
  refine r_lock (d := due0) (kvs := []) (by walk_at "hp") fun od H2 h2 e2 => ?_
  walk_at "go"
  have na : a0 ≠ due0 := ne_of hI hdue (by intro z; cases z)
  walk_at "go"
  refine ⟨due0, od, rfl, .inl ⟨[], h2, ?_⟩⟩
  refine r_for_it (walk_keys (kvs := [])) (fun i σ H3 => σ = [some (.ref x), some (.ref a0), some (.ref p1), none, none, none] ∧ H3 = H2) ⟨rfl, rfl⟩ ?_ ?_ ?_
  · rintro i σ H3 hi ⟨rfl, rfl⟩
    exact h2
  · rintro i v σ H3 H4 hi
    exact absurd hi (Nat.not_lt_zero _)
  · rintro σ H3 ⟨rfl, rfl⟩
    refine r_kUn h2 fun H4 e4 h4 => ?_
    have np : p1 ≠ due0 := by walk_at "ne"
    have hp4 : H4 p1 = some (.dK []) := by walk_at "hp"
    have e04 : Ext [] H H4 := Ext.back (d := due0) (by walk_at "ex") hdue h4
    walk_at "go"
    refine r_sorDI (ks := []) hp4 rfl (by decide) fun ks p5 H5 hperm hsort np5 e5 h5 => ?_
    have hks : ks = [] := hperm.eq_nil
    subst hks
    refine ⟨p5, rfl, ⟨_, SqL.of h5⟩, ?_⟩
    refine r_kLc (walk_list (xs := [])) [] (fun i acc => i = 0 ∧ acc = []) ⟨rfl, rfl⟩ (fun H6 e => SqL.of (e.ge _ _ List.not_mem_nil h5)) ?_ ?_
    · intro D i v H6 H7 acc hi
      exact absurd hi (Nat.not_lt_zero _)
    · rintro D H6 acc nw e6 hD ⟨_, rfl⟩
      walk_at "go"
      rename_i p7 H7 np7 e7 h7
      exact q H7 p7 (Ext.tr e7 (Ext.tr e6 (Ext.tr e5 e04 Sub.nil) Sub.nil) Sub.nil) h7
def spAlike (K : PySem.W.Frag) : Sp := fun vs H Q _ => ∃ A B tb, vs = [.ref A.a, .ref B.a] ∧ Stn K H A tb sd0 ∧ Stn K H B tb sd0 ∧ OkT tb ∧ ∀ H', Ext [] H H' → Q (.bl true) H'
theorem sc_go_on_alike : FnScope ["one", "other", "many"] ["one", "other"] (defScope s62) := ⟨rfl, rfl, rfl, by decide +kernel, rfl, by decide +kernel, by decide +kernel⟩
theorem fn_go_on_alike (T : Tx K mg) : FnR P w K mg base CX0 3 (d_go_on_alike.pl.ad K) (spAlike K) := by
  refine fnR_of (N := ["one", "other", "many"]) (ps := ["one", "other"]) (fun_of T md_go_on_alike rfl) sc_go_on_alike (fun _ _ _ _ _ _ us hl => match us, hl with | [_, _], _ => rfl) (fun _ _ _ _ ⟨_, _, _, e, _⟩ => by rw [e]; rfl) fun cdv A outer s H vs Q E hr hsp => ?_
  obtain ⟨A0, B0, tb, rfl, hst, hsu, hok, q⟩ := hsp
  refine ⟨_, (pss_cons (ps_set (i := 2) sc_go_on_alike.nd rfl (Or.inl rfl) (pe_op op_add (pe_callB (cl_max2 rfl) (by rfl) (T.free "max" (by decide +kernel)) (by decide +kernel) (pa_cons (pe_callB (cl_len (K := K) rfl) (by rfl) (T.free "len" (by decide +kernel)) (by decide +kernel) (pa_cons (kc_fld (K := K) rfl (pv 0)) pa_nil)) (pa_cons (pe_callB (cl_len (K := K) rfl) (by rfl) (T.free "len" (by decide +kernel)) (by decide +kernel) (pa_cons (kc_fld (K := K) rfl (pv 1)) pa_nil)) pa_nil))) (pe_op op_mul (pe_callB (cl_len (K := K) rfl) (by rfl) (T.free "len" (by decide +kernel)) (by decide +kernel) (pa_cons (kc_fld (K := K) rfl (pv 0)) pa_nil)) (pe_callB (cl_len (K := K) rfl) (by rfl) (T.free "len" (by decide +kernel)) (by decide +kernel) (pa_cons (kc_fld (K := K) rfl (pv 1)) pa_nil)))))
  (pss_cons (ps_if (PW.pt (pw_or (pt_cmpR (opNeD (K := K) rfl hr.units) (kc_fld (K := K) rfl (pv 0)) (kc_fld (K := K) rfl (pv 1)) (nomark _)) (pw_or1 (pt_cmpR (opNeD (K := K) rfl hr.units) (kc_call (fn_cuts_ahead (K := K) (mg := mg) T) hr (by rfl) (T.glo "cuts_ahead" (by decide +kernel)) (T.def_ _ md_cuts_ahead).kp (pa_cons (pv 0) pa_nil)) (kc_call (fn_cuts_ahead (K := K) (mg := mg) T) hr (by rfl) (T.glo "cuts_ahead" (by decide +kernel)) (T.def_ _ md_cuts_ahead).kp (pa_cons (pv 1) pa_nil)) (nomark _)))))
  (pss_one (ps_ret pe_bl))
  pss_nil)
  (pss_one (ps_ret (pe_cmpR (opEqD (K := K) rfl hr.units) (kc_call (fn_holds_ahead (K := K) (mg := mg) T) hr (by rfl) (T.glo "holds_ahead" (by decide +kernel)) (T.def_ _ md_holds_ahead).kp (pa_cons (pv 0) (pa_cons (pv 2) pa_nil))) (kc_call (fn_holds_ahead (K := K) (mg := mg) T) hr (by rfl) (T.glo "holds_ahead" (by decide +kernel)) (T.def_ _ md_holds_ahead).kp (pa_cons (pv 1) (pa_cons (pv 2) pa_nil))) (nomark _)))))), ?_⟩
  have hst0 := hst
  have hsu0 := hsu
  have hpos := hok.pos
  have hle := hok.le
  obtain ⟨a0, dx0, own0, com0, ins0, outs0, due0, cuts0, gone0, lat0⟩ := A0
  obtain ⟨hI, hown, hcom, hins, houts, ⟨kvs, hdue, hdd⟩, hcuts, hgone, hlat, hd1, hd2⟩ := hst
  dsimp only [flds] at hI hown hcom hins houts hdue hcuts hgone hlat hd1 hd2
  dsimp only at *
  obtain ⟨gI, gown, gcom, gins, gouts, _, _, _, _, _, _⟩ := hsu
  dsimp only [flds] at gI gown gcom gins gouts
  walk_at "go"
  rw [List.length_map]
  refine r_I (.inl ⟨by omega, by omega⟩) ?_
  walk_at "go"
  have hm : (tb.length : Int) * (tb.length : Int) ≤ 24 * 24 := Int.mul_le_mul (by omega) (by omega) (by omega) (by omega)
  have hm0 : (0 : Int) ≤ (tb.length : Int) * (tb.length : Int) := Int.mul_nonneg (by omega) (by omega)
  refine r_neSame (d := .list []) (.lst (SqL.of houts) .nil) (.lst (SqL.of gouts) .nil) rfl ?_
  walk_at "go"
  refine ⟨_, tb, sd0, rfl, hst0, by decide, fun H1 p1 np1 e1 h1 => ?_⟩
  walk_at "go"
  refine ⟨_, tb, sd0, rfl, hsu0.same e1, by decide, fun H2 p2 np2 e2 h2 => ?_⟩
  refine r_neSame (d := .list []) (.lst (SqL.of (e2.ge _ _ List.not_mem_nil h1)) .nil) (.lst (SqL.of h2) .nil) rfl ?_
  walk_at "go"
  have len0 : ((([] : List V).length : Nat) : Int) = 0 := rfl
  refine ⟨_, _, tb, sd0, rfl, (hst0.same e1).same e2, ?_, ?_, hpos, fun H3 p3 e3 h3 => ?_⟩
  · simp
    omega
  · simp
    omega
  walk_at "go"
  refine ⟨_, _, tb, sd0, rfl, ((hsu0.same e1).same e2).same e3, ?_, ?_, hpos, fun H4 p4 e4 h4 => ?_⟩
  · simp
    omega
  · simp
    omega
  have h3' := e4.ge _ _ List.not_mem_nil h3
  rw [show (fun i : Nat => V.int (holdN tb ((sd0.ins.length : Int) + (i : Int)))) = V.int ∘ fun i : Nat => holdN tb ((sd0.ins.length : Int) + (i : Int)) from rfl, ← List.map_map] at h3' h4
  refine r_eqSame (.lst (SqL.of h3') dp_ints) (.lst (SqL.of h4) dp_ints) (PySem.W.ke_shaped_ints _) ?_
  exact q _ (Ext.tr e4 (Ext.tr e3 (Ext.tr e2 (Ext.tr e1 Ext.rfl' Sub.nil) Sub.nil) Sub.nil) Sub.nil)
end
/-! ### == of rows -/
section
variable {P : Program} {w : World} {K : PySem.W.Frag} {mg : Str → Option Value} {base : Heap}
theorem po_heldL (T : Tx K mg) {C : Addr} (r : RC K C) {X : Cx} (hK : X.K = K) (hm : X.mg = mg) (h : ∃ p g x q fd, PropOf K C "held" p g ∧ Fun K x q s63_5 g fd) : POk X 3 C "held" (spHeld K C) := by
  subst hK hm
  obtain ⟨p, g, x, q, fd, h1, h2⟩ := h
  exact ⟨r.cl, p, g, h1, fn_Row_held T h2 r⟩
theorem heldR_nil {n : Nat} {hv : List (Int × V)} (h : heldR [] n hv) : hv = [] := by
  obtain ⟨ks, h1, _, h3⟩ := h
  have : ks = [] := h1.eq_nil
  subst this
  cases h3
  rfl
theorem PairsAt.nil_ {H : Hp} {xs : List V} (h : PairsAt H xs []) : xs = [] := by
  cases h
  rfl
def spEq (K : PySem.W.Frag) (C : Addr) : Sp := fun vs H Q _ => ∃ x dx L A y dy M B tb ys zs, vs = [.ref x, .ref y] ∧ RowAt H C x dx L (ys ++ [.ref A.a]) ∧ RowAt H C y dy M (zs ++ [.ref B.a]) ∧ Stn K H A tb sd0 ∧ Stn K H B tb sd0 ∧ OkT tb ∧ ∀ H', Ext [] H H' → Q (.bl true) H'
def kCon (K : PySem.W.Frag) (f : Str) (Q : VK) : VK := fun x H1 => ∃ a C dx fs v u, x = .ref a ∧ H1 a = some (.ins C dx fs) ∧ Cls K C ∧ Con K C f v u ∧ fs.lookup f = none ∧ Q v H1
theorem r_con {K : PySem.W.Frag} {f : Str} {ta : TE} {σ : L2.St} {H : Hp} {Q : VK} (h : ta σ H (kCon K f Q)) : tCon K ta f σ H Q := h
theorem r_kCon {K : PySem.W.Frag} {f : Str} {H : Hp} {Q : VK} {a C dx : Addr} {fs : List (Str × V)} {v : V} {u : Value} (e : H a = some (.ins C dx fs)) (cl : Cls K C) (co : Con K C f v u) (l : fs.lookup f = none) (q : Q v H) : kCon K f Q (.ref a) H := ⟨a, C, dx, fs, v, u, rfl, e, cl, co, l, q⟩
theorem sc_Row_eq : FnScope ["self", "other"] ["self", "other"] (defScope s63_17) := ⟨rfl, rfl, rfl, by decide +kernel, rfl, by decide +kernel, by decide +kernel⟩
theorem fn_Row_eq (T : Tx K mg) {x qual : Str} {f : Addr} {fd : FuncData} (F : Fun K x qual s63_17 f fd) (r : RC K (ga K "Losing")) (hh : ∃ p g x q fd, PropOf K (ga K "Losing") "held" p g ∧ Fun K x q s63_5 g fd) : FnR P w K mg base CX0 5 f (spEq K (ga K "Losing")) := by
  have cl := r.cl
  have no := r.no
  refine fnR_of (N := ["self", "other"]) (ps := ["self", "other"]) (F) sc_Row_eq (fun _ _ _ _ _ _ us hl => match us, hl with | [_, _], _ => rfl) (fun _ _ _ _ ⟨_, _, _, _, _, _, _, _, _, _, _, e, _⟩ => by rw [e]; rfl) fun cdv A outer s H vs Q E hr hsp => ?_
  obtain ⟨x, dx, L, A0, y, dy, M, B0, tb, ys, zs, rfl, hrx, hry, hsa, hsb, hok, q⟩ := hsp
  have hrx0 := hrx
  have hry0 := hry
  obtain ⟨hx1, hx2⟩ := hrx
  obtain ⟨hy1, hy2⟩ := hry
  refine ⟨_, (pss_cons (ps_if (PW.pt (pw_or (pt_not (pt_val (pe_callB (cl_isi (K := K) rfl) (by rfl) (T.free "isinstance" (by decide +kernel)) (by decide +kernel) (pa_cons (pv 1) (pa_cons (pe_gr (by rfl) (T.cgl "Row" (by decide +kernel))) pa_nil))))) (pw_or1 (pt_cmpR op_ne (kc_con (K := K) rfl (pv 0)) (kc_con (K := K) rfl (pv 1)) (nomark _)))))
  (pss_one (ps_ret pe_bl))
  pss_nil)
  (pss_one (ps_ret (pe_and (pe_cmpR (opEqD (K := K) rfl hr.units) (kc_prop (pv 0) (po_heldL T r rfl rfl hh) hr) (kc_prop (pv 1) (po_heldL T r rfl rfl hh) hr) (nomark _)) (pe_one (kc_call (fn_go_on_alike (K := K) (mg := mg) T) hr (by rfl) (T.glo "go_on_alike" (by decide +kernel)) (T.def_ _ md_go_on_alike).kp (pa_cons (pe_ix (ixL (K := K) rfl) (kc_fld (K := K) rfl (pv 0)) (pe_un un_neg pe_int) (fun _ _ => rfl)) (pa_cons (pe_ix (ixL (K := K) rfl) (kc_fld (K := K) rfl (pv 1)) (pe_un un_neg pe_int) (fun _ _ => rfl)) pa_nil)))))))), ?_⟩
  have I := T.isi "Losing" (by decide +kernel)
  obtain ⟨u, hcon⟩ := T.lb
  walk_at "go"
  refine r_isi (.own _) (.base (.ins hy1 cl I.ha I.hn I.htk I.hm)) I.row ?_
  walk_at "go"
  refine r_con ?_
  walk_at "go"
  refine r_kCon hx1 cl hcon rfl ?_
  refine r_con ?_
  walk_at "go"
  refine r_kCon hy1 cl hcon rfl ?_
  walk_at "go"
  apply r_ifNF
  · rfl
  walk_at "go"
  refine ⟨x, dx, L, ys, A0, tb, sd0, rfl, hrx0, hsa, by decide, fun H1 p1 xs1 hv1 e1 h1 hq1 hR1 => ?_⟩
  obtain rfl := heldR_nil hR1
  obtain rfl := hq1.nil_
  walk_at "go"
  refine ⟨y, dy, M, zs, B0, tb, sd0, rfl, ⟨by walk_at "hp", by walk_at "hp"⟩, hsb.same e1, by decide, fun H2 p2 xs2 hv2 e2 h2 hq2 hR2 => ?_⟩
  obtain rfl := heldR_nil hR2
  obtain rfl := hq2.nil_
  refine r_eqSame (d := .tuple []) (.tup (SqT.of (e2.ge _ _ List.not_mem_nil h1)) .nil) (.tup (SqT.of h2) .nil) rfl ?_
  walk_at "go"
  refine ⟨A0, B0, tb, rfl, (hsa.same e1).same e2, (hsb.same e1).same e2, hok, fun H3 e3 => ?_⟩
  exact q _ (Ext.tr e3 (Ext.tr e2 (Ext.tr e1 Ext.rfl' Sub.nil) Sub.nil) Sub.nil)
end
end K7
set_option Elab.async false
set_option linter.all false
set_option maxRecDepth 100000
set_option maxHeartbeats 4000000
namespace K7
open PySem PySem.Spec PyProof.Rows L2
section
variable {X : Cx} {K : PySem.W.Frag} {o e : Expr} {to te : TE}
def rJoinQ (K : PySem.W.Frag) : V → List V → Hp → VK → Prop := fun x xs H Q => ∃ a p, ∃ ys : List Str, x = .str a ∧ xs = [.ref p] ∧ (SqL K H p (ys.map V.str) ∨ SqT K H p (ys.map V.str)) ∧
      (ys.map (·.length)).sum + ys.length * a.length ≤ 16777216 ∧ Q (.str (Txt.join a ys)) H
def rSplitQ : V → List V → Hp → VK → Prop := fun x xs H Q => ∃ a b, x = .str a ∧ xs = [.str b] ∧ (b.length == 0) = false ∧ a.length + 2 ≤ sizeLine ∧ rNewStrs (Txt.split a b) H Q
theorem kc_join {apos pos : Pos} (hK : X.K = K) (ho : PE X o to) (he : PE X e te) (hs : starEach [e] X.env = [(false, eval e X.env)] := by rfl) (hbase : attributeBase o "join" X.env (eval o X.env) = eval o X.env := by rfl) (hline : (apos.endLine == pos.line) = true := by rfl) :
    PE X (.Call (.Attribute o "join" apos) [e] [] pos) (tM1 (rJoinQ K) to te) := by subst hK; exact pe_join ho he hs hbase hline
theorem kc_split {apos pos : Pos} (ho : PE X o to) (he : PE X e te) (hs : starEach [e] X.env = [(false, eval e X.env)] := by rfl) (hbase : attributeBase o "split" X.env (eval o X.env) = eval o X.env := by rfl) (hline : (apos.endLine == pos.line) = true := by rfl) :
    PE X (.Call (.Attribute o "split" apos) [e] [] pos) (tM1 rSplitQ to te) := pe_split ho he hs hbase hline
end
section
variable {σ : L2.St} {H : Hp} {Q : VK} {K : PySem.W.Frag} {to te : TE} {r : V → List V → Hp → VK → Prop}
def kM1 (r : V → List V → Hp → VK → Prop) (te : TE) (σ : L2.St) (Q : VK) : VK := fun x H1 => (∃ a, x = .str a) ∧ te σ H1 fun y H2 => r x [y] H2 Q
theorem r_join (h : to σ H (kM1 r te σ Q)) : tM1 r to te σ H Q := h
theorem r_kJoin {z : Str} (h : te σ H fun y H2 => r (.str z) [y] H2 Q) : kM1 r te σ Q (.str z) H := ⟨⟨z, rfl⟩, h⟩
theorem r_split : True := trivial
theorem r_kSplit : True := trivial
theorem r_joinL {a : Str} {p : Addr} {ys : List Str} (h : H p = some (.lst (ys.map V.str))) (hl : (ys.map (·.length)).sum + ys.length * a.length ≤ 16777216) (q : Q (.str (Txt.join a ys)) H) : rJoinQ K (.str a) [.ref p] H Q := ⟨a, p, ys, rfl, rfl, .inl (SqL.of h), hl, q⟩
theorem r_splitS {a b : Str} (hb : (b.length == 0) = false) (hl : a.length ≤ 90000) (q : ∀ p H2, Nw H p → Ext [] H H2 → H2 p = some (.lst ((Txt.split a b).map V.str)) → Q (.ref p) H2) : rSplitQ (.str a) [.str b] H Q := ⟨a, b, rfl, rfl, hb, sz1 (by omega), new_of q⟩
/-- how a value is written -/
def txt : V → Str
  | .non => "-"
  | .int i => toString i
  | .str z => z
  | _ => ""
def OkW (v : V) : Prop := (txt v).length ≤ 100 ∧ (v = .non ∨ (∃ i, v = .int i ∧ i.natAbs.log2 < 1920) ∨ ∃ z, v = .str z)
theorem sum_le : ∀ {ys : List Str} {n : Nat}, (∀ y ∈ ys, y.length ≤ n) → (ys.map (·.length)).sum ≤ ys.length * n
  | [], n, _ => by simp
  | y :: ys, n, h => by
    have h1 := h y List.mem_cons_self
    have h2 := sum_le (ys := ys) fun z hz => h z (List.mem_cons_of_mem _ hz)
    rw [List.map_cons, List.sum_cons, List.length_cons, Nat.add_mul]
    omega
end
end K7
set_option Elab.async false
set_option linter.all false
set_option maxRecDepth 100000
set_option maxHeartbeats 4000000
namespace K7
open PySem PySem.Spec PyProof.Rows L2
local macro_rules | `(tactic| walk_at "hp") => `(tactic| first | assumption | exact upd_same | (apply get_ne; (focus walk_at "ne"); walk_at "hp") | (apply Ext.get; (focus assumption); (focus walk_at "nl"); walk_at "hp"))
local macro_rules | `(tactic| walk_at "nl") => `(tactic| first | exact List.not_mem_nil | (apply nin_cons; (focus walk_at "ne"); walk_at "nl"))
local macro_rules | `(tactic| walk_at "ne") => `(tactic| first | assumption | (apply Ne.symm; assumption) | (apply ne_fresh; (focus assumption); walk_at "hp") | (apply ne_fresh'; (focus assumption); walk_at "hp"))
local macro_rules | `(tactic| walk_at "ex") => `(tactic| first | exact Ext.rfl' | assumption | (apply Ext.tr; (focus assumption); (focus walk_at "ex"); walk_at "sub"))
local macro_rules | `(tactic| walk_at "dm") => `(tactic| first | exact Dom.rfl' | (apply Dom.tr; (focus assumption); walk_at "dm"))
local macro_rules | `(tactic| walk_at "sub") => `(tactic| first | exact Sub.nil | (apply Sub.cons; (focus (first | (apply Or.inl; simp; done) | (apply Or.inr; apply Dom.fr; (focus assumption); walk_at "dm"))); walk_at "sub"))
local macro_rules | `(tactic| walk_at "st") => `(tactic| first
  | (with_reducible refine r_seq ?_) | (with_reducible refine r_asg ?_) | (with_reducible refine r_name ?_) | (with_reducible refine r_drop ?_) | (with_reducible refine r_ret ?_) | (with_reducible refine r_retN ?_) | (with_reducible refine r_next ?_)
  | (with_reducible refine r_ifS ?_) | (with_reducible refine r_c ?_) | (with_reducible refine r_op ?_) | (with_reducible refine r_un ?_) | (with_reducible refine r_test ?_) | (with_reducible refine r_tB ?_) | (with_reducible refine r_kB ?_)
  | (with_reducible refine r_and ?_) | (with_reducible refine r_or ?_) | (with_reducible refine r_not ?_) | (with_reducible refine r_andV ?_) | (with_reducible refine r_kAndV ?_) | (with_reducible refine r_orV ?_) | (with_reducible refine r_kOrV ?_)
  | (with_reducible refine r_notV ?_) | (with_reducible refine r_kNotV ?_) | (with_reducible refine r_ifE ?_) | (with_reducible refine r_iftt ?_) | (with_reducible refine r_ifff ?_) | (with_reducible refine r_ifnt ?_) | (with_reducible refine r_ifnf ?_) | (with_reducible refine r_kCh ?_)
  | (with_reducible refine r_nil ?_) | (with_reducible refine r_cons ?_) | (with_reducible refine r_tup ?_) | (with_reducible refine r_lst ?_) | (with_reducible refine r_fld ?_) | (with_reducible refine r_sfld ?_) | (with_reducible refine r_gfld ?_)
  | (with_reducible refine r_gNil ?_) | (with_reducible refine r_gCons ?_) | (with_reducible refine r_par ?_) | (with_reducible refine r_kPar ?_) | (with_reducible refine r_cl ?_) | (with_reducible refine r_cb ?_) | (with_reducible refine r_bm ?_)
  | (with_reducible refine r_bm0 ?_) | (with_reducible refine r_gsub ?_) | (with_reducible refine r_m ?_) | (with_reducible refine r_p ?_) | (with_reducible refine r_mk ?_) | (with_reducible refine r_I0 ?_) | (with_reducible refine r_U ?_)
  | ((with_reducible apply r_var); focus (first | exact rfl | assumption))
  | ((with_reducible apply r_eq); focus exact rfl) | ((with_reducible apply r_ne); focus exact rfl)
  | ((with_reducible apply r_kFld); (focus walk_at "hp"); (focus walk_at "cls"); (focus walk_at "no"); (focus exact rfl))
  | ((with_reducible apply r_kSF); (focus walk_at "hp"); (focus walk_at "cls"); (focus walk_at "no"); (focus exact of_decide_eq_true (by exact rfl)); (focus walk_at "pf"); intro _ _ _)
  | ((with_reducible apply r_kTup); (focus (first | exact of_decide_eq_true (by exact rfl) | (simp; done))); intro _ _ _ _ _) | ((with_reducible apply r_kLst); (focus (first | exact of_decide_eq_true (by exact rfl) | (simp; done))); intro _ _ _ _ _) | ((with_reducible apply r_dnew); intro _ _ _ _ _)
  | ((with_reducible apply r_gTup); (focus exact SqT.of (by walk_at "hp")); (focus exact rfl)) | ((with_reducible apply r_gUnl); (focus exact SqL.of (by walk_at "hp")); (focus exact rfl))
  | (with_reducible refine r_sl ?_) | (with_reducible refine r_noPart ?_) | (with_reducible refine r_part ?_) | (with_reducible refine r_kPart ?_) | (with_reducible refine r_chain ?_) | (with_reducible refine r_for ?_) | (with_reducible refine r_lc ?_) | (with_reducible refine r_yes ?_)
  | (with_reducible refine r_iTup ?_) | (with_reducible refine r_iList ?_) | (with_reducible refine r_iRng1 ?_) | (with_reducible refine r_iStr ?_) | (with_reducible refine r_iEnumT ?_) | (with_reducible refine r_iZip ?_)
  | (with_reducible refine r_kIfT ?_) | (with_reducible refine r_kIfF ?_)
  | ((with_reducible apply r_kMk); intro _ _ _ _ _ _)
  | ((with_reducible apply r_lenL); (focus walk_at "hp")) | ((with_reducible apply r_lenT); (focus walk_at "hp")) | ((with_reducible apply r_listL); (focus walk_at "hp"); intro _ _ _ _ _) | ((with_reducible apply r_tupL); (focus walk_at "hp"); intro _ _ _ _ _)
  | (with_reducible refine r_strS ?_)
  | (with_reducible refine r_isiII ?_) | (with_reducible refine r_isiIB ?_) | (with_reducible refine r_isiIS ?_) | (with_reducible refine r_isiSS ?_) | ((with_reducible apply r_isiTT); (focus walk_at "hp"))
  | (with_reducible refine r_isNn ?_) | (with_reducible refine r_isNr ?_) | (with_reducible refine r_isNi ?_) | (with_reducible refine r_isNs ?_) | (with_reducible refine r_noNn ?_) | (with_reducible refine r_noNr ?_) | (with_reducible refine r_noNi ?_) | (with_reducible refine r_noNs ?_)
  | (with_reducible refine r_isN ?_) | (with_reducible refine r_notN ?_) | ((with_reducible apply r_inT); (focus walk_at "hp")) | (with_reducible refine r_max2 ?_) | (with_reducible refine r_min2 ?_) | (with_reducible refine r_sign ?_)
  | ((with_reducible apply r_dict); (focus walk_at "hp"); intro _ _ _ _ _)
  | ((with_reducible apply r_ixLast); (focus walk_at "hp")) | ((with_reducible apply r_ixPair0); (focus walk_at "hp")) | ((with_reducible apply r_ixPair1); (focus walk_at "hp"))
  | ((with_reducible apply r_kBM0); (focus exact ty_l (by walk_at "hp"))) | ((with_reducible apply r_kBM); (focus exact ty_l (by walk_at "hp")))
  | (with_reducible refine r_star ?_) | ((with_reducible apply r_kStar); (focus walk_at "hp"))
  | (with_reducible refine r_iVals ?_) | (with_reducible refine r_iKeys ?_)
  | (with_reducible refine r_dput ?_) | (with_reducible refine r_dpop ?_) | ((with_reducible apply r_kDPop1); (focus walk_at "hp")) | (with_reducible refine r_dget ?_)
  | (with_reducible refine r_join ?_) | (with_reducible refine r_kJoin ?_) | (with_reducible refine r_split ?_) | (with_reducible refine r_kSplit ?_)
  | ((with_reducible apply r_kM); (focus walk_at "hp"); (focus exact rfl)) | ((with_reducible apply r_kP); (focus walk_at "hp")))
local macro_rules | `(tactic| walk_at "go") => `(tactic| repeat walk_at "st")
local macro_rules | `(tactic| walk_at "cls") => `(tactic| first | assumption | exact Tx.cls (by assumption) _ (by decide +kernel))
local macro_rules | `(tactic| walk_at "no") => `(tactic| first | assumption | exact Tx.no (by assumption) _ _ (by decide +kernel))
local macro_rules | `(tactic| walk_at "fr") => `(tactic| (apply Dom.fr; (focus assumption); walk_at "dm"))
local macro_rules | `(tactic| walk_at "pf") => `(tactic| first | exact putF_nil | exact putF_hit | (apply putF_miss; (focus decide); walk_at "pf"))
/-! ### texts -/
section
variable {P : Program} {w : World} {K : PySem.W.Frag} {mg : Str → Option Value} {base : Heap}
def spSpaced (K : PySem.W.Frag) : Sp := fun vs H Q _ => ∃ a xs, vs = [.ref a] ∧ H a = some (.tup xs) ∧ xs.length ≤ 1000 ∧ (∀ v ∈ xs, OkW v) ∧ ∀ H', Ext [] H H' → Q (.str (Txt.join " " (xs.map txt))) H'
theorem sc_spaced : FnScope ["numbers", "one"] ["numbers"] (defScope s86) := ⟨rfl, rfl, rfl, by decide +kernel, rfl, by decide +kernel, by decide +kernel⟩
theorem fn_spaced (T : Tx K mg) : FnR P w K mg base CX0 1 (d_spaced.pl.ad K) (spSpaced K) := by
  refine fnR_of (N := ["numbers", "one"]) (ps := ["numbers"]) (fun_of T md_spaced rfl) sc_spaced (fun _ _ _ _ _ _ us hl => match us, hl with | [_], _ => rfl) (fun _ _ _ _ ⟨_, _, e, _⟩ => by rw [e]; rfl) fun cdv A outer s H vs Q E hr hsp => ?_
  obtain ⟨a, xs, rfl, ha, hl, hw, q⟩ := hsp
  refine ⟨_, (pss_one (ps_ret (kc_join (K := K) rfl pe_str (pe_lc (own := [("one", 1)]) (g := gName 1) (tt := tYes) rfl sc_spaced.nd (ki_tup (K := K) rfl (pv 0)) (blkOk_by (N := ["numbers", "one"]) (sc := defScope s86) (by decide +kernel)) (fun _ _ _ _ _ => (pg_name (i := 1) sc_spaced.nd rfl (Or.inl rfl))) (fun _ _ _ _ _ => pts_nil) (fun _ _ _ _ _ => (pe_ifExp (pt_cmpR opIsN (pv 1) pe_non (nomark _)) pe_str (pe_callTy cl_str (by rfl) (T.free "str" (by decide +kernel)) (by decide +kernel) (pa_cons (pv 1) pa_nil)))))))), ?_⟩
  walk_at "go"
  refine ⟨a, rfl, ⟨_, SqT.of ha⟩, ?_⟩
  refine r_kLc (walk_tup (xs := xs)) [] (fun i acc => acc = ((xs.take i).map txt).map V.str) rfl ?_ ?_ ?_
  · intro H2 e
    refine SqT.of ?_
    walk_at "hp"
  · rintro D i x H1 H2 acc hi nw e hD rfl ⟨rfl, hx⟩
    have hok := hw x (List.mem_of_getElem? hx)
    have fin : ∀ z, z = txt x → kAp D (LcI D [] H (fun i acc => acc = ((xs.take i).map txt).map V.str) (i + 1)) (.str z) H2 := fun z hz => by
      refine r_kAp hD e nw (by simp; omega) ?_
      rw [List.take_succ, hx, hz]
      simp
    rcases hok.2 with rfl | ⟨n, rfl, hn⟩ | ⟨z, rfl⟩
    · walk_at "go"
      refine ⟨rfl, ?_⟩
      walk_at "go"
      exact fin _ rfl
    · walk_at "go"
      refine ⟨rfl, ?_⟩
      walk_at "go"
      refine r_strI hn ?_
      exact fin _ rfl
    · walk_at "go"
      refine ⟨rfl, ?_⟩
      walk_at "go"
      exact fin _ rfl
  · rintro D H2 acc nw e hD rfl
    rw [List.take_length] at hD
    refine r_joinL hD ?_ ?_
    · have := sum_le (ys := xs.map txt) (n := 100) (fun y hy => by
        obtain ⟨v, hv, rfl⟩ := List.mem_map.mp hy
        exact (hw v hv).1)
      rw [List.length_map] at this ⊢
      rw [show ((" " : Str).length) = 1 from rfl]
      omega
    · exact q _ (by walk_at "ex")
def spNumText (K : PySem.W.Frag) : Sp := fun vs H Q _ => ∃ a ns, vs = [.ref a] ∧ H a = some (.tup (ns.map V.int)) ∧ ns ≠ [] ∧ ns.length ≤ 1000 ∧ (∀ v ∈ ns.map V.int, OkW v) ∧ ∀ H', Ext [] H H' → Q (.str (Txt.join " " (ns.map fun n => txt (.int n)))) H'
theorem sc_numbers_text : FnScope ["numbers", "number"] ["numbers"] (defScope s76) := ⟨rfl, rfl, rfl, by decide +kernel, rfl, by decide +kernel, by decide +kernel⟩
theorem fn_numbers_text (T : Tx K mg) : FnR P w K mg base CX0 1 (d_numbers_text.pl.ad K) (spNumText K) := by
  refine fnR_of (N := ["numbers", "number"]) (ps := ["numbers"]) (fun_of T md_numbers_text rfl) sc_numbers_text (fun _ _ _ _ _ _ us hl => match us, hl with | [_], _ => rfl) (fun _ _ _ _ ⟨_, _, e, _⟩ => by rw [e]; rfl) fun cdv A outer s H vs Q E hr hsp => ?_
  obtain ⟨a, ns, rfl, ha, hne, hl, hw, q⟩ := hsp
  refine ⟨_, (pss_one (ps_ret (pe_ifExp (pt_cmpR (opNeD (K := K) rfl hr.units) (pv 0) (pe_tup pa_nil) (nomark _)) (kc_join (K := K) rfl pe_str (pe_lc (own := [("number", 1)]) (g := gName 1) (tt := tYes) rfl sc_numbers_text.nd (ki_tup (K := K) rfl (pv 0)) (blkOk_by (N := ["numbers", "number"]) (sc := defScope s76) (by decide +kernel)) (fun _ _ _ _ _ => (pg_name (i := 1) sc_numbers_text.nd rfl (Or.inl rfl))) (fun _ _ _ _ _ => pts_nil) (fun _ _ _ _ _ => (pe_callTy cl_str (by rfl) (T.free "str" (by decide +kernel)) (by decide +kernel) (pa_cons (pv 1) pa_nil))))) pe_str))), ?_⟩
  walk_at "go"
  have hev : PyData.eqv (.tuple (ns.map PyData.int)) (.tuple []) = false := by
    cases ns with
    | nil => exact absurd rfl hne
    | cons n r => rfl
  rename_i p1 H1 np1 e1 h1
  refine ⟨_, _, .tup (SqT.of (e1.ge _ _ List.not_mem_nil ha)) dp_ints, .tup (SqT.of h1) .nil, shaped_intsT ns, rfl, ?_⟩
  rw [hev]
  walk_at "go"
  refine ⟨a, rfl, ⟨_, SqT.of (by walk_at "hp")⟩, ?_⟩
  refine r_kLc (walk_tup (xs := ns.map V.int)) [] (fun i acc => acc = ((ns.take i).map fun n => txt (.int n)).map V.str) rfl ?_ ?_ ?_
  · intro H2 e
    refine SqT.of ?_
    walk_at "hp"
  · rintro D i x H2 H3 acc hi nw e hD rfl ⟨rfl, hx⟩
    have hok := hw x (List.mem_of_getElem? hx)
    obtain ⟨n, hn1, rfl⟩ := mapI hx
    have hlog : n.natAbs.log2 < 1920 := by
      rcases hok.2 with h | ⟨m, h, hm⟩ | ⟨z, h⟩
      · cases h
      · cases h
        exact hm
      · cases h
    walk_at "go"
    refine ⟨rfl, ?_⟩
    walk_at "go"
    refine r_strI hlog ?_
    refine r_kAp hD e nw (by simp; omega) ?_
    rw [List.take_succ, hn1]
    simp [txt]
  · rintro D H2 acc nw e hD rfl
    rw [show (ns.map V.int).length = ns.length from List.length_map _, List.take_length] at hD
    refine r_joinL hD ?_ ?_
    · have := sum_le (ys := ns.map fun n => txt (.int n)) (n := 100) (fun y hy => by
        obtain ⟨v, hv, rfl⟩ := List.mem_map.mp hy
        exact (hw _ (List.mem_map_of_mem hv)).1)
      rw [List.length_map] at this ⊢
      rw [show ((" " : Str).length) = 1 from rfl]
      omega
    · exact q _ (by walk_at "ex")
def spTabText (K : PySem.W.Frag) : Sp := fun vs H Q _ => ∃ a ns, vs = [.ref a] ∧ H a = some (.tup (ns.map V.int)) ∧ OkT ns ∧ (∀ v ∈ ns.map V.int, OkW v) ∧ ∀ H', Ext [] H H' → Q (.str (Txt.join " " (ns.map fun n => txt (.int n)))) H'
theorem sc_table_text : FnScope ["table"] ["table"] (defScope s77) := ⟨rfl, rfl, rfl, by decide +kernel, rfl, by decide +kernel, by decide +kernel⟩
theorem fn_table_text (T : Tx K mg) : FnR P w K mg base CX0 5 (d_table_text.pl.ad K) (spTabText K) := by
  refine fnR_of (N := ["table"]) (ps := ["table"]) (fun_of T md_table_text rfl) sc_table_text (fun _ _ _ _ _ _ us hl => match us, hl with | [_], _ => rfl) (fun _ _ _ _ ⟨_, _, e, _⟩ => by rw [e]; rfl) fun cdv A outer s H vs Q E hr hsp => ?_
  obtain ⟨a, ns, rfl, ha, hok, hw, q⟩ := hsp
  refine ⟨_, (pss_cons (ps_expr (kc_call (fn_need_table (K := K) (mg := mg) T) hr (by rfl) (T.glo "need_table" (by decide +kernel)) (T.def_ _ md_need_table).kp (pa_cons (pv 0) pa_nil)))
  (pss_one (ps_ret (kc_call (fn_numbers_text (K := K) (mg := mg) T) hr (by rfl) (T.glo "numbers_text" (by decide +kernel)) (T.def_ _ md_numbers_text).kp (pa_cons (pv 0) pa_nil))))), ?_⟩
  have hpos := hok.pos
  have hle := hok.le
  walk_at "go"
  refine ⟨a, ns, rfl, ha, hok, fun H1 e1 => ?_⟩
  walk_at "go"
  refine ⟨a, ns, rfl, by walk_at "hp", fun z => by rw [z] at hpos; simp at hpos, by omega, hw, fun H2 e2 => ?_⟩
  exact q _ (by walk_at "ex")
def line (v o : V) : Str := Str.empty ++ txt v ++ " " ++ txt o ++ "\n"
def kJs (ts : List TE) (acc : Str) (σ : L2.St) (R : Str → Hp → Prop) : VK := fun x H1 => ∃ y : Str, x = .str y ∧ (acc ++ y).length ≤ sizeLine ∧ tJs ts (acc ++ y) σ H1 R
theorem line_len {v o : V} (h1 : (txt v).length ≤ 100) (h2 : (txt o).length ≤ 100) : (line v o).length ≤ 202 := by
  unfold line
  rw [Str.length_append, Str.length_append, Str.length_append, Str.length_append, show (Str.empty).length = 0 from rfl, show ((" " : Str).length) = 1 from rfl, show (("\n" : Str).length) = 1 from rfl]
  omega
theorem r_js {t : TE} {ts : List TE} {acc : Str} {σ : L2.St} {H : Hp} {R : Str → Hp → Prop} (h : t σ H (kJs ts acc σ R)) : tJs (t :: ts) acc σ H R := h
theorem r_kJs {ts : List TE} {acc y : Str} {σ : L2.St} {H : Hp} {R : Str → Hp → Prop} (hl : (acc ++ y).length ≤ 100000) (q : tJs ts (acc ++ y) σ H R) : kJs ts acc σ R (.str y) H := ⟨y, rfl, sz1 hl, q⟩
theorem r_js0 {acc : Str} {σ : L2.St} {H : Hp} {R : Str → Hp → Prop} (q : R acc H) : tJs [] acc σ H R := q
def kFmt (Q : VK) : VK := fun x H1 => (∃ y : Str, x = .str y ∧ y.length ≤ sizeLine ∧ Q (.str y) H1) ∨ ∃ i : Int, x = .int i ∧ i.natAbs.log2 < 1920 ∧ Q (.str (toString i)) H1
theorem r_fmt {te : TE} {σ : L2.St} {H : Hp} {Q : VK} (h : te σ H (kFmt Q)) : tFmt te σ H Q := h
theorem r_kFmt {v : V} {H : Hp} {Q : VK} (h : OkW v) (n : v ≠ .non) (q : Q (.str (txt v)) H) : kFmt Q v H := by
  obtain ⟨h1, h2⟩ := h
  rcases h2 with rfl | ⟨i, rfl, hi⟩ | ⟨z, rfl⟩
  · exact absurd rfl n
  · exact .inr ⟨i, rfl, hi, q⟩
  · exact .inl ⟨z, rfl, sz1 (Nat.le_trans h1 (by decide)), q⟩
def journal (ins outs : List V) : Str := Txt.join "" (List.zipWith line ins outs)
def spJournal (K : PySem.W.Frag) (C : Addr) : Sp := fun vs H Q _ => ∃ x dx L ys A tb s, vs = [.ref x] ∧ RowAt H C x dx L (ys ++ [.ref A.a]) ∧ Stn K H A tb s ∧ s.ins.length ≤ 1000 ∧ s.outs.length = s.ins.length ∧ (∀ v ∈ s.ins, OkV v ∧ OkW v) ∧ (∀ v ∈ s.outs, OkW v) ∧
  ∀ H', Ext [] H H' → Q (.str (journal s.ins s.outs)) H'
theorem sc_journal_text : FnScope ["row", "stood", "outs", "out", "value"] ["row"] (defScope s78) := ⟨rfl, rfl, rfl, by decide +kernel, rfl, by decide +kernel, by decide +kernel⟩
theorem fn_journal_text (T : Tx K mg) {C : Addr} (r : RC K C) (I : Isi K C) : FnR P w K mg base CX0 1 (d_journal_text.pl.ad K) (spJournal K C) := by
  have cl := r.cl
  have no := r.no
  refine fnR_of (N := ["row", "stood", "outs", "out", "value"]) (ps := ["row"]) (fun_of T md_journal_text rfl) sc_journal_text (fun _ _ _ _ _ _ us hl => match us, hl with | [_], _ => rfl) (fun _ _ _ _ ⟨_, _, _, _, _, _, _, e, _⟩ => by rw [e]; rfl) fun cdv A outer s H vs Q E hr hsp => ?_
  obtain ⟨x, dx, L, ys, A0, tb, s0, rfl, hrow, hst, hl1, hl2, hw1, hw2, q⟩ := hsp
  obtain ⟨hx1, hx2⟩ := hrow
  refine ⟨_, (pss_cons (ps_if (pt_not (pt_val (pe_callB (cl_isi (K := K) rfl) (by rfl) (T.free "isinstance" (by decide +kernel)) (by decide +kernel) (pa_cons (pv 0) (pa_cons (pe_gr (by rfl) (T.cgl "Row" (by decide +kernel))) pa_nil)))))
  (pss_one ps_never)
  pss_nil)
  (pss_cons (ps_set (i := 1) sc_journal_text.nd rfl (Or.inl rfl) (pe_ix (ixL (K := K) rfl) (kc_fld (K := K) rfl (pv 0)) (pe_un un_neg pe_int) (fun _ _ => rfl)))
  (pss_cons (ps_setLc (i := 2) (own := [("out", 3)]) (g := gName 3) (tt := tYes) rfl sc_journal_text.nd rfl rfl (sw_true rfl rfl rfl (by decide +kernel)) (ki_list (K := K) rfl (kc_fld (K := K) rfl (pv 1))) (blkOk_by (N := ["row", "stood", "outs", "out", "value"]) (sc := defScope s78) (by decide +kernel)) (fun _ _ _ _ _ => (pg_name (i := 3) sc_journal_text.nd rfl (Or.inl rfl))) (fun _ _ _ _ _ => pts_nil) (fun _ _ _ _ _ => (pe_ifExp (pt_cmpR opIsN (pv 3) pe_non (nomark _)) pe_str (pe_callTy cl_str (by rfl) (T.free "str" (by decide +kernel)) (by decide +kernel) (pa_cons (pv 3) pa_nil)))))
  (pss_one (ps_ret (kc_join (K := K) rfl pe_str (pe_lc (own := [("value", 4), ("out", 3)]) (tt := tYes) rfl sc_journal_text.nd (ki_zip (K := K) rfl (by rfl) (T.free "zip" (by decide +kernel)) (pa_cons (kc_fld (K := K) rfl (pv 1)) (pa_cons (pv 2) pa_nil))) (blkOk_by (N := ["row", "stood", "outs", "out", "value"]) (sc := defScope s78) (by decide +kernel)) (fun _ _ _ _ _ => (kg_tup (K := K) (n := 2) rfl rfl (pgs_cons (pg_name (i := 4) sc_journal_text.nd rfl (Or.inl rfl)) (pgs_cons (pg_name (i := 3) sc_journal_text.nd rfl (Or.inl rfl)) pgs_nil)))) (fun _ _ _ _ _ => pts_nil) (fun _ _ _ _ _ => (pe_joined (PJ.cons (pe_fmt (pv 4)) (PJ.cons pe_str (PJ.cons (pe_fmt (pv 3)) (PJ.cons pe_str PJ.nil))))))))))))), ?_⟩
  obtain ⟨a0, dx0, own0, com0, ins0, outs0, due0, cuts0, gone0, lat0⟩ := A0
  obtain ⟨hI, hown, hcom, hins, houts, ⟨kvs, hdue, hdd⟩, hcuts, hgone, hlat, hd1, hd2⟩ := hst
  dsimp only [flds] at hI hown hcom hins houts hdue hcuts hgone hlat hd1 hd2
  dsimp only at *
  walk_at "go"
  refine r_isi (.own _) (.base (.ins hx1 cl I.ha I.hn I.htk I.hm)) I.row ?_
  walk_at "go"
  refine ⟨outs0, rfl, ⟨_, SqL.of houts⟩, ?_⟩
  refine r_kLc (walk_list (xs := s0.outs)) [] (fun i acc => acc = ((s0.outs.take i).map txt).map V.str) rfl ?_ ?_ ?_
  · intro H2 e
    refine SqL.of ?_
    walk_at "hp"
  · rintro D i v H1 H2 acc hi nw e hD rfl ⟨rfl, hx⟩
    have hok := hw2 v (List.mem_of_getElem? hx)
    have fin : ∀ z, z = txt v → kAp D (LcI D [] H (fun i acc => acc = ((s0.outs.take i).map txt).map V.str) (i + 1)) (.str z) H2 := fun z hz => by
      refine r_kAp hD e nw (by simp; omega) ?_
      rw [List.take_succ, hx, hz]
      simp
    rcases hok.2 with rfl | ⟨n, rfl, hn⟩ | ⟨z, rfl⟩
    · walk_at "go"
      refine ⟨rfl, ?_⟩
      walk_at "go"
      exact fin _ rfl
    · walk_at "go"
      refine ⟨rfl, ?_⟩
      walk_at "go"
      refine r_strI hn ?_
      exact fin _ rfl
    · walk_at "go"
      refine ⟨rfl, ?_⟩
      walk_at "go"
      exact fin _ rfl
  · rintro D H2 acc nw e hD rfl
    rw [List.take_length] at hD
    walk_at "go"
    refine ⟨ins0, D, s0.ins, _, rfl, SqL.of (by walk_at "hp"), SqL.of hD, ?_⟩
    refine r_kLc (walk_zip (n := s0.ins.length) (xs := s0.ins) (ys := (s0.outs.map txt).map V.str) (by simp; omega)) [] (fun i acc => acc = ((List.zipWith line s0.ins s0.outs).take i).map V.str) rfl ?_ ?_ ?_
    · intro H3 e3
      exact ⟨SqL.of (by walk_at "hp"), SqL.of (by walk_at "hp")⟩
    · rintro D2 i v H3 H4 acc hi nw2 e3 hD2 rfl y
      obtain ⟨p, x1, x2, rfl, np, e4, hp4, h1, h2⟩ := YPair.get y
      have ho : ∃ o, s0.outs[i]? = some o ∧ x2 = .str (txt o) := by
        rw [List.getElem?_map, List.getElem?_map] at h2
        cases ho : s0.outs[i]? with
        | none => rw [ho] at h2; cases h2
        | some o => rw [ho] at h2; exact ⟨o, rfl, (Option.some.inj h2).symm⟩
      obtain ⟨o, ho, rfl⟩ := ho
      have ok1 := hw1 x1 (List.mem_of_getElem? h1)
      have ok2 := hw2 o (List.mem_of_getElem? ho)
      have hnn : x1 ≠ .non := by
        rcases ok1.1 with ⟨n, rfl⟩ | ⟨z, rfl, _⟩ <;> (intro z; cases z)
      walk_at "go"
      refine ⟨rfl, ?_⟩
      walk_at "go"
      refine r_js (r_fmt ?_)
      walk_at "go"
      refine r_kFmt ok1.2 hnn ?_
      have q1 := ok1.2.1
      have q2 := ok2.1
      have z0 : (Str.empty).length = 0 := rfl
      have z1 : ((" " : Str).length) = 1 := rfl
      have z2 : (("\n" : Str).length) = 1 := rfl
      refine r_kJs (by rw [Str.length_append]; omega) ?_
      refine r_js ?_
      walk_at "go"
      refine r_kJs (by rw [Str.length_append, Str.length_append]; omega) ?_
      refine r_js (r_fmt ?_)
      walk_at "go"
      refine r_kFmt ⟨by show (txt (.str (txt o))).length ≤ 100; exact q2, .inr (.inr ⟨_, rfl⟩)⟩ (by intro z; cases z) ?_
      refine r_kJs (by rw [Str.length_append, Str.length_append, Str.length_append]; show _ + (txt o).length ≤ _; omega) ?_
      refine r_js ?_
      walk_at "go"
      refine r_kJs (by rw [Str.length_append, Str.length_append, Str.length_append, Str.length_append]; show _ + (txt o).length + _ ≤ _; omega) ?_
      refine r_js0 ?_
      refine r_kAp (by walk_at "hp") (by walk_at "ex") nw2 (by simp; omega) ?_
      rw [List.take_succ, List.getElem?_zipWith, h1, ho]
      simp [line, txt]
    · rintro D2 H3 acc nw2 e3 hD2 rfl
      rw [List.take_of_length_le (by rw [List.length_zipWith]; omega)] at hD2
      refine r_joinL hD2 ?_ ?_
      · have := sum_le (ys := List.zipWith line s0.ins s0.outs) (n := 202) (fun y hy => by
          obtain ⟨i, hi⟩ := List.mem_iff_getElem?.mp hy
          rw [List.getElem?_zipWith] at hi
          cases ha : s0.ins[i]? with
          | none => rw [ha] at hi; cases hi
          | some u =>
            cases hb : s0.outs[i]? with
            | none => rw [ha, hb] at hi; cases hi
            | some o =>
              rw [ha, hb] at hi
              rw [← Option.some.inj hi]
              exact line_len (hw1 u (List.mem_of_getElem? ha)).2.1 (hw2 o (List.mem_of_getElem? hb)).1)
        rw [List.length_zipWith] at this ⊢
        rw [show (("" : Str).length) = 0 from rfl]
        omega
      · exact q _ (by walk_at "ex")
end
/-! ### numbers and values in texts -/
def dg (w : Str) : Str := if cutS w none (some 1) = ("-" : Str) then cutS w (some 1) none else w
def dig (c : Nat) : Bool := decide (c ∈ (Str.ofString "0123456789").cps.toList)
def bad (w : Str) : Bool := decide (dg w = "") || (!((dg w).cps.toList.all dig) || (decide ((dg w).cps.toList.head? = some 48) && !decide (w = "0")))
theorem r_ifE2 {p : Prop} [Decidable p] {ta tb : TE} {σ : L2.St} {H : Hp} {Qc : VK} (v : V) (q : Qc v H) (h1 : p → Qc v H → ta σ H Qc) (h2 : ¬ p → Qc v H → tb σ H Qc) : if decide p = true then ta σ H Qc else tb σ H Qc := by
  by_cases h : p
  · exact r_ifT h (h1 h q)
  · exact r_ifF h (h2 h q)
theorem strV_iff {a b : Str} : (V.str a = V.str b) ↔ a = b := ⟨fun h => V.str.inj h, fun h => by rw [h]⟩
section
variable {P : Program} {w : World} {K : PySem.W.Frag} {mg : Str → Option Value} {base : Heap}
def spNumIn : Sp := fun vs H Q _ => ∃ z, vs = [.str z] ∧ z.length ≤ 600 ∧ ((bad z = true ∧ ∀ H', Ext [] H H' → Q .non H') ∨ (bad z = false ∧ ∃ n, PySem.intText? z = some n ∧ ∀ H', Ext [] H H' → Q (.int n) H'))
theorem sc_number_in : FnScope ["word", "digits", "sign"] ["word"] (defScope s74) := ⟨rfl, rfl, rfl, by decide +kernel, rfl, by decide +kernel, by decide +kernel⟩
theorem fn_number_in (T : Tx K mg) : FnR P w K mg base CX0 1 (d_number_in.pl.ad K) spNumIn := by
  refine fnR_of (N := ["word", "digits", "sign"]) (ps := ["word"]) (fun_of T md_number_in rfl) sc_number_in (fun _ _ _ _ _ _ us hl => match us, hl with | [_], _ => rfl) (fun _ _ _ _ ⟨_, e, _⟩ => by rw [e]; rfl) fun cdv A outer s H vs Q E hr hsp => ?_
  obtain ⟨z, rfl, hl, q⟩ := hsp
  refine ⟨_, (pss_cons (ps_set (i := 1) sc_number_in.nd rfl (Or.inl rfl) (pe_ifExp (pt_cmpR op_eq (pe_slice sl_str (pv 0) po_none (po_some pe_int)) pe_str (nomark _)) (pe_slice sl_str (pv 0) (po_some pe_int) po_none) (pv 0)))
  (pss_cons (ps_if (PW.pt (pw_or (pt_cmpR op_eq (pv 1) pe_str (nomark _)) (pw_or (pt_not (pt_val (pe_callB (cl_all (K := K) rfl rfl) (by rfl) (T.free "all" (by decide +kernel)) (by decide +kernel) (pa_cons (pe_lc (own := [("sign", 2)]) (g := gName 2) (tt := tYes) rfl sc_number_in.nd (pi_str (pv 1)) (blkOk_by (N := ["word", "digits", "sign"]) (sc := defScope s74) (by decide +kernel)) (fun _ _ _ _ _ => (pg_name (i := 2) sc_number_in.nd rfl (Or.inl rfl))) (fun _ _ _ _ _ => pts_nil) (fun _ _ _ _ _ => (pe_cmpR opSign (pv 2) (pe_gs (by rfl) (T.str "DIGITS" "0123456789" (by decide +kernel))) (by rfl)))) pa_nil)))) (pw_or1 (PW.pt (pw_and (pt_cmpR op_eq (pe_ix ix_str (pv 1) pe_int (fun _ _ => rfl)) pe_str (nomark _)) (pw_and1 (pt_cmpR op_ne (pv 0) pe_str (nomark _)))))))))
  (pss_one (ps_ret pe_non))
  pss_nil)
  (pss_one (ps_ret (pe_callTy cl_intS (by rfl) (T.free "int" (by decide +kernel)) (by decide +kernel) (pa_cons (pv 0) pa_nil)))))), ?_⟩
  walk_at "go"
  refine r_slS (by omega) ?_
  walk_at "go"
  have hdl : (dg z).length ≤ 600 := by
    unfold dg
    split
    · exact Nat.le_trans (cutS_length _ _ _) hl
    · exact hl
  apply r_ifE2 (.str (dg z))
  rotate_left
  · intro hp hq
    walk_at "go"
    refine r_slS (by omega) ?_
    rw [show dg z = cutS z (some 1) none from if_pos (strV_iff.mp hp)] at hq
    exact hq
  · intro hp hq
    rw [show dg z = z from if_neg (fun h => hp (strV_iff.mpr h))] at hq
    exact ⟨_, rfl, hq⟩
  have nope : bad z = true → ∀ H', Ext [] H H' → Q .non H' := fun hb H' e => by
    rcases q with ⟨_, q⟩ | ⟨h, _⟩
    · exact q H' e
    · rw [hb] at h
      cases h
  have yep : bad z = false → ∃ n, PySem.intText? z = some n ∧ ∀ H', Ext [] H H' → Q (.int n) H' := fun hb => by
    rcases q with ⟨h, _⟩ | ⟨_, q⟩
    · rw [hb] at h
      cases h
    · exact q
  clear q
  walk_at "go"
  apply r_if2
  · intro hd
    walk_at "go"
    exact nope (by unfold bad; rw [decT (strV_iff.mp hd)]; rfl) _ (by walk_at "ex")
  · intro hd
    have hd' : ¬ dg z = "" := fun h => hd (strV_iff.mpr h)
    walk_at "go"
    refine ⟨dg z, rfl, ?_⟩
    refine r_kLc walk_str [] (fun i acc => acc = ((dg z).cps.toList.take i).map fun c => V.bl (dig c)) rfl (fun _ _ => trivial) ?_ ?_
    · rintro D i x H1 H2 acc hi nw e hD rfl ⟨rfl, c, hc, rfl⟩
      rw [← Array.getElem?_toList] at hc
      walk_at "go"
      refine ⟨rfl, ?_⟩
      walk_at "go"
      refine r_kAp hD e nw ?_ ?_
      · have : (dg z).cps.size = (dg z).length := rfl
        rw [List.length_map]
        have := List.length_take_le i (dg z).cps.toList
        omega
      · rw [List.take_succ, hc]
        simp [dig]
    · rintro D H2 acc nw e hD rfl
      walk_at "go"
      rw [List.take_of_length_le (by simp), show (fun c => V.bl (dig c)) = V.bl ∘ dig from rfl, ← List.map_map] at hD
      refine r_all hD ?_
      walk_at "go"
      rw [List.all_map, show (id ∘ dig) = dig from rfl]
      cases hall : (dg z).cps.toList.all dig with
      | false =>
        walk_at "go"
        exact nope (by unfold bad; rw [hall]; simp) _ (by walk_at "ex")
      | true =>
        walk_at "go"
        have hne : (dg z).cps.toList ≠ [] := fun h => hd' (Str.ext' (by
          have := congrArg List.toArray h
          rw [Array.toArray_toList] at this
          rw [this]
          rfl))
        obtain ⟨c, r, hcr⟩ := List.exists_cons_of_ne_nil hne
        refine r_ixStr (c := c) (by omega) (atI_nat (j := 0) (by rw [hcr]; rfl)) ?_
        walk_at "go"
        have hc48 : (V.str ⟨#[c]⟩ = V.str (Str.ofString "0")) ↔ c = 48 := by
          rw [strV_iff]
          constructor
          · intro h
            have := congrArg (fun s : Str => s.cps.toList) h
            have e0 : (Str.ofString "0").cps.toList = [48] := by decide +kernel
            rw [e0] at this
            simpa using this
          · rintro rfl
            exact Str.ext' (by decide +kernel)
        have hnd : decide (dg z = "") = false := decide_eq_false hd'
        have hbad : bad z = (decide (c = 48) && !decide (z = "0")) := by
          unfold bad
          rw [hall, hnd, hcr]
          simp
        have fin : bad z = false → rIntS [.str z] H2 Q := fun hb => by
          obtain ⟨n, h1, h2⟩ := yep hb
          exact ⟨z, n, rfl, h1, by omega, h2 _ (by walk_at "ex")⟩
        apply r_if2
        · intro h48
          walk_at "go"
          apply r_ifN2
          · intro hz
            walk_at "go"
            refine nope ?_ _ (by walk_at "ex")
            rw [hbad, decT (hc48.mp h48), decide_eq_false (fun h => hz (strV_iff.mpr h))]
            rfl
          · intro hz
            walk_at "go"
            refine fin ?_
            rw [hbad, decT (strV_iff.mp hz)]
            simp
        · intro h48
          walk_at "go"
          refine fin ?_
          rw [hbad, decide_eq_false (fun h => h48 (hc48.mpr h))]
          rfl
end
/-! ### a line's words -/
def WV (z : Str) (v : V) : Prop := (bad z = false ∧ ∃ n, PySem.intText? z = some n ∧ v = .int n) ∨ (bad z = true ∧ OkS z ∧ v = .str z)
theorem WV.ok {z : Str} {v : V} (h : WV z v) : OkV v := by
  rcases h with ⟨_, n, _, rfl⟩ | ⟨_, h, rfl⟩
  · exact .inl ⟨n, rfl⟩
  · exact .inr ⟨z, rfl, h⟩
def vD : V → PyData
  | .int i => .int i
  | .str z => .str z
  | .bl b => .bool b
  | _ => .none
theorem dp_v {K : PySem.W.Frag} {H : Hp} {v : V} (h : OkV v) : Dp K H v (vD v) := by
  rcases h with ⟨i, rfl⟩ | ⟨z, rfl, _⟩
  · exact .int i
  · exact .str z
theorem dp_vs {K : PySem.W.Frag} {H : Hp} : ∀ {xs : List V}, (∀ v ∈ xs, OkV v) → DpAll K H xs (xs.map vD)
  | [], _ => .nil
  | _ :: _, h => .cons (dp_v (h _ List.mem_cons_self)) (dp_vs fun v hv => h v (List.mem_cons_of_mem _ hv))
theorem lay_v {v : V} (h : OkV v) : (vD v).canLay0 = true ∧ (vD v).depth = 0 := by
  rcases h with ⟨i, rfl⟩ | ⟨z, rfl, _, _, h⟩
  · exact ⟨rfl, rfl⟩
  · refine ⟨?_, rfl⟩
    show PyData.strOk z = true
    unfold PyData.strOk
    rw [← Array.all_toList, List.all_eq_true]
    intro c hc
    have := h c hc
    exact decide_eq_true (by omega)
theorem lay_vs : ∀ {xs : List V}, (∀ v ∈ xs, OkV v) → PyData.canLayAll0 (xs.map vD) = true ∧ PyData.depthAll (xs.map vD) = 0
  | [], _ => ⟨rfl, rfl⟩
  | v :: r, h => by
    obtain ⟨a1, a2⟩ := lay_v (h v List.mem_cons_self)
    obtain ⟨b1, b2⟩ := lay_vs (xs := r) fun u hu => h u (List.mem_cons_of_mem _ hu)
    constructor
    · rw [List.map_cons, PyData.canLayAll0, a1, b1]
      rfl
    · rw [List.map_cons, PyData.depthAll, a2, b2]
      rfl
theorem shaped_vs {xs : List V} (h : ∀ v ∈ xs, OkV v) : SeqAt.shaped (.list (xs.map vD)) = true := by
  obtain ⟨b1, b2⟩ := lay_vs h
  simp [SeqAt.shaped, PyData.canLay0, PyData.depth, b1, b2]
theorem no_non : ∀ {xs : List V}, (∀ v ∈ xs, OkV v) → inV .non xs = false
  | [], _ => rfl
  | v :: r, h => by
    show (eqV v .non || inV .non r) = false
    rw [no_non fun u hu => h u (List.mem_cons_of_mem _ hu)]
    rcases h v List.mem_cons_self with ⟨i, rfl⟩ | ⟨z, rfl, _⟩ <;> rfl
theorem flat_vs : ∀ {xs : List V}, (∀ v ∈ xs, OkV v) → xs.all flatV = true
  | [], _ => rfl
  | v :: r, h => by
    rw [List.all_cons, flat_vs fun u hu => h u (List.mem_cons_of_mem _ hu)]
    rcases h v List.mem_cons_self with ⟨i, rfl⟩ | ⟨z, rfl, _⟩ <;> rfl
theorem mapS {ws : List Str} {i : Nat} {x : V} (h : (ws.map V.str)[i]? = some x) : ∃ z, ws[i]? = some z ∧ x = .str z := by
  rw [List.getElem?_map] at h
  cases e : ws[i]? with
  | none => rw [e] at h; cases h
  | some z => rw [e] at h; exact ⟨z, rfl, (Option.some.inj h).symm⟩
theorem r_iftt_ff {A B : Prop} (h : B) : if (if false = true then true else false) = true then A else B := by simpa using h
section
variable {P : Program} {w : World} {K : PySem.W.Frag} {mg : Str → Option Value} {base : Heap}
def spValIn : Sp := fun vs H Q _ => ∃ z v, vs = [.str z] ∧ z.length ≤ 600 ∧ WV z v ∧ ∀ H', Ext [] H H' → Q v H'
theorem sc_value_in : FnScope ["word", "number"] ["word"] (defScope s75) := ⟨rfl, rfl, rfl, by decide +kernel, rfl, by decide +kernel, by decide +kernel⟩
theorem fn_value_in (T : Tx K mg) : FnR P w K mg base CX0 3 (d_value_in.pl.ad K) spValIn := by
  refine fnR_of (N := ["word", "number"]) (ps := ["word"]) (fun_of T md_value_in rfl) sc_value_in (fun _ _ _ _ _ _ us hl => match us, hl with | [_], _ => rfl) (fun _ _ _ _ ⟨_, _, e, _⟩ => by rw [e]; rfl) fun cdv A outer s H vs Q E hr hsp => ?_
  obtain ⟨z, v, rfl, hl, hwv, q⟩ := hsp
  refine ⟨_, (pss_cons (ps_set (i := 1) sc_value_in.nd rfl (Or.inl rfl) (kc_call (fn_number_in (K := K) (mg := mg) T) hr (by rfl) (T.glo "number_in" (by decide +kernel)) (T.def_ _ md_number_in).kp (pa_cons (pv 0) pa_nil)))
  (pss_cons (ps_if (pt_cmpR opNotN (pv 1) pe_non (nomark _))
  (pss_one (ps_ret (pv 1)))
  pss_nil)
  (pss_one (ps_ret (pe_ifExp (pt_val (kc_call (fn_is_value (K := K) (mg := mg) T) hr (by rfl) (T.glo "is_value" (by decide +kernel)) (T.def_ _ md_is_value).kp (pa_cons (pv 0) pa_nil))) (pv 0) pe_non))))), ?_⟩
  walk_at "go"
  refine ⟨z, rfl, hl, ?_⟩
  rcases hwv with ⟨hb, n, hn, rfl⟩ | ⟨hb, hs, rfl⟩
  · refine .inr ⟨hb, n, hn, fun H1 e1 => ?_⟩
    walk_at "go"
    exact q _ e1
  · refine .inl ⟨hb, fun H1 e1 => ?_⟩
    walk_at "go"
    refine ⟨.str z, rfl, .inr ⟨z, rfl, hs⟩, fun H2 e2 => ?_⟩
    walk_at "go"
    exact q _ (by walk_at "ex")
def spValsIn : Sp := fun vs H Q _ => ∃ a ws vals, vs = [.ref a] ∧ H a = some (.lst (ws.map V.str)) ∧ ws ≠ [] ∧ ws.length ≤ 20 ∧ (∀ z ∈ ws, 1 ≤ z.length ∧ z.length ≤ 100) ∧ Paired WV ws vals ∧
  ∀ H' p, Ext [] H H' → H' p = some (.tup vals) → Q (.ref p) H'
theorem sc_values_in : FnScope ["words", "values", "word"] ["words"] (defScope s85) := ⟨rfl, rfl, rfl, by decide +kernel, rfl, by decide +kernel, by decide +kernel⟩
theorem fn_values_in (T : Tx K mg) : FnR P w K mg base CX0 4 (d_values_in.pl.ad K) spValsIn := by
  refine fnR_of (N := ["words", "values", "word"]) (ps := ["words"]) (fun_of T md_values_in rfl) sc_values_in (fun _ _ _ _ _ _ us hl => match us, hl with | [_], _ => rfl) (fun _ _ _ _ ⟨_, _, _, e, _⟩ => by rw [e]; rfl) fun cdv A outer s H vs Q E hr hsp => ?_
  obtain ⟨a, ws, vals, rfl, ha, hne, hwl, hzl, hpr, q⟩ := hsp
  refine ⟨_, (pss_cons (ps_setLc (i := 1) (own := [("word", 2)]) (g := gName 2) (tt := tYes) rfl sc_values_in.nd rfl rfl (sw_true rfl rfl rfl (by decide +kernel)) (ki_list (K := K) rfl (pv 0)) (blkOk_by (N := ["words", "values", "word"]) (sc := defScope s85) (by decide +kernel)) (fun _ _ _ _ _ => (pg_name (i := 2) sc_values_in.nd rfl (Or.inl rfl))) (fun _ _ _ _ _ => pts_nil) (fun _ _ _ _ _ => (kc_call (fn_value_in (K := K) (mg := mg) T) hr (by rfl) (T.glo "value_in" (by decide +kernel)) (T.def_ _ md_value_in).kp (pa_cons (pv 2) pa_nil))))
  (pss_cons (ps_if (PW.pt (pw_or (pt_cmpR (opEqD (K := K) rfl hr.units) (pv 1) (pe_lst pa_nil) (nomark _)) (pw_or (pt_cmpR (opIn (K := K) rfl) pe_non (pv 1) (by first | rfl | exact nomark _)) (pw_or1 (pt_cmpR op_gt (pe_callB (cl_max (K := K) rfl rfl) (by rfl) (T.free "max" (by decide +kernel)) (by decide +kernel) (pa_cons (pe_lc (own := [("word", 2)]) (g := gName 2) (tt := tYes) rfl sc_values_in.nd (ki_list (K := K) rfl (pv 0)) (blkOk_by (N := ["words", "values", "word"]) (sc := defScope s85) (by decide +kernel)) (fun _ _ _ _ _ => (pg_name (i := 2) sc_values_in.nd rfl (Or.inl rfl))) (fun _ _ _ _ _ => pts_nil) (fun _ _ _ _ _ => (pe_callB cl_lenS (by rfl) (T.free "len" (by decide +kernel)) (by decide +kernel) (pa_cons (pv 2) pa_nil)))) pa_nil)) (pe_op op_add (pe_gi (by rfl) (T.int "MOST_OF_VALUE" 700 (by decide +kernel))) pe_int) (nomark _))))))
  (pss_one ps_never)
  pss_nil)
  (pss_cons (ps_if (pt_cmpR (opNeD (K := K) rfl hr.units) (pe_lc (own := [("word", 2)]) (g := gName 2) rfl sc_values_in.nd (ki_list (K := K) rfl (pv 0)) (blkOk_by (N := ["words", "values", "word"]) (sc := defScope s85) (by decide +kernel)) (fun _ _ _ _ _ => (pg_name (i := 2) sc_values_in.nd rfl (Or.inl rfl))) (fun _ _ _ _ _ => (pts_one (PW.pt (pw_and (pt_cmpR op_ne (pe_ix ix_str (pv 2) pe_int (fun _ _ => rfl)) pe_str (nomark _)) (pw_and1 (pt_cmpR op_gt (pe_callB cl_lenS (by rfl) (T.free "len" (by decide +kernel)) (by decide +kernel) (pa_cons (pv 2) pa_nil)) (pe_gi (by rfl) (T.int "MOST_OF_VALUE" 700 (by decide +kernel))) (nomark _))))))) (fun _ _ _ _ _ => (pv 2))) (pe_lst pa_nil) (nomark _))
  (pss_one ps_never)
  pss_nil)
  (pss_one (ps_ret (pe_callTy (cl_tuple (K := K) rfl) (by rfl) (T.free "tuple" (by decide +kernel)) (by decide +kernel) (pa_cons (pv 1) pa_nil))))))), ?_⟩
  walk_at "go"
  refine ⟨a, rfl, ⟨_, SqL.of ha⟩, ?_⟩
  refine r_kLc (walk_list (xs := ws.map V.str)) [] (fun i acc => acc = vals.take i) rfl ?_ ?_ ?_
  · intro H2 e
    refine SqL.of ?_
    walk_at "hp"
  · rintro D i x H1 H2 acc hi nw e hD rfl ⟨rfl, hx⟩
    obtain ⟨z, hz, rfl⟩ := mapS hx
    obtain ⟨v, hv, hwv⟩ := Paired.at_ hpr hz
    walk_at "go"
    refine ⟨rfl, ?_⟩
    walk_at "go"
    have := hzl z (List.mem_of_getElem? hz)
    refine ⟨z, v, rfl, by omega, hwv, fun H3 e3 => ?_⟩
    refine r_kAp (by walk_at "hp") (by walk_at "ex") nw ?_ ?_
    · have := List.length_take_le i vals
      have := Paired.len hpr
      have := List.length_take_le' i vals
      omega
    · rw [List.take_succ, hv]
      rfl
  · rintro D H2 acc nw e hD rfl
    have hlen := Paired.len hpr
    rw [List.take_of_length_le (by rw [List.length_map]; omega)] at hD
    have hov : ∀ v ∈ vals, OkV v := fun v hv => by
      obtain ⟨i, hi⟩ := List.mem_iff_getElem?.mp hv
      have hil : i < ws.length := by
        have := (List.getElem?_eq_some_iff.mp hi).1
        omega
      obtain ⟨v', hv', hw'⟩ := Paired.at_ hpr (List.getElem?_eq_getElem hil)
      rw [hi] at hv'
      cases hv'
      exact hw'.ok
    walk_at "go"
    rename_i p1 H3 np1 e3 h3
    have hvne : vals ≠ [] := fun h => hne (List.eq_nil_of_length_eq_zero (by rw [hlen, h]; rfl))
    have hev : PyData.eqv (.list (vals.map vD)) (.list []) = false := by
      cases vals with
      | nil => exact absurd rfl hvne
      | cons n r => rfl
    refine ⟨_, _, .lst (SqL.of (e3.ge _ _ List.not_mem_nil hD)) (dp_vs hov), .lst (SqL.of h3) .nil, shaped_vs hov, rfl, ?_⟩
    rw [hev]
    walk_at "go"
    refine ⟨D, vals, rfl, .inl (SqL.of (by walk_at "hp")), rfl, flat_vs hov, ?_⟩
    rw [no_non hov]
    walk_at "go"
    refine r_iftt_ff ?_
    walk_at "go"
    refine ⟨a, rfl, ⟨_, SqL.of (by walk_at "hp")⟩, ?_⟩
    refine r_kLc (walk_list (xs := ws.map V.str)) [] (fun i acc => acc = ((ws.take i).map fun z => (z.length : Int)).map V.int) rfl ?_ ?_ ?_
    · intro H4 e4
      refine SqL.of ?_
      walk_at "hp"
    · rintro D2 i x H4 H5 acc hi nw2 e4 hD2 rfl ⟨rfl, hx⟩
      obtain ⟨z, hz, rfl⟩ := mapS hx
      have := hzl z (List.mem_of_getElem? hz)
      walk_at "go"
      refine ⟨rfl, ?_⟩
      walk_at "go"
      refine r_lenStr (by omega) ?_
      refine r_kAp hD2 e4 nw2 (by simp; omega) ?_
      rw [List.take_succ, hz]
      simp
    · rintro D2 H4 acc nw2 e4 hD2 rfl
      rw [List.take_of_length_le (by simp)] at hD2
      walk_at "go"
      refine ⟨D2, _, rfl, SqL.of hD2, by rw [List.length_map]; exact List.length_pos_iff.mpr hne, fun m hm1 _ => ?_⟩
      obtain ⟨z, hz, rfl⟩ := List.mem_map.mp hm1
      have := hzl z hz
      walk_at "go"
      apply r_ifF
      · omega
      walk_at "go"
      refine ⟨a, rfl, ⟨_, SqL.of (by walk_at "hp")⟩, ?_⟩
      refine r_kLc (walk_list (xs := ws.map V.str)) [] (fun i acc => acc = []) rfl ?_ ?_ ?_
      · intro H5 e5
        refine SqL.of ?_
        walk_at "hp"
      · rintro D3 i x H5 H6 acc hi nw3 e5 hD3 rfl ⟨rfl, hx⟩
        obtain ⟨z, hz, rfl⟩ := mapS hx
        have hzz := hzl z (List.mem_of_getElem? hz)
        have hne2 : z.cps.toList ≠ [] := fun h => by
          have : z.length = z.cps.toList.length := by rw [Array.length_toList]; rfl
          rw [h] at this
          simp at this
          omega
        obtain ⟨c, r, hcr⟩ := List.exists_cons_of_ne_nil hne2
        walk_at "go"
        refine ⟨rfl, ?_⟩
        walk_at "go"
        refine r_ixStr (c := c) (by omega) (atI_nat (j := 0) (by rw [hcr]; rfl)) ?_
        walk_at "go"
        apply r_ifN2
        · intro hc
          walk_at "go"
          refine r_lenStr (by omega) ?_
          walk_at "go"
          refine r_kIf ?_
          apply r_ifF
          · omega
          exact r_LcI hD3 e5 rfl
        · intro hc
          walk_at "go"
          exact r_LcI hD3 e5 rfl
      · rintro D3 H5 acc nw3 e5 hD3 rfl
        walk_at "go"
        rename_i p6 H6 np6 e6 h6
        refine r_neSame (d := .list []) (.lst (SqL.of (e6.ge _ _ List.not_mem_nil hD3)) .nil) (.lst (SqL.of h6) .nil) rfl ?_
        walk_at "go"
        exact q _ _ (by walk_at "ex") (by assumption)
end
/-! ### the classes as they stand -/
theorem PoOk.row : PoOk poRow := ⟨fun s now fnd s' r h => by
  obtain ⟨rfl, _⟩ := h
  exact ⟨rfl, rfl, rfl, rfl, by omega, by omega⟩⟩
theorem PoOk.losing {po : Po} (h : PoOk po) : PoOk (poLosing po) := ⟨fun s now fnd s' r k => by
  rcases k with ⟨_, _, rfl, _⟩ | ⟨_, k⟩
  · exact ⟨rfl, rfl, rfl, rfl, by show (s.gone ++ [now]).length ≤ _; simp, by show s.later.length ≤ _; omega⟩
  · exact h.ok _ _ _ _ _ k⟩
theorem PoOk.counting {po : Po} (h : PoOk po) : PoOk (poCounting po) := ⟨fun s now fnd s' r k => by
  have e : (tick1 s now fnd).ins = s.ins ∧ (tick1 s now fnd).outs = s.outs ∧ (tick1 s now fnd).due = s.due ∧ (tick1 s now fnd).cuts = s.cuts ∧ (tick1 s now fnd).gone = s.gone ∧ (tick1 s now fnd).later = s.later := by
    unfold tick1
    split <;> exact ⟨rfl, rfl, rfl, rfl, rfl, rfl⟩
  obtain ⟨e1, e2, e3, e4, e5, e6⟩ := e
  have := h.ok _ _ _ _ _ k
  rw [e1, e2, e3, e4, e5, e6] at this
  exact this⟩
theorem PoOk.link {po : Po} (h : PoOk po) (hl : ∀ s now fnd s' r, po s now fnd s' r → s'.later = s.later) : PoOk (poLink po) := ⟨fun s now fnd s' r k => by
  obtain ⟨s1, r1, lt, k1, rfl, k3⟩ := k
  obtain ⟨a1, a2, a3, a4, a5, a6⟩ := h.ok _ _ _ _ _ k1
  have := hl _ _ _ _ _ k1
  exact ⟨a1, a2, a3, a4, a5, by show lt.length ≤ _; rw [← this]; omega⟩⟩
theorem poLosing_later : ∀ s now fnd s' r, poLosing poRow s now fnd s' r → s'.later = s.later := fun s now fnd s' r k => by
  rcases k with ⟨_, _, rfl, _⟩ | ⟨_, rfl, _⟩ <;> rfl
section
variable {P : Program} {w : World} {K : PySem.W.Frag} {mg : Str → Option Value} {base : Heap}
theorem FnR.lift {j k : Nat} {f : Addr} {sp : Sp} (F : FnR P w K mg base CX0 j f sp) (h : j ≤ k) : FnR P w K mg base CX0 k f sp := fun A outer s H us vs Q E hr e0 r q => F A outer s H us vs Q E (hr.mono h) e0 r q
theorem rcRow (T : Tx K mg) : RC K (ga K "Row") := ⟨T.cls "Row" (by decide +kernel), T.no "Row" "stands" (by decide +kernel), _, _, _, _, _, T.pr "Row" "tick" (by decide +kernel), fun_of T md_p_Row_tick rfl⟩
theorem rcLosing (T : Tx K mg) : RC K (ga K "Losing") := ⟨T.cls "Losing" (by decide +kernel), T.no "Losing" "stands" (by decide +kernel), _, _, _, _, _, T.pr "Losing" "tick" (by decide +kernel), fun_of T md_p_Losing_tick rfl⟩
theorem rcCounting (T : Tx K mg) : RC K (ga K "Counting") := ⟨T.cls "Counting" (by decide +kernel), T.no "Counting" "stands" (by decide +kernel), _, _, _, _, _, T.pr "Counting" "tick" (by decide +kernel), fun_of T md_p_Counting_tick rfl⟩
theorem rcLC (T : Tx K mg) : RC K (ga K "LosingCounting") := ⟨T.cls "LosingCounting" (by decide +kernel), T.no "LosingCounting" "stands" (by decide +kernel), _, _, _, _, _, T.pr "LosingCounting" "tick" (by decide +kernel), fun_of T md_p_LosingCounting_tick rfl⟩
theorem rcLink (T : Tx K mg) : RC K (ga K "Link") := ⟨T.cls "Link" (by decide +kernel), T.no "Link" "stands" (by decide +kernel), _, _, _, _, _, T.pr "Link" "tick" (by decide +kernel), fun_of T md_p_Link_tick rfl⟩
theorem put_Row (T : Tx K mg) : FnR P w K mg base CX0 3 (ma K (ga K "Row") "put_out") (spPut K (ga K "Row") poRow) := FnR.lift (fn_Row_put T (fun_of T md_Row_put_out rfl)) (by decide)
theorem put_Losing (TPP : TP P) (T : Tx K mg) : FnR P w K mg base CX0 3 (ma K (ga K "Losing") "put_out") (spPut K (ga K "Losing") (poLosing poRow)) := by
  obtain ⟨cdA, cc, fd, FS⟩ := funS_of T md_Losing_put_out rfl
  exact FnR.lift (fn_Losing_put TPP T FS (rcLosing T).cl (rcLosing T).cl (T.su "Losing" "Losing" "Row" (by decide +kernel)) (fn_Row_put T (fun_of T md_Row_put_out rfl))) (by decide)
theorem put_Counting (TPP : TP P) (T : Tx K mg) : FnR P w K mg base CX0 3 (ma K (ga K "Counting") "put_out") (spPut K (ga K "Counting") (poCounting poRow)) := by
  obtain ⟨cdA, cc, fd, FS⟩ := funS_of T md_Counting_put_out rfl
  exact FnR.lift (fn_Counting_put TPP T FS (rcCounting T).cl (rcCounting T).cl (T.su "Counting" "Counting" "Row" (by decide +kernel)) (fn_Row_put T (fun_of T md_Row_put_out rfl))) (by decide)
theorem put_LC (TPP : TP P) (T : Tx K mg) : FnR P w K mg base CX0 3 (ma K (ga K "LosingCounting") "put_out") (spPut K (ga K "LosingCounting") (poCounting (poLosing poRow))) := by
  obtain ⟨cdA, cc, fd, FS⟩ := funS_of T md_LosingCounting_put_out rfl
  obtain ⟨cdA2, cc2, fd2, FS2⟩ := funS_of T md_Losing_put_out rfl
  exact fn_Counting_put TPP T FS (rcLC T).cl (rcCounting T).cl (T.su "LosingCounting" "Counting" "Losing" (by decide +kernel))
    (fn_Losing_put TPP T FS2 (rcLC T).cl (rcLosing T).cl (T.su "LosingCounting" "Losing" "Row" (by decide +kernel)) (fn_Row_put T (fun_of T md_Row_put_out rfl)))
theorem put_Link (TPP : TP P) (T : Tx K mg) : FnR P w K mg base CX0 3 (ma K (ga K "Link") "put_out") (spPut K (ga K "Link") (poLink (poLosing poRow))) := by
  obtain ⟨cdA, cc, fd, FS⟩ := funS_of T md_Link_put_out rfl
  obtain ⟨cdA2, cc2, fd2, FS2⟩ := funS_of T md_Losing_put_out rfl
  exact fn_Link_put TPP T FS (rcLink T).cl (rcLink T).cl (T.su "Link" "Link" "Losing" (by decide +kernel))
    (fn_Losing_put TPP T FS2 (rcLink T).cl (rcLosing T).cl (T.su "Link" "Losing" "Row" (by decide +kernel)) (fn_Row_put T (fun_of T md_Row_put_out rfl))) poLosing_later
/-- push_all, class by class -/
theorem push_of (T : Tx K mg) {C : Addr} (r : RC K C) {po : Po} (hpo : PoOk po) {fp fs f : Addr} {x1 q1 x2 q2 : Str} {d1 d2 : FuncData} (mp : Meth K C "put_out" fp) (FP : FnR P w K mg base CX0 3 fp (spPut K C po)) (ms : Meth K C "step" fs) (F1 : Fun K x1 q1 s63_8 fs d1) (F2 : Fun K x2 q2 s63_10 f d2) :
    FnR P w K mg base CX0 5 f (spPush K C po) := fn_Row_push T F2 r.cl r.no hpo ms (fn_Row_step T F1 r.cl r.no mp FP fun s now fnd s' r' h => (hpo.ok s now fnd s' r' h).2.1)
theorem push_Row (T : Tx K mg) : FnR P w K mg base CX0 5 (ma K (ga K "Row") "push_all") (spPush K (ga K "Row") poRow) :=
  push_of T (rcRow T) PoOk.row (T.mt "Row" "put_out" (by decide +kernel)) (put_Row T) (T.mt "Row" "step" (by decide +kernel)) (fun_of T md_Row_step rfl) (fun_of T md_Row_push_all rfl)
theorem push_Losing (TPP : TP P) (T : Tx K mg) : FnR P w K mg base CX0 5 (ma K (ga K "Losing") "push_all") (spPush K (ga K "Losing") (poLosing poRow)) :=
  push_of T (rcLosing T) PoOk.row.losing (T.mt "Losing" "put_out" (by decide +kernel)) (put_Losing TPP T) (T.mt "Losing" "step" (by decide +kernel)) (fun_of T md_Losing_step rfl) (fun_of T md_Losing_push_all rfl)
theorem push_Counting (TPP : TP P) (T : Tx K mg) : FnR P w K mg base CX0 5 (ma K (ga K "Counting") "push_all") (spPush K (ga K "Counting") (poCounting poRow)) :=
  push_of T (rcCounting T) PoOk.row.counting (T.mt "Counting" "put_out" (by decide +kernel)) (put_Counting TPP T) (T.mt "Counting" "step" (by decide +kernel)) (fun_of T md_Counting_step rfl) (fun_of T md_Counting_push_all rfl)
theorem push_LC (TPP : TP P) (T : Tx K mg) : FnR P w K mg base CX0 5 (ma K (ga K "LosingCounting") "push_all") (spPush K (ga K "LosingCounting") (poCounting (poLosing poRow))) :=
  push_of T (rcLC T) PoOk.row.losing.counting (T.mt "LosingCounting" "put_out" (by decide +kernel)) (put_LC TPP T) (T.mt "LosingCounting" "step" (by decide +kernel)) (fun_of T md_LosingCounting_step rfl) (fun_of T md_LosingCounting_push_all rfl)
theorem push_Link (TPP : TP P) (T : Tx K mg) : FnR P w K mg base CX0 5 (ma K (ga K "Link") "push_all") (spPush K (ga K "Link") (poLink (poLosing poRow))) :=
  push_of T (rcLink T) (PoOk.row.losing.link poLosing_later) (T.mt "Link" "put_out" (by decide +kernel)) (put_Link TPP T) (T.mt "Link" "step" (by decide +kernel)) (fun_of T md_Link_step rfl) (fun_of T md_Link_push_all rfl)
theorem fn_Losing_init (T : Tx K mg) : FnR P w K mg base CX0 5 (ma K (ga K "Losing") "__init__") (spRowI K (ga K "Losing")) := fn_Row_init T (fun_of T md_Losing___init__ rfl) (rcLosing T).cl (rcLosing T).no
theorem fn_Rowc_init (T : Tx K mg) : FnR P w K mg base CX0 5 (ma K (ga K "Row") "__init__") (spRowI K (ga K "Row")) := fn_Row_init T (fun_of T md_Row___init__ rfl) (rcRow T).cl (rcRow T).no
theorem fn_Counting_init (T : Tx K mg) : FnR P w K mg base CX0 5 (ma K (ga K "Counting") "__init__") (spRowI K (ga K "Counting")) := fn_Row_init T (fun_of T md_Counting___init__ rfl) (rcCounting T).cl (rcCounting T).no
theorem fn_LosingCounting_init (T : Tx K mg) : FnR P w K mg base CX0 5 (ma K (ga K "LosingCounting") "__init__") (spRowI K (ga K "LosingCounting")) := fn_Row_init T (fun_of T md_LosingCounting___init__ rfl) (rcLC T).cl (rcLC T).no
theorem fn_Link_init (T : Tx K mg) : FnR P w K mg base CX0 5 (ma K (ga K "Link") "__init__") (spRowI K (ga K "Link")) := fn_Row_init T (fun_of T md_Link___init__ rfl) (rcLink T).cl (rcLink T).no
theorem lose_Losing (T : Tx K mg) : FnR P w K mg base CX0 4 (ma K (ga K "Losing") "lose") (spLose K (ga K "Losing")) := fn_Losing_lose T (fun_of T md_Losing_lose rfl) (rcLosing T)
theorem lose_LC (T : Tx K mg) : FnR P w K mg base CX0 4 (ma K (ga K "LosingCounting") "lose") (spLose K (ga K "LosingCounting")) := fn_Losing_lose T (fun_of T md_LosingCounting_lose rfl) (rcLC T)
theorem lose_Link (T : Tx K mg) : FnR P w K mg base CX0 4 (ma K (ga K "Link") "lose") (spLose K (ga K "Link")) := fn_Losing_lose T (fun_of T md_Link_lose rfl) (rcLink T)
theorem deedsL (T : Tx K mg) : ∃ p g x q fd, PropOf K (ga K "Losing") "deeds" p g ∧ Fun K x q s63_6 g fd := ⟨_, _, _, _, _, T.pr "Losing" "deeds" (by decide +kernel), fun_of T md_p_Losing_deeds rfl⟩
theorem deedsLC (T : Tx K mg) : ∃ p g x q fd, PropOf K (ga K "LosingCounting") "deeds" p g ∧ Fun K x q s63_6 g fd := ⟨_, _, _, _, _, T.pr "LosingCounting" "deeds" (by decide +kernel), fun_of T md_p_LosingCounting_deeds rfl⟩
theorem deedsLk (T : Tx K mg) : ∃ p g x q fd, PropOf K (ga K "Link") "deeds" p g ∧ Fun K x q s63_6 g fd := ⟨_, _, _, _, _, T.pr "Link" "deeds" (by decide +kernel), fun_of T md_p_Link_deeds rfl⟩
theorem undo_Losing (T : Tx K mg) : FnR P w K mg base CX0 3 (ma K (ga K "Losing") "undo") (spUndo K (ga K "Losing")) := fn_Row_undo T (fun_of T md_Losing_undo rfl) (rcLosing T) (deedsL T)
theorem undo_LC (T : Tx K mg) : FnR P w K mg base CX0 3 (ma K (ga K "LosingCounting") "undo") (spUndo K (ga K "LosingCounting")) := fn_Row_undo T (fun_of T md_LosingCounting_undo rfl) (rcLC T) (deedsLC T)
theorem undo_Link (T : Tx K mg) : FnR P w K mg base CX0 3 (ma K (ga K "Link") "undo") (spUndo K (ga K "Link")) := fn_Row_undo T (fun_of T md_Link_undo rfl) (rcLink T) (deedsLk T)
theorem heldF (T : Tx K mg) : ∃ p g x q fd, PropOf K (ga K "Losing") "held" p g ∧ Fun K x q s63_5 g fd := ⟨_, _, _, _, _, T.pr "Losing" "held" (by decide +kernel), fun_of T md_p_Losing_held rfl⟩
theorem eq_Losing (T : Tx K mg) : FnR P w K mg base CX0 5 (ma K (ga K "Losing") "__eq__") (spEq K (ga K "Losing")) := fn_Row_eq T (fun_of T md_Losing___eq__ rfl) (rcLosing T) (heldF T)
theorem len_Losing (T : Tx K mg) : FnR P w K mg base CX0 1 (ma K (ga K "Losing") "__len__") (spRowLen K (ga K "Losing")) := fn_Row_len T (fun_of T md_Losing___len__ rfl) (rcLosing T).cl (rcLosing T).no
theorem item_Losing (T : Tx K mg) : FnR P w K mg base CX0 4 (ma K (ga K "Losing") "__getitem__") (spGetitem K (ga K "Losing")) := fn_Row_getitem T (fun_of T md_Losing___getitem__ rfl) (rcLosing T)
theorem item_Row (T : Tx K mg) : FnR P w K mg base CX0 4 (ma K (ga K "Row") "__getitem__") (spGetitem K (ga K "Row")) := fn_Row_getitem T (fun_of T md_Row___getitem__ rfl) (rcRow T)
end
/-! ### sessions -/
theorem kc_methS {X : Cx} {K : PySem.W.Frag} {j k : Nat} {C g : Addr} {m : Str} {sp : Sp} {o e : Expr} {ta te : TE} {p apos pos : Pos} (hK : X.K = K) (he : PE X o ta) (c : Cls X.K C) (b : BMeth X.K C m g) (F : FX X j g sp) (hr : Room k X.A) (h2 : PE X e te) (hjk : j ≤ k)
    (hbase : attributeBase o m X.env (eval o X.env) = eval o X.env := by rfl) : PE X (.Call (.Attribute o m apos) [.Starred e p] [] pos) (tMethS K C m g sp E0 ta te) := by
  subst hK
  exact pe_methS he c b F (hr.mono hjk) pass0 h2 hbase
theorem pe_alone {X : Cx} {x : Str} {pos : Pos} {K : PySem.W.Frag} {xs : List V} (hg : Gl X x) (h : ∃ a, X.mg x = some (.ref a) ∧ ∀ H : Hp, SqT K H a xs) (hd : (x == ("__debug__" : Str)) = false := by decide) :
    PE X (.Name x pos) (fun _ H Q => ∀ a, (∀ H : Hp, SqT K H a xs) → Q (.ref a) H) := by
  obtain ⟨a, h1, h2⟩ := h
  exact ⟨fun pins s σ H Q I q => (pe_glob (v := .ref a) hg h1 rfl hd).run pins s σ H Q I (q a h2)⟩
section
variable {P : Program} {w : World} {K : PySem.W.Frag} {mg : Str → Option Value} {base : Heap}
theorem po_table (T : Tx K mg) {X : Cx} (hK : X.K = K := by rfl) (hm : X.mg = mg := by rfl) : POk X 1 (ga K "Losing") "table" (spTable K (ga K "Losing")) := by
  subst hK hm
  exact ⟨(rcLosing T).cl, _, _, T.pr "Losing" "table" (by decide +kernel), fn_Row_table T (fun_of T md_p_Losing_table rfl) (rcLosing T).cl (rcLosing T).no⟩
def NumOk (digits : Int) (z : Str) (n : Int) : Prop := cutS z none (some 1) ≠ ("-" : Str) ∧ (z.length : Int) ≤ digits ∧ z.length ≤ 100 ∧ bad z = false ∧ PySem.intText? z = some n
def spNumsIn : Sp := fun vs H Q _ => ∃ a d ws ns, vs = [.ref a, .int d] ∧ H a = some (.lst (ws.map V.str)) ∧ ws ≠ [] ∧ ws.length ≤ 20 ∧ Paired (NumOk d) ws ns ∧ ∀ H' p, Ext [] H H' → H' p = some (.tup (ns.map V.int)) → Q (.ref p) H'
theorem sc_numbers_in : FnScope ["words", "digits", "numbers", "word"] ["words", "digits"] (defScope s84) := ⟨rfl, rfl, rfl, by decide +kernel, rfl, by decide +kernel, by decide +kernel⟩
theorem fn_numbers_in (T : Tx K mg) : FnR P w K mg base CX0 2 (d_numbers_in.pl.ad K) spNumsIn := by
  refine fnR_of (N := ["words", "digits", "numbers", "word"]) (ps := ["words", "digits"]) (fun_of T md_numbers_in rfl) sc_numbers_in (fun _ _ _ _ _ _ us hl => match us, hl with | [_, _], _ => rfl) (fun _ _ _ _ ⟨_, _, _, _, e, _⟩ => by rw [e]; rfl) fun cdv A outer s H vs Q E hr hsp => ?_
  obtain ⟨a, d, ws, ns, rfl, ha, hne, hwl, hpr, q⟩ := hsp
  refine ⟨_, (pss_cons (ps_setLc (i := 2) (own := [("word", 3)]) (g := gName 3) (tt := tYes) rfl sc_numbers_in.nd rfl rfl (sw_true rfl rfl rfl (by decide +kernel)) (ki_list (K := K) rfl (pv 0)) (blkOk_by (N := ["words", "digits", "numbers", "word"]) (sc := defScope s84) (by decide +kernel)) (fun _ _ _ _ _ => (pg_name (i := 3) sc_numbers_in.nd rfl (Or.inl rfl))) (fun _ _ _ _ _ => pts_nil) (fun _ _ _ _ _ => (pe_ifExp (PW.pt (pw_and (pt_cmpR op_ne (pe_slice sl_str (pv 3) po_none (po_some pe_int)) pe_str (nomark _)) (pw_and1 (pt_cmpR op_le (pe_callB cl_lenS (by rfl) (T.free "len" (by decide +kernel)) (by decide +kernel) (pa_cons (pv 3) pa_nil)) (pv 1) (nomark _))))) (kc_call (fn_number_in (K := K) (mg := mg) T) hr (by rfl) (T.glo "number_in" (by decide +kernel)) (T.def_ _ md_number_in).kp (pa_cons (pv 3) pa_nil)) pe_non)))
  (pss_cons (ps_if (PW.pt (pw_or (pt_cmpR (opEqD (K := K) rfl hr.units) (pv 2) (pe_lst pa_nil) (nomark _)) (pw_or1 (pt_cmpR (opIn (K := K) rfl) pe_non (pv 2) (by first | rfl | exact nomark _)))))
  (pss_one ps_never)
  pss_nil)
  (pss_one (ps_ret (pe_callTy (cl_tuple (K := K) rfl) (by rfl) (T.free "tuple" (by decide +kernel)) (by decide +kernel) (pa_cons (pv 2) pa_nil)))))), ?_⟩
  have hlen := Paired.len hpr
  walk_at "go"
  refine ⟨a, rfl, ⟨_, SqL.of ha⟩, ?_⟩
  refine r_kLc (walk_list (xs := ws.map V.str)) [] (fun i acc => acc = (ns.take i).map V.int) rfl ?_ ?_ ?_
  · intro H2 e
    refine SqL.of ?_
    walk_at "hp"
  · rintro D i x H1 H2 acc hi nw e hD rfl ⟨rfl, hx⟩
    obtain ⟨z, hz, rfl⟩ := mapS hx
    obtain ⟨n, hn, k1, k2, k3, k4, k5⟩ := Paired.at_ hpr hz
    walk_at "go"
    refine ⟨rfl, ?_⟩
    walk_at "go"
    refine r_slS (by omega) ?_
    walk_at "go"
    apply r_ifNT
    · exact fun h => k1 (strV_iff.mp h)
    walk_at "go"
    refine r_lenStr (by omega) ?_
    walk_at "go"
    apply r_ifT k2
    walk_at "go"
    refine ⟨z, rfl, by omega, .inr ⟨k4, n, k5, fun H3 e3 => ?_⟩⟩
    refine r_kAp (by walk_at "hp") (by walk_at "ex") nw ?_ ?_
    · rw [List.length_map]
      have := List.length_take_le' i ns
      omega
    · rw [List.take_succ, hn]
      simp
  · rintro D H2 acc nw e hD rfl
    rw [List.take_of_length_le (by rw [List.length_map]; omega)] at hD
    walk_at "go"
    rename_i p1 H3 np1 e3 h3
    have hvne : ns ≠ [] := fun h => hne (List.eq_nil_of_length_eq_zero (by rw [hlen, h]; rfl))
    have hev : PyData.eqv (.list (ns.map PyData.int)) (.list []) = false := by
      cases ns with
      | nil => exact absurd rfl hvne
      | cons n r => rfl
    refine ⟨_, _, .lst (SqL.of (e3.ge _ _ List.not_mem_nil hD)) dp_ints, .lst (SqL.of h3) .nil, PySem.W.ke_shaped_ints ns, rfl, ?_⟩
    rw [hev]
    walk_at "go"
    refine ⟨D, ns.map V.int, rfl, .inl (SqL.of (by walk_at "hp")), rfl, flat_ints, ?_⟩
    rw [no_non (xs := ns.map V.int) (fun v hv => by
      obtain ⟨i, _, rfl⟩ := List.mem_map.mp hv
      exact .inl ⟨i, rfl⟩)]
    walk_at "go"
    refine r_iftt_ff ?_
    walk_at "go"
    exact q _ _ (by walk_at "ex") (by assumption)
/-- a session that carries the row x -/
def spSessI (K : PySem.W.Frag) : Sp := fun vs H Q _ => ∃ s dx, vs = [.ref s] ∧ H s = some (.ins (ga K "Session") dx []) ∧ ∀ H' x, Ext [s] H H' → H' s = some (.ins (ga K "Session") dx [("carried", .ref x)]) → Q .non H'
theorem sc_Session_init : FnScope ["self"] ["self"] (defScope s87_0) := ⟨rfl, rfl, rfl, by decide +kernel, rfl, by decide +kernel, by decide +kernel⟩
theorem fn_Session_init (T : Tx K mg) : FnR P w K mg base CX0 7 (d_Session___init__.pl.ad K) (spSessI K) := by
  refine fnR_of (N := ["self"]) (ps := ["self"]) (fun_of T md_Session___init__ rfl) sc_Session_init (fun _ _ _ _ _ _ us hl => match us, hl with | [_], _ => rfl) (fun _ _ _ _ ⟨_, _, e, _⟩ => by rw [e]; rfl) fun cdv A outer s H vs Q E hr hsp => ?_
  obtain ⟨sx, dx, rfl, hx, q⟩ := hsp
  refine ⟨_, (pss_one (kp_sfld (K := K) rfl (pv 0) (kc_make (T.mkr "Losing" (by decide +kernel)) (fn_Losing_init (K := K) (mg := mg) T) hr (by rfl) (T.cgl "Losing" (by decide +kernel)) (pa_cons (pe_tup (pa_cons pe_int pa_nil)) pa_nil)))), ?_⟩
  walk_at "go"
  rename_i p1 H1 np1 e1 hp1 x1 dx1 H2 nx2 e2 hx2
  have ok0 : OkT [0] := ⟨by decide, by decide, by intro x hx; simp at hx; omega, by decide⟩
  have n1 : sx ≠ x1 := by walk_at "ne"
  refine ⟨x1, dx1, p1, [0], rfl, hx2, by walk_at "hp", ok0, fun H3 L A e3 hr nl na fa st => ⟨rfl, ?_⟩⟩
  walk_at "go"
  rename_i H4 e4 h4
  exact q _ _ (by walk_at "ex") h4
def AloneQ (K : PySem.W.Frag) (H : Hp) (L : Addr) (ys : List V) (s : SD) (word : Str) (Q : VK) : Prop :=
  (word = "tick" ∧ ∀ H', Ext [] H H' → Q (.str (toString (s.ins.length : Int))) H') ∨
  (word = "undo" ∧ ys ≠ [] ∧ ∀ H', Ext [L] H H' → H' L = some (.lst ys) → Q (.str "ok") H') ∨
  (word = "held" ∧ s.due = [] ∧ ∀ H', Ext [] H H' → Q (.str "none") H') ∨
  (word = "journal" ∧ s.outs.length = s.ins.length ∧ (∀ v ∈ s.ins, OkV v ∧ OkW v) ∧ (∀ v ∈ s.outs, OkW v) ∧ ∀ H', Ext [] H H' → Q (.str (if 0 < s.outs.length then journal s.ins s.outs else "none")) H')
def spAlone (K : PySem.W.Frag) : Sp := fun vs H Q _ => ∃ sx dx x dy L ys A tb s word, vs = [.ref sx, .str word] ∧ H sx = some (.ins (ga K "Session") dx [("carried", .ref x)]) ∧ RowAt H (ga K "Losing") x dy L (ys ++ [.ref A.a]) ∧ Stn K H A tb s ∧ s.ins.length ≤ 800 ∧ AloneQ K H L ys s word Q
theorem log_le {n : Nat} (h : n < 2 ^ 200) : n.log2 < 1920 := by
  by_cases h0 : n = 0
  · rw [h0]; decide
  · exact Nat.lt_of_lt_of_le ((Nat.log2_lt h0).mpr h) (by decide)
theorem str_ne {a b : Str} (h : ¬ a = b) : ¬ V.str a = V.str b := fun z => h (strV_iff.mp z)
theorem sc_say_alone : FnScope ["self", "word", "table", "pairs", "ticks", "value"] ["self", "word"] (defScope s87_2) := ⟨rfl, rfl, rfl, by decide +kernel, rfl, by decide +kernel, by decide +kernel⟩
theorem fn_say_alone (TPP : TP P) (T : Tx K mg) : FnR P w K mg base CX0 6 (d_Session_say_alone.pl.ad K) (spAlone K) := by
  refine fnR_of (N := ["self", "word", "table", "pairs", "ticks", "value"]) (ps := ["self", "word"]) (fun_of T md_Session_say_alone rfl) sc_say_alone (fun _ _ _ _ _ _ us hl => match us, hl with | [_, _], _ => rfl) (fun _ _ _ _ ⟨_, _, _, _, _, _, _, _, _, _, e, _⟩ => by rw [e]; rfl) fun cdv A outer s H vs Q E hr hsp => ?_
  obtain ⟨sx, dx, x, dy, L, ys, A0, tb, s0, word, rfl, hs, hrow, hst, hl, q⟩ := hsp
  have hrow0 := hrow
  obtain ⟨hx1, hx2⟩ := hrow
  refine ⟨_, (pss_cons (ps_set (i := 2) sc_say_alone.nd rfl (Or.inl rfl) (kc_prop (kc_fld (K := K) rfl (pv 0)) (po_table T) hr))
  (pss_cons (ps_if (pt_cmpR op_eq (pv 1) pe_str (nomark _))
  (pss_cons (ps_expr (kc_meth0 (kc_fld (K := K) rfl (pv 0)) ⟨(rcLosing T).cl, _, T.mt "Losing" "undo" (by decide +kernel), undo_Losing (K := K) (mg := mg) T⟩ hr))
  (pss_one (ps_ret pe_str)))
  pss_nil)
  (pss_cons (ps_if (pt_cmpR op_eq (pv 1) pe_str (nomark _))
  (pss_cons (ps_setLc (i := 3) (own := [("ticks", 4), ("value", 5)]) (tt := tYes) rfl sc_say_alone.nd rfl rfl (sw_true rfl rfl rfl (by decide +kernel)) (ki_tup (K := K) rfl (kc_prop (kc_fld (K := K) rfl (pv 0)) (po_heldL T (rcLosing T) rfl rfl (heldF T)) hr)) (blkOk_by (N := ["self", "word", "table", "pairs", "ticks", "value"]) (sc := defScope s87_2) (by decide +kernel)) (fun _ _ _ _ _ => (kg_tup (K := K) (n := 2) rfl rfl (pgs_cons (pg_name (i := 4) sc_say_alone.nd rfl (Or.inl rfl)) (pgs_cons (pg_name (i := 5) sc_say_alone.nd rfl (Or.inl rfl)) pgs_nil)))) (fun _ _ _ _ _ => pts_nil) (fun _ _ _ _ _ => (pe_joined (PJ.cons (pe_fmt (pv 4)) (PJ.cons pe_str (PJ.cons (pe_fmt (pv 5)) PJ.nil))))))
  (pss_one (ps_ret (pe_ifExp (pt_cmpR (opNeD (K := K) rfl hr.units) (pv 3) (pe_lst pa_nil) (nomark _)) (kc_join (K := K) rfl pe_str (pv 3)) pe_str))))
  pss_nil)
  (pss_cons (ps_if (pt_cmpR op_eq (pv 1) pe_str (nomark _))
  (pss_one (ps_ret (pe_callTy cl_str (by rfl) (T.free "str" (by decide +kernel)) (by decide +kernel) (pa_cons (kc_prop (kc_fld (K := K) rfl (pv 0)) (po_tick T (rcLosing T) rfl rfl) hr) pa_nil))))
  pss_nil)
  (pss_cons (ps_if (pt_cmpR op_eq (pv 1) pe_str (nomark _))
  (pss_one ps_never)
  pss_nil)
  (pss_cons (ps_if (pt_cmpR op_eq (pv 1) pe_str (nomark _))
  (pss_one (ps_ret (pe_ifExp (pt_cmpR op_gt (pe_callB (cr_lenO (T.sp "Losing" "__len__" (by decide +kernel)) (T.def_ _ md_Losing___len__).fn (len_Losing (K := K) (mg := mg) T) (hr.mono (by decide))) (by rfl) (T.free "len" (by decide +kernel)) (by decide +kernel) (pa_cons (kc_fld (K := K) rfl (pv 0)) pa_nil)) pe_int (nomark _)) (kc_call (fn_journal_text (K := K) (mg := mg) T (rcLosing T) (T.isi "Losing" (by decide +kernel))) hr (by rfl) (T.glo "journal_text" (by decide +kernel)) (T.def_ _ md_journal_text).kp (pa_cons (kc_fld (K := K) rfl (pv 0)) pa_nil)) pe_str)))
  pss_nil)
  (pss_cons (ps_if (pt_cmpR op_eq (pv 1) pe_str (nomark _))
  (pss_one ps_never)
  pss_nil)
  (pss_cons (ps_if (pt_cmpR op_eq (pv 1) pe_str (nomark _))
  (pss_one ps_never)
  pss_nil)
  (pss_one ps_never))))))))), ?_⟩
  rcases q with ⟨rfl, q⟩ | ⟨rfl, hne, q⟩ | ⟨rfl, hd, q⟩ | ⟨rfl, ho, hw1, hw2, q⟩
  · walk_at "go"
    refine ⟨x, dy, L, ys, A0, tb, s0, rfl, hrow0, hst, ?_⟩
    walk_at "go"
    apply r_ifF (str_ne (by decide +kernel))
    walk_at "go"
    apply r_ifF (str_ne (by decide +kernel))
    walk_at "go"
    apply r_ifT rfl
    walk_at "go"
    refine ⟨x, dy, L, ys, A0, tb, s0, rfl, hrow0, hst, ?_⟩
    walk_at "go"
    refine r_strI (log_le (by simp; omega)) ?_
    exact q _ (by walk_at "ex")
  · walk_at "go"
    refine ⟨x, dy, L, ys, A0, tb, s0, rfl, hrow0, hst, ?_⟩
    walk_at "go"
    apply r_ifT rfl
    walk_at "go"
    refine ⟨x, dy, L, ys, .ref A0.a, rfl, hrow0, hne, fun H1 e1 h1 => ?_⟩
    walk_at "go"
    exact q _ e1 h1
  · walk_at "go"
    refine ⟨x, dy, L, ys, A0, tb, s0, rfl, hrow0, hst, ?_⟩
    walk_at "go"
    apply r_ifF (str_ne (by decide +kernel))
    walk_at "go"
    apply r_ifT rfl
    walk_at "go"
    refine ⟨x, dy, L, ys, A0, tb, s0, rfl, hrow0, hst, by rw [hd]; decide, fun H1 p1 xs1 hv1 e1 h1 hq1 hR1 => ?_⟩
    rw [hd] at hR1
    obtain rfl := heldR_nil hR1
    obtain rfl := hq1.nil_
    walk_at "go"
    refine ⟨p1, rfl, ⟨_, SqT.of h1⟩, ?_⟩
    refine r_kLc (walk_tup (xs := [])) [] (fun i acc => acc = []) rfl ?_ ?_ ?_
    · intro H2 e
      refine SqT.of ?_
      walk_at "hp"
    · intro D i v H2 H3 acc hi
      exact absurd hi (Nat.not_lt_zero _)
    · rintro D H2 acc nw e hD rfl
      walk_at "go"
      rename_i p3 H3 np3 e3 h3
      refine r_neSame (d := .list []) (.lst (SqL.of (e3.ge _ _ List.not_mem_nil hD)) .nil) (.lst (SqL.of h3) .nil) rfl ?_
      walk_at "go"
      exact q _ (by walk_at "ex")
  · walk_at "go"
    refine ⟨x, dy, L, ys, A0, tb, s0, rfl, hrow0, hst, ?_⟩
    walk_at "go"
    apply r_ifF (str_ne (by decide +kernel))
    walk_at "go"
    apply r_ifF (str_ne (by decide +kernel))
    walk_at "go"
    apply r_ifF (str_ne (by decide +kernel))
    walk_at "go"
    apply r_ifF (str_ne (by decide +kernel))
    walk_at "go"
    apply r_ifT rfl
    walk_at "go"
    refine ⟨x, dy, _, rfl, hx1, x, dy, L, ys, A0, tb, s0, rfl, hrow0, hst, s0.outs.length, rfl, by omega, ?_⟩
    walk_at "go"
    apply r_if2
    · intro hp
      rw [if_pos (by omega)] at q
      walk_at "go"
      refine ⟨x, dy, L, ys, A0, tb, s0, rfl, hrow0, hst, by omega, ho, hw1, hw2, fun H1 e1 => ?_⟩
      exact q _ e1
    · intro hp
      rw [if_neg (by omega)] at q
      walk_at "go"
      exact q _ Ext.rfl'
end
/-! ### say -/
def NewRow (K : PySem.W.Frag) (H H' : Hp) (s dx : Addr) (tb : List Int) : Prop := ∃ x dy L A, H' s = some (.ins (ga K "Session") dx [("carried", .ref x)]) ∧ RowAt H' (ga K "Losing") x dy L [.ref A.a] ∧ Stn K H' A tb sd0 ∧ H x = none ∧ H L = none ∧ H A.a = none ∧ FrA H A
def spSayUse (K : PySem.W.Frag) : Sp := fun vs H Q _ => ∃ sx dx x0 line ws tb, vs = [.ref sx, .str line] ∧ H sx = some (.ins (ga K "Session") dx [("carried", .ref x0)]) ∧ line.length ≤ 90000 ∧ inV (.str line) aloneL = false ∧ Txt.split line " " = ("use" : Str) :: ws ∧ ws ≠ [] ∧ ws.length ≤ 20 ∧ Paired (NumOk 3) ws tb ∧ OkT tb ∧
  ∀ H', Ext [sx] H H' → NewRow K H H' sx dx tb → Q (.str "ok") H'
def spSayPush (K : PySem.W.Frag) : Sp := fun vs H Q _ => ∃ sx dx x dy L ys A tb s line ws vals, vs = [.ref sx, .str line] ∧ H sx = some (.ins (ga K "Session") dx [("carried", .ref x)]) ∧ line.length ≤ 90000 ∧ inV (.str line) aloneL = false ∧ Txt.split line " " = ("push" : Str) :: ws ∧ ws ≠ [] ∧ ws.length ≤ 5 ∧
  (∀ z ∈ ws, 1 ≤ z.length ∧ z.length ≤ 100) ∧ Paired WV ws vals ∧ RowAt H (ga K "Losing") x dy L (ys ++ [.ref A.a]) ∧ Stn K H A tb s ∧ OkT tb ∧ Sml s 800 ∧ ys.length ≤ 1000 ∧ (∀ s' outs, Steps (poLosing poRow) tb s vals outs s' → ∀ v ∈ outs, OkW v) ∧
  ∀ H' A' s' outs, Ext [L] H H' → H' L = some (.lst (ys ++ [.ref A.a] ++ [.ref A'.a])) → H A'.a = none → FrA H A' → Stn K H' A' tb s' → Steps (poLosing poRow) tb s vals outs s' → Q (.str (Txt.join " " (outs.map txt))) H'
def spSayLose (K : PySem.W.Frag) : Sp := fun vs H Q _ => ∃ sx dx x dy L ys A tb s line z ticks, vs = [.ref sx, .str line] ∧ H sx = some (.ins (ga K "Session") dx [("carried", .ref x)]) ∧ line.length ≤ 90000 ∧ inV (.str line) aloneL = false ∧ Txt.split line " " = [("lose" : Str), z] ∧ NumOk 4 z ticks ∧
  RowAt H (ga K "Losing") x dy L (ys ++ [.ref A.a]) ∧ Stn K H A tb s ∧ Sml s 800 ∧ s.cuts.length ≤ 20 ∧ ys.length ≤ 1000 ∧ 1 ≤ ticks ∧ ticks ≤ 20 ∧
  ∀ H' A' cs, Ext [L] H H' → H' L = some (.lst (ys ++ [.ref A.a] ++ [.ref A'.a])) → H A'.a = none → FrA H A' → Stn K H' A' tb { s with cuts := cs } → cs.Pairwise (· < ·) → (∀ k, k ∈ cs ↔ k ∈ cutsN s.ins.length s.cuts ∨ ((s.ins.length : Int) ≤ k ∧ k < (s.ins.length : Int) + ticks)) → Q (.str "ok") H'
def kMS (K : PySem.W.Frag) (C : Addr) (m : Str) (g : Addr) (sp : Sp) (te : TE) (σ : L2.St) (Q : VK) : VK := fun x H1 => ∃ a dx fs, x = .ref a ∧ H1 a = some (.ins C dx fs) ∧ fs.lookup m = none ∧
  ∀ q, H1 q = none → te σ (upd H1 q (.met g a)) fun y H2 => ∃ b vs, y = .ref b ∧ SqT K H2 b vs ∧ H2 q = some (.met g a) ∧ sp (.ref a :: vs) H2 Q E0
theorem r_mS {K : PySem.W.Frag} {C : Addr} {m : Str} {g : Addr} {sp : Sp} {ta te : TE} {σ : L2.St} {H : Hp} {Q : VK} (h : ta σ H (kMS K C m g sp te σ Q)) : tMethS K C m g sp E0 ta te σ H Q := h
theorem r_kMS {K : PySem.W.Frag} {C : Addr} {m : Str} {g : Addr} {sp : Sp} {te : TE} {σ : L2.St} {H : Hp} {Q : VK} {a dx : Addr} {fs : List (Str × V)} (e : H a = some (.ins C dx fs)) (l : fs.lookup m = none)
    (q : ∀ q H2, Nw H q → Ext [] H H2 → H2 q = some (.met g a) → te σ H2 fun y H3 => ∃ b vs, y = .ref b ∧ SqT K H3 b vs ∧ H3 q = some (.met g a) ∧ sp (.ref a :: vs) H3 Q E0) : kMS K C m g sp te σ Q (.ref a) H :=
  ⟨a, dx, fs, rfl, e, l, fun p np => q p _ ⟨np⟩ (.new np) upd_same⟩
theorem paired_ok {ws : List Str} {vals : List V} (h : Paired WV ws vals) : ∀ v ∈ vals, OkV v := fun v hv => by
  obtain ⟨i, hi⟩ := List.mem_iff_getElem?.mp hv
  have hil : i < ws.length := by
    have := (List.getElem?_eq_some_iff.mp hi).1
    have := Paired.len h
    omega
  obtain ⟨v', hv', hw'⟩ := Paired.at_ h (List.getElem?_eq_getElem hil)
  rw [hi] at hv'
  cases hv'
  exact hw'.ok
def kAl (K : PySem.W.Frag) (xs : List V) (Q : VK) : Hp → Prop := fun H => ∀ a, (∀ H : Hp, SqT K H a xs) → Q (.ref a) H
theorem cut_tl {xs : List V} {x : V} : cutV (x :: xs) (some 1) none = xs := by
  unfold cutV
  have h1 : HT.sIx (x :: xs).length 0 (some 1) = 1 := by
    unfold HT.sIx
    simp
  have h2 : HT.sIx (x :: xs).length (x :: xs).length none = xs.length + 1 := by
    unfold HT.sIx
    simp
  rw [h1, h2]
  simp
section
variable {P : Program} {w : World} {K : PySem.W.Frag} {mg : Str → Option Value} {base : Heap}
theorem sc_Session_say : FnScope ["self", "line", "words", "some", "word", "ticks"] ["self", "line"] (defScope s87_1) := ⟨rfl, rfl, rfl, by decide +kernel, rfl, by decide +kernel, by decide +kernel⟩
theorem fn_say_use (TPP : TP P) (T : Tx K mg) : FnR P w K mg base CX0 7 (d_Session_say.pl.ad K) (spSayUse K) := by
  refine fnR_of (N := ["self", "line", "words", "some", "word", "ticks"]) (ps := ["self", "line"]) (fun_of T md_Session_say rfl) sc_Session_say (fun _ _ _ _ _ _ us hl => match us, hl with | [_, _], _ => rfl) (fun _ _ _ _ ⟨_, _, _, _, _, _, e, _⟩ => by rw [e]; rfl) fun cdv A outer s H vs Q E hr hsp => ?_
  obtain ⟨sx, dx, x0, line, ws, tb, rfl, hs, hl, hal, hsplit, hne, hwl, hpr, hok, q⟩ := hsp
  refine ⟨_, (pss_cons (ps_if (pt_not (pt_val (pe_callB (cl_isi (K := K) rfl) (by rfl) (T.free "isinstance" (by decide +kernel)) (by decide +kernel) (pa_cons (pv 1) (pa_cons (pe_bltn (v := .ty "str") (by rfl) (T.free "str" (by decide +kernel)) (by decide +kernel) rfl) pa_nil)))))
  (pss_one ps_never)
  pss_nil)
  (pss_cons (ps_set (i := 2) sc_Session_say.nd rfl (Or.inl rfl) (kc_split (pv 1) pe_str))
  (pss_cons (ps_if (pt_cmpR (opIn (K := K) rfl) (pv 1) (pe_alone (by rfl) T.al) (by first | rfl | exact nomark _))
  (pss_one (ps_ret (kc_meth (pv 0) ⟨T.cls "Session" (by decide +kernel), _, T.mt "Session" "say_alone" (by decide +kernel), fn_say_alone (K := K) (mg := mg) TPP T⟩ hr (pa_cons (pv 1) pa_nil))))
  pss_nil)
  (pss_cons (ps_if (pt_cmpR op_eq (pe_ix (ixL (K := K) rfl) (pv 2) pe_int (fun _ _ => rfl)) pe_str (nomark _))
  (pss_one (kp_sfld (K := K) rfl (pv 0) (kc_make (T.mkr "Losing" (by decide +kernel)) (fn_Losing_init (K := K) (mg := mg) T) hr (by rfl) (T.cgl "Losing" (by decide +kernel)) (pa_cons (kc_call (fn_numbers_in (K := K) (mg := mg) T) hr (by rfl) (T.glo "numbers_in" (by decide +kernel)) (T.def_ _ md_numbers_in).kp (pa_cons (pe_slice (slL (K := K) rfl) (pv 2) (po_some pe_int) po_none) (pa_cons (pe_gi (by rfl) (T.int "MOST_OF_HOLD" 3 (by decide +kernel))) pa_nil))) pa_nil))))
  (pss_one (ps_if (pt_cmpR op_eq (pe_ix (ixL (K := K) rfl) (pv 2) pe_int (fun _ _ => rfl)) pe_str (nomark _))
  (pss_one ps_never)
  (pss_one (ps_if (pt_cmpR op_eq (pe_ix (ixL (K := K) rfl) (pv 2) pe_int (fun _ _ => rfl)) pe_str (nomark _))
  (pss_cons (ps_set (i := 3) sc_Session_say.nd rfl (Or.inl rfl) (kc_call (fn_values_in (K := K) (mg := mg) T) hr (by rfl) (T.glo "values_in" (by decide +kernel)) (T.def_ _ md_values_in).kp (pa_cons (pe_slice (slL (K := K) rfl) (pv 2) (po_some pe_int) po_none) pa_nil)))
  (pss_one (ps_ret (kc_call (fn_spaced (K := K) (mg := mg) T) hr (by rfl) (T.glo "spaced" (by decide +kernel)) (T.def_ _ md_spaced).kp (pa_cons (kc_methS (K := K) rfl (kc_fld (K := K) rfl (pv 0)) (rcLosing T).cl T.bm (push_Losing (K := K) (mg := mg) TPP T) hr (pv 3) (by decide)) pa_nil)))))
  (pss_one (ps_if (PW.pt (pw_and (pt_cmpR op_eq (pe_ix (ixL (K := K) rfl) (pv 2) pe_int (fun _ _ => rfl)) pe_str (nomark _)) (pw_and1 (pt_cmpR op_eq (pe_callB (cl_len (K := K) rfl) (by rfl) (T.free "len" (by decide +kernel)) (by decide +kernel) (pa_cons (pv 2) pa_nil)) pe_int (nomark _)))))
  (pss_one (ps_expr (kc_meth (kc_fld (K := K) rfl (pv 0)) ⟨(rcLosing T).cl, _, T.mt "Losing" "lose" (by decide +kernel), lose_Losing (K := K) (mg := mg) T⟩ hr (pa_cons (pe_ix (ixT (K := K) rfl) (kc_call (fn_numbers_in (K := K) (mg := mg) T) hr (by rfl) (T.glo "numbers_in" (by decide +kernel)) (T.def_ _ md_numbers_in).kp (pa_cons (pe_slice (slL (K := K) rfl) (pv 2) (po_some pe_int) po_none) (pa_cons (pe_gi (by rfl) (T.int "MOST_OF_NUMBER" 4 (by decide +kernel))) pa_nil))) pe_int (fun _ _ => rfl)) pa_nil))))
  (pss_one (ps_if (PW.pt (pw_and (pt_cmpR op_eq (pe_ix (ixL (K := K) rfl) (pv 2) pe_int (fun _ _ => rfl)) pe_str (nomark _)) (pw_and1 (pt_cmpR op_eq (pe_callB (cl_len (K := K) rfl) (by rfl) (T.free "len" (by decide +kernel)) (by decide +kernel) (pa_cons (pv 2) pa_nil)) pe_int (nomark _)))))
  (pss_cons ps_never
  (pss_one ps_never))
  (pss_one ps_never))))))))))
  (pss_one (ps_ret pe_str)))))), ?_⟩
  walk_at "go"
  refine r_splitS (by rfl) hl fun p1 H1 np1 e1 h1 => ?_
  rw [hsplit] at h1
  walk_at "go"
  intro aa haa
  refine ⟨aa, _, rfl, .inr (haa _), rfl, by decide, ?_⟩
  rw [hal]
  walk_at "go"
  refine r_iftt_ff ?_
  walk_at "go"
  refine r_ixL (SqL.of (by walk_at "hp")) (atI_nat (j := 0) rfl) ?_
  walk_at "go"
  apply r_ifT rfl
  walk_at "go"
  refine r_slL (SqL.of (by walk_at "hp")) fun p2 H2 np2 e2 h2 => ?_
  rw [List.map_cons, cut_tl] at h2
  walk_at "go"
  refine ⟨p2, 3, ws, tb, rfl, h2, hne, hwl, hpr, fun H3 p3 e3 h3 => ?_⟩
  walk_at "go"
  rename_i x4 dx4 H4 nx4 e4 hx4
  have d4 : Dom H H4 := by walk_at "dm"
  have hs4 : H4 sx = _ := e4.ge _ _ List.not_mem_nil (e3.ge _ _ List.not_mem_nil (e2.ge _ _ List.not_mem_nil (e1.ge _ _ List.not_mem_nil hs)))
  have nxs : sx ≠ x4 := by walk_at "ne"
  have hx0 : H x4 = none := by walk_at "fr"
  have e04 : Ext [] H H4 := by walk_at "ex"
  refine ⟨x4, dx4, p3, tb, rfl, hx4, e4.ge _ _ List.not_mem_nil h3, hok, fun H5 L A e5 hr5 nL na fa st => ⟨rfl, ?_⟩⟩
  have hs5 : H5 sx = _ := e5.ge _ _ (fun m => nxs (List.mem_singleton.mp m)) hs4
  walk_at "go"
  rename_i H6 e6 h6
  have nLs : L ≠ sx := (ne_fresh nL hs4).symm
  have nxs' : x4 ≠ sx := nxs.symm
  refine q H6 ?_ ⟨x4, dx4, L, A, h6, ⟨e6.ge _ _ (fun m => nxs' (List.mem_singleton.mp m)) hr5.inst, e6.ge _ _ (fun m => nLs (List.mem_singleton.mp m)) hr5.st⟩, ?_, hx0, d4.ba _ nL.no, d4.ba _ na, ⟨d4.ba _ fa.ins, d4.ba _ fa.outs, d4.ba _ fa.due, d4.ba _ fa.later⟩⟩
  · exact Ext.tr e6 (Ext.tr e5 (Ext.tr e04 Ext.rfl' Sub.nil) (Sub.cons (.inr hx0) Sub.nil)) (Sub.cons (.inl (by simp)) Sub.nil)
  · have nAs : A.a ≠ sx := fun z => by rw [z, hs4] at na; cases na
    have z := fun (b : Addr) (o : HO) (hb : H5 b = some o) (hn : b ≠ sx) => e6.ge b o (fun m => hn (List.mem_singleton.mp m)) hb
    have y := fun (b : Addr) (o : HO) (hb : H5 b = some o) (hk : HO.ins (ga K "Session") dx [("carried", V.ref x0)] ≠ o) => z b o hb (fun q => by
      rw [q, hs5] at hb
      exact hk (Option.some.inj hb))
    obtain ⟨kk, t1, t2⟩ := st.due
    exact ⟨z _ _ st.inst nAs, y _ _ st.own (by intro z; cases z), y _ _ st.coming (by intro z; cases z), y _ _ st.ins (by intro z; cases z), y _ _ st.outs (by intro z; cases z), ⟨kk, y _ _ t1 (by intro z; cases z), t2.same fun b xs hb => y _ _ hb (by intro z; cases z)⟩, y _ _ st.cuts (by intro z; cases z), y _ _ st.gone (by intro z; cases z), y _ _ st.later (by intro z; cases z), st.d1, st.d2⟩
theorem fn_say_push (TPP : TP P) (T : Tx K mg) : FnR P w K mg base CX0 7 (d_Session_say.pl.ad K) (spSayPush K) := by
  refine fnR_of (N := ["self", "line", "words", "some", "word", "ticks"]) (ps := ["self", "line"]) (fun_of T md_Session_say rfl) sc_Session_say (fun _ _ _ _ _ _ us hl => match us, hl with | [_, _], _ => rfl) (fun _ _ _ _ ⟨_, _, _, _, _, _, _, _, _, _, _, _, e, _⟩ => by rw [e]; rfl) fun cdv A outer s H vs Q E hr hsp => ?_
  obtain ⟨sx, dx, x, dy, L, ys, A0, tb, s0, line, ws, vals, rfl, hs, hl, hal, hsplit, hne, hwl, hzl, hpr, hrow, hst, hok, hsm, hys, hov, q⟩ := hsp
  obtain ⟨hx1, hx2⟩ := hrow
  refine ⟨_, (pss_cons (ps_if (pt_not (pt_val (pe_callB (cl_isi (K := K) rfl) (by rfl) (T.free "isinstance" (by decide +kernel)) (by decide +kernel) (pa_cons (pv 1) (pa_cons (pe_bltn (v := .ty "str") (by rfl) (T.free "str" (by decide +kernel)) (by decide +kernel) rfl) pa_nil)))))
  (pss_one ps_never)
  pss_nil)
  (pss_cons (ps_set (i := 2) sc_Session_say.nd rfl (Or.inl rfl) (kc_split (pv 1) pe_str))
  (pss_cons (ps_if (pt_cmpR (opIn (K := K) rfl) (pv 1) (pe_alone (by rfl) T.al) (by first | rfl | exact nomark _))
  (pss_one (ps_ret (kc_meth (pv 0) ⟨T.cls "Session" (by decide +kernel), _, T.mt "Session" "say_alone" (by decide +kernel), fn_say_alone (K := K) (mg := mg) TPP T⟩ hr (pa_cons (pv 1) pa_nil))))
  pss_nil)
  (pss_cons (ps_if (pt_cmpR op_eq (pe_ix (ixL (K := K) rfl) (pv 2) pe_int (fun _ _ => rfl)) pe_str (nomark _))
  (pss_one (kp_sfld (K := K) rfl (pv 0) (kc_make (T.mkr "Losing" (by decide +kernel)) (fn_Losing_init (K := K) (mg := mg) T) hr (by rfl) (T.cgl "Losing" (by decide +kernel)) (pa_cons (kc_call (fn_numbers_in (K := K) (mg := mg) T) hr (by rfl) (T.glo "numbers_in" (by decide +kernel)) (T.def_ _ md_numbers_in).kp (pa_cons (pe_slice (slL (K := K) rfl) (pv 2) (po_some pe_int) po_none) (pa_cons (pe_gi (by rfl) (T.int "MOST_OF_HOLD" 3 (by decide +kernel))) pa_nil))) pa_nil))))
  (pss_one (ps_if (pt_cmpR op_eq (pe_ix (ixL (K := K) rfl) (pv 2) pe_int (fun _ _ => rfl)) pe_str (nomark _))
  (pss_one ps_never)
  (pss_one (ps_if (pt_cmpR op_eq (pe_ix (ixL (K := K) rfl) (pv 2) pe_int (fun _ _ => rfl)) pe_str (nomark _))
  (pss_cons (ps_set (i := 3) sc_Session_say.nd rfl (Or.inl rfl) (kc_call (fn_values_in (K := K) (mg := mg) T) hr (by rfl) (T.glo "values_in" (by decide +kernel)) (T.def_ _ md_values_in).kp (pa_cons (pe_slice (slL (K := K) rfl) (pv 2) (po_some pe_int) po_none) pa_nil)))
  (pss_one (ps_ret (kc_call (fn_spaced (K := K) (mg := mg) T) hr (by rfl) (T.glo "spaced" (by decide +kernel)) (T.def_ _ md_spaced).kp (pa_cons (kc_methS (K := K) rfl (kc_fld (K := K) rfl (pv 0)) (rcLosing T).cl T.bm (push_Losing (K := K) (mg := mg) TPP T) hr (pv 3) (by decide)) pa_nil)))))
  (pss_one (ps_if (PW.pt (pw_and (pt_cmpR op_eq (pe_ix (ixL (K := K) rfl) (pv 2) pe_int (fun _ _ => rfl)) pe_str (nomark _)) (pw_and1 (pt_cmpR op_eq (pe_callB (cl_len (K := K) rfl) (by rfl) (T.free "len" (by decide +kernel)) (by decide +kernel) (pa_cons (pv 2) pa_nil)) pe_int (nomark _)))))
  (pss_one (ps_expr (kc_meth (kc_fld (K := K) rfl (pv 0)) ⟨(rcLosing T).cl, _, T.mt "Losing" "lose" (by decide +kernel), lose_Losing (K := K) (mg := mg) T⟩ hr (pa_cons (pe_ix (ixT (K := K) rfl) (kc_call (fn_numbers_in (K := K) (mg := mg) T) hr (by rfl) (T.glo "numbers_in" (by decide +kernel)) (T.def_ _ md_numbers_in).kp (pa_cons (pe_slice (slL (K := K) rfl) (pv 2) (po_some pe_int) po_none) (pa_cons (pe_gi (by rfl) (T.int "MOST_OF_NUMBER" 4 (by decide +kernel))) pa_nil))) pe_int (fun _ _ => rfl)) pa_nil))))
  (pss_one (ps_if (PW.pt (pw_and (pt_cmpR op_eq (pe_ix (ixL (K := K) rfl) (pv 2) pe_int (fun _ _ => rfl)) pe_str (nomark _)) (pw_and1 (pt_cmpR op_eq (pe_callB (cl_len (K := K) rfl) (by rfl) (T.free "len" (by decide +kernel)) (by decide +kernel) (pa_cons (pv 2) pa_nil)) pe_int (nomark _)))))
  (pss_cons ps_never
  (pss_one ps_never))
  (pss_one ps_never))))))))))
  (pss_one (ps_ret pe_str)))))), ?_⟩
  walk_at "go"
  refine r_splitS (by rfl) hl fun p1 H1 np1 e1 h1 => ?_
  rw [hsplit] at h1
  walk_at "go"
  intro aa haa
  refine ⟨aa, _, rfl, .inr (haa _), rfl, by decide, ?_⟩
  rw [hal]
  walk_at "go"
  refine r_iftt_ff ?_
  walk_at "go"
  refine r_ixL (SqL.of (by walk_at "hp")) (atI_nat (j := 0) rfl) ?_
  walk_at "go"
  apply r_ifF (str_ne (by decide +kernel))
  walk_at "go"
  refine r_ixL (SqL.of (by walk_at "hp")) (atI_nat (j := 0) rfl) ?_
  walk_at "go"
  apply r_ifF (str_ne (by decide +kernel))
  walk_at "go"
  refine r_ixL (SqL.of (by walk_at "hp")) (atI_nat (j := 0) rfl) ?_
  walk_at "go"
  apply r_ifT rfl
  walk_at "go"
  refine r_slL (SqL.of (by walk_at "hp")) fun p2 H2 np2 e2 h2 => ?_
  rw [List.map_cons, cut_tl] at h2
  walk_at "go"
  refine ⟨p2, ws, vals, rfl, h2, hne, by omega, hzl, hpr, fun H3 p3 e3 h3 => ?_⟩
  walk_at "go"
  refine r_mS ?_
  walk_at "go"
  have hlen := Paired.len hpr
  refine r_kMS (by walk_at "hp") rfl fun m H4 nm e4 hm => ?_
  walk_at "go"
  have e04 : Ext [] H H4 := by walk_at "ex"
  refine ⟨p3, vals, rfl, SqT.of (e4.ge _ _ List.not_mem_nil h3), hm, x, dy, L, ys, A0, tb, s0, vals, rfl, ⟨e04.ge _ _ List.not_mem_nil hx1, e04.ge _ _ List.not_mem_nil hx2⟩, hst.same e04, hok, hsm, hys, by omega, paired_ok hpr, ?_⟩
  intro p5 H5 A5 s5 outs5 e5 g1 g2 g3 g4 g5 g6
  walk_at "go"
  have hol := g6.len
  refine ⟨p5, outs5, rfl, g5, by omega, hov _ _ g6, fun H6 e6 => ?_⟩
  refine q H6 A5 s5 outs5 ?_ (e6.ge _ _ List.not_mem_nil g1) (e04.dom _ g2) ⟨e04.dom _ g3.ins, e04.dom _ g3.outs, e04.dom _ g3.due, e04.dom _ g3.later⟩ (g4.same e6) g6
  exact Ext.tr e6 (Ext.tr e5 (Ext.tr e04 Ext.rfl' Sub.nil) ⟨fun l hl => .inl hl⟩) Sub.nil
theorem fn_say_lose (TPP : TP P) (T : Tx K mg) : FnR P w K mg base CX0 7 (d_Session_say.pl.ad K) (spSayLose K) := by
  refine fnR_of (N := ["self", "line", "words", "some", "word", "ticks"]) (ps := ["self", "line"]) (fun_of T md_Session_say rfl) sc_Session_say (fun _ _ _ _ _ _ us hl => match us, hl with | [_, _], _ => rfl) (fun _ _ _ _ ⟨_, _, _, _, _, _, _, _, _, _, _, _, e, _⟩ => by rw [e]; rfl) fun cdv A outer s H vs Q E hr hsp => ?_
  obtain ⟨sx, dx, x, dy, L, ys, A0, tb, s0, line, z, ticks, rfl, hs, hl, hal, hsplit, hnum, hrow, hst, hsm, hcl, hys, ht1, ht2, q⟩ := hsp
  obtain ⟨hx1, hx2⟩ := hrow
  refine ⟨_, (pss_cons (ps_if (pt_not (pt_val (pe_callB (cl_isi (K := K) rfl) (by rfl) (T.free "isinstance" (by decide +kernel)) (by decide +kernel) (pa_cons (pv 1) (pa_cons (pe_bltn (v := .ty "str") (by rfl) (T.free "str" (by decide +kernel)) (by decide +kernel) rfl) pa_nil)))))
  (pss_one ps_never)
  pss_nil)
  (pss_cons (ps_set (i := 2) sc_Session_say.nd rfl (Or.inl rfl) (kc_split (pv 1) pe_str))
  (pss_cons (ps_if (pt_cmpR (opIn (K := K) rfl) (pv 1) (pe_alone (by rfl) T.al) (by first | rfl | exact nomark _))
  (pss_one (ps_ret (kc_meth (pv 0) ⟨T.cls "Session" (by decide +kernel), _, T.mt "Session" "say_alone" (by decide +kernel), fn_say_alone (K := K) (mg := mg) TPP T⟩ hr (pa_cons (pv 1) pa_nil))))
  pss_nil)
  (pss_cons (ps_if (pt_cmpR op_eq (pe_ix (ixL (K := K) rfl) (pv 2) pe_int (fun _ _ => rfl)) pe_str (nomark _))
  (pss_one (kp_sfld (K := K) rfl (pv 0) (kc_make (T.mkr "Losing" (by decide +kernel)) (fn_Losing_init (K := K) (mg := mg) T) hr (by rfl) (T.cgl "Losing" (by decide +kernel)) (pa_cons (kc_call (fn_numbers_in (K := K) (mg := mg) T) hr (by rfl) (T.glo "numbers_in" (by decide +kernel)) (T.def_ _ md_numbers_in).kp (pa_cons (pe_slice (slL (K := K) rfl) (pv 2) (po_some pe_int) po_none) (pa_cons (pe_gi (by rfl) (T.int "MOST_OF_HOLD" 3 (by decide +kernel))) pa_nil))) pa_nil))))
  (pss_one (ps_if (pt_cmpR op_eq (pe_ix (ixL (K := K) rfl) (pv 2) pe_int (fun _ _ => rfl)) pe_str (nomark _))
  (pss_one ps_never)
  (pss_one (ps_if (pt_cmpR op_eq (pe_ix (ixL (K := K) rfl) (pv 2) pe_int (fun _ _ => rfl)) pe_str (nomark _))
  (pss_cons (ps_set (i := 3) sc_Session_say.nd rfl (Or.inl rfl) (kc_call (fn_values_in (K := K) (mg := mg) T) hr (by rfl) (T.glo "values_in" (by decide +kernel)) (T.def_ _ md_values_in).kp (pa_cons (pe_slice (slL (K := K) rfl) (pv 2) (po_some pe_int) po_none) pa_nil)))
  (pss_one (ps_ret (kc_call (fn_spaced (K := K) (mg := mg) T) hr (by rfl) (T.glo "spaced" (by decide +kernel)) (T.def_ _ md_spaced).kp (pa_cons (kc_methS (K := K) rfl (kc_fld (K := K) rfl (pv 0)) (rcLosing T).cl T.bm (push_Losing (K := K) (mg := mg) TPP T) hr (pv 3) (by decide)) pa_nil)))))
  (pss_one (ps_if (PW.pt (pw_and (pt_cmpR op_eq (pe_ix (ixL (K := K) rfl) (pv 2) pe_int (fun _ _ => rfl)) pe_str (nomark _)) (pw_and1 (pt_cmpR op_eq (pe_callB (cl_len (K := K) rfl) (by rfl) (T.free "len" (by decide +kernel)) (by decide +kernel) (pa_cons (pv 2) pa_nil)) pe_int (nomark _)))))
  (pss_one (ps_expr (kc_meth (kc_fld (K := K) rfl (pv 0)) ⟨(rcLosing T).cl, _, T.mt "Losing" "lose" (by decide +kernel), lose_Losing (K := K) (mg := mg) T⟩ hr (pa_cons (pe_ix (ixT (K := K) rfl) (kc_call (fn_numbers_in (K := K) (mg := mg) T) hr (by rfl) (T.glo "numbers_in" (by decide +kernel)) (T.def_ _ md_numbers_in).kp (pa_cons (pe_slice (slL (K := K) rfl) (pv 2) (po_some pe_int) po_none) (pa_cons (pe_gi (by rfl) (T.int "MOST_OF_NUMBER" 4 (by decide +kernel))) pa_nil))) pe_int (fun _ _ => rfl)) pa_nil))))
  (pss_one (ps_if (PW.pt (pw_and (pt_cmpR op_eq (pe_ix (ixL (K := K) rfl) (pv 2) pe_int (fun _ _ => rfl)) pe_str (nomark _)) (pw_and1 (pt_cmpR op_eq (pe_callB (cl_len (K := K) rfl) (by rfl) (T.free "len" (by decide +kernel)) (by decide +kernel) (pa_cons (pv 2) pa_nil)) pe_int (nomark _)))))
  (pss_cons ps_never
  (pss_one ps_never))
  (pss_one ps_never))))))))))
  (pss_one (ps_ret pe_str)))))), ?_⟩
  walk_at "go"
  refine r_splitS (by rfl) hl fun p1 H1 np1 e1 h1 => ?_
  rw [hsplit] at h1
  walk_at "go"
  intro aa haa
  refine ⟨aa, _, rfl, .inr (haa _), rfl, by decide, ?_⟩
  rw [hal]
  walk_at "go"
  refine r_iftt_ff ?_
  walk_at "go"
  refine r_ixL (SqL.of (by walk_at "hp")) (atI_nat (j := 0) rfl) ?_
  walk_at "go"
  apply r_ifF (str_ne (by decide +kernel))
  walk_at "go"
  refine r_ixL (SqL.of (by walk_at "hp")) (atI_nat (j := 0) rfl) ?_
  walk_at "go"
  apply r_ifF (str_ne (by decide +kernel))
  walk_at "go"
  refine r_ixL (SqL.of (by walk_at "hp")) (atI_nat (j := 0) rfl) ?_
  walk_at "go"
  apply r_ifF (str_ne (by decide +kernel))
  walk_at "go"
  refine r_ixL (SqL.of (by walk_at "hp")) (atI_nat (j := 0) rfl) ?_
  walk_at "go"
  apply r_ifT rfl
  walk_at "go"
  apply r_ifT rfl
  walk_at "go"
  refine r_slL (SqL.of (by walk_at "hp")) fun p2 H2 np2 e2 h2 => ?_
  rw [List.map_cons, cut_tl] at h2
  walk_at "go"
  refine ⟨p2, 4, [z], [ticks], rfl, h2, by simp, by simp, .cons hnum .nil, fun H3 p3 e3 h3 => ?_⟩
  apply r_ixT (v := .int ticks) (SqT.of h3) (atI_nat (j := 0) rfl)
  walk_at "go"
  have e03 : Ext [] H H3 := by walk_at "ex"
  refine ⟨x, dy, L, ys, A0, tb, s0, ticks, rfl, ⟨e03.ge _ _ List.not_mem_nil hx1, e03.ge _ _ List.not_mem_nil hx2⟩, hst.same e03, hsm, hcl, hys, ht1, ht2, ?_⟩
  intro H4 A4 cs e4 g1 g2 g3 g4 g5 g6
  walk_at "go"
  exact q H4 A4 cs (Ext.tr e4 (Ext.tr e03 Ext.rfl' Sub.nil) ⟨fun l hl => .inl hl⟩) g1 (e03.dom _ g2) ⟨e03.dom _ g3.ins, e03.dom _ g3.outs, e03.dom _ g3.due, e03.dom _ g3.later⟩ g4 g5 g6
/-- a word said alone -/
def spSayAlone (K : PySem.W.Frag) : Sp := fun vs H Q _ => ∃ sx dx x dy L ys A tb s line, vs = [.ref sx, .str line] ∧ H sx = some (.ins (ga K "Session") dx [("carried", .ref x)]) ∧ line.length ≤ 90000 ∧ inV (.str line) aloneL = true ∧ RowAt H (ga K "Losing") x dy L (ys ++ [.ref A.a]) ∧ Stn K H A tb s ∧ s.ins.length ≤ 800 ∧ AloneQ K H L ys s line Q
theorem AloneQ.same {H H' : Hp} {L : Addr} {ys : List V} {s : SD} {word : Str} {Q : VK} (e : Ext [] H H') (h : AloneQ K H L ys s word Q) : AloneQ K H' L ys s word Q := by
  rcases h with ⟨h1, h2⟩ | ⟨h1, h2, h3⟩ | ⟨h1, h2, h3⟩ | ⟨h1, h2, h3, h4, h5⟩
  · exact .inl ⟨h1, fun H2 e2 => h2 H2 (Ext.tr e2 e Sub.nil)⟩
  · exact .inr (.inl ⟨h1, h2, fun H2 e2 => h3 H2 (Ext.tr e2 (Ext.tr e Ext.rfl' Sub.nil) ⟨fun l hl => .inl hl⟩)⟩)
  · exact .inr (.inr (.inl ⟨h1, h2, fun H2 e2 => h3 H2 (Ext.tr e2 e Sub.nil)⟩))
  · exact .inr (.inr (.inr ⟨h1, h2, h3, h4, fun H2 e2 => h5 H2 (Ext.tr e2 e Sub.nil)⟩))
theorem fn_say_word (TPP : TP P) (T : Tx K mg) : FnR P w K mg base CX0 7 (d_Session_say.pl.ad K) (spSayAlone K) := by
  refine fnR_of (N := ["self", "line", "words", "some", "word", "ticks"]) (ps := ["self", "line"]) (fun_of T md_Session_say rfl) sc_Session_say (fun _ _ _ _ _ _ us hl => match us, hl with | [_, _], _ => rfl) (fun _ _ _ _ ⟨_, _, _, _, _, _, _, _, _, _, e, _⟩ => by rw [e]; rfl) fun cdv A outer s H vs Q E hr hsp => ?_
  obtain ⟨sx, dx, x, dy, L, ys, A0, tb, s0, line, rfl, hs, hl, hal, hrow, hst, hil, q⟩ := hsp
  obtain ⟨hx1, hx2⟩ := hrow
  refine ⟨_, (pss_cons (ps_if (pt_not (pt_val (pe_callB (cl_isi (K := K) rfl) (by rfl) (T.free "isinstance" (by decide +kernel)) (by decide +kernel) (pa_cons (pv 1) (pa_cons (pe_bltn (v := .ty "str") (by rfl) (T.free "str" (by decide +kernel)) (by decide +kernel) rfl) pa_nil)))))
  (pss_one ps_never)
  pss_nil)
  (pss_cons (ps_set (i := 2) sc_Session_say.nd rfl (Or.inl rfl) (kc_split (pv 1) pe_str))
  (pss_cons (ps_if (pt_cmpR (opIn (K := K) rfl) (pv 1) (pe_alone (by rfl) T.al) (by first | rfl | exact nomark _))
  (pss_one (ps_ret (kc_meth (pv 0) ⟨T.cls "Session" (by decide +kernel), _, T.mt "Session" "say_alone" (by decide +kernel), fn_say_alone (K := K) (mg := mg) TPP T⟩ hr (pa_cons (pv 1) pa_nil))))
  pss_nil)
  (pss_cons (ps_if (pt_cmpR op_eq (pe_ix (ixL (K := K) rfl) (pv 2) pe_int (fun _ _ => rfl)) pe_str (nomark _))
  (pss_one (kp_sfld (K := K) rfl (pv 0) (kc_make (T.mkr "Losing" (by decide +kernel)) (fn_Losing_init (K := K) (mg := mg) T) hr (by rfl) (T.cgl "Losing" (by decide +kernel)) (pa_cons (kc_call (fn_numbers_in (K := K) (mg := mg) T) hr (by rfl) (T.glo "numbers_in" (by decide +kernel)) (T.def_ _ md_numbers_in).kp (pa_cons (pe_slice (slL (K := K) rfl) (pv 2) (po_some pe_int) po_none) (pa_cons (pe_gi (by rfl) (T.int "MOST_OF_HOLD" 3 (by decide +kernel))) pa_nil))) pa_nil))))
  (pss_one (ps_if (pt_cmpR op_eq (pe_ix (ixL (K := K) rfl) (pv 2) pe_int (fun _ _ => rfl)) pe_str (nomark _))
  (pss_one ps_never)
  (pss_one (ps_if (pt_cmpR op_eq (pe_ix (ixL (K := K) rfl) (pv 2) pe_int (fun _ _ => rfl)) pe_str (nomark _))
  (pss_cons (ps_set (i := 3) sc_Session_say.nd rfl (Or.inl rfl) (kc_call (fn_values_in (K := K) (mg := mg) T) hr (by rfl) (T.glo "values_in" (by decide +kernel)) (T.def_ _ md_values_in).kp (pa_cons (pe_slice (slL (K := K) rfl) (pv 2) (po_some pe_int) po_none) pa_nil)))
  (pss_one (ps_ret (kc_call (fn_spaced (K := K) (mg := mg) T) hr (by rfl) (T.glo "spaced" (by decide +kernel)) (T.def_ _ md_spaced).kp (pa_cons (kc_methS (K := K) rfl (kc_fld (K := K) rfl (pv 0)) (rcLosing T).cl T.bm (push_Losing (K := K) (mg := mg) TPP T) hr (pv 3) (by decide)) pa_nil)))))
  (pss_one (ps_if (PW.pt (pw_and (pt_cmpR op_eq (pe_ix (ixL (K := K) rfl) (pv 2) pe_int (fun _ _ => rfl)) pe_str (nomark _)) (pw_and1 (pt_cmpR op_eq (pe_callB (cl_len (K := K) rfl) (by rfl) (T.free "len" (by decide +kernel)) (by decide +kernel) (pa_cons (pv 2) pa_nil)) pe_int (nomark _)))))
  (pss_one (ps_expr (kc_meth (kc_fld (K := K) rfl (pv 0)) ⟨(rcLosing T).cl, _, T.mt "Losing" "lose" (by decide +kernel), lose_Losing (K := K) (mg := mg) T⟩ hr (pa_cons (pe_ix (ixT (K := K) rfl) (kc_call (fn_numbers_in (K := K) (mg := mg) T) hr (by rfl) (T.glo "numbers_in" (by decide +kernel)) (T.def_ _ md_numbers_in).kp (pa_cons (pe_slice (slL (K := K) rfl) (pv 2) (po_some pe_int) po_none) (pa_cons (pe_gi (by rfl) (T.int "MOST_OF_NUMBER" 4 (by decide +kernel))) pa_nil))) pe_int (fun _ _ => rfl)) pa_nil))))
  (pss_one (ps_if (PW.pt (pw_and (pt_cmpR op_eq (pe_ix (ixL (K := K) rfl) (pv 2) pe_int (fun _ _ => rfl)) pe_str (nomark _)) (pw_and1 (pt_cmpR op_eq (pe_callB (cl_len (K := K) rfl) (by rfl) (T.free "len" (by decide +kernel)) (by decide +kernel) (pa_cons (pv 2) pa_nil)) pe_int (nomark _)))))
  (pss_cons ps_never
  (pss_one ps_never))
  (pss_one ps_never))))))))))
  (pss_one (ps_ret pe_str)))))), ?_⟩
  walk_at "go"
  refine r_splitS (by rfl) hl fun p1 H1 np1 e1 h1 => ?_
  walk_at "go"
  intro aa haa
  refine ⟨aa, _, rfl, .inr (haa _), rfl, by decide, ?_⟩
  rw [hal]
  walk_at "go"
  refine r_iftt ?_
  walk_at "go"
  refine ⟨sx, dx, x, dy, L, ys, A0, tb, s0, line, rfl, by walk_at "hp", ⟨by walk_at "hp", by walk_at "hp"⟩, hst.same e1, hil, ?_⟩
  exact q.same e1
end
/-! ### the law's drawing -/
structure PenOk (a b n : Int) : Prop where
  a0 : 0 ≤ a
  b0 : 0 ≤ b
  b1 : b < 2147483647
  n0 : 0 ≤ n
def PenAt (H : Hp) (p : Addr) : Prop := ∃ a b n : Int, H p = some (.lst [.int a, .int b, .int n]) ∧ PenOk a b n
section
variable {P : Program} {w : World} {K : PySem.W.Frag} {mg : Str → Option Value} {base : Heap}
def spCell (K : PySem.W.Frag) : Sp := fun vs H Q _ => ∃ (a : Addr) (ns : List Int) (k : Int), vs = [.ref a, .int k] ∧ SqL K H a (ns.map V.int) ∧ 0 ≤ k ∧ ∀ c : Int, Q (.int c) H
theorem sc_law_cell : FnScope ["_law_script", "_law_k"] ["_law_script", "_law_k"] (defScope s89) := ⟨rfl, rfl, rfl, by decide +kernel, rfl, by decide +kernel, by decide +kernel⟩
theorem fn__law_cell (T : Tx K mg) : FnR P w K mg base CX0 1 (d__law_cell.pl.ad K) (spCell K) := by
  refine fnR_of (N := ["_law_script", "_law_k"]) (ps := ["_law_script", "_law_k"]) (fun_of T md__law_cell rfl) sc_law_cell (fun _ _ _ _ _ _ us hl => match us, hl with | [_, _], _ => rfl) (fun _ _ _ _ ⟨_, _, _, e, _⟩ => by rw [e]; rfl) fun cdv A outer s H vs Q E hr hsp => ?_
  obtain ⟨a, ns, k, rfl, ha, hk, q⟩ := hsp
  refine ⟨_, (pss_cons (ps_if (pt_cmpR op_lt (pv 1) (pe_callB (cl_len (K := K) rfl) (by rfl) (T.free "len" (by decide +kernel)) (by decide +kernel) (pa_cons (pv 0) pa_nil)) (nomark _))
  (pss_one (ps_ret (pe_ix (ixL (K := K) rfl) (pv 0) (pv 1) (fun _ _ => rfl))))
  pss_nil)
  (pss_one (ps_ret pe_int))), ?_⟩
  walk_at "go"
  refine ⟨a, _, rfl, .inl ha, ?_⟩
  walk_at "go"
  apply r_if2
  · intro hc
    rw [List.length_map] at hc
    walk_at "go"
    apply r_ixL (v := .int (ns[k.toNat]'(by omega))) ha
    · refine at_of (j := k.toNat) (by omega) ?_
      rw [List.getElem?_map, List.getElem?_eq_getElem (by omega)]
      rfl
    exact q _
  · intro hc
    walk_at "go"
    exact q _
def spPen : Sp := fun vs H Q _ => ∃ c, vs = [.int c] ∧ ∀ H' p, Nw H p → Ext [] H H' → PenAt H' p → Q (.ref p) H'
theorem sc_law_pen : FnScope ["_law_cell_here"] ["_law_cell_here"] (defScope s90) := ⟨rfl, rfl, rfl, by decide +kernel, rfl, by decide +kernel, by decide +kernel⟩
theorem fn__law_pen (T : Tx K mg) : FnR P w K mg base CX0 1 (d__law_pen.pl.ad K) spPen := by
  refine fnR_of (N := ["_law_cell_here"]) (ps := ["_law_cell_here"]) (fun_of T md__law_pen rfl) sc_law_pen (fun _ _ _ _ _ _ us hl => match us, hl with | [_], _ => rfl) (fun _ _ _ _ ⟨_, e, _⟩ => by rw [e]; rfl) fun cdv A outer s H vs Q E hr hsp => ?_
  obtain ⟨c, rfl, q⟩ := hsp
  refine ⟨_, (pss_one (ps_ret (pe_lst (pa_cons (pe_callB (cl_max2 rfl) (by rfl) (T.free "max" (by decide +kernel)) (by decide +kernel) (pa_cons pe_int (pa_cons (pe_op op_sub (pv 0) (pe_op op_pow pe_int pe_int)) pa_nil))) (pa_cons (pe_op op_add (pe_op op_modN (pv 0) pe_int) pe_int) (pa_cons pe_int pa_nil)))))), ?_⟩
  walk_at "go"
  refine r_I ⟨by decide, by decide, by decide⟩ ?_
  walk_at "go"
  refine r_I (by decide) ?_
  walk_at "go"
  rename_i p1 H1 np1 e1 h1
  have h2 := Int.fmod_nonneg_of_pos c (show (0 : Int) < 2147483629 by decide)
  have h3 := Int.fmod_lt_of_pos c (show (0 : Int) < 2147483629 by decide)
  refine q _ _ np1 e1 ⟨_, _, _, h1, ⟨?_, by omega, by omega, by decide⟩⟩
  split
  · omega
  · omega
def spDraw : Sp := fun vs H Q _ => ∃ p u, vs = [.ref p, .int u] ∧ PenAt H p ∧ 1 ≤ u ∧ u ≤ 1000 ∧ ∀ H' r, Ext [p] H H' → PenAt H' p → 0 ≤ r → r < u → Q (.int r) H'
theorem sc_law_draw : FnScope ["_law_pen_here", "_law_upto", "_law_found", "_law_stirred"] ["_law_pen_here", "_law_upto"] (defScope s91) := ⟨rfl, rfl, rfl, by decide +kernel, rfl, by decide +kernel, by decide +kernel⟩
theorem fn__law_draw (T : Tx K mg) : FnR P w K mg base CX0 1 (d__law_draw.pl.ad K) spDraw := by
  refine fnR_of (N := ["_law_pen_here", "_law_upto", "_law_found", "_law_stirred"]) (ps := ["_law_pen_here", "_law_upto"]) (fun_of T md__law_draw rfl) sc_law_draw (fun _ _ _ _ _ _ us hl => match us, hl with | [_, _], _ => rfl) (fun _ _ _ _ ⟨_, _, e, _⟩ => by rw [e]; rfl) fun cdv A outer s H vs Q E hr hsp => ?_
  obtain ⟨p, u, rfl, ⟨a, b, n, hp, hok⟩, hu1, hu2, q⟩ := hsp
  refine ⟨_, (pss_cons (ps_if (pt_cmpR op_gt (pe_ix (ixL (K := K) rfl) (pv 0) pe_int (fun _ _ => rfl)) pe_int (nomark _))
  (pss_cons (ps_set (i := 2) sc_law_draw.nd rfl (Or.inl rfl) (pe_op op_modN (pe_ix (ixL (K := K) rfl) (pv 0) pe_int (fun _ _ => rfl)) (pv 1)))
  (pss_cons (ps_asg (pe_op op_fdivN (pe_ix (ixL (K := K) rfl) (pv 0) pe_int (fun _ _ => rfl)) (pv 1)) (pg_sub (pv 0) pe_int set_list))
  (pss_one (ps_ret (pv 2)))))
  pss_nil)
  (pss_cons (ps_asg (pe_op op_add (pe_ix (ixL (K := K) rfl) (pv 0) pe_int (fun _ _ => rfl)) pe_int) (pg_sub (pv 0) pe_int set_list))
  (pss_cons (ps_asg (pe_op op_modN (pe_op op_add (pe_op op_add (pe_op op_mul (pe_ix (ixL (K := K) rfl) (pv 0) pe_int (fun _ _ => rfl)) pe_int) (pe_op op_mul pe_int (pe_ix (ixL (K := K) rfl) (pv 0) pe_int (fun _ _ => rfl)))) pe_int) pe_int) (pg_sub (pv 0) pe_int set_list))
  (pss_cons (ps_set (i := 3) sc_law_draw.nd rfl (Or.inl rfl) (pe_op op_modN (pe_op op_add (pe_op op_add (pe_op op_mul (pe_ix (ixL (K := K) rfl) (pv 0) pe_int (fun _ _ => rfl)) (pe_ix (ixL (K := K) rfl) (pv 0) pe_int (fun _ _ => rfl))) (pe_op op_mul pe_int (pe_ix (ixL (K := K) rfl) (pv 0) pe_int (fun _ _ => rfl)))) pe_int) pe_int))
  (pss_cons (ps_set (i := 3) sc_law_draw.nd rfl (Or.inl rfl) (pe_op op_modN (pe_op op_add (pe_op op_mul (pv 3) (pv 3)) (pe_op op_mul pe_int (pv 3))) pe_int))
  (pss_one (ps_ret (pe_op op_modN (pe_op op_fdivN (pv 3) pe_int) (pv 1))))))))), ?_⟩
  obtain ⟨a0, b0, b1, n0⟩ := hok
  walk_at "go"
  refine r_ixL (SqL.of (by walk_at "hp")) (atI_nat (j := 0) rfl) ?_
  walk_at "go"
  apply r_if2
  · intro ha
    walk_at "go"
    refine r_ixL (SqL.of (by walk_at "hp")) (atI_nat (j := 0) rfl) ?_
    walk_at "go"
    refine r_I (by omega) ?_
    walk_at "go"
    refine r_ixL (SqL.of (by walk_at "hp")) (atI_nat (j := 0) rfl) ?_
    walk_at "go"
    refine r_I ⟨by omega, by omega⟩ ?_
    walk_at "go"
    apply r_setL (j := 0) hp rfl
    intro H1 e1 h1
    walk_at "go"
    have hu0 : (0 : Int) < u := by omega
    exact q _ _ e1 ⟨a.fdiv u, b, n, h1, ⟨Int.fdiv_nonneg a0 (by omega), b0, b1, n0⟩⟩ (Int.fmod_nonneg_of_pos a hu0) (Int.fmod_lt_of_pos a hu0)
  · intro ha
    walk_at "go"
    refine r_ixL (SqL.of (by walk_at "hp")) (atI_nat (j := 2) rfl) ?_
    walk_at "go"
    apply r_setL (j := 2) hp rfl
    intro H1 e1 h1
    walk_at "go"
    have h1' : H1 p = some (.lst [.int a, .int b, .int (n + 1)]) := h1
    refine r_ixL (SqL.of h1') (atI_nat (j := 1) rfl) ?_
    walk_at "go"
    refine r_I (.inl ⟨by omega, by omega⟩) ?_
    walk_at "go"
    refine r_ixL (SqL.of h1') (atI_nat (j := 2) rfl) ?_
    walk_at "go"
    refine r_I (.inl ⟨by decide, by decide⟩) ?_
    walk_at "go"
    refine r_I (by decide) ?_
    walk_at "go"
    have c1 := Int.fmod_nonneg_of_pos (b * 48271 + 1009 * (n + 1) + 7) (show (0 : Int) < 2147483647 by decide)
    have c2 := Int.fmod_lt_of_pos (b * 48271 + 1009 * (n + 1) + 7) (show (0 : Int) < 2147483647 by decide)
    generalize (b * 48271 + 1009 * (n + 1) + 7).fmod 2147483647 = B at c1 c2 ⊢
    apply r_setL (j := 1) h1' rfl
    intro H2 e2 h2
    have h2' : H2 p = some (.lst [.int a, .int B, .int (n + 1)]) := h2
    walk_at "go"
    refine r_ixL (SqL.of h2') (atI_nat (j := 1) rfl) ?_
    walk_at "go"
    refine r_ixL (SqL.of h2') (atI_nat (j := 1) rfl) ?_
    walk_at "go"
    refine r_I (.inl ⟨by omega, by omega⟩) ?_
    walk_at "go"
    refine r_ixL (SqL.of h2') (atI_nat (j := 1) rfl) ?_
    walk_at "go"
    refine r_I (.inl ⟨by decide, by decide⟩) ?_
    walk_at "go"
    refine r_I (by decide) ?_
    walk_at "go"
    have c3 := Int.fmod_nonneg_of_pos (B * B + 69621 * B + 11) (show (0 : Int) < 2147483629 by decide)
    have c4 := Int.fmod_lt_of_pos (B * B + 69621 * B + 11) (show (0 : Int) < 2147483629 by decide)
    generalize (B * B + 69621 * B + 11).fmod 2147483629 = S at c3 c4 ⊢
    refine r_I (.inl ⟨by omega, by omega⟩) ?_
    walk_at "go"
    refine r_I (.inl ⟨by decide, by decide⟩) ?_
    walk_at "go"
    refine r_I (by decide) ?_
    walk_at "go"
    refine r_I ⟨by decide, by decide⟩ ?_
    walk_at "go"
    refine r_I (by omega) ?_
    have hu0 : (0 : Int) < u := by omega
    refine q _ _ (Ext.tr e2 e1 ⟨fun l hl => .inl hl⟩) ⟨a, B, n + 1, h2', ⟨a0, c1, c2, by omega⟩⟩ (Int.fmod_nonneg_of_pos _ hu0) (Int.fmod_lt_of_pos _ hu0)
end
/-! ### the law's picks and words -/
section
variable {P : Program} {w : World} {K : PySem.W.Frag} {mg : Str → Option Value} {base : Heap}
def spPick : Sp := fun vs H Q _ => ∃ p l vals, vs = [.ref p, .ref l] ∧ PenAt H p ∧ H l = some (.lst vals) ∧ l ≠ p ∧ vals ≠ [] ∧ vals.length ≤ 1000 ∧ ∀ H' v, Ext [p] H H' → PenAt H' p → v ∈ vals → Q v H'
theorem sc_law_pick : FnScope ["_law_pen_here", "_law_some"] ["_law_pen_here", "_law_some"] (defScope s92) := ⟨rfl, rfl, rfl, by decide +kernel, rfl, by decide +kernel, by decide +kernel⟩
theorem fn__law_pick (T : Tx K mg) : FnR P w K mg base CX0 2 (d__law_pick.pl.ad K) spPick := by
  refine fnR_of (N := ["_law_pen_here", "_law_some"]) (ps := ["_law_pen_here", "_law_some"]) (fun_of T md__law_pick rfl) sc_law_pick (fun _ _ _ _ _ _ us hl => match us, hl with | [_, _], _ => rfl) (fun _ _ _ _ ⟨_, _, _, e, _⟩ => by rw [e]; rfl) fun cdv A outer s H vs Q E hr hsp => ?_
  obtain ⟨p, l, vals, rfl, hp, hl, hne, hv, hvl, q⟩ := hsp
  refine ⟨_, (pss_one (ps_ret (pe_ix (ixL (K := K) rfl) (pv 1) (kc_call (fn__law_draw (K := K) (mg := mg) T) hr (by rfl) (T.glo "_law_draw" (by decide +kernel)) (T.def_ _ md__law_draw).kp (pa_cons (pv 0) (pa_cons (pe_callB (cl_len (K := K) rfl) (by rfl) (T.free "len" (by decide +kernel)) (by decide +kernel) (pa_cons (pv 1) pa_nil)) pa_nil))) (fun _ _ => rfl)))), ?_⟩
  walk_at "go"
  have hlen : 0 < vals.length := List.length_pos_iff.mpr hv
  refine ⟨p, _, rfl, hp, by omega, by omega, fun H1 r e1 hp1 hr0 hr1 => ?_⟩
  apply r_ixL (v := vals[r.toNat]'(by omega)) (SqL.of (by walk_at "hp"))
  · exact at_of (j := r.toNat) (by omega) (List.getElem?_eq_getElem (by omega))
  exact q _ _ e1 hp1 (List.getElem_mem _)
def spWordsL : Sp := fun vs H Q _ => ∃ a xs, vs = [.ref a] ∧ H a = some (.lst xs) ∧ xs.length ≤ 1000 ∧ (∀ v ∈ xs, OkW v) ∧ ∀ H', Ext [] H H' → Q (.str (Txt.join " " (xs.map txt))) H'
theorem sc_law_words : FnScope ["_law_some", "_law_one"] ["_law_some"] (defScope s96) := ⟨rfl, rfl, rfl, by decide +kernel, rfl, by decide +kernel, by decide +kernel⟩
theorem fn__law_wordsL (T : Tx K mg) : FnR P w K mg base CX0 1 (d__law_words.pl.ad K) spWordsL := by
  refine fnR_of (N := ["_law_some", "_law_one"]) (ps := ["_law_some"]) (fun_of T md__law_words rfl) sc_law_words (fun _ _ _ _ _ _ us hl => match us, hl with | [_], _ => rfl) (fun _ _ _ _ ⟨_, _, e, _⟩ => by rw [e]; rfl) fun cdv A outer s H vs Q E hr hsp => ?_
  obtain ⟨a, xs, rfl, ha, hl, hw, q⟩ := hsp
  refine ⟨_, (pss_one (ps_ret (kc_join (K := K) rfl pe_str (pe_lc (own := [("_law_one", 1)]) (g := gName 1) (tt := tYes) rfl sc_law_words.nd (ki_list (K := K) rfl (pv 0)) (blkOk_by (N := ["_law_some", "_law_one"]) (sc := defScope s96) (by decide +kernel)) (fun _ _ _ _ _ => (pg_name (i := 1) sc_law_words.nd rfl (Or.inl rfl))) (fun _ _ _ _ _ => pts_nil) (fun _ _ _ _ _ => (pe_ifExp (pt_cmpR opIsN (pv 1) pe_non (nomark _)) pe_str (pe_callTy cl_str (by rfl) (T.free "str" (by decide +kernel)) (by decide +kernel) (pa_cons (pv 1) pa_nil)))))))), ?_⟩
  walk_at "go"
  refine ⟨a, rfl, ⟨_, SqL.of ha⟩, ?_⟩
  refine r_kLc (walk_list (xs := xs)) [] (fun i acc => acc = ((xs.take i).map txt).map V.str) rfl ?_ ?_ ?_
  · intro H2 e
    refine SqL.of ?_
    walk_at "hp"
  · rintro D i x H1 H2 acc hi nw e hD rfl ⟨rfl, hx⟩
    have hok := hw x (List.mem_of_getElem? hx)
    have fin : ∀ z, z = txt x → kAp D (LcI D [] H (fun i acc => acc = ((xs.take i).map txt).map V.str) (i + 1)) (.str z) H2 := fun z hz => by
      refine r_kAp hD e nw (by simp; omega) ?_
      rw [List.take_succ, hx, hz]
      simp
    rcases hok.2 with rfl | ⟨n, rfl, hn⟩ | ⟨z, rfl⟩
    · walk_at "go"
      refine ⟨rfl, ?_⟩
      walk_at "go"
      exact fin _ rfl
    · walk_at "go"
      refine ⟨rfl, ?_⟩
      walk_at "go"
      refine r_strI hn ?_
      exact fin _ rfl
    · walk_at "go"
      refine ⟨rfl, ?_⟩
      walk_at "go"
      exact fin _ rfl
  · rintro D H2 acc nw e hD rfl
    rw [List.take_length] at hD
    refine r_joinL hD ?_ ?_
    · have := sum_le (ys := xs.map txt) (n := 100) (fun y hy => by
        obtain ⟨v, hv, rfl⟩ := List.mem_map.mp hy
        exact (hw v hv).1)
      rw [List.length_map] at this ⊢
      rw [show ((" " : Str).length) = 1 from rfl]
      omega
    · exact q _ (by walk_at "ex")
def spWordsT : Sp := fun vs H Q _ => ∃ a xs, vs = [.ref a] ∧ H a = some (.tup xs) ∧ xs.length ≤ 1000 ∧ (∀ v ∈ xs, OkW v) ∧ ∀ H', Ext [] H H' → Q (.str (Txt.join " " (xs.map txt))) H'
theorem fn__law_wordsT (T : Tx K mg) : FnR P w K mg base CX0 1 (d__law_words.pl.ad K) spWordsT := by
  refine fnR_of (N := ["_law_some", "_law_one"]) (ps := ["_law_some"]) (fun_of T md__law_words rfl) sc_law_words (fun _ _ _ _ _ _ us hl => match us, hl with | [_], _ => rfl) (fun _ _ _ _ ⟨_, _, e, _⟩ => by rw [e]; rfl) fun cdv A outer s H vs Q E hr hsp => ?_
  obtain ⟨a, xs, rfl, ha, hl, hw, q⟩ := hsp
  refine ⟨_, (pss_one (ps_ret (kc_join (K := K) rfl pe_str (pe_lc (own := [("_law_one", 1)]) (g := gName 1) (tt := tYes) rfl sc_law_words.nd (ki_tup (K := K) rfl (pv 0)) (blkOk_by (N := ["_law_some", "_law_one"]) (sc := defScope s96) (by decide +kernel)) (fun _ _ _ _ _ => (pg_name (i := 1) sc_law_words.nd rfl (Or.inl rfl))) (fun _ _ _ _ _ => pts_nil) (fun _ _ _ _ _ => (pe_ifExp (pt_cmpR opIsN (pv 1) pe_non (nomark _)) pe_str (pe_callTy cl_str (by rfl) (T.free "str" (by decide +kernel)) (by decide +kernel) (pa_cons (pv 1) pa_nil)))))))), ?_⟩
  walk_at "go"
  refine ⟨a, rfl, ⟨_, SqT.of ha⟩, ?_⟩
  refine r_kLc (walk_tup (xs := xs)) [] (fun i acc => acc = ((xs.take i).map txt).map V.str) rfl ?_ ?_ ?_
  · intro H2 e
    refine SqT.of ?_
    walk_at "hp"
  · rintro D i x H1 H2 acc hi nw e hD rfl ⟨rfl, hx⟩
    have hok := hw x (List.mem_of_getElem? hx)
    have fin : ∀ z, z = txt x → kAp D (LcI D [] H (fun i acc => acc = ((xs.take i).map txt).map V.str) (i + 1)) (.str z) H2 := fun z hz => by
      refine r_kAp hD e nw (by simp; omega) ?_
      rw [List.take_succ, hx, hz]
      simp
    rcases hok.2 with rfl | ⟨n, rfl, hn⟩ | ⟨z, rfl⟩
    · walk_at "go"
      refine ⟨rfl, ?_⟩
      walk_at "go"
      exact fin _ rfl
    · walk_at "go"
      refine ⟨rfl, ?_⟩
      walk_at "go"
      refine r_strI hn ?_
      exact fin _ rfl
    · walk_at "go"
      refine ⟨rfl, ?_⟩
      walk_at "go"
      exact fin _ rfl
  · rintro D H2 acc nw e hD rfl
    rw [List.take_length] at hD
    refine r_joinL hD ?_ ?_
    · have := sum_le (ys := xs.map txt) (n := 100) (fun y hy => by
        obtain ⟨v, hv, rfl⟩ := List.mem_map.mp hy
        exact (hw v hv).1)
      rw [List.length_map] at this ⊢
      rw [show ((" " : Str).length) = 1 from rfl]
      omega
    · exact q _ (by walk_at "ex")
/-- a value of the law's -/
def lawInts : List Int := [-5, -4, -3, -2, -1, 0, 1, 2, 3, 4, 5, 6, 7, 8, 9, 10, 11, 12, 13, 14, 10 ^ 40, -10 ^ 30 - 7, 99]
def letter (c : Nat) : Prop := c = 97 ∨ c = 98 ∨ c = 122 ∨ c = 113 ∨ c = 110
def LawV (v : V) : Prop := (∃ i ∈ lawInts, v = .int i) ∨ ∃ z : Str, v = .str z ∧ 1 ≤ z.length ∧ z.length ≤ 10 ∧ ∀ c ∈ z.cps.toList, letter c
theorem PenAt.same {H H' : Hp} {p : Addr} (h : PenAt H p) (e : Ext [] H H') : PenAt H' p := by
  obtain ⟨a, b, n, h1, h2⟩ := h
  exact ⟨a, b, n, e.ge _ _ List.not_mem_nil h1, h2⟩
theorem joinL_nil : ∀ ps : List (List Nat), TL.joinL [] ps = ps.flatten
  | [] => rfl
  | [p] => by simp [TL.joinL]
  | p :: q :: r => by
    rw [TL.joinL, joinL_nil (q :: r)]
    simp
theorem singles : ∀ {zs : List Str}, (∀ z ∈ zs, ∃ c, z.cps.toList = [c] ∧ letter c) → ((zs.map TL.tl).flatten).length = zs.length ∧ ∀ c ∈ (zs.map TL.tl).flatten, letter c
  | [], _ => ⟨rfl, fun _ h => by simp at h⟩
  | z :: r, h => by
    obtain ⟨c, hc, hl⟩ := h z List.mem_cons_self
    obtain ⟨i1, i2⟩ := singles (zs := r) fun y hy => h y (List.mem_cons_of_mem _ hy)
    have hz : TL.tl z = [c] := hc
    rw [List.map_cons, List.flatten_cons, hz]
    refine ⟨by rw [List.length_append, i1, List.length_cons]; simp; omega, fun x hx => ?_⟩
    rcases List.mem_append.mp hx with hx | hx
    · rw [List.mem_singleton.mp hx]
      exact hl
    · exact i2 x hx
theorem join_singles {zs : List Str} (h : ∀ z ∈ zs, ∃ c, z.cps.toList = [c] ∧ letter c) : (Txt.join "" zs).length = zs.length ∧ ∀ c ∈ (Txt.join "" zs).cps.toList, letter c := by
  have e : (Txt.join "" zs).cps.toList = (zs.map TL.tl).flatten := by
    show TL.tl (Txt.join "" zs) = _
    rw [TL.join_eq, TL.tl_join, show TL.tl ("" : Str) = [] from rfl, joinL_nil]
  obtain ⟨h1, h2⟩ := singles h
  refine ⟨?_, fun c hc => h2 c (by rw [← e]; exact hc)⟩
  show (Txt.join "" zs).cps.size = _
  rw [← Array.length_toList, e, h1]
def fiveL : List Str := ["a", "b", "z", "q", "n"]
theorem five : ∀ z ∈ fiveL, ∃ c, z.cps.toList = [c] ∧ letter c := by
  intro z hz
  simp only [fiveL, List.mem_cons, List.not_mem_nil, or_false] at hz
  rcases hz with rfl | rfl | rfl | rfl | rfl
  · exact ⟨97, by decide +kernel, .inl rfl⟩
  · exact ⟨98, by decide +kernel, .inr (.inl rfl)⟩
  · exact ⟨122, by decide +kernel, .inr (.inr (.inl rfl))⟩
  · exact ⟨113, by decide +kernel, .inr (.inr (.inr (.inl rfl)))⟩
  · exact ⟨110, by decide +kernel, .inr (.inr (.inr (.inr rfl)))⟩
def spValue : Sp := fun vs H Q _ => ∃ p, vs = [.ref p] ∧ PenAt H p ∧ ∀ H' v, Ext [p] H H' → PenAt H' p → LawV v → Q v H'
theorem sc_law_value : FnScope ["_law_pen_here", "_law_way", "_law_turn"] ["_law_pen_here"] (defScope s94) := ⟨rfl, rfl, rfl, by decide +kernel, rfl, by decide +kernel, by decide +kernel⟩
theorem fn__law_value (T : Tx K mg) : FnR P w K mg base CX0 3 (d__law_value.pl.ad K) spValue := by
  refine fnR_of (N := ["_law_pen_here", "_law_way", "_law_turn"]) (ps := ["_law_pen_here"]) (fun_of T md__law_value rfl) sc_law_value (fun _ _ _ _ _ _ us hl => match us, hl with | [_], _ => rfl) (fun _ _ _ _ ⟨_, e, _⟩ => by rw [e]; rfl) fun cdv A outer s H vs Q E hr hsp => ?_
  obtain ⟨p, rfl, hp, q⟩ := hsp
  refine ⟨_, (pss_cons (ps_set (i := 1) sc_law_value.nd rfl (Or.inl rfl) (kc_call (fn__law_draw (K := K) (mg := mg) T) hr (by rfl) (T.glo "_law_draw" (by decide +kernel)) (T.def_ _ md__law_draw).kp (pa_cons (pv 0) (pa_cons pe_int pa_nil))))
  (pss_cons (ps_if (pt_cmpR op_lt (pv 1) pe_int (nomark _))
  (pss_one (ps_ret (pe_op op_sub (kc_call (fn__law_draw (K := K) (mg := mg) T) hr (by rfl) (T.glo "_law_draw" (by decide +kernel)) (T.def_ _ md__law_draw).kp (pa_cons (pv 0) (pa_cons pe_int pa_nil))) pe_int)))
  pss_nil)
  (pss_cons (ps_if (pt_cmpR op_eq (pv 1) pe_int (nomark _))
  (pss_one (ps_ret (kc_call (fn__law_pick (K := K) (mg := mg) T) hr (by rfl) (T.glo "_law_pick" (by decide +kernel)) (T.def_ _ md__law_pick).kp (pa_cons (pv 0) (pa_cons (pe_lst (pa_cons pe_int (pa_cons (pe_op op_pow pe_int pe_int) (pa_cons (pe_op op_sub (pe_un un_neg (pe_op op_pow pe_int pe_int)) pe_int) (pa_cons pe_int (pa_cons pe_int pa_nil)))))) pa_nil)))))
  pss_nil)
  (pss_one (ps_ret (kc_join (K := K) rfl pe_str (pe_lc (own := [("_law_turn", 2)]) (g := gName 2) (tt := tYes) rfl sc_law_value.nd (pi_range1 (by rfl) (T.free "range" (by decide +kernel)) (pa_cons (pe_op op_add pe_int (kc_call (fn__law_draw (K := K) (mg := mg) T) hr (by rfl) (T.glo "_law_draw" (by decide +kernel)) (T.def_ _ md__law_draw).kp (pa_cons (pv 0) (pa_cons pe_int pa_nil)))) pa_nil)) (blkOk_by (N := ["_law_pen_here", "_law_way", "_law_turn"]) (sc := defScope s94) (by decide +kernel)) (fun _ _ _ _ _ => (pg_name (i := 2) sc_law_value.nd rfl (Or.inl rfl))) (fun _ _ _ _ _ => pts_nil) (fun _ _ _ _ _ => (kc_call (fn__law_pick (K := K) (mg := mg) T) hr (by rfl) (T.glo "_law_pick" (by decide +kernel)) (T.def_ _ md__law_pick).kp (pa_cons (pv 0) (pa_cons (pe_lst (pa_cons pe_str (pa_cons pe_str (pa_cons pe_str (pa_cons pe_str (pa_cons pe_str pa_nil)))))) pa_nil))))))))))), ?_⟩
  walk_at "go"
  refine ⟨p, 6, rfl, hp, by decide, by decide, fun H1 r e1 hp1 hr0 hr1 => ?_⟩
  walk_at "go"
  apply r_if2
  · intro h3
    walk_at "go"
    refine ⟨p, 20, rfl, hp1, by decide, by decide, fun H2 r2 e2 hp2 hr2 hr3 => ?_⟩
    walk_at "go"
    refine q _ _ (by walk_at "ex") hp2 (.inl ⟨_, ?_, rfl⟩)
    have key : ∀ k : Nat, k < 20 → ((k : Int) - 5) ∈ lawInts := by decide
    have := key r2.toNat (by omega)
    rwa [show ((r2.toNat : Nat) : Int) = r2 by omega] at this
  · intro h3
    walk_at "go"
    apply r_if2
    · intro h4
      walk_at "go"
      refine r_I ⟨by decide, by decide, by decide⟩ ?_
      walk_at "go"
      refine r_I ⟨by decide, by decide, by decide⟩ ?_
      walk_at "go"
      rename_i l2 H2 nl2 e2 h2
      have hp2 := hp1.same e2
      have hlp : l2 ≠ p := by
        obtain ⟨a, b, n, hh, _⟩ := hp1
        exact ne_fresh' nl2 hh
      refine ⟨p, l2, _, rfl, hp2, h2, hlp, by simp, by simp, fun H3 v e3 hp3 hv => ?_⟩
      refine q _ _ (by walk_at "ex") hp3 (.inl ?_)
      simp only [List.mem_cons, List.not_mem_nil, or_false] at hv
      rcases hv with rfl | rfl | rfl | rfl | rfl
      · exact ⟨_, by decide, rfl⟩
      · exact ⟨_, by decide, rfl⟩
      · exact ⟨_, by decide, rfl⟩
      · exact ⟨_, by decide, rfl⟩
      · exact ⟨_, by decide, rfl⟩
    · intro h4
      walk_at "go"
      refine ⟨p, 10, rfl, hp1, by decide, by decide, fun H2 r2 e2 hp2 hr2 hr3 => ?_⟩
      walk_at "go"
      refine ⟨_, rfl, by omega, by omega, ?_⟩
      refine r_kLcH walk_range [p] (fun i H acc => PenAt H p ∧ ∃ zs : List Str, acc = zs.map V.str ∧ zs.length = i ∧ ∀ z ∈ zs, z ∈ fiveL) ?_ (fun _ _ _ _ _ => trivial) ?_ ?_
      · intro D H3 nw e3
        exact ⟨hp2.same e3, [], rfl, rfl, fun z hz => absurd hz List.not_mem_nil⟩
      · rintro D i v H3 H4 acc hi nw e3 hD ⟨hp3, zs, rfl, hz1, hz2⟩ ⟨rfl, rfl⟩
        walk_at "go"
        refine ⟨rfl, ?_⟩
        walk_at "go"
        rename_i l5 H5 nl5 e5 h5
        have hlp : l5 ≠ p := by
          obtain ⟨a, b, n, hh, _⟩ := hp3
          exact ne_fresh' nl5 hh
        have hDp : D ≠ p := by
          obtain ⟨a, b, n, hh, _⟩ := hp2
          exact ne_fresh' nw hh
        refine ⟨p, l5, _, rfl, hp3.same e5, h5, hlp, by simp, by simp, fun H6 v e6 hp6 hv => ?_⟩
        have hv' : ∃ z ∈ fiveL, v = .str z := by
          simp only [List.mem_cons, List.not_mem_nil, or_false] at hv
          rcases hv with rfl | rfl | rfl | rfl | rfl
          · exact ⟨_, by simp [fiveL], rfl⟩
          · exact ⟨_, by simp [fiveL], rfl⟩
          · exact ⟨_, by simp [fiveL], rfl⟩
          · exact ⟨_, by simp [fiveL], rfl⟩
          · exact ⟨_, by simp [fiveL], rfl⟩
        obtain ⟨z, hz, rfl⟩ := hv'
        have hD6 : H6 D = some (.lst (zs.map V.str)) := by walk_at "hp"
        refine r_kApH hD6 (Ext.tr e6 (Ext.tr e5 e3 Sub.nil) ⟨fun l hl => .inl hl⟩) nw (by rw [List.length_map]; omega) fun H7 e7 h7 => ⟨?_, zs ++ [z], by rw [List.map_append]; rfl, by rw [List.length_append, hz1]; rfl, fun y hy => ?_⟩
        · obtain ⟨a, b, n, hh, ho⟩ := hp6
          exact ⟨a, b, n, e7.ge _ _ (fun m => hDp (List.mem_singleton.mp m).symm) hh, ho⟩
        · rcases List.mem_append.mp hy with hy | hy
          · exact hz2 y hy
          · rw [List.mem_singleton.mp hy]
            exact hz
      · rintro D H3 acc nw e3 hD ⟨hp3, zs, rfl, hz1, hz2⟩
        obtain ⟨j1, j2⟩ := join_singles (zs := zs) fun z hz => five z (hz2 z hz)
        have hle1 : ∀ y ∈ zs, y.length ≤ 1 := fun y hy => by
          obtain ⟨c, hc, _⟩ := five y (hz2 y hy)
          show y.cps.size ≤ 1
          rw [← Array.length_toList, hc]
          simp
        have := sum_le hle1
        refine r_joinL hD ?_ ?_
        · rw [show (("" : Str).length) = 0 from rfl]
          omega
        · exact q _ _ (Ext.tr e3 (Ext.tr e2 e1 ⟨fun l hl => .inl hl⟩) ⟨fun l hl => .inl hl⟩) hp3 (.inr ⟨_, rfl, by omega, by omega, j2⟩)
end
/-! ### the law's tables -/
def chosen (L : Nat) (hs : List Int) : List Int := hs.zipIdx.map fun p => ((p.2 : Int) + p.1).fmod (L : Int)
theorem chosen_snoc {L : Nat} {hs : List Int} {h : Int} : chosen L (hs ++ [h]) = chosen L hs ++ [((hs.length : Int) + h).fmod (L : Int)] := by
  unfold chosen
  rw [List.zipIdx_append, List.map_append]
  simp
theorem erase_perm : ∀ {l : List Int} {r : Nat} (h : r < l.length), (l[r] :: l.eraseIdx r).Perm l
  | a :: l, 0, _ => List.Perm.refl _
  | a :: l, r + 1, h => by
    have hr' : r < l.length := by simpa using h
    have ih := erase_perm (l := l) (r := r) hr'
    show (l[r] :: a :: l.eraseIdx r).Perm (a :: l)
    exact (List.Perm.swap a l[r] _).trans (List.Perm.cons a ih)
structure TabI (L i : Nat) (hs lf : List Int) : Prop where
  len : hs.length = i
  bd : ∀ h ∈ hs, 0 ≤ h ∧ h ≤ 60
  perm : (chosen L hs ++ lf).Perm ((List.range L).map fun (k : Nat) => (k : Int))
theorem TabI.len2 {L i : Nat} {hs lf : List Int} (h : TabI L i hs lf) : lf.length + i = L := by
  have := h.perm.length_eq
  rw [List.length_append, List.length_map, List.length_range] at this
  unfold chosen at this
  rw [List.length_map, List.length_zipIdx, h.len] at this
  omega
theorem TabI.mem {L i : Nat} {hs lf : List Int} (h : TabI L i hs lf) {c : Int} (hc : c ∈ lf) : 0 ≤ c ∧ c < (L : Int) := by
  have := h.perm.mem_iff.mp (List.mem_append_right _ hc)
  obtain ⟨k, hk, rfl⟩ := List.mem_map.mp this
  rw [List.mem_range] at hk
  exact ⟨by omega, by omega⟩
theorem TabI.step {L i r : Nat} {hs lf : List Int} (h : TabI L i hs lf) (hr : r < lf.length) {x : Int} (hx : 0 ≤ x ∧ x ≤ 60) (hm : ((i : Int) + x).fmod (L : Int) = lf[r]) : TabI L (i + 1) (hs ++ [x]) (lf.eraseIdx r) := by
  refine ⟨by rw [List.length_append, h.len]; rfl, fun y hy => ?_, ?_⟩
  · rcases List.mem_append.mp hy with hy | hy
    · exact h.bd y hy
    · rw [List.mem_singleton.mp hy]
      exact hx
  · rw [chosen_snoc, h.len, hm, List.append_assoc]
    refine List.Perm.trans ?_ h.perm
    exact List.Perm.append_left _ (erase_perm hr)
theorem TabI.ok {L : Nat} {hs lf : List Int} (h : TabI L L hs lf) (h0 : 0 < L) (h6 : L ≤ 24) : OkT hs := by
  have hl := h.len2
  have hlf : lf = [] := List.eq_nil_of_length_eq_zero (by omega)
  refine ⟨by rw [h.len]; exact h0, by rw [h.len]; exact h6, h.bd, ?_⟩
  have := h.perm
  rw [hlf, List.append_nil] at this
  have nd : ((List.range L).map fun (k : Nat) => (k : Int)).Nodup := by
    rw [List.nodup_iff_pairwise_ne, List.pairwise_map]
    exact (List.nodup_range (n := L)).imp fun hne z => hne (by omega)
  rw [h.len]
  exact this.nodup_iff.mpr nd
theorem er_map : ∀ (l : List Int) (r : Nat), (l.map V.int).eraseIdx r = (l.eraseIdx r).map V.int
  | [], _ => rfl
  | _ :: _, 0 => rfl
  | a :: l, r + 1 => by
    show V.int a :: (l.map V.int).eraseIdx r = V.int a :: (l.eraseIdx r).map V.int
    rw [er_map l r]
theorem hold_mod {L : Nat} (hL : 0 < L) {c i r : Int} (h0 : 0 ≤ c) (h1 : c < (L : Int)) : (i + (c - i).fmod (L : Int)).fmod (L : Int) = c ∧ (i + ((c - i).fmod (L : Int) + (L : Int) * r)).fmod (L : Int) = c := by
  have hn : (0 : Int) ≤ (L : Int) := by omega
  rw [Int.fmod_eq_emod_of_nonneg _ hn, Int.fmod_eq_emod_of_nonneg _ hn, Int.fmod_eq_emod_of_nonneg _ hn]
  have e1 : (i + (c - i) % (L : Int)) % (L : Int) = c := by
    rw [Int.add_comm, Int.emod_add_emod, Int.sub_add_cancel]
    exact Int.emod_eq_of_lt h0 h1
  refine ⟨e1, ?_⟩
  rw [← Int.add_assoc, Int.add_mul_emod_self_left]
  exact e1
theorem r_popAt {a : Addr} {xs : List V} {i : Int} {k : Nat} {y : V} {H : Hp} {Q : VK} (h : H a = some (.lst xs)) (h1 : -(2 ^ 63) ≤ i) (h2 : i < 2 ^ 63) (hi : ixN xs.length i = some k) (hy : xs[k]? = some y) (q : ∀ H2, Ext [a] H H2 → H2 a = some (.lst (xs.eraseIdx k)) → Q y H2) : rPopAt (.ref a) [.int i] H Q :=
  ⟨a, xs, i, k, y, rfl, rfl, h, h1, h2, (ixN_seq hi).1, hy, q _ (.mut h) upd_same⟩
section
variable {P : Program} {w : World} {K : PySem.W.Frag} {mg : Str → Option Value} {base : Heap}
def spTable_ : Sp := fun vs H Q _ => ∃ p, vs = [.ref p, .int 6, .int 2] ∧ PenAt H p ∧ ∀ H' t (ns : List Int), Ext [p] H H' → PenAt H' p → H' t = some (.tup (ns.map V.int)) → OkT ns → ns.length ≤ 6 → Q (.ref t) H'
theorem sc_law_table : FnScope ["_law_pen_here", "_law_most", "_law_times", "_law_length", "_law_holds", "_law_left", "_law_place", "_law_hold", "_law_more"] ["_law_pen_here", "_law_most", "_law_times"] (defScope s93) := ⟨rfl, rfl, rfl, by decide +kernel, rfl, by decide +kernel, by decide +kernel⟩
theorem fn__law_table (T : Tx K mg) : FnR P w K mg base CX0 2 (d__law_table.pl.ad K) spTable_ := by
  refine fnR_of (N := ["_law_pen_here", "_law_most", "_law_times", "_law_length", "_law_holds", "_law_left", "_law_place", "_law_hold", "_law_more"]) (ps := ["_law_pen_here", "_law_most", "_law_times"]) (fun_of T md__law_table rfl) sc_law_table (fun _ _ _ _ _ _ us hl => match us, hl with | [_, _, _], _ => rfl) (fun _ _ _ _ ⟨_, e, _⟩ => by rw [e]; rfl) fun cdv A outer s H vs Q E hr hsp => ?_
  obtain ⟨p, rfl, hp, q⟩ := hsp
  refine ⟨_, (pss_cons (ps_par (by rfl) sc_law_table.nd (i := 3) (j := 4) rfl rfl (by decide) rfl rfl (pa_cons (pe_op op_add pe_int (kc_call (fn__law_draw (K := K) (mg := mg) T) hr (by rfl) (T.glo "_law_draw" (by decide +kernel)) (T.def_ _ md__law_draw).kp (pa_cons (pv 0) (pa_cons (pv 1) pa_nil)))) (pa_cons (pe_lst pa_nil) pa_nil)) (by rfl))
  (pss_cons (ps_set (i := 5) sc_law_table.nd rfl (Or.inl rfl) (pe_listRg rfl (by rfl) (T.free "list" (by decide +kernel)) (prg_1 (by rfl) (T.free "range" (by decide +kernel)) (pv 3))))
  (pss_cons (ps_for PassesOwn.never rfl (pi_range1 (by rfl) (T.free "range" (by decide +kernel)) (pa_cons (pv 3) pa_nil)) (pg_name (i := 6) sc_law_table.nd rfl (Or.inl rfl))
  (pss_cons (ps_set (i := 7) sc_law_table.nd rfl (Or.inl rfl) (pe_op op_modN (pe_op op_sub (kc_bm (K := K) rfl PySem.F.plainAttrs_list PySem.F.slot_list_pop PySem.F.type_list_pop mt_popAt (pv 5) (pa_cons (kc_call (fn__law_draw (K := K) (mg := mg) T) hr (by rfl) (T.glo "_law_draw" (by decide +kernel)) (T.def_ _ md__law_draw).kp (pa_cons (pv 0) (pa_cons (pe_callB (cl_len (K := K) rfl) (by rfl) (T.free "len" (by decide +kernel)) (by decide +kernel) (pa_cons (pv 5) pa_nil)) pa_nil))) pa_nil)) (pv 6)) (pv 3)))
  (pss_cons (ps_set (i := 8) sc_law_table.nd rfl (Or.inl rfl) (pe_op op_add (pv 7) (pe_op op_mul (pv 3) (kc_call (fn__law_draw (K := K) (mg := mg) T) hr (by rfl) (T.glo "_law_draw" (by decide +kernel)) (T.def_ _ md__law_draw).kp (pa_cons (pv 0) (pa_cons (pe_op op_add (pv 2) pe_int) pa_nil))))))
  (pss_one (ps_expr (kc_bm (K := K) rfl PySem.F.plainAttrs_list PySem.F.slot_list_append PySem.F.type_list_append mt_append (pv 4) (pa_cons (pe_ifExp (pt_cmpR op_lt (pv 8) pe_int (nomark _)) (pv 8) (pv 7)) pa_nil)))))))
  (pss_one (ps_ret (pe_callTy (cl_tuple (K := K) rfl) (by rfl) (T.free "tuple" (by decide +kernel)) (by decide +kernel) (pa_cons (pv 4) pa_nil))))))), ?_⟩
  walk_at "go"
  refine ⟨p, 6, rfl, hp, by decide, by decide, fun H1 r1 e1 hp1 hr0 hr1 => ?_⟩
  walk_at "go"
  rename_i p1 H2 np1 e2 h2
  refine ⟨_, rfl, 1 + r1, rfl, ⟨by omega, by omega, by omega, by omega, by omega⟩, ?_⟩
  refine new_of fun p3 H3 np3 e3 h3 => ?_
  obtain ⟨L, hL⟩ : ∃ L : Nat, (1 + r1) = (L : Int) := ⟨(1 + r1).toNat, by omega⟩
  have h3' : H3 p3 = some (.lst (((List.range L).map fun (k : Nat) => (k : Int)).map V.int)) := by
    rw [h3, hL]
    unfold rgV
    simp
  rw [hL]
  have hL1 : 0 < L := by omega
  have hL6 : L ≤ 6 := by omega
  have hpp1 : p ≠ p1 := by
    obtain ⟨a, b, n, hh, _⟩ := hp1
    exact ne_fresh np1 hh
  have hpp3 : p ≠ p3 := by
    obtain ⟨a, b, n, hh, _⟩ := hp1.same e2
    exact ne_fresh np3 hh
  have h13 : p1 ≠ p3 := ne_fresh np3 h2
  have hp3 := (hp1.same e2).same e3
  have h2' := e3.ge _ _ List.not_mem_nil h2
  have e03 : Ext [p] H H3 := Ext.tr e3 (Ext.tr e2 e1 Sub.nil) Sub.nil
  have f1 : H p1 = none := e1.dom _ np1.no
  have f3 : H p3 = none := e1.dom _ (e2.dom _ np3.no)
  clear h3 h2 e1 e2 e3 np1 np3 hp1
  walk_at "go"
  refine ⟨(L : Int), rfl, by omega, by omega, ?_⟩
  rw [Int.toNat_natCast]
  refine r_for_it (walk_range (lo := 0) (n := L)) (fun i σ H4 => ∃ (x y z : Option V) (hs lf : List Int), σ = [some (.ref p), some (.int 6), some (.int 2), some (.int (L : Int)), some (.ref p1), some (.ref p3), x, y, z] ∧ PenAt H4 p ∧ Ext [p, p1, p3] H H4 ∧ Ext [p] H H4 ∧
    H4 p1 = some (.lst (hs.map V.int)) ∧ H4 p3 = some (.lst (lf.map V.int)) ∧ TabI L i hs lf) ?_ (fun _ _ _ _ _ => trivial) ?_ ?_
  · exact ⟨_, _, _, [], _, rfl, hp3, Ext.tr e03 Ext.rfl' ⟨fun l hl => .inl (by rw [List.mem_singleton.mp hl]; simp)⟩, e03, h2', h3', ⟨rfl, fun h hh => absurd hh List.not_mem_nil, List.Perm.refl _⟩⟩
  · rintro i v σ H4 H5 hi ⟨x, y, z, hs, lf, rfl, g1, _, g2, g3, g4, g5⟩ ⟨rfl, rfl⟩
    have hl2 := g5.len2
    walk_at "go"
    refine ⟨p, _, rfl, g1, by rw [List.length_map]; omega, by rw [List.length_map]; omega, fun H6 r e6 hp6 k1 k2 => ?_⟩
    rw [List.length_map] at k2
    walk_at "go"
    have hrl : r.toNat < lf.length := by omega
    have hmem : lf[r.toNat] ∈ lf := List.getElem_mem _
    obtain ⟨hc0, hc1⟩ := g5.mem hmem
    apply r_popAt (k := r.toNat) (y := .int lf[r.toNat]) (xs := lf.map V.int)
    · exact e6.ge _ _ (fun m => hpp3 (List.mem_singleton.mp m).symm) g4
    · omega
    · omega
    · unfold ixN
      rw [List.length_map, if_pos k1, if_pos k2]
    · rw [List.getElem?_map, List.getElem?_eq_getElem hrl]
      rfl
    intro H7 e7 h7
    rw [er_map] at h7
    walk_at "go"
    refine r_I (by omega) ?_
    walk_at "go"
    rw [Int.zero_add]
    have hLp : (0 : Int) < (L : Int) := by omega
    have b1 := Int.fmod_nonneg_of_pos (lf[r.toNat] - (i : Int)) hLp
    have b2 := Int.fmod_lt_of_pos (lf[r.toNat] - (i : Int)) hLp
    have hp7 : PenAt H7 p := by
      obtain ⟨a, b, n, hh, ho⟩ := hp6
      exact ⟨a, b, n, e7.ge _ _ (fun m => hpp3 (List.mem_singleton.mp m)) hh, ho⟩
    refine ⟨p, _, rfl, hp7, by decide, by decide, fun H8 r2 e8 hp8 k3 k4 => ?_⟩
    refine r_I (.inl ⟨by omega, by omega⟩) ?_
    walk_at "go"
    obtain ⟨m1, m2⟩ := hold_mod (L := L) hL1 (c := lf[r.toNat]) (i := (i : Int)) (r := r2) hc0 hc1
    have g8 : H8 p1 = some (.lst (hs.map V.int)) := e8.ge _ _ (fun m => hpp1 (List.mem_singleton.mp m).symm) (e7.ge _ _ (fun m => h13 (List.mem_singleton.mp m)) (e6.ge _ _ (fun m => hpp1 (List.mem_singleton.mp m).symm) g3))
    have g9 : H8 p3 = some (.lst ((lf.eraseIdx r.toNat).map V.int)) := e8.ge _ _ (fun m => hpp3 (List.mem_singleton.mp m).symm) h7
    have e38 : Ext [p] H H8 := Ext.tr e8 (Ext.tr e7 (Ext.tr e6 g2 ⟨fun l hl => .inl hl⟩) (Sub.cons (.inr f3) Sub.nil)) ⟨fun l hl => .inl hl⟩
    have hm0 : (0 : Int) ≤ (L : Int) * r2 := Int.mul_nonneg (by omega) k3
    have hsl : hs.length ≤ 6 := by
      rw [g5.len]
      omega
    have fin : ∀ (w : Int) (u1 u2 u3 : V), (0 ≤ w ∧ w ≤ 60) → ((i : Int) + w).fmod (L : Int) = lf[r.toNat] → ∀ H9, Ext [p1] H8 H9 → H9 p1 = some (.lst (hs.map V.int ++ [.int w])) →
        ∃ (x y z : Option V) (hs' lf' : List Int), [some (V.ref p), some (.int 6), some (.int 2), some (.int (L : Int)), some (.ref p1), some (.ref p3), some u1, some u2, some u3] = [some (V.ref p), some (.int 6), some (.int 2), some (.int (L : Int)), some (.ref p1), some (.ref p3), x, y, z] ∧ PenAt H9 p ∧ Ext [p, p1, p3] H H9 ∧ Ext [p] H H9 ∧
          H9 p1 = some (.lst (hs'.map V.int)) ∧ H9 p3 = some (.lst (lf'.map V.int)) ∧ TabI L (i + 1) hs' lf' := fun w u1 u2 u3 hw1 hw2 H9 e9 h9 => by
      have hp9 : PenAt H9 p := by
        obtain ⟨a, b, n, hh, ho⟩ := hp8
        exact ⟨a, b, n, e9.ge _ _ (fun m => hpp1 (List.mem_singleton.mp m)) hh, ho⟩
      have e39 : Ext [p] H H9 := Ext.tr e9 e38 (Sub.cons (.inr f1) Sub.nil)
      exact ⟨_, _, _, hs ++ [w], lf.eraseIdx r.toNat, rfl, hp9, Ext.tr e39 Ext.rfl' ⟨fun l hl => .inl (by rw [List.mem_singleton.mp hl]; simp)⟩, e39, by rw [List.map_append]; exact h9, e9.ge _ _ (fun m => h13 (List.mem_singleton.mp m).symm) g9, g5.step hrl hw1 hw2⟩
    apply r_if2
    · intro h61
      walk_at "go"
      apply r_append g8
      · rw [List.length_map]; omega
      intro H9 e9 h9
      exact fin _ _ _ _ ⟨by omega, by omega⟩ m2 H9 e9 h9
    · intro h61
      walk_at "go"
      apply r_append g8
      · rw [List.length_map]; omega
      intro H9 e9 h9
      exact fin _ _ _ _ ⟨b1, by omega⟩ m1 H9 e9 h9
  · rintro σ H4 ⟨x, y, z, hs, lf, rfl, g1, _, g2, g3, g4, g5⟩
    walk_at "go"
    rename_i p6 H6 np6 e6 h6
    exact q H6 p6 hs (Ext.tr e6 g2 Sub.nil) (g1.same e6) h6 (g5.ok hL1 (by omega)) (by rw [g5.len]; exact hL6)
end
/-! ### push_all of whichever box -/
section
variable {P : Program} {w : World} {K : PySem.W.Frag} {mg : Str → Option Value} {base : Heap}
def spLPush (K : PySem.W.Frag) (C : Addr) (po : Po) : Sp := fun vs H Q _ => ∃ x dx L ys A tb s l vals, vs = [.ref x, .ref l] ∧ H l = some (.lst vals) ∧ RowAt H C x dx L (ys ++ [.ref A.a]) ∧ Stn K H A tb s ∧ OkT tb ∧ Sml s 800 ∧ ys.length ≤ 1000 ∧ 1 ≤ vals.length ∧ vals.length ≤ 4 ∧ (∀ v ∈ vals, OkV v) ∧ PushPost K po H L ys A tb s vals Q
theorem sc_law_push_all : FnScope ["_law_box", "_law_some"] ["_law_box", "_law_some"] (defScope s95) := ⟨rfl, rfl, rfl, by decide +kernel, rfl, by decide +kernel, by decide +kernel⟩
theorem fn__law_push (T : Tx K mg) {C : Addr} (cl : Cls K C) {po : Po} {fp : Addr} (hm : Meth K C "push_all" fp) (F : FnR P w K mg base CX0 5 fp (spPush K C po)) : FnR P w K mg base CX0 6 (d__law_push_all.pl.ad K) (spLPush K C po) := by
  refine fnR_of (N := ["_law_box", "_law_some"]) (ps := ["_law_box", "_law_some"]) (fun_of T md__law_push_all rfl) sc_law_push_all (fun _ _ _ _ _ _ us hl => match us, hl with | [_, _], _ => rfl) (fun _ _ _ _ ⟨_, _, _, _, _, _, _, _, _, e, _⟩ => by rw [e]; rfl) fun cdv A outer s H vs Q E hr hsp => ?_
  obtain ⟨x, dx, L, ys, A0, tb, s0, l, vals, rfl, hl, ⟨hx1, hx2⟩, hst, hok, hsm, hys, hv1, hv2, hov, q⟩ := hsp
  refine ⟨_, (pss_cons (ps_if (pt_cmpR op_eq (pe_callB (cl_len (K := K) rfl) (by rfl) (T.free "len" (by decide +kernel)) (by decide +kernel) (pa_cons (pv 1) pa_nil)) pe_int (nomark _))
  (pss_one (ps_ret (kc_meth0 (pv 0) ⟨cl, _, hm, F⟩ hr)))
  pss_nil)
  (pss_cons (ps_if (pt_cmpR op_eq (pe_callB (cl_len (K := K) rfl) (by rfl) (T.free "len" (by decide +kernel)) (by decide +kernel) (pa_cons (pv 1) pa_nil)) pe_int (nomark _))
  (pss_one (ps_ret (kc_meth (pv 0) ⟨cl, _, hm, F⟩ hr (pa_cons (pe_ix (ixL (K := K) rfl) (pv 1) pe_int (fun _ _ => rfl)) pa_nil))))
  pss_nil)
  (pss_cons (ps_if (pt_cmpR op_eq (pe_callB (cl_len (K := K) rfl) (by rfl) (T.free "len" (by decide +kernel)) (by decide +kernel) (pa_cons (pv 1) pa_nil)) pe_int (nomark _))
  (pss_one (ps_ret (kc_meth (pv 0) ⟨cl, _, hm, F⟩ hr (pa_cons (pe_ix (ixL (K := K) rfl) (pv 1) pe_int (fun _ _ => rfl)) (pa_cons (pe_ix (ixL (K := K) rfl) (pv 1) pe_int (fun _ _ => rfl)) pa_nil)))))
  pss_nil)
  (pss_cons (ps_if (pt_cmpR op_eq (pe_callB (cl_len (K := K) rfl) (by rfl) (T.free "len" (by decide +kernel)) (by decide +kernel) (pa_cons (pv 1) pa_nil)) pe_int (nomark _))
  (pss_one (ps_ret (kc_meth (pv 0) ⟨cl, _, hm, F⟩ hr (pa_cons (pe_ix (ixL (K := K) rfl) (pv 1) pe_int (fun _ _ => rfl)) (pa_cons (pe_ix (ixL (K := K) rfl) (pv 1) pe_int (fun _ _ => rfl)) (pa_cons (pe_ix (ixL (K := K) rfl) (pv 1) pe_int (fun _ _ => rfl)) pa_nil))))))
  pss_nil)
  (pss_cons (ps_if (pt_cmpR op_eq (pe_callB (cl_len (K := K) rfl) (by rfl) (T.free "len" (by decide +kernel)) (by decide +kernel) (pa_cons (pv 1) pa_nil)) pe_int (nomark _))
  (pss_one (ps_ret (kc_meth (pv 0) ⟨cl, _, hm, F⟩ hr (pa_cons (pe_ix (ixL (K := K) rfl) (pv 1) pe_int (fun _ _ => rfl)) (pa_cons (pe_ix (ixL (K := K) rfl) (pv 1) pe_int (fun _ _ => rfl)) (pa_cons (pe_ix (ixL (K := K) rfl) (pv 1) pe_int (fun _ _ => rfl)) (pa_cons (pe_ix (ixL (K := K) rfl) (pv 1) pe_int (fun _ _ => rfl)) pa_nil)))))))
  pss_nil)
  (pss_one (ps_ret (kc_meth (pv 0) ⟨cl, _, hm, F⟩ hr (pa_cons (pe_ix (ixL (K := K) rfl) (pv 1) pe_int (fun _ _ => rfl)) (pa_cons (pe_ix (ixL (K := K) rfl) (pv 1) pe_int (fun _ _ => rfl)) (pa_cons (pe_ix (ixL (K := K) rfl) (pv 1) pe_int (fun _ _ => rfl)) (pa_cons (pe_ix (ixL (K := K) rfl) (pv 1) pe_int (fun _ _ => rfl)) (pa_cons (pe_ix (ixL (K := K) rfl) (pv 1) pe_int (fun _ _ => rfl)) pa_nil))))))))))))), ?_⟩
  rcases vals with _ | ⟨a, _ | ⟨b, _ | ⟨c, _ | ⟨d, _ | ⟨e, r⟩⟩⟩⟩⟩
  · exact absurd hv1 (by decide)
  · walk_at "go"
    apply r_ifF
    · intro z; simp at z
    walk_at "go"
    apply r_ifT rfl
    walk_at "go"
    refine r_ixL (SqL.of hl) (atI_nat (j := 0) rfl) ?_
    walk_at "go"
    exact ⟨x, dx, L, ys, A0, tb, s0, [a], rfl, ⟨hx1, hx2⟩, hst, hok, hsm, hys, by simp, hov, q⟩
  · walk_at "go"
    apply r_ifF
    · intro z; simp at z
    walk_at "go"
    apply r_ifF
    · intro z; simp at z
    walk_at "go"
    apply r_ifT rfl
    walk_at "go"
    refine r_ixL (SqL.of hl) (atI_nat (j := 0) rfl) ?_
    walk_at "go"
    refine r_ixL (SqL.of hl) (atI_nat (j := 1) rfl) ?_
    walk_at "go"
    exact ⟨x, dx, L, ys, A0, tb, s0, [a, b], rfl, ⟨hx1, hx2⟩, hst, hok, hsm, hys, by simp, hov, q⟩
  · walk_at "go"
    apply r_ifF
    · intro z; simp at z
    walk_at "go"
    apply r_ifF
    · intro z; simp at z
    walk_at "go"
    apply r_ifF
    · intro z; simp at z
    walk_at "go"
    apply r_ifT rfl
    walk_at "go"
    refine r_ixL (SqL.of hl) (atI_nat (j := 0) rfl) ?_
    walk_at "go"
    refine r_ixL (SqL.of hl) (atI_nat (j := 1) rfl) ?_
    walk_at "go"
    refine r_ixL (SqL.of hl) (atI_nat (j := 2) rfl) ?_
    walk_at "go"
    exact ⟨x, dx, L, ys, A0, tb, s0, [a, b, c], rfl, ⟨hx1, hx2⟩, hst, hok, hsm, hys, by simp, hov, q⟩
  · walk_at "go"
    apply r_ifF
    · intro z; simp at z
    walk_at "go"
    apply r_ifF
    · intro z; simp at z
    walk_at "go"
    apply r_ifF
    · intro z; simp at z
    walk_at "go"
    apply r_ifF
    · intro z; simp at z
    walk_at "go"
    apply r_ifT rfl
    walk_at "go"
    refine r_ixL (SqL.of hl) (atI_nat (j := 0) rfl) ?_
    walk_at "go"
    refine r_ixL (SqL.of hl) (atI_nat (j := 1) rfl) ?_
    walk_at "go"
    refine r_ixL (SqL.of hl) (atI_nat (j := 2) rfl) ?_
    walk_at "go"
    refine r_ixL (SqL.of hl) (atI_nat (j := 3) rfl) ?_
    walk_at "go"
    exact ⟨x, dx, L, ys, A0, tb, s0, [a, b, c, d], rfl, ⟨hx1, hx2⟩, hst, hok, hsm, hys, by simp, hov, q⟩
  · simp at hv2
end
/-! ### the law's values, written and read -/
theorem ints_ok : ∀ i ∈ lawInts, bad (toString i : Str) = false ∧ PySem.intText? (toString i : Str) = some i ∧ (1 ≤ (toString i : Str).length ∧ (toString i : Str).length ≤ 100) ∧ i.natAbs.log2 < 1920 ∧ 32 ∉ (toString i : Str).cps.toList := by decide +kernel
theorem holds_ok : ∀ k : Nat, k < 61 → cutS (toString (k : Int) : Str) none (some 1) ≠ ("-" : Str) ∧ (toString (k : Int) : Str).length ≤ 3 ∧ bad (toString (k : Int) : Str) = false ∧ PySem.intText? (toString (k : Int) : Str) = some (k : Int) ∧ (k : Int).natAbs.log2 < 1920 ∧ 32 ∉ (toString (k : Int) : Str).cps.toList := by decide +kernel
theorem letters_bad {z : Str} (h1 : 1 ≤ z.length) (h : ∀ c ∈ z.cps.toList, letter c) : bad z = true := by
  have hne : z.cps.toList ≠ [] := fun e => by
    have : z.length = z.cps.toList.length := by rw [Array.length_toList]; rfl
    rw [e] at this
    simp at this
    omega
  obtain ⟨c, r, hcr⟩ := List.exists_cons_of_ne_nil hne
  have hc : letter c := h c (by rw [hcr]; exact List.mem_cons_self)
  have hdg : dg z = z := by
    unfold dg
    rw [if_neg]
    intro e
    have e2 := congrArg (fun s : Str => s.cps.toList) e
    have e3 : ("-" : Str).cps.toList = [45] := by decide +kernel
    have e4 : (cutS z none (some 1)).cps.toList = [c] := by
      unfold cutS
      have s1 : HT.sIx z.length 0 none = 0 := by unfold HT.sIx; rfl
      have s2 : HT.sIx z.length z.length (some 1) = 1 := by
        unfold HT.sIx
        simp
        omega
      rw [s1, s2, hcr]
      rfl
    rw [e3, e4] at e2
    have : c = 45 := by simpa using e2
    unfold letter at hc
    omega
  unfold bad
  rw [hdg, hcr]
  have : dig c = false := by
    have key : ∀ x, letter x → dig x = false := by
      intro x hx
      unfold letter at hx
      rcases hx with rfl | rfl | rfl | rfl | rfl <;> decide +kernel
    exact key c hc
  rw [List.all_cons, this]
  simp
theorem LawV.okS {z : Str} (h1 : 1 ≤ z.length) (h2 : z.length ≤ 10) (h : ∀ c ∈ z.cps.toList, letter c) : OkS z := ⟨h1, h2, fun c hc => by
  have := h c hc
  unfold letter at this
  omega⟩
theorem LawV.okV {v : V} (h : LawV v) : OkV v := by
  rcases h with ⟨i, _, rfl⟩ | ⟨z, rfl, h1, h2, h3⟩
  · exact .inl ⟨i, rfl⟩
  · exact .inr ⟨z, rfl, LawV.okS h1 h2 h3⟩
theorem LawV.wv {v : V} (h : LawV v) : WV (txt v) v ∧ (1 ≤ (txt v).length ∧ (txt v).length ≤ 100) ∧ 32 ∉ (txt v).cps.toList ∧ OkW v := by
  rcases h with ⟨i, hi, rfl⟩ | ⟨z, rfl, h1, h2, h3⟩
  · obtain ⟨a1, a2, a3, a4, a5⟩ := ints_ok i hi
    exact ⟨.inl ⟨a1, i, a2, rfl⟩, a3, a5, a3.2, .inr (.inl ⟨i, rfl, a4⟩)⟩
  · refine ⟨.inr ⟨letters_bad h1 h3, LawV.okS h1 h2 h3, rfl⟩, ⟨h1, Nat.le_trans h2 (by decide)⟩, fun hc => ?_, Nat.le_trans h2 (by decide), .inr (.inr ⟨z, rfl⟩)⟩
    have := h3 32 hc
    unfold letter at this
    omega
theorem tl_sp : TL.tl (" " : Str) = 32 :: [] := by decide +kernel
theorem line_join {c c' : Str} (hc : c' = c ++ (" " : Str)) {ws : List Str} (hne : ws ≠ []) : c' ++ Txt.join " " ws = Txt.join " " (c :: ws) := by
  rw [TL.join_eq, TL.join_eq]
  cases ws with
  | nil => exact absurd rfl hne
  | cons z r =>
    rw [hc]
    rfl
theorem line_split {c c' : Str} (hc : c' = c ++ (" " : Str)) (hs : 32 ∉ c.cps.toList) {ws : List Str} (hne : ws ≠ []) (hw : ∀ z ∈ ws, 32 ∉ z.cps.toList) : Txt.split (c' ++ Txt.join " " ws) " " = c :: ws := by
  rw [line_join hc hne]
  refine TL.split_join tl_sp (by decide +kernel) (by simp) fun p hp => ?_
  rcases List.mem_cons.mp hp with rfl | hp
  · exact hs
  · exact hw p hp
theorem alone_no : ∀ v ∈ aloneL, ∃ z : Str, v = .str z ∧ 32 ∉ z.cps.toList := by
  intro v hv
  simp only [aloneL, List.mem_cons, List.not_mem_nil, or_false] at hv
  rcases hv with rfl | rfl | rfl | rfl | rfl | rfl | rfl | rfl | rfl <;> exact ⟨_, rfl, by decide +kernel⟩
theorem line_alone {line : Str} (h : 32 ∈ line.cps.toList) : inV (.str line) aloneL = false := by
  unfold inV
  rw [List.any_eq_false]
  intro v hv
  obtain ⟨z, rfl, hz⟩ := alone_no v hv
  show ¬ (z == line) = true
  intro e
  rw [beq_iff_eq.mp e] at hz
  exact hz h
theorem line_space {c c' x : Str} (hc : c' = c ++ (" " : Str)) : 32 ∈ (c' ++ x).cps.toList := by
  rw [hc, Str.cps_append, Str.cps_append, Array.toList_append, Array.toList_append]
  refine List.mem_append_left _ (List.mem_append_right _ ?_)
  show 32 ∈ TL.tl (" " : Str)
  rw [tl_sp]
  exact List.mem_cons_self
theorem join_len : ∀ (ws : List Str) {n : Nat}, (∀ z ∈ ws, z.length ≤ n) → (Txt.join " " ws).length ≤ ws.length * (n + 1) := by
  intro ws n h
  rw [TL.join_eq]
  induction ws with
  | nil => exact Nat.zero_le _
  | cons z r ih =>
    have hz := h z List.mem_cons_self
    have ih' := ih fun y hy => h y (List.mem_cons_of_mem _ hy)
    cases r with
    | nil =>
      show z.length ≤ _
      simp
      omega
    | cons y r =>
      show (z ++ " " ++ Str.join " " (y :: r)).length ≤ _
      rw [Str.length_append, Str.length_append, show (" " : Str).length = 1 from rfl, List.length_cons, Nat.add_mul]
      omega
/-! ### six rows side by side -/
def ValO (v : V) : Prop := v = .non ∨ LawV v
/-- the ticks at which the plain row gave and the losing one did not -/
def goneOf (po lo : List V) : List Int := ((List.range po.length).filter fun t => decide (po.getD t .non ≠ .non) && decide (lo.getD t .non = .non)).map fun (t : Nat) => (t : Int)
structure J6 (p l c b k s : SD) : Prop where
  il : l.ins = p.ins
  ic : c.ins = p.ins
  ib : b.ins = p.ins
  ik : k.ins = p.ins
  is_ : s.ins = p.ins
  dl : l.due = p.due
  dc : c.due = p.due
  db : b.due = p.due
  dk : k.due = p.due
  ds : s.due = p.due
  oc : c.outs = p.outs
  ob : b.outs = l.outs
  os : s.outs = l.outs
  gb : b.gone = l.gone
  gk : k.gone = l.gone
  gs : s.gone = l.gone
  cb : b.cuts = l.cuts
  ck : k.cuts = l.cuts
  cs : s.cuts = l.cuts
  mb : b.many = c.many
  np : p.outs.length = p.ins.length
  nl : l.outs.length = p.ins.length
  gone : l.gone = goneOf p.outs l.outs
  vi : ∀ v ∈ p.ins, LawV v
  vp : ∀ v ∈ p.outs, ValO v
  vl : ∀ v ∈ l.outs, ValO v
  vd : ∀ d ∈ p.due, LawV d.2.2
theorem dput_mem {due : List (Int × Int × V)} {k : Int} {e : Int × V} {d : Int × Int × V} (h : d ∈ dput due k e) : d ∈ due ∨ d.2 = e := by
  unfold dput at h
  split at h
  · obtain ⟨x, hx, rfl⟩ := List.mem_map.mp h
    split
    · exact .inr rfl
    · exact .inl hx
  · rcases List.mem_append.mp h with h | h
    · exact .inl h
    · rw [List.mem_singleton.mp h]
      exact .inr rfl
theorem ddrop_mem {due : List (Int × Int × V)} {k : Int} {d : Int × Int × V} (h : d ∈ ddrop due k) : d ∈ due := (List.mem_filter.mp h).1
theorem dget_in {due : List (Int × Int × V)} {k : Int} {e : Int × V} (h : dget due k = some e) : ∃ d ∈ due, d.2 = e := by
  unfold dget at h
  obtain ⟨d, hd, rfl⟩ := Option.map_eq_some_iff.mp h
  exact ⟨d, List.mem_of_find?_eq_some hd, rfl⟩
theorem goneOf_snoc {po lo : List V} {a b : V} (h : lo.length = po.length) : goneOf (po ++ [a]) (lo ++ [b]) = goneOf po lo ++ (if a ≠ .non ∧ b = .non then [(po.length : Int)] else []) := by
  unfold goneOf
  rw [List.length_append, show [a].length = 1 from rfl, List.range_succ, List.filter_append, List.map_append]
  congr 1
  · congr 1
    apply List.filter_congr
    intro t ht
    rw [List.mem_range] at ht
    rw [List.getD_eq_getElem?_getD, List.getD_eq_getElem?_getD, List.getElem?_append_left ht, List.getElem?_append_left (by omega), ← List.getD_eq_getElem?_getD, ← List.getD_eq_getElem?_getD]
  · have e1 : (po ++ [a]).getD po.length .non = a := by simp [List.getD_eq_getElem?_getD]
    have e2 : (lo ++ [b]).getD po.length .non = b := by
      rw [← h]
      simp [List.getD_eq_getElem?_getD]
    by_cases ha : a = .non
    · simp [ha]
    · by_cases hb : b = .non
      · simp [ha, hb, List.getD_eq_getElem?_getD, h]
      · rw [if_neg (fun z => hb z.2)]
        rw [List.filter_cons, if_neg (by rw [e2]; simp [hb])]
        rfl
theorem mid_same {tb : List Int} {s t : SD} {v : V} (hi : t.ins = s.ins) (hd : t.due = s.due) : (mid tb t v).due = (mid tb s v).due ∧ (mid tb t v).ins = (mid tb s v).ins ∧ found tb t v = found tb s v := by
  unfold mid found
  rw [hi, hd]
  exact ⟨rfl, rfl, rfl⟩
theorem found_val {tb : List Int} {s : SD} {v : V} (hv : LawV v) (vd : ∀ d ∈ s.due, LawV d.2.2) : ValO (outV (found tb s v)) := by
  unfold found
  cases h : dget (dput s.due ((s.ins.length : Int) + holdN tb ((s.ins.length : Int) + 0)) ((s.ins.length : Int), v)) (s.ins.length : Int) with
  | none => exact .inl rfl
  | some e =>
    obtain ⟨d, hd, he⟩ := dget_in h
    obtain ⟨c, u⟩ := e
    refine .inr ?_
    show LawV u
    rcases dput_mem hd with hd | hd
    · have := vd d hd
      rw [he] at this
      exact this
    · rw [he] at hd
      have : u = v := by rw [← (Prod.mk.inj hd).2]
      rw [this]
      exact hv
theorem losing_eq {s s' : SD} {now : Int} {fnd : Option (Int × V)} {r : V} (h : poLosing poRow s now fnd s' r) : (fnd.isSome = true ∧ now ∈ s.cuts ∧ s' = { s with gone := s.gone ++ [now] } ∧ r = .non) ∨ (¬ (fnd.isSome = true ∧ now ∈ s.cuts) ∧ s' = s ∧ r = outV fnd) := h
theorem losing_f {s s' : SD} {now : Int} {fnd : Option (Int × V)} {r : V} (h : poLosing poRow s now fnd s' r) : s'.ins = s.ins ∧ s'.outs = s.outs ∧ s'.due = s.due ∧ s'.cuts = s.cuts ∧ s'.many = s.many ∧
    s'.gone = s.gone ++ (if fnd.isSome = true ∧ now ∈ s.cuts then [now] else []) ∧ r = (if fnd.isSome = true ∧ now ∈ s.cuts then .non else outV fnd) := by
  rcases losing_eq h with ⟨h1, h2, rfl, rfl⟩ | ⟨h1, rfl, rfl⟩
  · rw [if_pos ⟨h1, h2⟩, if_pos ⟨h1, h2⟩]
    exact ⟨rfl, rfl, rfl, rfl, rfl, rfl, rfl⟩
  · rw [if_neg h1, if_neg h1]
    exact ⟨rfl, rfl, rfl, rfl, rfl, (List.append_nil _).symm, rfl⟩
theorem outV_non {fnd : Option (Int × V)} (h : ValO (outV fnd)) (hn : ∀ c u, fnd = some (c, u) → LawV u) : outV fnd ≠ .non ↔ fnd.isSome = true := by
  cases fnd with
  | none => simp [outV]
  | some e =>
    obtain ⟨c, u⟩ := e
    have := hn c u rfl
    refine ⟨fun _ => rfl, fun _ => ?_⟩
    show u ≠ .non
    rcases this with ⟨i, _, rfl⟩ | ⟨z, rfl, _⟩ <;> (intro z; cases z)
theorem found_law {tb : List Int} {s : SD} {v : V} (hv : LawV v) (vd : ∀ d ∈ s.due, LawV d.2.2) : ∀ c u, found tb s v = some (c, u) → LawV u := fun c u h => by
  unfold found at h
  obtain ⟨d, hd, he⟩ := dget_in h
  rcases dput_mem hd with hd | hd
  · have := vd d hd
    rw [he] at this
    exact this
  · rw [he] at hd
    rw [(Prod.mk.inj hd).2]
    exact hv
theorem mid_law {tb : List Int} {s : SD} {v : V} (hv : LawV v) (vd : ∀ d ∈ s.due, LawV d.2.2) : ∀ d ∈ (mid tb s v).due, LawV d.2.2 := fun d hd => by
  unfold mid at hd
  rcases dput_mem (ddrop_mem hd) with hd | hd
  · exact vd d hd
  · rw [hd]
    exact hv
theorem tick1_same (s : SD) (now : Int) (fnd : Option (Int × V)) : (tick1 s now fnd).ins = s.ins ∧ (tick1 s now fnd).outs = s.outs ∧ (tick1 s now fnd).due = s.due ∧ (tick1 s now fnd).cuts = s.cuts ∧ (tick1 s now fnd).gone = s.gone := by
  unfold tick1
  split <;> exact ⟨rfl, rfl, rfl, rfl, rfl⟩
theorem tick1_many {s t : SD} (now : Int) (fnd : Option (Int × V)) (h : s.many = t.many) (hd : s.due = t.due) : (tick1 s now fnd).many = (tick1 t now fnd).many := by
  unfold tick1
  split
  · exact h
  · show s.many + now - _ - behind s.due _ = t.many + now - _ - behind t.due _
    rw [h, hd]
/-- one push, in all six -/
theorem J6.step {p l c b k s p' l' c' b' k' s' : SD} {tb : List Int} {v rp rl rc rb rk rs : V} (J : J6 p l c b k s) (hv : LawV v) (hp : stepR poRow tb p v p' rp) (hl : stepR (poLosing poRow) tb l v l' rl) (hc : stepR (poCounting poRow) tb c v c' rc)
    (hb : stepR (poCounting (poLosing poRow)) tb b v b' rb) (hk : stepR (poLink (poLosing poRow)) tb k v k' rk) (hs : stepR (poLosing poRow) tb s v s' rs) : J6 p' l' c' b' k' s' ∧ rp = rc ∧ rl = rb ∧ rl = rs ∧ ValO rp ∧ ValO rl := by
  obtain ⟨p1, ⟨rfl, rfl⟩, rfl⟩ := hp
  obtain ⟨c1, ⟨rfl, rfl⟩, rfl⟩ := hc
  obtain ⟨k1, ⟨k2, rk2, lt, hk, rfl, _⟩, rfl⟩ := hk
  obtain ⟨l1, hl, rfl⟩ := hl
  obtain ⟨b1, hb, rfl⟩ := hb
  obtain ⟨s1, hs, rfl⟩ := hs
  obtain ⟨l_d, l_i, l_f⟩ := mid_same (tb := tb) (v := v) J.il J.dl
  obtain ⟨c_d, c_i, c_f⟩ := mid_same (tb := tb) (v := v) J.ic J.dc
  obtain ⟨b_d, b_i, b_f⟩ := mid_same (tb := tb) (v := v) J.ib J.db
  obtain ⟨k_d, k_i, k_f⟩ := mid_same (tb := tb) (v := v) J.ik J.dk
  obtain ⟨s_d, s_i, s_f⟩ := mid_same (tb := tb) (v := v) J.is_ J.ds
  have hval := found_val (tb := tb) hv J.vd
  have hlaw := found_law (tb := tb) hv J.vd
  have hmid := mid_law (tb := tb) hv J.vd
  have hiff := outV_non hval hlaw
  have hout : ValO (outV (found tb p v)) := hval
  rw [c_f]
  have hvi : ∀ u ∈ (mid tb p v).ins, LawV u := fun u hu => by
    rcases List.mem_append.mp (show u ∈ p.ins ++ [v] from hu) with hu | hu
    · exact J.vi u hu
    · rw [List.mem_singleton.mp hu]
      exact hv
  obtain ⟨tb1, tb2, tb3, tb4, tb5⟩ := tick1_same (mid tb b v) (b.ins.length : Int) (found tb b v)
  obtain ⟨tc1, tc2, tc3, tc4, tc5⟩ := tick1_same (mid tb c v) (c.ins.length : Int) (found tb p v)
  have nl : l.ins.length = p.ins.length := by rw [J.il]
  have nc : c.ins.length = p.ins.length := by rw [J.ic]
  have nb : b.ins.length = p.ins.length := by rw [J.ib]
  have nk : k.ins.length = p.ins.length := by rw [J.ik]
  have ns : s.ins.length = p.ins.length := by rw [J.is_]
  have hmany : (tick1 (mid tb b v) (b.ins.length : Int) (found tb b v)).many = (tick1 (mid tb c v) (c.ins.length : Int) (found tb p v)).many := by
    rw [nb, nc, b_f]
    exact tick1_many _ _ (show (mid tb b v).many = (mid tb c v).many from J.mb) (b_d.trans c_d.symm)
  have cb : (tick1 (mid tb b v) (b.ins.length : Int) (found tb b v)).cuts = l.cuts := tb4.trans J.cb
  have ck : (mid tb k v).cuts = l.cuts := J.ck
  have cs : (mid tb s v).cuts = l.cuts := J.cs
  have cl : (mid tb l v).cuts = l.cuts := rfl
  have lp : l.outs.length = p.outs.length := J.nl.trans J.np.symm
  obtain ⟨x1, x2, x3, x4, x5, x6, x7⟩ := losing_f hl
  obtain ⟨y1, y2, y3, y4, y5, y6, y7⟩ := losing_f hb
  obtain ⟨z1, z2, z3, z4, z5, z6, z7⟩ := losing_f hk
  obtain ⟨w1, w2, w3, w4, w5, w6, w7⟩ := losing_f hs
  rw [tb5, cb, b_f, nb] at y6
  rw [cb, b_f, nb] at y7
  rw [cl, l_f, nl] at x6 x7
  rw [ck, k_f, nk] at z6
  rw [cs, s_f, ns] at w6 w7
  have hrl : ValO rl := by
    rw [x7]
    split
    · exact .inl rfl
    · exact hout
  refine ⟨⟨x1.trans l_i, tc1.trans c_i, y1.trans (tb1.trans b_i), z1.trans k_i, w1.trans s_i, x3.trans l_d, tc3.trans c_d, y3.trans (tb3.trans b_d), z3.trans k_d, w3.trans s_d, ?_, ?_, ?_, ?_, ?_, ?_, (y4.trans cb).trans x4.symm, (z4.trans ck).trans x4.symm, (w4.trans cs).trans x4.symm, ?_, ?_, ?_, ?_, hvi, ?_, ?_, hmid⟩, rfl, ?_, ?_, hout, hrl⟩
  · show (tick1 _ _ _).outs ++ [_] = p.outs ++ [_]
    rw [tc2, show (mid tb c v).outs = c.outs from rfl, J.oc]
  · show b1.outs ++ [rb] = l1.outs ++ [rl]
    rw [y2, tb2, x2, x7, y7, show (mid tb b v).outs = b.outs from rfl, J.ob]
    rfl
  · show s1.outs ++ [rs] = l1.outs ++ [rl]
    rw [w2, x2, x7, w7, show (mid tb s v).outs = s.outs from rfl, J.os]
    rfl
  · show b1.gone = l1.gone
    rw [y6, x6, show (mid tb b v).gone = b.gone from rfl, J.gb]
    rfl
  · show k2.gone = l1.gone
    rw [z6, x6, show (mid tb k v).gone = k.gone from rfl, J.gk]
    rfl
  · show s1.gone = l1.gone
    rw [w6, x6, show (mid tb s v).gone = s.gone from rfl, J.gs]
    rfl
  · show b1.many = (tick1 _ _ _).many
    rw [y5, hmany]
  · show (p.outs ++ [_]).length = (p.ins ++ [v]).length
    rw [List.length_append, List.length_append, J.np]
    rfl
  · show (l1.outs ++ [rl]).length = (p.ins ++ [v]).length
    rw [x2, List.length_append, List.length_append, show (mid tb l v).outs = l.outs from rfl, J.nl]
    rfl
  · show l1.gone = goneOf (p.outs ++ [_]) (l1.outs ++ [rl])
    rw [x2, show (mid tb l v).outs = l.outs from rfl, goneOf_snoc lp, x6, show (mid tb l v).gone = l.gone from rfl, J.gone, x7]
    congr 1
    by_cases hC : (found tb p v).isSome = true ∧ (p.ins.length : Int) ∈ l.cuts
    · rw [if_pos hC, if_pos hC, if_pos ⟨hiff.mpr hC.1, rfl⟩, J.np]
    · rw [if_neg hC, if_neg hC, if_neg (fun z => z.1 z.2)]
  · intro u hu
    rcases List.mem_append.mp (show u ∈ p.outs ++ [_] from hu) with hu | hu
    · exact J.vp u hu
    · rw [List.mem_singleton.mp hu]
      exact hout
  · intro u hu
    rcases List.mem_append.mp (show u ∈ l1.outs ++ [rl] from hu) with hu | hu
    · rw [x2] at hu
      exact J.vl u hu
    · rw [List.mem_singleton.mp hu]
      exact hrl
  · rw [x7, y7]
  · rw [x7, w7]
/-! ### many pushes, losing, what is held -/
theorem snoc_inj {α : Type} {l m : List α} {a b : α} (h : l ++ [a] = m ++ [b]) : l = m ∧ a = b := by
  have := List.append_inj' h rfl
  exact ⟨this.1, List.singleton_inj.mp this.2⟩
theorem Steps.nil_inv {po : Po} {tb : List Int} {s s' : SD} {outs : List V} (h : Steps po tb s [] outs s') : outs = [] ∧ s' = s := by
  generalize hv : ([] : List V) = vs at h
  cases h with
  | nil => exact ⟨rfl, rfl⟩
  | snoc _ _ => exact absurd (congrArg List.length hv) (by simp)
theorem Steps.snoc_inv {po : Po} {tb : List Int} {s s' : SD} {vs outs : List V} {v : V} (h : Steps po tb s (vs ++ [v]) outs s') : ∃ outs1 s1 r, outs = outs1 ++ [r] ∧ Steps po tb s vs outs1 s1 ∧ stepR po tb s1 v s' r := by
  generalize hv : vs ++ [v] = ws at h
  cases h with
  | nil => exact absurd (congrArg List.length hv) (by simp)
  | snoc a b =>
    obtain ⟨rfl, rfl⟩ := snoc_inj hv
    exact ⟨_, _, _, rfl, a, b⟩
theorem J6.steps {tb : List Int} {p l c b k s : SD} (J : J6 p l c b k s) {vs op ol oc ob ok os : List V} {p' l' c' b' k' s' : SD} (hv : ∀ v ∈ vs, LawV v) (h1 : Steps poRow tb p vs op p') (h2 : Steps (poLosing poRow) tb l vs ol l') (h3 : Steps (poCounting poRow) tb c vs oc c')
    (h4 : Steps (poCounting (poLosing poRow)) tb b vs ob b') (h5 : Steps (poLink (poLosing poRow)) tb k vs ok k') (h6 : Steps (poLosing poRow) tb s vs os s') : J6 p' l' c' b' k' s' ∧ op = oc ∧ ol = ob ∧ ol = os ∧ (∀ v ∈ op, ValO v) ∧ ∀ v ∈ ol, ValO v := by
  induction h1 generalizing ol oc ob ok os l' c' b' k' s' with
  | nil =>
    obtain ⟨rfl, rfl⟩ := h2.nil_inv
    obtain ⟨rfl, rfl⟩ := h3.nil_inv
    obtain ⟨rfl, rfl⟩ := h4.nil_inv
    obtain ⟨rfl, rfl⟩ := h5.nil_inv
    obtain ⟨rfl, rfl⟩ := h6.nil_inv
    exact ⟨J, rfl, rfl, rfl, fun v hv => absurd hv List.not_mem_nil, fun v hv => absurd hv List.not_mem_nil⟩
  | snoc i1 j1 ih =>
    obtain ⟨a2, p2, r2, rfl, i2, j2⟩ := h2.snoc_inv
    obtain ⟨a3, p3, r3, rfl, i3, j3⟩ := h3.snoc_inv
    obtain ⟨a4, p4, r4, rfl, i4, j4⟩ := h4.snoc_inv
    obtain ⟨a5, p5, r5, rfl, i5, j5⟩ := h5.snoc_inv
    obtain ⟨a6, p6, r6, rfl, i6, j6⟩ := h6.snoc_inv
    obtain ⟨J', e1, e2, e3, q1, q2⟩ := ih (fun u hu => hv u (List.mem_append_left _ hu)) i2 i3 i4 i5 i6
    obtain ⟨J'', f1, f2, f3, g1, g2⟩ := J'.step (hv _ (by simp)) j1 j2 j3 j4 j5 j6
    refine ⟨J'', by rw [e1, f1], by rw [e2, f2], by rw [e3, f3], fun u hu => ?_, fun u hu => ?_⟩
    · rcases List.mem_append.mp hu with hu | hu
      · exact q1 u hu
      · rw [List.mem_singleton.mp hu]; exact g1
    · rcases List.mem_append.mp hu with hu | hu
      · exact q2 u hu
      · rw [List.mem_singleton.mp hu]; exact g2
theorem rising_unique : ∀ {a b : List Int}, a.Pairwise (· < ·) → b.Pairwise (· < ·) → (∀ k, k ∈ a ↔ k ∈ b) → a = b
  | [], [], _, _, _ => rfl
  | [], y :: b, _, _, h => absurd ((h y).mpr List.mem_cons_self) List.not_mem_nil
  | x :: a, [], _, _, h => absurd ((h x).mp List.mem_cons_self) List.not_mem_nil
  | x :: a, y :: b, ha, hb, h => by
    obtain ⟨ha1, ha2⟩ := List.pairwise_cons.mp ha
    obtain ⟨hb1, hb2⟩ := List.pairwise_cons.mp hb
    have hxy : x = y := by
      rcases List.mem_cons.mp ((h x).mp List.mem_cons_self) with h1 | h1
      · exact h1
      · rcases List.mem_cons.mp ((h y).mpr List.mem_cons_self) with h2 | h2
        · exact h2.symm
        · have := hb1 x h1
          have := ha1 y h2
          omega
    subst hxy
    congr 1
    refine rising_unique ha2 hb2 fun k => ⟨fun hk => ?_, fun hk => ?_⟩
    · rcases List.mem_cons.mp ((h k).mp (List.mem_cons_of_mem _ hk)) with h1 | h1
      · have := ha1 k hk
        omega
      · exact h1
    · rcases List.mem_cons.mp ((h k).mpr (List.mem_cons_of_mem _ hk)) with h1 | h1
      · have := hb1 k hk
        omega
      · exact h1
theorem sorted_unique : ∀ {a b : List Int}, a.Perm b → a.Pairwise (· ≤ ·) → b.Pairwise (· ≤ ·) → a = b
  | [], b, h, _, _ => h.nil_eq
  | x :: a, [], h, _, _ => absurd h.length_eq (by simp)
  | x :: a, y :: b, h, ha, hb => by
    obtain ⟨ha1, ha2⟩ := List.pairwise_cons.mp ha
    obtain ⟨hb1, hb2⟩ := List.pairwise_cons.mp hb
    have hxy : x = y := by
      have h1 : x ∈ y :: b := h.mem_iff.mp List.mem_cons_self
      have h2 : y ∈ x :: a := h.mem_iff.mpr List.mem_cons_self
      rcases List.mem_cons.mp h1 with h1 | h1
      · exact h1
      · rcases List.mem_cons.mp h2 with h2 | h2
        · exact h2.symm
        · have := hb1 x h1
          have := ha1 y h2
          omega
    subst hxy
    rw [sorted_unique (List.perm_cons x |>.mp h) ha2 hb2]
theorem held_fun {due : List (Int × Int × V)} {n : Nat} : ∀ {ks : List Int} {a b : List (Int × V)}, Paired (fun k (h : Int × V) => ∃ e, dget due k = some e ∧ h = (k - (n : Int), e.2)) ks a → Paired (fun k (h : Int × V) => ∃ e, dget due k = some e ∧ h = (k - (n : Int), e.2)) ks b → a = b
  | _, _, _, .nil, .nil => rfl
  | _, _, _, .cons f r, .cons g t => by
    obtain ⟨e, h1, rfl⟩ := f
    obtain ⟨e', h1', rfl⟩ := g
    rw [h1] at h1'
    cases h1'
    rw [held_fun r t]
theorem heldR_unique {due : List (Int × Int × V)} {n : Nat} {a b : List (Int × V)} (h : heldR due n a) (k : heldR due n b) : a = b := by
  obtain ⟨ks, h1, h2, h3⟩ := h
  obtain ⟨ls, k1, k2, k3⟩ := k
  obtain rfl := sorted_unique (h1.trans k1.symm) h2 k2
  exact held_fun h3 k3
theorem held_lawP {due : List (Int × Int × V)} {n : Nat} (vd : ∀ d ∈ due, LawV d.2.2) : ∀ {ks : List Int} {a : List (Int × V)}, Paired (fun k (h : Int × V) => ∃ e, dget due k = some e ∧ h = (k - (n : Int), e.2)) ks a → ∀ x ∈ a, LawV x.2
  | _, _, .nil, _, hx => absurd hx List.not_mem_nil
  | _, _, .cons f r, x, hx => by
    obtain ⟨e, h1, rfl⟩ := f
    rcases List.mem_cons.mp hx with rfl | hx
    · obtain ⟨d, hd, rfl⟩ := dget_in h1
      exact vd d hd
    · exact held_lawP vd r x hx
theorem heldR_law {due : List (Int × Int × V)} {n : Nat} {a : List (Int × V)} (vd : ∀ d ∈ due, LawV d.2.2) (h : heldR due n a) : ∀ x ∈ a, LawV x.2 := by
  obtain ⟨ks, _, _, h3⟩ := h
  exact held_lawP vd h3
/-- cuts laid by lose -/
structure Cut (s : SD) (ticks : Int) (cs : List Int) : Prop where
  up : cs.Pairwise (· < ·)
  mem : ∀ k, k ∈ cs ↔ k ∈ cutsN s.ins.length s.cuts ∨ ((s.ins.length : Int) ≤ k ∧ k < (s.ins.length : Int) + ticks)
theorem Cut.unique {s t : SD} {ticks : Int} {cs ct : List Int} (h : Cut s ticks cs) (k : Cut t ticks ct) (hi : t.ins = s.ins) (hc : t.cuts = s.cuts) : ct = cs := by
  refine rising_unique k.up h.up fun x => ?_
  rw [k.mem, h.mem, hi, hc]
theorem J6.lose {p l c b k s : SD} (J : J6 p l c b k s) {ticks : Int} {cl cb ck cs : List Int} (hl : Cut l ticks cl) (hb : Cut b ticks cb) (hk : Cut k ticks ck) (hs : Cut s ticks cs) :
    J6 p { l with cuts := cl } c { b with cuts := cb } { k with cuts := ck } { s with cuts := cs } := by
  have e1 := hl.unique hb (J.ib.trans J.il.symm) J.cb
  have e2 := hl.unique hk (J.ik.trans J.il.symm) J.ck
  have e3 := hl.unique hs (J.is_.trans J.il.symm) J.cs
  subst e1 e2 e3
  obtain ⟨a1, a2, a3, a4, a5, a6, a7, a8, a9, a10, a11, a12, a13, a14, a15, a16, a17, a18, a19, a20, a21, a22, a23, a24, a25, a26, a27⟩ := J
  exact ⟨a1, a2, a3, a4, a5, a6, a7, a8, a9, a10, a11, a12, a13, a14, a15, a16, rfl, rfl, rfl, a20, a21, a22, a23, a24, a25, a26, a27⟩
/-! ### the heap without what changes at the law's level -/
def mn (M : List Addr) (H : Hp) : Hp := fun b => if b ∈ M then none else H b
theorem mn_out {M : List Addr} {H : Hp} {b : Addr} {o : HO} (h : mn M H b = some o) : H b = some o := by
  unfold mn at h
  split at h
  · cases h
  · exact h
theorem mn_in {M : List Addr} {H : Hp} {b : Addr} {o : HO} (h : H b = some o) (n : b ∉ M) : mn M H b = some o := by
  unfold mn
  rw [if_neg n]
  exact h
theorem mn_ext {M L : List Addr} {H H' : Hp} (e : Ext L H H') (s : ∀ l ∈ L, l ∈ M) : Ext [] (mn M H) (mn M H') := by
  refine ⟨fun b o _ h => ?_, fun b h => ?_⟩
  · unfold mn at h
    split at h
    · cases h
    · rename_i n
      exact mn_in (e.ge b o (fun m => n (s b m)) h) n
  · unfold mn at h ⊢
    split
    · rfl
    · rename_i n
      rw [if_neg n] at h
      exact e.dom b h
theorem Stn.incl {K : PySem.W.Frag} {H H' : Hp} {A : Ad} {tb : List Int} {s : SD} (g : ∀ b o, H b = some o → H' b = some o) (h : Stn K H A tb s) : Stn K H' A tb s := by
  obtain ⟨kvs, h1, h2⟩ := h.due
  exact ⟨g _ _ h.inst, g _ _ h.own, g _ _ h.coming, g _ _ h.ins, g _ _ h.outs, ⟨kvs, g _ _ h1, h2.same fun b xs q => g _ _ q⟩, g _ _ h.cuts, g _ _ h.gone, g _ _ h.later, h.d1, h.d2⟩
theorem Stn.out {K : PySem.W.Frag} {M : List Addr} {H : Hp} {A : Ad} {tb : List Int} {s : SD} (h : Stn K (mn M H) A tb s) : Stn K H A tb s := h.incl fun _ _ q => mn_out q
/-- what is new lies beside M -/
theorem Stn.mn_ {K : PySem.W.Frag} {M : List Addr} {H H' : Hp} {A : Ad} {tb : List Int} {s : SD} (h : Stn K H' A tb s) (hM : ∀ m ∈ M, ∃ xs, H m = some (.lst xs)) (hM' : ∀ m ∈ M, ∃ xs, H' m = some (.lst xs)) (fa : FrA H A) : Stn K (mn M H') A tb s := by
  have k : ∀ b o, H' b = some o → (∀ xs, HO.lst xs ≠ o) → mn M H' b = some o := fun b o q n => mn_in q fun m => by
    obtain ⟨xs, hx⟩ := hM' b m
    rw [hx] at q
    exact n xs (Option.some.inj q)
  have f : ∀ b o, H' b = some o → H b = none → mn M H' b = some o := fun b o q n => mn_in q fun m => by
    obtain ⟨xs, hx⟩ := hM b m
    rw [n] at hx
    cases hx
  obtain ⟨kvs, h1, h2⟩ := h.due
  exact ⟨k _ _ h.inst (by intro _ z; cases z), k _ _ h.own (by intro _ z; cases z), k _ _ h.coming (by intro _ z; cases z), f _ _ h.ins fa.ins, f _ _ h.outs fa.outs, ⟨kvs, k _ _ h1 (by intro _ z; cases z), h2.same fun b xs q => k _ _ q (by intro _ z; cases z)⟩,
    k _ _ h.cuts (by intro _ z; cases z), k _ _ h.gone (by intro _ z; cases z), k _ _ h.later (by intro _ z; cases z), h.d1, h.d2⟩
theorem rising_len : ∀ {a : List Int} {lo hi : Int}, a.Pairwise (· < ·) → (∀ k ∈ a, lo ≤ k ∧ k < hi) → lo ≤ hi → (a.length : Int) ≤ hi - lo
  | [], lo, hi, _, _, h => by simp; omega
  | x :: a, lo, hi, hp, hb, h => by
    obtain ⟨h1, h2⟩ := List.pairwise_cons.mp hp
    have hx := hb x List.mem_cons_self
    have := rising_len (lo := x + 1) (hi := hi) h2 (fun k hk => ⟨by have := h1 k hk; omega, (hb k (List.mem_cons_of_mem _ hk)).2⟩) (by omega)
    rw [List.length_cons]
    push_cast
    omega
/-- cuts lie near -/
structure Near (s : SD) : Prop where
  len : s.cuts.length ≤ 4
  lt : ∀ c ∈ s.cuts, c < (s.ins.length : Int) + 4
theorem Near.lose {s : SD} {ticks : Int} {cs : List Int} (h : Near s) (ht : 1 ≤ ticks ∧ ticks ≤ 4) (hc : Cut s ticks cs) : Near { s with cuts := cs } := by
  have hb : ∀ k ∈ cs, (s.ins.length : Int) ≤ k ∧ k < (s.ins.length : Int) + 4 := fun k hk => by
    rcases (hc.mem k).mp hk with h1 | ⟨h1, h2⟩
    · obtain ⟨h2, h3⟩ := List.mem_filter.mp h1
      exact ⟨of_decide_eq_true h3, h.lt k h2⟩
    · exact ⟨h1, by omega⟩
  have := rising_len hc.up hb (by omega)
  exact ⟨by show cs.length ≤ 4; omega, fun c hc => (hb c hc).2⟩
theorem Near.more {s t : SD} (h : Near s) (hc : t.cuts = s.cuts) (hi : s.ins.length ≤ t.ins.length) : Near t := ⟨by rw [hc]; exact h.len, fun c hx => by
  rw [hc] at hx
  have := h.lt c hx
  omega⟩
theorem Near.zero : Near sd0 := ⟨by decide, fun c hc => absurd hc List.not_mem_nil⟩
/-! ### whichever box -/
def GLose (K : PySem.W.Frag) (C : Addr) (sp : Sp) : Prop := (C = ga K "Losing" ∨ C = ga K "LosingCounting" ∨ C = ga K "Link") ∧ sp = spLose K C
theorem mok_lose {K : PySem.W.Frag} {mg : Str → Option Value} (T : Tx K mg) {X : Cx} (hK : X.K = K) (hm : X.mg = mg) : ∀ C sp, GLose K C sp → MOk X 4 C "lose" sp := by
  subst hK hm
  rintro C sp ⟨rfl | rfl | rfl, rfl⟩
  · exact ⟨(rcLosing T).cl, _, T.mt "Losing" "lose" (by decide +kernel), lose_Losing T⟩
  · exact ⟨(rcLC T).cl, _, T.mt "LosingCounting" "lose" (by decide +kernel), lose_LC T⟩
  · exact ⟨(rcLink T).cl, _, T.mt "Link" "lose" (by decide +kernel), lose_Link T⟩
def GUndo (K : PySem.W.Frag) (C : Addr) (sp : Sp) : Prop := (C = ga K "Losing" ∨ C = ga K "LosingCounting" ∨ C = ga K "Link") ∧ sp = spUndo K C
theorem mok_undo {K : PySem.W.Frag} {mg : Str → Option Value} (T : Tx K mg) {X : Cx} (hK : X.K = K) (hm : X.mg = mg) : ∀ C sp, GUndo K C sp → MOk X 3 C "undo" sp := by
  subst hK hm
  rintro C sp ⟨rfl | rfl | rfl, rfl⟩
  · exact ⟨(rcLosing T).cl, _, T.mt "Losing" "undo" (by decide +kernel), undo_Losing T⟩
  · exact ⟨(rcLC T).cl, _, T.mt "LosingCounting" "undo" (by decide +kernel), undo_LC T⟩
  · exact ⟨(rcLink T).cl, _, T.mt "Link" "undo" (by decide +kernel), undo_Link T⟩
def Box5 (K : PySem.W.Frag) (C : Addr) : Prop := C = ga K "Row" ∨ C = ga K "Losing" ∨ C = ga K "Counting" ∨ C = ga K "LosingCounting" ∨ C = ga K "Link"
def GTick (K : PySem.W.Frag) (C : Addr) (sp : Sp) : Prop := Box5 K C ∧ sp = spTick K C
theorem pok_tick {K : PySem.W.Frag} {mg : Str → Option Value} (T : Tx K mg) {X : Cx} (hK : X.K = K) (hm : X.mg = mg) : ∀ C sp, GTick K C sp → POk X 1 C "tick" sp := by
  subst hK hm
  rintro C sp ⟨rfl | rfl | rfl | rfl | rfl, rfl⟩
  · exact po_tick T (rcRow T) rfl rfl
  · exact po_tick T (rcLosing T) rfl rfl
  · exact po_tick T (rcCounting T) rfl rfl
  · exact po_tick T (rcLC T) rfl rfl
  · exact po_tick T (rcLink T) rfl rfl
/-- which class with which relation -/
def Pof (K : PySem.W.Frag) (C : Addr) (po : Po) : Prop := (C = ga K "Row" ∧ po = poRow) ∨ (C = ga K "Losing" ∧ po = poLosing poRow) ∨ (C = ga K "Counting" ∧ po = poCounting poRow) ∨ (C = ga K "LosingCounting" ∧ po = poCounting (poLosing poRow)) ∨ (C = ga K "Link" ∧ po = poLink (poLosing poRow))
def spAnyPush (K : PySem.W.Frag) : Sp := fun vs H Q E => ∃ C po, Pof K C po ∧ spLPush K C po vs H Q E
section
variable {P : Program} {w : World} {K : PySem.W.Frag} {mg : Str → Option Value} {base : Heap}
theorem fn__law_push_all (TPP : TP P) (T : Tx K mg) : FnR P w K mg base CX0 6 (d__law_push_all.pl.ad K) (spAnyPush K) := by
  intro A outer s H us vs Q E hr e0 r ⟨C, po, hp, h⟩
  rcases hp with ⟨rfl, rfl⟩ | ⟨rfl, rfl⟩ | ⟨rfl, rfl⟩ | ⟨rfl, rfl⟩ | ⟨rfl, rfl⟩
  · exact fn__law_push T (rcRow T).cl (T.mt "Row" "push_all" (by decide +kernel)) (push_Row T) A outer s H us vs Q E hr e0 r h
  · exact fn__law_push T (rcLosing T).cl (T.mt "Losing" "push_all" (by decide +kernel)) (push_Losing TPP T) A outer s H us vs Q E hr e0 r h
  · exact fn__law_push T (rcCounting T).cl (T.mt "Counting" "push_all" (by decide +kernel)) (push_Counting TPP T) A outer s H us vs Q E hr e0 r h
  · exact fn__law_push T (rcLC T).cl (T.mt "LosingCounting" "push_all" (by decide +kernel)) (push_LC TPP T) A outer s H us vs Q E hr e0 r h
  · exact fn__law_push T (rcLink T).cl (T.mt "Link" "push_all" (by decide +kernel)) (push_Link TPP T) A outer s H us vs Q E hr e0 r h
/-- the session's say, whatever is said -/
def spSay (K : PySem.W.Frag) : Sp := fun vs H Q E => spSayUse K vs H Q E ∨ spSayPush K vs H Q E ∨ spSayLose K vs H Q E ∨ spSayAlone K vs H Q E
theorem fn_say (TPP : TP P) (T : Tx K mg) : FnR P w K mg base CX0 7 (d_Session_say.pl.ad K) (spSay K) := by
  intro A outer s H us vs Q E hr e0 r h
  rcases h with h | h | h | h
  · exact fn_say_use TPP T A outer s H us vs Q E hr e0 r h
  · exact fn_say_push TPP T A outer s H us vs Q E hr e0 r h
  · exact fn_say_lose TPP T A outer s H us vs Q E hr e0 r h
  · exact fn_say_word TPP T A outer s H us vs Q E hr e0 r h
def spWords (K : PySem.W.Frag) : Sp := fun vs H Q E => spWordsL vs H Q E ∨ spWordsT vs H Q E
theorem fn__law_words (T : Tx K mg) : FnR P w K mg base CX0 1 (d__law_words.pl.ad K) (spWords K) := by
  intro A outer s H us vs Q E hr e0 r h
  rcases h with h | h
  · exact fn__law_wordsL T A outer s H us vs Q E hr e0 r h
  · exact fn__law_wordsT T A outer s H us vs Q E hr e0 r h
end
/-! ### the state between turns -/
structure Rw where
  x : Addr
  dx : Addr
  L : Addr
structure Lv where
  pen : Addr
  bx : Addr
  sx : Addr
  sdx : Addr
  row : Nat → Rw
def clsN : Nat → Str
  | 0 => "Row"
  | 1 => "Losing"
  | 2 => "Counting"
  | 3 => "LosingCounting"
  | 4 => "Link"
  | _ => "Losing"
def poN : Nat → Po
  | 0 => poRow
  | 1 => poLosing poRow
  | 2 => poCounting poRow
  | 3 => poCounting (poLosing poRow)
  | 4 => poLink (poLosing poRow)
  | _ => poLosing poRow
theorem pof_n {K : PySem.W.Frag} {r : Nat} (h : r < 5) : Pof K (ga K (clsN r)) (poN r) := by
  match r, h with
  | 0, _ => exact .inl ⟨rfl, rfl⟩
  | 1, _ => exact .inr (.inl ⟨rfl, rfl⟩)
  | 2, _ => exact .inr (.inr (.inl ⟨rfl, rfl⟩))
  | 3, _ => exact .inr (.inr (.inr (.inl ⟨rfl, rfl⟩)))
  | 4, _ => exact .inr (.inr (.inr (.inr ⟨rfl, rfl⟩)))
theorem poOk_n (r : Nat) : PoOk (poN r) := by
  match r with
  | 0 => exact PoOk.row
  | 1 => exact PoOk.row.losing
  | 2 => exact PoOk.row.counting
  | 3 => exact PoOk.row.losing.counting
  | 4 => exact PoOk.row.losing.link poLosing_later
  | _ + 5 => exact PoOk.row.losing
def Lv.M (v : Lv) : List Addr := v.pen :: (List.range 6).map fun r => (v.row r).L
theorem Lv.memL {v : Lv} {r : Nat} (h : r < 6) : (v.row r).L ∈ v.M := List.mem_cons_of_mem _ (List.mem_map_of_mem (f := fun r => (v.row r).L) (List.mem_range.mpr h))
theorem Lv.memP {v : Lv} : v.pen ∈ v.M := List.mem_cons_self
structure Apart (v : Lv) : Prop where
  rows : ∀ r s, r < 6 → s < 6 → r ≠ s → (v.row r).L ≠ (v.row s).L
  pen : ∀ r, r < 6 → (v.row r).L ≠ v.pen
structure Fixed (K : PySem.W.Frag) (v : Lv) (H : Hp) : Prop where
  boxes : H v.bx = some (.lst ((List.range 5).map fun r => .ref (v.row r).x))
  sess : H v.sx = some (.ins (ga K "Session") v.sdx [("carried", .ref (v.row 5).x)])
  row : ∀ r, r < 6 → H (v.row r).x = some (.ins (ga K (clsN r)) (v.row r).dx [("stands", .ref (v.row r).L)])
theorem Fixed.same {K : PySem.W.Frag} {v : Lv} {H H' : Hp} (x : Ext [] H H') (h : Fixed K v H) : Fixed K v H' :=
  ⟨x.ge _ _ List.not_mem_nil h.boxes, x.ge _ _ List.not_mem_nil h.sess, fun r hr => x.ge _ _ List.not_mem_nil (h.row r hr)⟩
/-- one row: its stands, the last of them -/
structure RS (K : PySem.W.Frag) (v : Lv) (tb : List Int) (H : Hp) (r : Nat) (ys : List V) (A : Ad) (s : SD) : Prop where
  ls : H (v.row r).L = some (.lst (ys ++ [.ref A.a]))
  st : Stn K (mn v.M H) A tb s
theorem RS.frame {K : PySem.W.Frag} {v : Lv} {tb : List Int} {H H' : Hp} {r : Nat} {ys : List V} {A : Ad} {s : SD} {L : List Addr} (h : RS K v tb H r ys A s) (e : Ext L H H') (hL : ∀ l ∈ L, l ∈ v.M) (n : (v.row r).L ∉ L) : RS K v tb H' r ys A s :=
  ⟨e.ge _ _ n h.ls, h.st.same (mn_ext e hL)⟩
/-- what stands at the mutable places are lists -/
structure Lsts (v : Lv) (H : Hp) : Prop where
  all : ∀ m ∈ v.M, ∃ xs, H m = some (.lst xs)
theorem Lsts.of {K : PySem.W.Frag} {v : Lv} {tb : List Int} {H : Hp} {ys : Nat → List V} {A : Nat → Ad} {s : Nat → SD} (hp : PenAt H v.pen) (h : ∀ r, r < 6 → RS K v tb H r (ys r) (A r) (s r)) : Lsts v H := ⟨fun m hm => by
  rcases List.mem_cons.mp hm with rfl | hm
  · obtain ⟨a, b, n, hh, _⟩ := hp
    exact ⟨_, hh⟩
  · obtain ⟨r, hr, rfl⟩ := List.mem_map.mp hm
    exact ⟨_, (h r (List.mem_range.mp hr)).ls⟩⟩
theorem Lsts.next {v : Lv} {H H' : Hp} {r : Nat} {xs : List V} (h : Lsts v H) (hr : r < 6) (e : Ext [(v.row r).L] H H') (hx : H' (v.row r).L = some (.lst xs)) : Lsts v H' := ⟨fun m hm => by
  by_cases z : m = (v.row r).L
  · exact ⟨_, by rw [z]; exact hx⟩
  · obtain ⟨ys, hy⟩ := h.all m hm
    exact ⟨ys, e.ge _ _ (fun q => z (List.mem_singleton.mp q)) hy⟩⟩
/-- a row has got one stand more -/
theorem RS.push {K : PySem.W.Frag} {v : Lv} {tb : List Int} {H H' : Hp} {r : Nat} {ys : List V} {A A' : Ad} {s' : SD} (hl : Lsts v H) (hr : r < 6) (e : Ext [(v.row r).L] H H') (hx : H' (v.row r).L = some (.lst (ys ++ [.ref A.a] ++ [.ref A'.a]))) (fa : FrA H A') (st : Stn K H' A' tb s') :
    RS K v tb H' r (ys ++ [.ref A.a]) A' s' := ⟨hx, st.mn_ hl.all (hl.next hr e hx).all fa⟩
theorem RS.row {K : PySem.W.Frag} {v : Lv} {tb : List Int} {H : Hp} {r : Nat} {ys : List V} {A : Ad} {s : SD} (h : RS K v tb H r ys A s) (f : Fixed K v (mn v.M H)) (hr : r < 6) : RowAt H (ga K (clsN r)) (v.row r).x (v.row r).dx (v.row r).L (ys ++ [.ref A.a]) := ⟨mn_out (f.row r hr), h.ls⟩
structure Stg where
  A : Nat → Ad
  sd : Nat → SD
def LR : List Nat := [1, 3, 4, 5]
/-- what is compared of a time past -/
structure J4 (e : Stg) : Prop where
  ib : (e.sd 3).ins = (e.sd 1).ins
  is_ : (e.sd 5).ins = (e.sd 1).ins
  db : (e.sd 3).due = (e.sd 1).due
  il : (e.sd 1).ins.length ≤ 800
  dl : (e.sd 1).due.length ≤ 60
  vd : ∀ d ∈ (e.sd 1).due, LawV d.2.2
structure Hist (K : PySem.W.Frag) (v : Lv) (tb : List Int) (H : Hp) (ys : Nat → List V) (st : List Stg) : Prop where
  ys : ∀ r ∈ LR, ys r = st.map fun e => V.ref (e.A r).a
  old : ∀ e ∈ st, (∀ r ∈ LR, Stn K (mn v.M H) (e.A r) tb (e.sd r)) ∧ J4 e
structure LapS (K : PySem.W.Frag) (v : Lv) (tb : List Int) (n : Nat) (H : Hp) (ys : Nat → List V) (A : Nat → Ad) (sd : Nat → SD) (st : List Stg) : Prop where
  ap : Apart v
  pen : PenAt H v.pen
  fx : Fixed K v (mn v.M H)
  rs : ∀ r, r < 6 → RS K v tb H r (ys r) (A r) (sd r)
  J : J6 (sd 0) (sd 1) (sd 2) (sd 3) (sd 4) (sd 5)
  near : Near (sd 1)
  ok : OkT tb
  sml : ∀ r, r < 6 → Sml (sd r) (4 * n + 4)
  yl : ∀ r, r < 6 → (ys r).length ≤ n
  hist : Hist K v tb H ys st
  bot : ∀ e, (st ++ [(⟨A, sd⟩ : Stg)]).head? = some e → ∀ r ∈ LR, e.sd r = sd0
theorem Hist.same {K : PySem.W.Frag} {v : Lv} {tb : List Int} {H H' : Hp} {ys : Nat → List V} {st : List Stg} (h : Hist K v tb H ys st) (e : Ext [] (mn v.M H) (mn v.M H')) : Hist K v tb H' ys st := ⟨h.ys, fun x hx => ⟨fun r hr => ((h.old x hx).1 r hr).same e, (h.old x hx).2⟩⟩
/-- only the pen has moved -/
theorem LapS.pen_ {K : PySem.W.Frag} {v : Lv} {tb : List Int} {n : Nat} {H H' : Hp} {ys : Nat → List V} {A : Nat → Ad} {sd : Nat → SD} {st : List Stg} (h : LapS K v tb n H ys A sd st) (e : Ext [v.pen] H H') (hp : PenAt H' v.pen) : LapS K v tb n H' ys A sd st := by
  have hL : ∀ l ∈ [v.pen], l ∈ v.M := fun l hl => by rw [List.mem_singleton.mp hl]; exact Lv.memP
  have em := mn_ext e hL
  exact ⟨h.ap, hp, h.fx.same em, fun r hr => (h.rs r hr).frame e hL (fun m => h.ap.pen r hr (List.mem_singleton.mp m)), h.J, h.near, h.ok, h.sml, h.yl, h.hist.same em, h.bot⟩
theorem LapS.same {K : PySem.W.Frag} {v : Lv} {tb : List Int} {n : Nat} {H H' : Hp} {ys : Nat → List V} {A : Nat → Ad} {sd : Nat → SD} {st : List Stg} (h : LapS K v tb n H ys A sd st) (e : Ext [] H H') : LapS K v tb n H' ys A sd st :=
  h.pen_ (Ext.tr e Ext.rfl' Sub.nil) (h.pen.same e)
theorem LapS.lsts {K : PySem.W.Frag} {v : Lv} {tb : List Int} {n : Nat} {H : Hp} {ys : Nat → List V} {A : Nat → Ad} {sd : Nat → SD} {st : List Stg} (h : LapS K v tb n H ys A sd st) : Lsts v H := Lsts.of h.pen h.rs
/-- the next turn's bound -/
theorem Sml.mono {s : SD} {a b : Nat} (h : Sml s a) (k : a ≤ b) : Sml s b := ⟨Nat.le_trans h.ins k, Nat.le_trans h.outs k, Nat.le_trans h.due k, Nat.le_trans h.cuts k, Nat.le_trans h.gone k, Nat.le_trans h.later k⟩
theorem LapS.more {K : PySem.W.Frag} {v : Lv} {tb : List Int} {n m : Nat} {H : Hp} {ys : Nat → List V} {A : Nat → Ad} {sd : Nat → SD} {st : List Stg} (h : LapS K v tb n H ys A sd st) (k : n ≤ m) : LapS K v tb m H ys A sd st :=
  ⟨h.ap, h.pen, h.fx, h.rs, h.J, h.near, h.ok, fun r hr => (h.sml r hr).mono (by omega), fun r hr => Nat.le_trans (h.yl r hr) k, h.hist, h.bot⟩
/-! ### five rows one after the other -/
section
variable {σ : L2.St} {H : Hp} {Q : VK}
theorem r_kLcD {J : It} {n : Nat} {G : Hp → Prop} {Y : Nat → Hp → V → Hp → Prop} (wk : Walk J n G Y) {g : TG} {tt : TT} {te : TE} {vs : List Nat} (L : List Addr) (F : Addr → Nat → Hp → List V → Prop)
    (h0 : ∀ D H2, Nw H D → Ext [] H H2 → H2 D = some (.lst []) → F D 0 H2 []) (hG : ∀ D i H2 acc, Nw H D → Ext L H H2 → F D i H2 acc → G H2)
    (hs : ∀ D i x H1 H2 acc, i < n → Nw H D → Ext L H H1 → H1 D = some (.lst acc) → F D i H1 acc → Y i H1 x H2 → g x (wipe σ vs) H2 fun σ2 H3 => wipe σ2 vs = wipe σ vs ∧ tt σ2 H3 (kIf te σ2 (kAp D (LcJ D L H (F D) (i + 1))) (LcJ D L H (F D) (i + 1))))
    (hd : ∀ D H2 acc, Nw H D → Ext L H H2 → H2 D = some (.lst acc) → F D n H2 acc → Q (.ref D) H2) : kLc g tt te vs σ Q J H := by
  intro D hD
  refine lc_it (Qd := fun H => Q (.ref D) H) wk (LcJ D L H (F D) · ·) ⟨[], upd_same, Ext.rfl'.upd_new ⟨hD⟩, h0 D _ ⟨hD⟩ (.new hD) upd_same⟩ ?_ ?_ ?_
  · rintro i H2 hi ⟨acc, _, e, f⟩
    exact hG D i H2 acc ⟨hD⟩ e f
  · rintro i x H1 H2 hi ⟨acc, ha, e, f⟩ y
    exact hs D i x H1 H2 acc hi ⟨hD⟩ e ha f y
  · rintro H2 ⟨acc, ha, e, f⟩
    exact hd D H2 acc ⟨hD⟩ e ha f
end
theorem Steps.kept {po : Po} (h : PoOk po) {tb : List Int} {s s' : SD} {vs outs : List V} (b : Steps po tb s vs outs s') : s'.cuts = s.cuts ∧ s'.ins = s.ins ++ vs := by
  induction b with
  | nil => exact ⟨rfl, by rw [List.append_nil]⟩
  | snoc _ c ih =>
    obtain ⟨s1, b1, rfl⟩ := c
    obtain ⟨h1, h2, h3, h4, h5, h6⟩ := h.ok _ _ _ _ _ b1
    refine ⟨?_, ?_⟩
    · show s1.cuts = _
      rw [h4]
      exact ih.1
    · show s1.ins = _
      rw [h1]
      show (_ ++ [_]) = _
      rw [ih.2, List.append_assoc]
def up {α : Type} (f : Nat → α) (i : Nat) (x : α) : Nat → α := fun r => if r = i then x else f r
theorem up_same {α : Type} {f : Nat → α} {i : Nat} {x : α} : up f i x i = x := if_pos rfl
theorem up_ne {α : Type} {f : Nat → α} {i r : Nat} {x : α} (h : r ≠ i) : up f i x r = f r := if_neg h
theorem mn_mut {M L : List Addr} {H H' : Hp} (e : Ext L H H') : Ext L (mn M H) (mn M H') := by
  refine ⟨fun b o n h => ?_, fun b h => ?_⟩
  · unfold mn at h
    split at h
    · cases h
    · rename_i m
      exact mn_in (e.ge b o n h) m
  · unfold mn at h ⊢
    split
    · rfl
    · rename_i n
      rw [if_neg n] at h
      exact e.dom b h
theorem RS.lst_ {K : PySem.W.Frag} {v : Lv} {tb : List Int} {H H' : Hp} {r : Nat} {ys : List V} {A : Ad} {s : SD} {D : Addr} {acc : List V} (h : RS K v tb H r ys A s) (hr : r < 6) (e : Ext [D] H H') (hD : H D = some (.lst acc)) (nD : D ∉ v.M) (n1 : A.ins ≠ D) (n2 : A.outs ≠ D) : RS K v tb H' r ys A s :=
  ⟨e.ge _ _ (fun m => nD (by rw [← List.mem_singleton.mp m]; exact Lv.memL hr)) h.ls, h.st.lst_ (mn_mut e) (mn_in hD nD) n1 n2⟩
/-- turn i of the comprehension over the boxes -/
structure Pushed (K : PySem.W.Frag) (v : Lv) (tb : List Int) (vals : List V) (ys : Nat → List V) (A0 : Nat → Ad) (sd : Nat → SD) (D : Addr) (i : Nat) (H : Hp) (acc : List V) (A' : Nat → Ad) (sd' : Nat → SD) (outs : Nat → List V) (ps : Nat → Addr) : Prop where
  acc : acc = (List.range i).map fun r => V.ref (ps r)
  todo : ∀ r, i ≤ r → r < 6 → H (v.row r).L = some (.lst (ys r ++ [.ref (A0 r).a]))
  done : ∀ r, r < i → RS K v tb H r (ys r ++ [.ref (A0 r).a]) (A' r) (sd' r) ∧ H (ps r) = some (.tup (outs r)) ∧ Steps (poN r) tb (sd r) vals (outs r) (sd' r) ∧ (A' r).ins ≠ D ∧ (A' r).outs ≠ D
theorem Pushed.lsts {K : PySem.W.Frag} {v : Lv} {tb : List Int} {vals : List V} {ys : Nat → List V} {A0 : Nat → Ad} {sd : Nat → SD} {D : Addr} {i : Nat} {H : Hp} {acc : List V} {A' : Nat → Ad} {sd' : Nat → SD} {outs : Nat → List V} {ps : Nat → Addr}
    (f : Pushed K v tb vals ys A0 sd D i H acc A' sd' outs ps) (hp : PenAt H v.pen) : Lsts v H := ⟨fun m hm => by
  rcases List.mem_cons.mp hm with rfl | hm
  · obtain ⟨a, b, n, hh, _⟩ := hp
    exact ⟨_, hh⟩
  · obtain ⟨r, hr, rfl⟩ := List.mem_map.mp hm
    by_cases q : r < i
    · exact ⟨_, (f.done r q).1.ls⟩
    · exact ⟨_, f.todo r (by omega) (List.mem_range.mp hr)⟩⟩
theorem Pushed.step {K : PySem.W.Frag} {v : Lv} {tb : List Int} {vals : List V} {ys : Nat → List V} {A0 : Nat → Ad} {sd : Nat → SD} {D : Addr} {i : Nat} {H H5 H6 : Hp} {acc : List V} {A' : Nat → Ad} {sd' : Nat → SD} {outs : Nat → List V} {ps : Nat → Addr} {p : Addr} {A1 : Ad} {s1 : SD} {o1 : List V}
    (f : Pushed K v tb vals ys A0 sd D i H acc A' sd' outs ps) (ap : Apart v) (hp : PenAt H v.pen) (hi : i < 6) (e : Ext [(v.row i).L] H H5) (hx : H5 (v.row i).L = some (.lst (ys i ++ [.ref (A0 i).a] ++ [.ref A1.a]))) (fa : FrA H A1) (st5 : Stn K H5 A1 tb s1) (h5 : H5 p = some (.tup o1))
    (stp : Steps (poN i) tb (sd i) vals o1 s1) (hD : H D = some (.lst acc)) (nD : D ∉ v.M) (e6 : Ext [D] H5 H6) :
    Pushed K v tb vals ys A0 sd D (i + 1) H6 (acc ++ [.ref p]) (up A' i A1) (up sd' i s1) (up outs i o1) (up ps i p) := by
  have hD5 : H5 D = some (.lst acc) := e.ge _ _ (fun m => nD (by rw [List.mem_singleton.mp m]; exact Lv.memL hi)) hD
  have hL : ∀ l ∈ [(v.row i).L], l ∈ v.M := fun l hl => by rw [List.mem_singleton.mp hl]; exact Lv.memL hi
  have tupE : ∀ b xs, H5 b = some (.tup xs) → H6 b = some (.tup xs) := fun b xs hb => e6.ge _ _ (fun m => ne_of hb hD5 (by intro z; cases z) (List.mem_singleton.mp m)) hb
  refine ⟨?_, fun r h1 h2 => ?_, fun r hr => ?_⟩
  · rw [f.acc, List.range_succ, List.map_append]
    congr 1
    · refine List.map_congr_left fun r hr => ?_
      rw [up_ne (by have := List.mem_range.mp hr; omega)]
    · rw [List.map_singleton, up_same]
  · refine e6.ge _ _ (fun m => nD (by rw [← List.mem_singleton.mp m]; exact Lv.memL h2)) (e.ge _ _ (fun m => ?_) (f.todo r (by omega) h2))
    exact ap.rows r i h2 hi (by omega) (List.mem_singleton.mp m)
  · by_cases q : r = i
    · subst q
      rw [up_same, up_same, up_same, up_same]
      have n1 : A1.ins ≠ D := fun z => by
        have := fa.ins
        rw [z, hD] at this
        cases this
      have n2 : A1.outs ≠ D := fun z => by
        have := fa.outs
        rw [z, hD] at this
        cases this
      exact ⟨(RS.push (f.lsts hp) hi e hx fa st5).lst_ hi e6 hD5 nD n1 n2, tupE _ _ h5, stp, n1, n2⟩
    · rw [up_ne q, up_ne q, up_ne q, up_ne q]
      obtain ⟨a1, a2, a3, a4, a5⟩ := f.done r (by omega)
      refine ⟨(a1.frame e hL (fun m => ap.rows r i (by omega) hi q (List.mem_singleton.mp m))).lst_ (by omega) e6 hD5 nD a4 a5, ?_, a3, a4, a5⟩
      exact tupE _ _ (e.ge _ _ (fun m => by
        have := f.todo i (Nat.le_refl _) hi
        rw [List.mem_singleton.mp m, this] at a2
        cases a2) a2)
/-- a turn that leaves a stage behind -/
theorem LapS.next {K : PySem.W.Frag} {v : Lv} {tb : List Int} {n : Nat} {H H' : Hp} {ys ys' : Nat → List V} {A A' : Nat → Ad} {sd sd' : Nat → SD} {st : List Stg} (h : LapS K v tb n H ys A sd st) (hn : n ≤ 12) (e : Ext v.M H H') (hp : PenAt H' v.pen)
    (rs : ∀ r, r < 6 → RS K v tb H' r (ys' r) (A' r) (sd' r)) (J : J6 (sd' 0) (sd' 1) (sd' 2) (sd' 3) (sd' 4) (sd' 5)) (near : Near (sd' 1)) (sml : ∀ r, r < 6 → Sml (sd' r) (4 * (n + 1) + 4)) (yl : ∀ r, r < 6 → (ys' r).length ≤ n + 1) (yh : ∀ r ∈ LR, ys' r = ys r ++ [.ref (A r).a]) :
    LapS K v tb (n + 1) H' ys' A' sd' (st ++ [(⟨A, sd⟩ : Stg)]) := by
  have em := mn_ext e (fun l hl => hl)
  have s1 := h.sml 1 (by decide)
  have l6 : ∀ r ∈ LR, r < 6 := by decide
  refine ⟨h.ap, hp, h.fx.same em, rs, J, near, h.ok, sml, yl, ⟨fun r hr => ?_, fun x hx => ?_⟩, fun x hx => ?_⟩
  · rw [yh r hr, h.hist.ys r hr, List.map_append]
    rfl
  · rcases List.mem_append.mp hx with hx | hx
    · exact ⟨fun r hr => ((h.hist.old x hx).1 r hr).same em, (h.hist.old x hx).2⟩
    · obtain rfl := List.mem_singleton.mp hx
      refine ⟨fun r hr => (h.rs r (l6 r hr)).st.same em, ?_⟩
      have J0 := h.J
      have l1 := s1.ins
      have l2 := s1.due
      exact ⟨J0.ib.trans J0.il.symm, J0.is_.trans J0.il.symm, J0.db.trans J0.dl.symm, by show (sd 1).ins.length ≤ 800; omega, by show (sd 1).due.length ≤ 60; omega, fun d hd => J0.vd d (by rw [← J0.dl]; exact hd)⟩
  · refine h.bot x ?_
    cases st with
    | nil => exact hx
    | cons a l => exact hx
/-! outs as data -/
theorem okW_non : OkW .non := ⟨by decide, .inl rfl⟩
theorem ValO.okW {v : V} (h : ValO v) : OkW v := by
  rcases h with rfl | h
  · exact okW_non
  · exact h.wv.2.2.2
theorem dp_o {K : PySem.W.Frag} {H : Hp} {v : V} (h : ValO v) : Dp K H v (vD v) := by
  rcases h with rfl | h
  · exact .non
  · exact dp_v h.okV
theorem dp_os {K : PySem.W.Frag} {H : Hp} : ∀ {xs : List V}, (∀ v ∈ xs, ValO v) → DpAll K H xs (xs.map vD)
  | [], _ => .nil
  | _ :: _, h => .cons (dp_o (h _ List.mem_cons_self)) (dp_os fun v hv => h v (List.mem_cons_of_mem _ hv))
theorem lay_o {v : V} (h : ValO v) : (vD v).canLay0 = true ∧ (vD v).depth = 0 := by
  rcases h with rfl | h
  · exact ⟨rfl, rfl⟩
  · exact lay_v h.okV
theorem lay_os : ∀ {xs : List V}, (∀ v ∈ xs, ValO v) → PyData.canLayAll0 (xs.map vD) = true ∧ PyData.depthAll (xs.map vD) = 0
  | [], _ => ⟨rfl, rfl⟩
  | v :: r, h => by
    obtain ⟨a1, a2⟩ := lay_o (h v List.mem_cons_self)
    obtain ⟨b1, b2⟩ := lay_os (xs := r) fun u hu => h u (List.mem_cons_of_mem _ hu)
    constructor
    · rw [List.map_cons, PyData.canLayAll0, a1, b1]
      rfl
    · rw [List.map_cons, PyData.depthAll, a2, b2]
      rfl
theorem shaped_oT {xs : List V} (h : ∀ v ∈ xs, ValO v) : SeqAt.shaped (.tuple (xs.map vD)) = true := by
  obtain ⟨b1, b2⟩ := lay_os h
  simp [SeqAt.shaped, PyData.canLay0, PyData.depth, b1, b2]
/-! ### a turn of the law -/
theorem J6.self {p l c b k s : SD} (J : J6 p l c b k s) : J6 p l c b k l :=
  ⟨J.il, J.ic, J.ib, J.ik, J.il, J.dl, J.dc, J.db, J.dk, J.dl, J.oc, J.ob, rfl, J.gb, J.gk, rfl, J.cb, J.ck, rfl, J.mb, J.np, J.nl, J.gone, J.vi, J.vp, J.vl, J.vd⟩
theorem PenAt.ext {H H' : Hp} {L : List Addr} {p : Addr} (h : PenAt H p) (e : Ext L H H') (n : p ∉ L) : PenAt H' p := by
  obtain ⟨a, b, c, hh, ho⟩ := h
  exact ⟨a, b, c, e.ge _ _ n hh, ho⟩
theorem nw_notin {v : Lv} {H : Hp} {D : Addr} (nw : Nw H D) (h : Lsts v H) : D ∉ v.M := fun m => by
  obtain ⟨xs, hx⟩ := h.all _ m
  rw [nw.no] at hx
  cases hx
def L5 (v : Lv) : List Addr := (List.range 5).map fun r => (v.row r).L
theorem L5M {v : Lv} : ∀ l ∈ L5 v, l ∈ v.M := fun l hl => by
  obtain ⟨r, hr, rfl⟩ := List.mem_map.mp hl
  exact Lv.memL (by have := List.mem_range.mp hr; omega)
theorem memL5 {v : Lv} {r : Nat} (h : r < 5) : (v.row r).L ∈ L5 v := List.mem_map_of_mem (f := fun r => (v.row r).L) (List.mem_range.mpr h)
theorem penL5 {v : Lv} (ap : Apart v) : v.pen ∉ L5 v := fun m => by
  obtain ⟨r, hr, e⟩ := List.mem_map.mp m
  exact ap.pen r (by have := List.mem_range.mp hr; omega) e
theorem Fixed.bxM {K : PySem.W.Frag} {v : Lv} {H : Hp} (f : Fixed K v (mn v.M H)) : v.bx ∉ v.M := fun m => by
  have h := f.boxes
  unfold mn at h
  rw [if_pos m] at h
  cases h
theorem words_ok {vals : List V} (hv : ∀ v ∈ vals, LawV v) : (∀ z ∈ vals.map txt, 1 ≤ z.length ∧ z.length ≤ 100) ∧ (∀ z ∈ vals.map txt, z.length ≤ 100) ∧ (∀ z ∈ vals.map txt, 32 ∉ z.cps.toList) ∧ Paired WV (vals.map txt) vals := by
  have key : ∀ z ∈ vals.map txt, (1 ≤ z.length ∧ z.length ≤ 100) ∧ 32 ∉ z.cps.toList := fun z hz => by
    obtain ⟨u, hu, rfl⟩ := List.mem_map.mp hz
    exact ⟨(hv u hu).wv.2.1, (hv u hu).wv.2.2.1⟩
  refine ⟨fun z hz => (key z hz).1, fun z hz => (key z hz).1.2, fun z hz => (key z hz).2, ?_⟩
  clear key
  induction vals with
  | nil => exact .nil
  | cons u r ih => exact .cons (hv u List.mem_cons_self).wv.1 (ih fun x hx => hv x (List.mem_cons_of_mem _ hx))
def kMF (G : Addr → Sp → Prop) (m : Str) (t : TA) (σ : L2.St) (Q : VK) : VK := fun x H1 => ∃ a C dx fs sp, x = .ref a ∧ H1 a = some (.ins C dx fs) ∧ G C sp ∧ fs.lookup m = none ∧ t σ H1 fun vs H2 => sp (x :: vs) H2 Q E0
theorem r_mF {G : Addr → Sp → Prop} {m : Str} {ta : TE} {t : TA} {σ : L2.St} {H : Hp} {Q : VK} (h : ta σ H (kMF G m t σ Q)) : tMF G m ta t σ H Q := h
def kPF (G : Addr → Sp → Prop) (Q : VK) : VK := fun x H1 => ∃ a C dx fs sp, x = .ref a ∧ H1 a = some (.ins C dx fs) ∧ G C sp ∧ sp [.ref a] H1 Q E0
theorem r_pF {G : Addr → Sp → Prop} {ta : TE} {σ : L2.St} {H : Hp} {Q : VK} (h : ta σ H (kPF G Q)) : tPF G ta σ H Q := h
theorem join_one (z : Str) : Txt.join " " [z] = z := by
  rw [TL.join_eq]
  rfl
/-- the rows of don have lost -/
structure LoseI (K : PySem.W.Frag) (v : Lv) (tb : List Int) (ys : Nat → List V) (A0 : Nat → Ad) (sd : Nat → SD) (tk : Int) (dn : List Nat) (H : Hp) (A' : Nat → Ad) (cs : Nat → List Int) : Prop where
  todo : ∀ r, r < 6 → r ∉ dn → RS K v tb H r (ys r) (A0 r) (sd r)
  done : ∀ r, r < 6 → r ∈ dn → RS K v tb H r (ys r ++ [.ref (A0 r).a]) (A' r) { sd r with cuts := cs r } ∧ Cut (sd r) tk (cs r)
theorem LoseI.lsts {K : PySem.W.Frag} {v : Lv} {tb : List Int} {ys : Nat → List V} {A0 : Nat → Ad} {sd : Nat → SD} {tk : Int} {dn : List Nat} {H : Hp} {A' : Nat → Ad} {cs : Nat → List Int} (f : LoseI K v tb ys A0 sd tk dn H A' cs) (hp : PenAt H v.pen) : Lsts v H := ⟨fun m hm => by
  rcases List.mem_cons.mp hm with rfl | hm
  · obtain ⟨a, b, n, hh, _⟩ := hp
    exact ⟨_, hh⟩
  · obtain ⟨r, hr, rfl⟩ := List.mem_map.mp hm
    by_cases q : r ∈ dn
    · exact ⟨_, (f.done r (List.mem_range.mp hr) q).1.ls⟩
    · exact ⟨_, (f.todo r (List.mem_range.mp hr) q).ls⟩⟩
theorem LoseI.step {K : PySem.W.Frag} {v : Lv} {tb : List Int} {ys : Nat → List V} {A0 : Nat → Ad} {sd : Nat → SD} {tk : Int} {dn : List Nat} {H H5 : Hp} {A' : Nat → Ad} {cs : Nat → List Int} {i : Nat} {A1 : Ad} {c1 : List Int} (f : LoseI K v tb ys A0 sd tk dn H A' cs)
    (ap : Apart v) (hp : PenAt H v.pen) (hi : i < 6) (ni : i ∉ dn) (e : Ext [(v.row i).L] H H5) (hx : H5 (v.row i).L = some (.lst (ys i ++ [.ref (A0 i).a] ++ [.ref A1.a]))) (fa : FrA H A1) (st5 : Stn K H5 A1 tb { sd i with cuts := c1 }) (cut : Cut (sd i) tk c1) :
    LoseI K v tb ys A0 sd tk (i :: dn) H5 (up A' i A1) (up cs i c1) := by
  have hL : ∀ l ∈ [(v.row i).L], l ∈ v.M := fun l hl => by rw [List.mem_singleton.mp hl]; exact Lv.memL hi
  refine ⟨fun r hr n => ?_, fun r hr m => ?_⟩
  · have n1 : r ≠ i := fun z => n (by rw [z]; exact List.mem_cons_self)
    exact (f.todo r hr fun z => n (List.mem_cons_of_mem _ z)).frame e hL (fun m => ap.rows r i hr hi n1 (List.mem_singleton.mp m))
  · by_cases q : r = i
    · subst q
      rw [up_same, up_same]
      exact ⟨RS.push (f.lsts hp) hi e hx fa st5, cut⟩
    · rw [up_ne q, up_ne q]
      have m2 : r ∈ dn := (List.mem_cons.mp m).resolve_left q
      obtain ⟨a, b⟩ := f.done r hr m2
      exact ⟨a.frame e hL (fun m => ap.rows r i hr hi q (List.mem_singleton.mp m)), b⟩
def don (i : Nat) : List Nat := (([1, 3, 4] : List Nat).take i).reverse
theorem don_at : ∀ i, i < 3 → ([1, 3, 4] : List Nat)[i]? = some (([1, 3, 4] : List Nat).getD i 0) ∧ don (i + 1) = ([1, 3, 4] : List Nat).getD i 0 :: don i ∧ ([1, 3, 4] : List Nat).getD i 0 ∉ don i ∧ ([1, 3, 4] : List Nat).getD i 0 < 6 ∧ (([1, 3, 4] : List Nat).getD i 0 = 1 ∨ ([1, 3, 4] : List Nat).getD i 0 = 3 ∨ ([1, 3, 4] : List Nat).getD i 0 = 4) := by decide
theorem LapS.lost {K : PySem.W.Frag} {v : Lv} {tb : List Int} {n : Nat} {H H' : Hp} {ys : Nat → List V} {A0 : Nat → Ad} {sd : Nat → SD} {st : List Stg} {tk : Int} {A' : Nat → Ad} {cs : Nat → List Int} (h : LapS K v tb n H ys A0 sd st) (hn : n ≤ 12) (ht : 1 ≤ tk ∧ tk ≤ 4) (e : Ext v.M H H') (hp : PenAt H' v.pen)
    (f : LoseI K v tb ys A0 sd tk (5 :: don 3) H' A' cs) : LapS K v tb (n + 1) H' (fun r => if r ∈ 5 :: don 3 then ys r ++ [.ref (A0 r).a] else ys r) (fun r => if r ∈ 5 :: don 3 then A' r else A0 r) (fun r => if r ∈ 5 :: don 3 then { sd r with cuts := cs r } else sd r) (st ++ [(⟨A0, sd⟩ : Stg)]) := by
  have cut : ∀ r, r < 6 → r ∈ 5 :: don 3 → Cut (sd r) tk (cs r) := fun r hr m => (f.done r hr m).2
  have c1 := cut 1 (by decide) (by decide)
  have n1 : Near { sd 1 with cuts := cs 1 } := h.near.lose ht c1
  have J : J6 (sd 0) { sd 1 with cuts := cs 1 } (sd 2) { sd 3 with cuts := cs 3 } { sd 4 with cuts := cs 4 } { sd 5 with cuts := cs 5 } := h.J.lose c1 (cut 3 (by decide) (by decide)) (cut 4 (by decide) (by decide)) (cut 5 (by decide) (by decide))
  have cl : ∀ r, r < 6 → r ∈ 5 :: don 3 → (cs r).length ≤ 4 := fun r hr m => by
    have e1 := n1.len
    have j1 := J.cb
    have j2 := J.ck
    have j3 := J.cs
    simp only [don, List.take, List.reverse_cons, List.reverse_nil, List.nil_append, List.cons_append, List.mem_cons, List.not_mem_nil, or_false] at m
    rcases m with rfl | rfl | rfl | rfl
    · show (cs 5).length ≤ 4
      have j3' : cs 5 = cs 1 := j3
      rw [j3']; exact e1
    · have j2' : cs 4 = cs 1 := j2
      rw [j2']; exact e1
    · have j1' : cs 3 = cs 1 := j1
      rw [j1']; exact e1
    · exact e1
  refine h.next hn e hp (fun r hr => ?_) J n1 (fun r hr => ?_) (fun r hr => ?_) fun r hr => ?_
  · by_cases m : r ∈ 5 :: don 3
    · simp only [if_pos m]
      exact (f.done r hr m).1
    · simp only [if_neg m]
      exact f.todo r hr m
  · have s := h.sml r hr
    by_cases m : r ∈ 5 :: don 3
    · simp only [if_pos m]
      have := cl r hr m
      exact ⟨Nat.le_trans s.ins (by omega), Nat.le_trans s.outs (by omega), Nat.le_trans s.due (by omega), by show (cs r).length ≤ _; omega, Nat.le_trans s.gone (by omega), Nat.le_trans s.later (by omega)⟩
    · simp only [if_neg m]
      exact s.mono (by omega)
  · have := h.yl r hr
    by_cases m : r ∈ 5 :: don 3
    · simp only [if_pos m, List.length_append, List.length_singleton]
      omega
    · simp only [if_neg m]
      omega
  · have m : r ∈ 5 :: don 3 := by
      revert r
      decide
    simp only [if_pos m]
section
variable {P : Program} {w : World} {K : PySem.W.Frag} {mg : Str → Option Value} {base : Heap}
def spLed (K : PySem.W.Frag) : Sp := fun vs H Q _ => ∃ v tb n ys A sd st, vs = [.ref v.pen, .ref v.bx, .ref v.sx] ∧ LapS K v tb n H ys A sd st ∧ n ≤ 12 ∧ ∀ H' ys' A' sd' st', Ext v.M H H' → LapS K v tb (n + 1) H' ys' A' sd' st' → Q (.bl true) H'
theorem sc_led_right : FnScope ["_law_pen_here", "_law_boxes", "_law_session", "_law_plain", "_law_losing", "_law_counting", "_law_both", "_law_link", "_law_way", "_law_some", "_law_outs", "_law_ticks", "_law_box", "_law_turn"] ["_law_pen_here", "_law_boxes", "_law_session"] (defScope s97) := ⟨rfl, rfl, rfl, by decide +kernel, rfl, by decide +kernel, by decide +kernel⟩
theorem fn__law_led_right (TPP : TP P) (T : Tx K mg) : FnR P w K mg base CX0 8 (d__law_led_right.pl.ad K) (spLed K) := by
  refine fnR_of (N := ["_law_pen_here", "_law_boxes", "_law_session", "_law_plain", "_law_losing", "_law_counting", "_law_both", "_law_link", "_law_way", "_law_some", "_law_outs", "_law_ticks", "_law_box", "_law_turn"]) (ps := ["_law_pen_here", "_law_boxes", "_law_session"]) (fun_of T md__law_led_right rfl) sc_led_right (fun _ _ _ _ _ _ us hl => match us, hl with | [_, _, _], _ => rfl) (fun _ _ _ _ ⟨_, _, _, _, _, _, _, e, _⟩ => by rw [e]; rfl) fun cdv A outer s H vs Q E hr hsp => ?_
  obtain ⟨v, tb, n, ys, A0, sd, st, rfl, W, hn, q⟩ := hsp
  refine ⟨_, (pss_cons (ps_asg (pv 1) (kg_unl (K := K) (n := 5) rfl rfl (pgs_cons (pg_name (i := 3) sc_led_right.nd rfl (Or.inl rfl)) (pgs_cons (pg_name (i := 4) sc_led_right.nd rfl (Or.inl rfl)) (pgs_cons (pg_name (i := 5) sc_led_right.nd rfl (Or.inl rfl)) (pgs_cons (pg_name (i := 6) sc_led_right.nd rfl (Or.inl rfl)) (pgs_cons (pg_name (i := 7) sc_led_right.nd rfl (Or.inl rfl)) pgs_nil)))))))
  (pss_cons (ps_set (i := 8) sc_led_right.nd rfl (Or.inl rfl) (kc_call (fn__law_draw (K := K) (mg := mg) T) hr (by rfl) (T.glo "_law_draw" (by decide +kernel)) (T.def_ _ md__law_draw).kp (pa_cons (pv 0) (pa_cons pe_int pa_nil))))
  (pss_cons (ps_if (pt_cmpR op_lt (pv 8) pe_int (nomark _))
  (pss_cons (ps_set (i := 9) sc_led_right.nd rfl (Or.inr rfl) (pe_lc (own := [("_law_turn", 13)]) (g := gName 13) (tt := tYes) rfl sc_led_right.nd (pi_range1 (by rfl) (T.free "range" (by decide +kernel)) (pa_cons (pe_op op_add pe_int (kc_call (fn__law_draw (K := K) (mg := mg) T) hr (by rfl) (T.glo "_law_draw" (by decide +kernel)) (T.def_ _ md__law_draw).kp (pa_cons (pv 0) (pa_cons pe_int pa_nil)))) pa_nil)) (blkOk_by (N := ["_law_pen_here", "_law_boxes", "_law_session", "_law_plain", "_law_losing", "_law_counting", "_law_both", "_law_link", "_law_way", "_law_some", "_law_outs", "_law_ticks", "_law_box", "_law_turn"]) (sc := defScope s97) (by decide +kernel)) (fun _ _ _ _ _ => (pg_name (i := 13) sc_led_right.nd rfl (Or.inl rfl))) (fun _ _ _ _ _ => pts_nil) (fun _ _ _ _ _ => (kc_call (fn__law_value (K := K) (mg := mg) T) hr (by rfl) (T.glo "_law_value" (by decide +kernel)) (T.def_ _ md__law_value).kp (pa_cons (pv 0) pa_nil)))))
  (pss_cons (ps_setLc (i := 10) (own := [("_law_box", 12)]) (g := gName 12) (tt := tYes) rfl sc_led_right.nd rfl rfl (sw_true rfl rfl rfl (by decide +kernel)) (ki_list (K := K) rfl (pv 1)) (blkOk_by (N := ["_law_pen_here", "_law_boxes", "_law_session", "_law_plain", "_law_losing", "_law_counting", "_law_both", "_law_link", "_law_way", "_law_some", "_law_outs", "_law_ticks", "_law_box", "_law_turn"]) (sc := defScope s97) (by decide +kernel)) (fun _ _ _ _ _ => (pg_name (i := 12) sc_led_right.nd rfl (Or.inl rfl))) (fun _ _ _ _ _ => pts_nil) (fun _ _ _ _ _ => (kc_call (fn__law_push_all (K := K) (mg := mg) TPP T) hr (by rfl) (T.glo "_law_push_all" (by decide +kernel)) (T.def_ _ md__law_push_all).kp (pa_cons (pv 12) (pa_cons (pv 9) pa_nil)))))
  (pss_cons (ps_if (PW.pt (pw_or (pt_cmpR (opNeD (K := K) rfl hr.units) (pe_ix (ixL (K := K) rfl) (pv 10) pe_int (fun _ _ => rfl)) (pe_ix (ixL (K := K) rfl) (pv 10) pe_int (fun _ _ => rfl)) (nomark _)) (pw_or1 (pt_cmpR (opNeD (K := K) rfl hr.units) (pe_ix (ixL (K := K) rfl) (pv 10) pe_int (fun _ _ => rfl)) (pe_ix (ixL (K := K) rfl) (pv 10) pe_int (fun _ _ => rfl)) (nomark _)))))
  (pss_one (ps_ret pe_bl))
  pss_nil)
  (pss_one (ps_if (pt_cmpR op_ne (kc_meth (pv 2) ⟨T.cls "Session" (by decide +kernel), _, T.mt "Session" "say" (by decide +kernel), fn_say (K := K) (mg := mg) TPP T⟩ hr (pa_cons (pe_op opAddS pe_str (kc_call (fn__law_words (K := K) (mg := mg) T) hr (by rfl) (T.glo "_law_words" (by decide +kernel)) (T.def_ _ md__law_words).kp (pa_cons (pv 9) pa_nil))) pa_nil)) (kc_call (fn__law_words (K := K) (mg := mg) T) hr (by rfl) (T.glo "_law_words" (by decide +kernel)) (T.def_ _ md__law_words).kp (pa_cons (pe_ix (ixL (K := K) rfl) (pv 10) pe_int (fun _ _ => rfl)) pa_nil)) (nomark _))
  (pss_one (ps_ret pe_bl))
  pss_nil)))))
  (pss_one (ps_if (pt_cmpR op_eq (pv 8) pe_int (nomark _))
  (pss_cons (ps_set (i := 11) sc_led_right.nd rfl (Or.inl rfl) (pe_op op_add pe_int (kc_call (fn__law_draw (K := K) (mg := mg) T) hr (by rfl) (T.glo "_law_draw" (by decide +kernel)) (T.def_ _ md__law_draw).kp (pa_cons (pv 0) (pa_cons pe_int pa_nil)))))
  (pss_cons (ps_for PassesOwn.never rfl (ki_tup (K := K) rfl (pe_tup (pa_cons (pv 4) (pa_cons (pv 6) (pa_cons (pv 7) pa_nil))))) (pg_name (i := 12) sc_led_right.nd rfl (Or.inl rfl))
  (pss_one (ps_expr (kc_methF (G := GLose K) (j := 4) (pv 12) (mok_lose T rfl rfl) hr (pa_cons (pv 11) pa_nil)))))
  (pss_one (ps_ret (pe_cmpR op_eq (kc_meth (pv 2) ⟨T.cls "Session" (by decide +kernel), _, T.mt "Session" "say" (by decide +kernel), fn_say (K := K) (mg := mg) TPP T⟩ hr (pa_cons (pe_op opAddS pe_str (pe_callTy cl_str (by rfl) (T.free "str" (by decide +kernel)) (by decide +kernel) (pa_cons (pv 11) pa_nil))) pa_nil)) pe_str (nomark _))))))
  pss_nil)))
  (pss_one (ps_ret pe_bl))))), ?_⟩
  have hb : H v.bx = some (.lst [.ref (v.row 0).x, .ref (v.row 1).x, .ref (v.row 2).x, .ref (v.row 3).x, .ref (v.row 4).x]) := mn_out W.fx.boxes
  have bxM := W.fx.bxM
  walk_at "go"
  refine ⟨v.pen, 6, rfl, W.pen, by decide, by decide, fun H1 r1 e1 hp1 hr0 hr1 => ?_⟩
  have W1 := W.pen_ e1 hp1
  walk_at "go"
  apply r_if2
  · intro h4
    walk_at "go"
    refine ⟨v.pen, 4, rfl, hp1, by decide, by decide, fun H2 r2 e2 hp2 hr2 hr3 => ?_⟩
    have W2 := W1.pen_ e2 hp2
    walk_at "go"
    refine ⟨_, rfl, by omega, by omega, ?_⟩
    refine r_kLcH walk_range [v.pen] (fun i H acc => PenAt H v.pen ∧ acc.length = i ∧ ∀ x ∈ acc, LawV x) ?_ (fun _ _ _ _ _ => trivial) ?_ ?_
    · intro D H3 nw e3
      exact ⟨hp2.same e3, rfl, fun x hx => absurd hx List.not_mem_nil⟩
    · rintro D i x H3 H4 acc hi nw e3 hD ⟨hp3, hl, hv⟩ ⟨rfl, rfl⟩
      have hDp : D ≠ v.pen := by
        obtain ⟨a, b, n, hh, _⟩ := hp2
        exact ne_fresh' nw hh
      walk_at "go"
      refine ⟨rfl, ?_⟩
      walk_at "go"
      refine ⟨v.pen, rfl, hp3, fun H5 y e5 hp5 hy => ?_⟩
      have hD5 : H5 D = some (.lst acc) := e5.ge _ _ (fun m => hDp (List.mem_singleton.mp m)) hD
      refine r_kApH hD5 (Ext.tr e5 e3 ⟨fun l hl => .inl hl⟩) nw (by omega) fun H6 e6 h6 => ⟨?_, by rw [List.length_append, hl]; rfl, fun z hz => ?_⟩
      · exact hp5.ext e6 (fun m => hDp (List.mem_singleton.mp m).symm)
      · rcases List.mem_append.mp hz with hz | hz
        · exact hv z hz
        · rw [List.mem_singleton.mp hz]
          exact hy
    · rintro Dv H3 vals nwv e3 hDv ⟨hp3, hvl, hv⟩
      have W3 := W2.pen_ e3 hp3
      have hb3 : H3 v.bx = some (.lst ((List.range 5).map fun r => V.ref (v.row r).x)) := mn_out W3.fx.boxes
      have nDv := nw_notin nwv W2.lsts
      have hv1 : 1 ≤ vals.length ∧ vals.length ≤ 4 := by omega
      have e03 : Ext [v.pen] H H3 := Ext.tr e3 (Ext.tr e2 e1 ⟨fun l hl => .inl hl⟩) ⟨fun l hl => .inl hl⟩
      walk_at "go"
      refine ⟨v.bx, rfl, ⟨_, SqL.of hb3⟩, ?_⟩
      refine r_kLcD (walk_list (xs := (List.range 5).map fun r => V.ref (v.row r).x)) (L5 v) (fun D i H acc => ∃ A' sd' outs ps, Pushed K v tb vals ys A0 sd D i H acc A' sd' outs ps) ?_ ?_ ?_ ?_
      · intro D H4 nw e4 hD
        exact ⟨A0, sd, fun _ => [], fun _ => 0, rfl, fun r _ h2 => e4.ge _ _ List.not_mem_nil (W3.rs r h2).ls, fun r hr => absurd hr (Nat.not_lt_zero _)⟩
      · intro D i H4 acc nw e4 _
        exact SqL.of (e4.ge _ _ (fun m => bxM (L5M _ m)) hb3)
      · rintro D i x H4 H5 acc hi nw e4 hD ⟨A', sd', outs, ps, f⟩ ⟨rfl, hx⟩
        have hi5 : i < 5 := by simpa using hi
        rw [List.getElem?_map, List.getElem?_range hi5] at hx
        cases hx
        have em := mn_ext e4 L5M
        have hp5 : PenAt H5 v.pen := hp3.ext e4 (penL5 W3.ap)
        have fx5 := W3.fx.same em
        have nD := nw_notin nw W3.lsts
        have R5 := W3.rs i (by omega)
        have hacc : acc.length = i := by rw [f.acc]; simp
        have y5 := W3.yl i (by omega)
        walk_at "go"
        refine ⟨rfl, ?_⟩
        walk_at "go"
        refine ⟨ga K (clsN i), poN i, pof_n hi5, (v.row i).x, (v.row i).dx, (v.row i).L, ys i, A0 i, tb, sd i, Dv, vals, rfl, e4.ge _ _ (fun m => nDv (L5M _ m)) hDv, ⟨mn_out (fx5.row i (by omega)), f.todo i (Nat.le_refl _) (by omega)⟩, (R5.st.same em).out, W3.ok, (W3.sml i (by omega)).mono (by omega), by omega, by omega, by omega, fun z hz => (hv z hz).okV, ?_⟩
        intro p H6 A1 s1 o1 e6 hx6 na fa st6 h6 stp
        have hD6 : H6 D = some (.lst acc) := e6.ge _ _ (fun m => nD (by rw [List.mem_singleton.mp m]; exact Lv.memL (by omega))) hD
        refine r_kApH hD6 (Ext.tr e6 e4 (Sub.cons (.inl (memL5 hi5)) Sub.nil)) nw (by omega) fun H7 e7 h7 => ⟨_, _, _, _, f.step W3.ap hp5 (by omega) e6 hx6 fa st6 h6 stp hD nD e7⟩
      · rintro D H5 acc nw e5 hD ⟨A', sd', outs, ps, f⟩
        have hacc : acc = [.ref (ps 0), .ref (ps 1), .ref (ps 2), .ref (ps 3), .ref (ps 4)] := f.acc
        have d0 := f.done 0 (show 0 < 5 by decide)
        have d1 := f.done 1 (show 1 < 5 by decide)
        have d2 := f.done 2 (show 2 < 5 by decide)
        have d3 := f.done 3 (show 3 < 5 by decide)
        have d4 := f.done 4 (show 4 < 5 by decide)
        obtain ⟨_, q1, q2, _, o1, o2⟩ := W3.J.self.steps hv d0.2.2.1 d1.2.2.1 d2.2.2.1 d3.2.2.1 d4.2.2.1 d1.2.2.1
        have l1 := d1.2.2.1.len
        walk_at "go"
        subst hacc
        refine r_ixL (SqL.of hD) (atI_nat (j := 0) rfl) ?_
        walk_at "go"
        refine r_ixL (SqL.of hD) (atI_nat (j := 2) rfl) ?_
        refine r_neSame (.tup (SqT.of d0.2.1) (dp_os o1)) (.tup (SqT.of (by rw [q1]; exact d2.2.1)) (dp_os o1)) (shaped_oT o1) ?_
        walk_at "go"
        refine r_ixL (SqL.of hD) (atI_nat (j := 1) rfl) ?_
        walk_at "go"
        refine r_ixL (SqL.of hD) (atI_nat (j := 3) rfl) ?_
        refine r_neSame (.tup (SqT.of d1.2.1) (dp_os o2)) (.tup (SqT.of (by rw [q2]; exact d3.2.1)) (dp_os o2)) (shaped_oT o2) ?_
        have em5 := mn_ext e5 L5M
        have fx5 := W3.fx.same em5
        have hp5 : PenAt H5 v.pen := hp3.ext e5 (penL5 W3.ap)
        have hsx5 := mn_out fx5.sess
        have hDv5 : H5 Dv = some (.lst vals) := e5.ge _ _ (fun m => nDv (L5M _ m)) hDv
        have nD := nw_notin nw W3.lsts
        have R5 := W3.rs 5 (by decide)
        have ls5 := f.lsts hp5
        walk_at "go"
        refine .inl ⟨Dv, vals, rfl, hDv5, by omega, fun z hz => (hv z hz).wv.2.2.2, fun H6 e6 => ?_⟩
        obtain ⟨ws1, ws2, ws3, ws4⟩ := words_ok hv
        have jl := join_len (vals.map txt) (n := 100) ws2
        rw [List.length_map] at jl
        have jl2 : (Txt.join " " (vals.map txt)).length ≤ 404 := Nat.le_trans jl (by have := Nat.mul_le_mul_right 101 hv1.2; omega)
        refine r_addS (by rw [show ("push " : Str).length = 5 from rfl]; omega) ?_
        have ne : vals.map txt ≠ [] := fun z => by
          have := congrArg List.length z
          rw [List.length_map] at this
          simp at this
          rw [this] at hv1
          simp at hv1
        have hc : ("push " : Str) = ("push" : Str) ++ (" " : Str) := by decide +kernel
        have em6 := mn_ext e6 (M := v.M) (fun l hl => absurd hl List.not_mem_nil)
        have fx6 := fx5.same em6
        refine .inr (.inl ⟨v.sx, v.sdx, (v.row 5).x, (v.row 5).dx, (v.row 5).L, ys 5, A0 5, tb, sd 5, _, vals.map txt, vals, rfl, e6.ge _ _ List.not_mem_nil hsx5, ?_, line_alone (line_space hc), line_split hc (by decide +kernel) ne ws3, ne, by rw [List.length_map]; omega, ws1, ws4,
          ⟨mn_out (fx6.row 5 (by decide)), e6.ge _ _ List.not_mem_nil (f.todo 5 (Nat.le_refl _) (by decide))⟩, ((R5.st.same em5).same em6).out, W3.ok, (W3.sml 5 (by decide)).mono (by omega), ?_, fun s' o hs z hz => ?_, fun H7 A7 s7 o7 e7 hx7 na7 fa7 st7 stp7 => ?_⟩)
        · rw [Str.length_append, show ("push " : Str).length = 5 from rfl]
          omega
        · have := W3.yl 5 (by decide)
          omega
        · obtain ⟨_, _, _, q3, _, o3⟩ := W3.J.steps hv d0.2.2.1 d1.2.2.1 d2.2.2.1 d3.2.2.1 d4.2.2.1 hs
          rw [← q3] at hz
          exact (o2 z hz).okW
        · obtain ⟨J7, _, _, q3, _, _⟩ := W3.J.steps hv d0.2.2.1 d1.2.2.1 d2.2.2.1 d3.2.2.1 d4.2.2.1 stp7
          have hL5 : ∀ l ∈ [(v.row 5).L], l ∈ v.M := fun l hl => by rw [List.mem_singleton.mp hl]; exact Lv.memL (by decide)
          have hD7 : H7 D = some (.lst [.ref (ps 0), .ref (ps 1), .ref (ps 2), .ref (ps 3), .ref (ps 4)]) := e7.ge _ _ (fun m => nD (hL5 _ m)) (e6.ge _ _ List.not_mem_nil hD)
          have l5 : H6 (v.row 5).L = some (.lst (ys 5 ++ [.ref (A0 5).a])) := e6.ge _ _ List.not_mem_nil (f.todo 5 (Nat.le_refl _) (by decide))
          have p1 : H7 (ps 1) = some (.tup (outs 1)) := e7.ge _ _ (fun m => by
            have h6 := e6.ge _ _ List.not_mem_nil d1.2.1
            rw [List.mem_singleton.mp m, l5] at h6
            cases h6) (e6.ge _ _ List.not_mem_nil d1.2.1)
          walk_at "go"
          refine r_ixL (SqL.of hD7) (atI_nat (j := 1) rfl) ?_
          walk_at "go"
          refine .inr ⟨ps 1, outs 1, rfl, p1, by omega, fun z hz => (o2 z hz).okW, fun H8 e8 => ?_⟩
          rw [q3]
          walk_at "go"
          apply r_ifNF rfl
          walk_at "go"
          have e58 : Ext [(v.row 5).L] H5 H8 := Ext.tr e8 (Ext.tr e7 (Ext.tr e6 Ext.rfl' Sub.nil) ⟨fun l hl => .inl hl⟩) Sub.nil
          have e38 : Ext v.M H3 H8 := Ext.tr e58 (Ext.tr e5 Ext.rfl' ⟨fun l hl => .inl (L5M l hl)⟩) ⟨fun l hl => .inl (hL5 l hl)⟩
          have ls6 : Lsts v H6 := ⟨fun m hm => by
            obtain ⟨xs, hx⟩ := ls5.all m hm
            exact ⟨xs, e6.ge _ _ List.not_mem_nil hx⟩⟩
          have all : ∀ r, r < 6 → RS K v tb H8 r (ys r ++ [.ref (A0 r).a]) (up A' 5 A7 r) (up sd' 5 s7 r) ∧ ∃ o, Steps (poN r) tb (sd r) vals o (up sd' 5 s7 r) := fun r hr => by
            by_cases z : r = 5
            · subst z
              rw [up_same, up_same]
              exact ⟨(RS.push ls6 hr e7 hx7 fa7 st7).frame e8 (fun l hl => absurd hl List.not_mem_nil) List.not_mem_nil, _, stp7⟩
            · rw [up_ne z, up_ne z]
              obtain ⟨a, _, c, _, _⟩ := f.done r (show r < 5 by omega)
              exact ⟨a.frame e58 hL5 (fun m => W3.ap.rows r 5 hr (by decide) z (List.mem_singleton.mp m)), _, c⟩
          have kp := Steps.kept (poOk_n 1) d1.2.2.1
          refine q H8 _ _ _ _ (Ext.tr e38 (Ext.tr e03 Ext.rfl' (Sub.cons (.inl Lv.memP) Sub.nil)) ⟨fun l hl => .inl hl⟩) (W3.next hn e38 (hp5.ext e58 fun m => W3.ap.pen 5 (by decide) (List.mem_singleton.mp m).symm) (fun r hr => (all r hr).1) J7 ?_ (fun r hr => ?_) (fun r hr => ?_) fun r hr => rfl)
          · exact W3.near.more kp.1 (show (sd 1).ins.length ≤ (sd' 1).ins.length by rw [kp.2]; simp)
          · obtain ⟨_, o, c⟩ := all r hr
            exact (Steps.sml (poOk_n r) (W3.sml r hr) c).mono (by omega)
          · have := W3.yl r hr
            rw [List.length_append]
            simp
            omega
  · intro h4
    walk_at "go"
    apply r_if2
    · intro _
      walk_at "go"
      refine ⟨v.pen, 4, rfl, hp1, by decide, by decide, fun H2 r2 e2 hp2 hr2 hr3 => ?_⟩
      have W2 := W1.pen_ e2 hp2
      walk_at "go"
      rename_i p3 H3 np3 e3 h3
      have W3 := W2.same e3
      have n3 := nw_notin np3 W2.lsts
      obtain ⟨tk, htk⟩ : ∃ tk : Int, tk = 1 + r2 := ⟨_, rfl⟩
      rw [← htk]
      refine ⟨p3, rfl, ⟨_, SqT.of h3⟩, ?_⟩
      refine r_for_it (walk_tup (xs := [1, 3, 4].map fun r => V.ref (v.row r).x)) (fun i σ H4 => ∃ y A' cs, σ = [some (.ref v.pen), some (.ref v.bx), some (.ref v.sx), some (.ref (v.row 0).x), some (.ref (v.row 1).x), some (.ref (v.row 2).x), some (.ref (v.row 3).x), some (.ref (v.row 4).x), some (.int r1), none, none, some (.int tk), y, none] ∧
        Ext v.M H3 H4 ∧ PenAt H4 v.pen ∧ LoseI K v tb ys A0 sd tk (don i) H4 A' cs) ⟨_, A0, fun _ => [], rfl, Ext.rfl', W3.pen, ⟨fun r hr _ => W3.rs r hr, fun r _ h => absurd h List.not_mem_nil⟩⟩ ?_ ?_ ?_
      · rintro i σ H4 hi ⟨y, A', cs, rfl, e4, _, _⟩
        exact SqT.of (e4.ge _ _ n3 h3)
      · rintro i x σ H4 H5 hi ⟨y, A', cs, rfl, e4, hp4, f⟩ ⟨rfl, hx⟩
        have hi3 : i < 3 := by simpa using hi
        obtain ⟨g1, g2, g3, g4, g5⟩ := don_at i hi3
        revert g1 g2 g3 g4 g5
        generalize ([1, 3, 4] : List Nat).getD i 0 = r
        intro g1 g2 g3 g4 g5
        rw [List.getElem?_map, g1] at hx
        cases hx
        have fx5 := W3.fx.same (mn_ext e4 fun l hl => hl)
        have hin := mn_out (fx5.row r g4)
        have R5 := f.todo r g4 g3
        have y5 := W3.yl r g4
        walk_at "go"
        refine r_mF ?_
        walk_at "go"
        refine ⟨_, _, _, _, _, rfl, hin, ⟨by rcases g5 with rfl | rfl | rfl; exact .inl rfl; exact .inr (.inl rfl); exact .inr (.inr rfl), rfl⟩, rfl, ?_⟩
        walk_at "go"
        refine ⟨(v.row r).x, (v.row r).dx, (v.row r).L, ys r, A0 r, tb, sd r, tk, rfl, ⟨hin, R5.ls⟩, R5.st.out, (W3.sml r g4).mono (by omega), ?_, by omega, by omega, by omega, ?_⟩
        · have := W3.near.len
          rcases g5 with rfl | rfl | rfl
          · omega
          · rw [W3.J.cb]; omega
          · rw [W3.J.ck]; omega
        · intro H6 A1 c1 e6 hx6 na fa st6 cu cm
          have hL : ∀ l ∈ [(v.row r).L], l ∈ v.M := fun l hl => by rw [List.mem_singleton.mp hl]; exact Lv.memL g4
          walk_at "go"
          refine ⟨_, up A' r A1, up cs r c1, rfl, Ext.tr e6 e4 ⟨fun l hl => .inl (hL l hl)⟩, hp4.ext e6 (fun m => W3.ap.pen r g4 (List.mem_singleton.mp m).symm), ?_⟩
          rw [g2]
          exact f.step W3.ap hp4 g4 g3 e6 hx6 fa st6 ⟨cu, cm⟩
      · rintro σ H4 ⟨y, A', cs, rfl, e4, hp4, f⟩
        have fx4 := W3.fx.same (mn_ext e4 fun l hl => hl)
        have hsx4 := mn_out fx4.sess
        have R5 := f.todo 5 (by decide) (show 5 ∉ don 3 by decide)
        have y5 := W3.yl 5 (by decide)
        obtain ⟨k, hk⟩ : ∃ k : Nat, tk = (k : Int) := ⟨tk.toNat, by omega⟩
        obtain ⟨k1, k2, k3, k4, k5, k6⟩ := holds_ok k (by omega)
        rw [← hk] at k1 k2 k3 k4 k5 k6
        have hc : ("lose " : Str) = ("lose" : Str) ++ (" " : Str) := by decide +kernel
        have hw : ∀ z ∈ [(toString tk : Str)], 32 ∉ z.cps.toList := fun z hz => by rw [List.mem_singleton.mp hz]; exact k6
        have hsp := line_split hc (by decide +kernel) (ws := [(toString tk : Str)]) (by simp) hw
        rw [join_one] at hsp
        walk_at "go"
        refine r_strI k5 ?_
        refine r_addS (by rw [show ("lose " : Str).length = 5 from rfl]; omega) ?_
        refine .inr (.inr (.inl ⟨v.sx, v.sdx, (v.row 5).x, (v.row 5).dx, (v.row 5).L, ys 5, A0 5, tb, sd 5, _, (toString tk : Str), tk, rfl, hsx4, ?_, line_alone (line_space hc), hsp, ⟨k1, by omega, by omega, k3, by rw [k4, hk]⟩,
          ⟨mn_out (fx4.row 5 (by decide)), R5.ls⟩, R5.st.out, (W3.sml 5 (by decide)).mono (by omega), by have := W3.near.len; rw [W3.J.cs]; omega, by omega, by omega, by omega, fun H6 A1 c1 e6 hx6 na fa st6 cu cm => ?_⟩))
        · rw [Str.length_append, show ("lose " : Str).length = 5 from rfl]
          omega
        · have f6 := f.step W3.ap hp4 (show 5 < 6 by decide) (show 5 ∉ don 3 by decide) e6 hx6 fa st6 ⟨cu, cm⟩
          have hL : ∀ l ∈ [(v.row 5).L], l ∈ v.M := fun l hl => by rw [List.mem_singleton.mp hl]; exact Lv.memL (by decide)
          have e36 : Ext v.M H3 H6 := Ext.tr e6 e4 ⟨fun l hl => .inl (hL l hl)⟩
          have e03 : Ext [v.pen] H H3 := Ext.tr e3 (Ext.tr e2 e1 ⟨fun l hl => .inl hl⟩) Sub.nil
          walk_at "go"
          exact q H6 _ _ _ _ (Ext.tr e36 (Ext.tr e03 Ext.rfl' (Sub.cons (.inl Lv.memP) Sub.nil)) ⟨fun l hl => .inl hl⟩) (W3.lost hn (by omega) e36 (hp4.ext e6 fun m => W3.ap.pen 5 (by decide) (List.mem_singleton.mp m).symm) f6)
    · intro _
      walk_at "go"
      exact q H1 _ _ _ _ (Ext.tr e1 Ext.rfl' (Sub.cons (.inl Lv.memP) Sub.nil)) (W1.more (by omega))
end
/-! ### what is alike at every turn -/
section
variable {K : PySem.W.Frag} {mg : Str → Option Value}
theorem ph_Row (T : Tx K mg) {X : Cx} (hK : X.K = K) (hm : X.mg = mg) : POk X 3 (ga K "Row") "held" (spHeld K (ga K "Row")) := po_heldL T (rcRow T) hK hm ⟨_, _, _, _, _, T.pr "Row" "held" (by decide +kernel), fun_of T md_p_Row_held rfl⟩
theorem ph_Losing (T : Tx K mg) {X : Cx} (hK : X.K = K) (hm : X.mg = mg) : POk X 3 (ga K "Losing") "held" (spHeld K (ga K "Losing")) := po_heldL T (rcLosing T) hK hm (heldF T)
theorem ph_Counting (T : Tx K mg) {X : Cx} (hK : X.K = K) (hm : X.mg = mg) : POk X 3 (ga K "Counting") "held" (spHeld K (ga K "Counting")) := po_heldL T (rcCounting T) hK hm ⟨_, _, _, _, _, T.pr "Counting" "held" (by decide +kernel), fun_of T md_p_Counting_held rfl⟩
theorem ph_LosingCounting (T : Tx K mg) {X : Cx} (hK : X.K = K) (hm : X.mg = mg) : POk X 3 (ga K "LosingCounting") "held" (spHeld K (ga K "LosingCounting")) := po_heldL T (rcLC T) hK hm ⟨_, _, _, _, _, T.pr "LosingCounting" "held" (by decide +kernel), fun_of T md_p_LosingCounting_held rfl⟩
theorem plo_Losing (T : Tx K mg) {X : Cx} (hK : X.K = K) (hm : X.mg = mg) : POk X 1 (ga K "Losing") "lost" (spLost K (ga K "Losing")) := by
  subst hK hm
  exact ⟨(rcLosing T).cl, _, _, T.pr "Losing" "lost" (by decide +kernel), fn_Losing_lost T (fun_of T md_p_Losing_lost rfl) (rcLosing T).cl (rcLosing T).no⟩
theorem plo_LosingCounting (T : Tx K mg) {X : Cx} (hK : X.K = K) (hm : X.mg = mg) : POk X 1 (ga K "LosingCounting") "lost" (spLost K (ga K "LosingCounting")) := by
  subst hK hm
  exact ⟨(rcLC T).cl, _, _, T.pr "LosingCounting" "lost" (by decide +kernel), fn_Losing_lost T (fun_of T md_p_LosingCounting_lost rfl) (rcLC T).cl (rcLC T).no⟩
theorem plo_Link (T : Tx K mg) {X : Cx} (hK : X.K = K) (hm : X.mg = mg) : POk X 1 (ga K "Link") "lost" (spLost K (ga K "Link")) := by
  subst hK hm
  exact ⟨(rcLink T).cl, _, _, T.pr "Link" "lost" (by decide +kernel), fn_Losing_lost T (fun_of T md_p_Link_lost rfl) (rcLink T).cl (rcLink T).no⟩
theorem pov_Counting (T : Tx K mg) {X : Cx} (hK : X.K = K) (hm : X.mg = mg) : POk X 1 (ga K "Counting") "overtakings" (spOver K (ga K "Counting")) := by
  subst hK hm
  exact ⟨(rcCounting T).cl, _, _, T.pr "Counting" "overtakings" (by decide +kernel), fn_Counting_over T (fun_of T md_p_Counting_overtakings rfl) (rcCounting T).cl (rcCounting T).no⟩
theorem pov_LosingCounting (T : Tx K mg) {X : Cx} (hK : X.K = K) (hm : X.mg = mg) : POk X 1 (ga K "LosingCounting") "overtakings" (spOver K (ga K "LosingCounting")) := by
  subst hK hm
  exact ⟨(rcLC T).cl, _, _, T.pr "LosingCounting" "overtakings" (by decide +kernel), fn_Counting_over T (fun_of T md_p_LosingCounting_overtakings rfl) (rcLC T).cl (rcLC T).no⟩
end
/-! what is held, as data -/
def hD (h : Int × V) : PyData := .tuple [.int h.1, vD h.2]
theorem dp_h {K : PySem.W.Frag} {H : Hp} : ∀ {xs : List V} {hv : List (Int × V)}, PairsAt H xs hv → (∀ x ∈ hv, LawV x.2) → DpAll K H xs (hv.map hD)
  | _, _, .nil, _ => .nil
  | _, _, .cons ⟨p, e, hp⟩ r, h => by
    subst e
    exact .cons (.tup (SqT.of hp) (.cons (.int _) (.cons (dp_v (h _ List.mem_cons_self).okV) .nil))) (dp_h r fun x hx => h x (List.mem_cons_of_mem _ hx))
theorem lay_hs : ∀ {hv : List (Int × V)}, (∀ x ∈ hv, LawV x.2) → PyData.canLayAll0 (hv.map hD) = true ∧ PyData.depthAll (hv.map hD) ≤ 1
  | [], _ => ⟨rfl, by decide⟩
  | x :: r, h => by
    obtain ⟨a1, a2⟩ := lay_v (h x List.mem_cons_self).okV
    obtain ⟨b1, b2⟩ := lay_hs (hv := r) fun u hu => h u (List.mem_cons_of_mem _ hu)
    constructor
    · rw [List.map_cons, PyData.canLayAll0, b1]
      simp [hD, PyData.canLay0, PyData.canLayAll0, a1]
    · rw [List.map_cons, PyData.depthAll]
      simp [hD, PyData.depth, PyData.depthAll, a2]
      omega
theorem shaped_h {hv : List (Int × V)} (h : ∀ x ∈ hv, LawV x.2) : SeqAt.shaped (.tuple (hv.map hD)) = true := by
  obtain ⟨b1, b2⟩ := lay_hs h
  simp [SeqAt.shaped, PyData.canLay0, PyData.depth, b1]
  omega
theorem LapS.eqs {K : PySem.W.Frag} {v : Lv} {tb : List Int} {n : Nat} {H : Hp} {ys : Nat → List V} {A : Nat → Ad} {sd : Nat → SD} {st : List Stg} (W : LapS K v tb n H ys A sd st) {r : Nat} (hr : r < 6) : (sd r).ins = (sd 0).ins ∧ (sd r).due = (sd 0).due :=
  match r, hr with
  | 0, _ => ⟨rfl, rfl⟩
  | 1, _ => ⟨W.J.il, W.J.dl⟩
  | 2, _ => ⟨W.J.ic, W.J.dc⟩
  | 3, _ => ⟨W.J.ib, W.J.db⟩
  | 4, _ => ⟨W.J.ik, W.J.dk⟩
  | 5, _ => ⟨W.J.is_, W.J.ds⟩
theorem LapS.at_ {K : PySem.W.Frag} {v : Lv} {tb : List Int} {n : Nat} {H H' : Hp} {ys : Nat → List V} {A : Nat → Ad} {sd : Nat → SD} {st : List Stg} (W : LapS K v tb n H ys A sd st) {r : Nat} (hr : r < 6) (e : Ext [] H H') :
    RowAt H' (ga K (clsN r)) (v.row r).x (v.row r).dx (v.row r).L (ys r ++ [.ref (A r).a]) ∧ Stn K H' (A r) tb (sd r) :=
  ⟨((W.same e).rs r hr).row (W.same e).fx hr, ((W.same e).rs r hr).st.out⟩
theorem LapS.held {K : PySem.W.Frag} {v : Lv} {tb : List Int} {n : Nat} {H H' : Hp} {ys : Nat → List V} {A : Nat → Ad} {sd : Nat → SD} {st : List Stg} {Q : VK} {E : XK} (W : LapS K v tb n H ys A sd st) (hn : n ≤ 13) (r : Nat) (hr : r < 6) (e : Ext [] H H')
    (k : ∀ H2 p xs hv, Ext [] H' H2 → H2 p = some (.tup xs) → PairsAt H2 xs hv → heldR (sd 0).due (sd 0).ins.length hv → Q (.ref p) H2) : spHeld K (ga K (clsN r)) [.ref (v.row r).x] H' Q E := by
  obtain ⟨a, b⟩ := W.at_ hr e
  obtain ⟨e1, e2⟩ := W.eqs hr
  have s := (W.sml r hr).due
  refine ⟨_, _, _, _, _, tb, sd r, rfl, a, b, by omega, fun H2 p xs hv e3 h1 h2 h3 => ?_⟩
  rw [e1, e2] at h3
  exact k H2 p xs hv e3 h1 h2 h3
theorem LapS.over {K : PySem.W.Frag} {v : Lv} {tb : List Int} {n : Nat} {H H' : Hp} {ys : Nat → List V} {A : Nat → Ad} {sd : Nat → SD} {st : List Stg} {Q : VK} {E : XK} (W : LapS K v tb n H ys A sd st) (r : Nat) (hr : r < 6) (e : Ext [] H H')
    (k : Q (.int (sd r).many) H') : spOver K (ga K (clsN r)) [.ref (v.row r).x] H' Q E := by
  obtain ⟨a, b⟩ := W.at_ hr e
  exact ⟨_, _, _, _, _, tb, sd r, rfl, a, b, k⟩
theorem LapS.lostP {K : PySem.W.Frag} {v : Lv} {tb : List Int} {n : Nat} {H H' : Hp} {ys : Nat → List V} {A : Nat → Ad} {sd : Nat → SD} {st : List Stg} {Q : VK} {E : XK} (W : LapS K v tb n H ys A sd st) (r : Nat) (hr : r < 6) (e : Ext [] H H')
    (k : H' (A r).gone = some (.tup ((sd r).gone.map V.int)) → Q (.ref (A r).gone) H') : spLost K (ga K (clsN r)) [.ref (v.row r).x] H' Q E := by
  obtain ⟨a, b⟩ := W.at_ hr e
  exact ⟨_, _, _, _, _, tb, sd r, rfl, a, b, k b.gone⟩
theorem LapS.tick {K : PySem.W.Frag} {v : Lv} {tb : List Int} {n : Nat} {H H' : Hp} {ys : Nat → List V} {A : Nat → Ad} {sd : Nat → SD} {st : List Stg} {Q : VK} {E : XK} (W : LapS K v tb n H ys A sd st) (r : Nat) (hr : r < 6) (e : Ext [] H H')
    (k : Q (.int (sd 0).ins.length) H') : spTick K (ga K (clsN r)) [.ref (v.row r).x] H' Q E := by
  obtain ⟨a, b⟩ := W.at_ hr e
  obtain ⟨e1, e2⟩ := W.eqs hr
  refine ⟨_, _, _, _, _, tb, sd r, rfl, a, b, ?_⟩
  rw [e1]
  exact k
def kSubO (C : Addr) (sp : Sp) (ti : TE) (σ : L2.St) (Q : VK) : VK := fun x H1 => ti σ H1 fun y H2 => ∃ a dx fs, x = .ref a ∧ H2 a = some (.ins C dx fs) ∧ sp [.ref a, y] H2 Q E0
theorem r_subO {C : Addr} {sp : Sp} {to ti : TE} {σ : L2.St} {H : Hp} {Q : VK} (h : to σ H (kSubO C sp ti σ Q)) : tSubO C sp to ti σ H Q := h
theorem r_kSubO {C : Addr} {sp : Sp} {ti : TE} {σ : L2.St} {H : Hp} {Q : VK} {x : V} (h : ti σ H fun y H2 => ∃ a dx fs, x = .ref a ∧ H2 a = some (.ins C dx fs) ∧ sp [.ref a, y] H2 Q E0) : kSubO C sp ti σ Q x H := h
theorem r_rep {l : Addr} {k : Int} {xs : List V} {H : Hp} {Q : VK} (h : H l = some (.lst xs)) (h1 : 0 ≤ k) (h2 : k ≤ 100) (h3 : xs.length ≤ 100) (q : ∀ p H2, Nw H p → Ext [] H H2 → H2 p = some (.lst (List.replicate k.toNat xs).flatten) → Q (.ref p) H2) : rRep (.ref l) (.int k) H Q :=
  ⟨l, k, xs, rfl, rfl, h, by omega, by omega, sz1 (by have := Nat.mul_le_mul h3 (show k.toNat ≤ 100 by omega); omega), fun p np => q p _ ⟨np⟩ (.new np) upd_same⟩
theorem LapS.alone {K : PySem.W.Frag} {v : Lv} {tb : List Int} {n : Nat} {H H' : Hp} {ys : Nat → List V} {A : Nat → Ad} {sd : Nat → SD} {st : List Stg} {Q : VK} {E : XK} {z : Str} (W : LapS K v tb n H ys A sd st) (hn : n ≤ 13) (e : Ext [] H H') (hz : z.length ≤ 90000 ∧ inV (.str z) aloneL = true)
    (k : AloneQ K H' (v.row 5).L (ys 5) (sd 5) z Q) : spSay K [.ref v.sx, .str z] H' Q E := by
  obtain ⟨a, b⟩ := W.at_ (r := 5) (by decide) e
  have s := (W.sml 5 (by decide)).ins
  exact .inr (.inr (.inr ⟨v.sx, v.sdx, _, _, _, _, _, tb, sd 5, z, rfl, mn_out (W.same e).fx.sess, hz.1, hz.2, a, b, by omega, k⟩))
theorem LapS.aloneJ {K : PySem.W.Frag} {v : Lv} {tb : List Int} {n : Nat} {H H' : Hp} {ys : Nat → List V} {A : Nat → Ad} {sd : Nat → SD} {st : List Stg} {Q : VK} {E : XK} (W : LapS K v tb n H ys A sd st) (hn : n ≤ 13) (e : Ext [] H H')
    (k : ∀ H2, Ext [] H' H2 → Q (.str (if 0 < (sd 0).ins.length then journal (sd 0).ins (sd 1).outs else "none")) H2) : spSay K [.ref v.sx, .str "journal"] H' Q E := by
  have nl := W.J.nl
  refine W.alone hn e ⟨by decide, by decide +kernel⟩ (.inr (.inr (.inr ⟨rfl, ?_, fun u hu => ?_, fun u hu => ?_, fun H2 e2 => ?_⟩)))
  · rw [W.J.os, W.J.is_]
    exact nl
  · rw [W.J.is_] at hu
    have := W.J.vi u hu
    exact ⟨this.okV, this.wv.2.2.2⟩
  · rw [W.J.os] at hu
    exact (W.J.vl u hu).okW
  · rw [W.J.os, W.J.is_, nl]
    exact k H2 e2
theorem box5 {K : PySem.W.Frag} {r : Nat} (h : r < 5) : Box5 K (ga K (clsN r)) :=
  match r, h with
  | 0, _ => .inl rfl
  | 1, _ => .inr (.inl rfl)
  | 2, _ => .inr (.inr (.inl rfl))
  | 3, _ => .inr (.inr (.inr (.inl rfl)))
  | 4, _ => .inr (.inr (.inr (.inr rfl)))
theorem LapS.item {K : PySem.W.Frag} {v : Lv} {tb : List Int} {n : Nat} {H H' : Hp} {ys : Nat → List V} {A : Nat → Ad} {sd : Nat → SD} {st : List Stg} {Q : VK} {E : XK} (W : LapS K v tb n H ys A sd st) (r : Nat) (hr : r < 6) (e : Ext [] H H') {i : Nat} (hi : i < (sd 0).ins.length) (ho : (sd r).outs.length = (sd 0).ins.length)
    (k : Q ((sd r).outs.getD i .non) H') : spGetitem K (ga K (clsN r)) [.ref (v.row r).x, .int (i : Nat)] H' Q E := by
  obtain ⟨a, b⟩ := W.at_ hr e
  obtain ⟨e1, e2⟩ := W.eqs hr
  have hv : (sd r).outs[i]? = some ((sd r).outs.getD i .non) := by
    rw [List.getD_eq_getElem?_getD, List.getElem?_eq_getElem (by omega)]
    rfl
  exact ⟨_, _, _, _, _, tb, sd r, i, _, rfl, a, b, hv, by rw [e1]; exact hi, k⟩
theorem LapS.jour {K : PySem.W.Frag} {v : Lv} {tb : List Int} {n : Nat} {H H' : Hp} {ys : Nat → List V} {A : Nat → Ad} {sd : Nat → SD} {st : List Stg} {Q : VK} {E : XK} (W : LapS K v tb n H ys A sd st) (hn : n ≤ 13) (r : Nat) (hr : r < 6) (e : Ext [] H H') (ho : (sd r).outs = (sd 1).outs)
    (k : ∀ H2, Ext [] H' H2 → Q (.str (journal (sd 0).ins (sd 1).outs)) H2) : spJournal K (ga K (clsN r)) [.ref (v.row r).x] H' Q E := by
  obtain ⟨a, b⟩ := W.at_ hr e
  obtain ⟨e1, e2⟩ := W.eqs hr
  have s := (W.sml r hr).ins
  have nl := W.J.nl
  refine ⟨_, _, _, _, _, tb, sd r, rfl, a, b, by omega, by rw [ho, e1]; exact nl, fun u hu => ?_, fun u hu => ?_, fun H2 e3 => ?_⟩
  · rw [e1] at hu
    have := W.J.vi u hu
    exact ⟨this.okV, this.wv.2.2.2⟩
  · rw [ho] at hu
    exact (W.J.vl u hu).okW
  · rw [ho, e1]
    exact k H2 e3
def goneTo (po lo : List V) (i : Nat) : List Int := ((List.range i).filter fun t => decide (po.getD t .non ≠ .non) && decide (lo.getD t .non = .non)).map fun (t : Nat) => (t : Int)
theorem goneTo_succ {po lo : List V} {i : Nat} : goneTo po lo (i + 1) = goneTo po lo i ++ (if po.getD i .non ≠ .non ∧ lo.getD i .non = .non then [(i : Int)] else []) := by
  unfold goneTo
  rw [List.range_succ, List.filter_append, List.map_append]
  congr 1
  by_cases h : po.getD i .non ≠ .non ∧ lo.getD i .non = .non
  · rw [if_pos h, List.filter_cons, if_pos (by rw [decide_eq_true h.1, decide_eq_true h.2]; rfl)]
    rfl
  · rw [if_neg h, List.filter_cons, if_neg (fun z => h (by
      obtain ⟨a, b⟩ := He.ba z
      exact ⟨of_decide_eq_true a, of_decide_eq_true b⟩))]
    rfl
section
variable {P : Program} {w : World} {K : PySem.W.Frag} {mg : Str → Option Value} {base : Heap}
def spSame (K : PySem.W.Frag) : Sp := fun vs H Q _ => ∃ v tb n ys A sd st, vs = [.ref v.bx, .ref v.sx] ∧ LapS K v tb n H ys A sd st ∧ n ≤ 13 ∧ ∀ H', Ext [] H H' → Q (.bl true) H'
theorem sc_same_now : FnScope ["_law_boxes", "_law_session", "_law_plain", "_law_losing", "_law_counting", "_law_both", "_law_link", "_law_gone", "_law_line", "_law_tick", "_law_box"] ["_law_boxes", "_law_session"] (defScope s98) := ⟨rfl, rfl, rfl, by decide +kernel, rfl, by decide +kernel, by decide +kernel⟩
theorem fn__law_same_now (TPP : TP P) (T : Tx K mg) : FnR P w K mg base CX0 8 (d__law_same_now.pl.ad K) (spSame K) := by
  refine fnR_of (N := ["_law_boxes", "_law_session", "_law_plain", "_law_losing", "_law_counting", "_law_both", "_law_link", "_law_gone", "_law_line", "_law_tick", "_law_box"]) (ps := ["_law_boxes", "_law_session"]) (fun_of T md__law_same_now rfl) sc_same_now (fun _ _ _ _ _ _ us hl => match us, hl with | [_, _], _ => rfl) (fun _ _ _ _ ⟨_, _, _, _, _, _, _, e, _⟩ => by rw [e]; rfl) fun cdv A outer s H vs Q E hr hsp => ?_
  obtain ⟨v, tb, n, ys, A0, sd, st, rfl, W, hn, q⟩ := hsp
  refine ⟨_, (pss_cons (ps_asg (pv 0) (kg_unl (K := K) (n := 5) rfl rfl (pgs_cons (pg_name (i := 2) sc_same_now.nd rfl (Or.inr rfl)) (pgs_cons (pg_name (i := 3) sc_same_now.nd rfl (Or.inr rfl)) (pgs_cons (pg_name (i := 4) sc_same_now.nd rfl (Or.inl rfl)) (pgs_cons (pg_name (i := 5) sc_same_now.nd rfl (Or.inl rfl)) (pgs_cons (pg_name (i := 6) sc_same_now.nd rfl (Or.inl rfl)) pgs_nil)))))))
  (pss_cons (ps_if (PW.pt (pw_or (pt_cmpR (opNeD (K := K) rfl hr.units) (kc_prop (pv 2) (ph_Row T rfl rfl) hr) (kc_prop (pv 4) (ph_Counting T rfl rfl) hr) (nomark _)) (pw_or (pt_cmpR (opNeD (K := K) rfl hr.units) (kc_prop (pv 3) (ph_Losing T rfl rfl) hr) (kc_prop (pv 5) (ph_LosingCounting T rfl rfl) hr) (nomark _)) (pw_or1 (pt_cmpR (opNeD (K := K) rfl hr.units) (kc_prop (pv 2) (ph_Row T rfl rfl) hr) (kc_prop (pv 3) (ph_Losing T rfl rfl) hr) (nomark _))))))
  (pss_one (ps_ret pe_bl))
  pss_nil)
  (pss_cons (ps_if (PW.pt (pw_or (pt_cmpR op_ne (kc_prop (pv 4) (pov_Counting T rfl rfl) hr) (kc_prop (pv 5) (pov_LosingCounting T rfl rfl) hr) (nomark _)) (pw_or (pt_cmpR (opNeD (K := K) rfl hr.units) (kc_prop (pv 3) (plo_Losing T rfl rfl) hr) (kc_prop (pv 5) (plo_LosingCounting T rfl rfl) hr) (nomark _)) (pw_or1 (pt_cmpR (opNeD (K := K) rfl hr.units) (kc_prop (pv 6) (plo_Link T rfl rfl) hr) (kc_prop (pv 3) (plo_Losing T rfl rfl) hr) (nomark _))))))
  (pss_one (ps_ret pe_bl))
  pss_nil)
  (pss_cons (ps_setLc (i := 7) (own := [("_law_tick", 9)]) (g := gName 9) rfl sc_same_now.nd rfl rfl (sw_true rfl rfl rfl (by decide +kernel)) (pi_range1 (by rfl) (T.free "range" (by decide +kernel)) (pa_cons (kc_prop (pv 2) (po_tick T (rcRow T) rfl rfl) hr) pa_nil)) (blkOk_by (N := ["_law_boxes", "_law_session", "_law_plain", "_law_losing", "_law_counting", "_law_both", "_law_link", "_law_gone", "_law_line", "_law_tick", "_law_box"]) (sc := defScope s98) (by decide +kernel)) (fun _ _ _ _ _ => (pg_name (i := 9) sc_same_now.nd rfl (Or.inl rfl))) (fun _ _ _ _ _ => (pts_one (PW.pt (pw_and (pt_cmpR opNotN (kc_sub (T.sp "Row" "__getitem__" (by decide +kernel)) (T.def_ _ md_Row___getitem__).fn (T.def_ _ md_Row___getitem__).fi (item_Row (K := K) (mg := mg) T) hr (pv 2) (pv 9)) pe_non (nomark _)) (pw_and1 (pt_cmpR opIsN (kc_sub (T.sp "Losing" "__getitem__" (by decide +kernel)) (T.def_ _ md_Losing___getitem__).fn (T.def_ _ md_Losing___getitem__).fi (item_Losing (K := K) (mg := mg) T) hr (pv 3) (pv 9)) pe_non (nomark _))))))) (fun _ _ _ _ _ => (pv 9)))
  (pss_cons (ps_if (pt_cmpR (opNeD (K := K) rfl hr.units) (kc_prop (pv 3) (plo_Losing T rfl rfl) hr) (pe_callTy (cl_tuple (K := K) rfl) (by rfl) (T.free "tuple" (by decide +kernel)) (by decide +kernel) (pa_cons (pv 7) pa_nil)) (nomark _))
  (pss_one (ps_ret pe_bl))
  pss_nil)
  (pss_cons (ps_if (PW.pt (pw_or (pt_cmpR op_ne (kc_meth (pv 1) ⟨T.cls "Session" (by decide +kernel), _, T.mt "Session" "say" (by decide +kernel), fn_say (K := K) (mg := mg) TPP T⟩ hr (pa_cons pe_str pa_nil)) (pe_callTy cl_str (by rfl) (T.free "str" (by decide +kernel)) (by decide +kernel) (pa_cons (kc_prop (pv 3) (po_tick T (rcLosing T) rfl rfl) hr) pa_nil)) (nomark _)) (pw_or1 (pt_cmpR (opNeD (K := K) rfl hr.units) (pe_lc (own := [("_law_box", 10)]) (g := gName 10) (tt := tYes) rfl sc_same_now.nd (ki_list (K := K) rfl (pv 0)) (blkOk_by (N := ["_law_boxes", "_law_session", "_law_plain", "_law_losing", "_law_counting", "_law_both", "_law_link", "_law_gone", "_law_line", "_law_tick", "_law_box"]) (sc := defScope s98) (by decide +kernel)) (fun _ _ _ _ _ => (pg_name (i := 10) sc_same_now.nd rfl (Or.inl rfl))) (fun _ _ _ _ _ => pts_nil) (fun _ _ _ _ _ => (kc_propF (G := GTick K) (j := 1) (pv 10) (pok_tick T rfl rfl) hr))) (pe_op op_rep (pe_lst (pa_cons (kc_prop (pv 2) (po_tick T (rcRow T) rfl rfl) hr) pa_nil)) pe_int) (nomark _)))))
  (pss_one (ps_ret pe_bl))
  pss_nil)
  (pss_cons (ps_set (i := 8) sc_same_now.nd rfl (Or.inl rfl) (pe_ifExp (pt_cmpR op_gt (kc_prop (pv 3) (po_tick T (rcLosing T) rfl rfl) hr) pe_int (nomark _)) (kc_call (fn_journal_text (K := K) (mg := mg) T (rcLosing T) (T.isi "Losing" (by decide +kernel))) hr (by rfl) (T.glo "journal_text" (by decide +kernel)) (T.def_ _ md_journal_text).kp (pa_cons (pv 3) pa_nil)) pe_str))
  (pss_one (ps_ret (pe_and (pe_cmpR op_eq (kc_meth (pv 1) ⟨T.cls "Session" (by decide +kernel), _, T.mt "Session" "say" (by decide +kernel), fn_say (K := K) (mg := mg) TPP T⟩ hr (pa_cons pe_str pa_nil)) (pv 8) (nomark _)) (pe_one (pe_cmpR op_eq (kc_call (fn_journal_text (K := K) (mg := mg) T (rcLC T) (T.isi "LosingCounting" (by decide +kernel))) hr (by rfl) (T.glo "journal_text" (by decide +kernel)) (T.def_ _ md_journal_text).kp (pa_cons (pv 5) pa_nil)) (kc_call (fn_journal_text (K := K) (mg := mg) T (rcLosing T) (T.isi "Losing" (by decide +kernel))) hr (by rfl) (T.glo "journal_text" (by decide +kernel)) (T.def_ _ md_journal_text).kp (pa_cons (pv 3) pa_nil)) (nomark _))))))))))))), ?_⟩
  have hb : H v.bx = some (.lst [.ref (v.row 0).x, .ref (v.row 1).x, .ref (v.row 2).x, .ref (v.row 3).x, .ref (v.row 4).x]) := mn_out W.fx.boxes
  have hr0 := (W.rs 0 (by decide)).row W.fx (by decide)
  have hr1 := (W.rs 1 (by decide)).row W.fx (by decide)
  have hr2 := (W.rs 2 (by decide)).row W.fx (by decide)
  have hr3 := (W.rs 3 (by decide)).row W.fx (by decide)
  have hr4 := (W.rs 4 (by decide)).row W.fx (by decide)
  have hr5 := (W.rs 5 (by decide)).row W.fx (by decide)
  have i0 := hr0.inst
  have i1 := hr1.inst
  have i2 := hr2.inst
  have i3 := hr3.inst
  have i4 := hr4.inst
  walk_at "go"
  refine W.held hn 0 (by decide) Ext.rfl' fun H1 p1 xs1 hv e1 h1 hq1 hR1 => ?_
  have hl := heldR_law W.J.vd hR1
  walk_at "go"
  refine W.held hn 2 (by decide) (by walk_at "ex") fun H2 p2 xs2 hv2 e2 h2 hq2 hR2 => ?_
  obtain rfl := heldR_unique hR1 hR2
  refine r_neSame (.tup (SqT.of (e2.ge _ _ List.not_mem_nil h1)) (dp_h (hq1.same fun b xs q => e2.ge _ _ List.not_mem_nil q) hl)) (.tup (SqT.of h2) (dp_h hq2 hl)) (shaped_h hl) ?_
  walk_at "go"
  refine W.held hn 1 (by decide) (by walk_at "ex") fun H3 p3 xs3 hv3 e3 h3 hq3 hR3 => ?_
  obtain rfl := heldR_unique hR1 hR3
  walk_at "go"
  refine W.held hn 3 (by decide) (by walk_at "ex") fun H4 p4 xs4 hv4 e4 h4 hq4 hR4 => ?_
  obtain rfl := heldR_unique hR1 hR4
  refine r_neSame (.tup (SqT.of (e4.ge _ _ List.not_mem_nil h3)) (dp_h (hq3.same fun b xs q => e4.ge _ _ List.not_mem_nil q) hl)) (.tup (SqT.of h4) (dp_h hq4 hl)) (shaped_h hl) ?_
  walk_at "go"
  refine W.held hn 0 (by decide) (by walk_at "ex") fun H5 p5 xs5 hv5 e5 h5 hq5 hR5 => ?_
  obtain rfl := heldR_unique hR1 hR5
  walk_at "go"
  refine W.held hn 1 (by decide) (by walk_at "ex") fun H6 p6 xs6 hv6 e6 h6 hq6 hR6 => ?_
  obtain rfl := heldR_unique hR1 hR6
  refine r_neSame (.tup (SqT.of (e6.ge _ _ List.not_mem_nil h5)) (dp_h (hq5.same fun b xs q => e6.ge _ _ List.not_mem_nil q) hl)) (.tup (SqT.of h6) (dp_h hq6 hl)) (shaped_h hl) ?_
  have ea : Ext [] H H6 := by walk_at "ex"
  clear e1 e2 e3 e4 e5 e6
  walk_at "go"
  refine W.over 2 (by decide) ea ?_
  walk_at "go"
  refine W.over 3 (by decide) ea ?_
  walk_at "go"
  apply r_ifNF (by rw [W.J.mb])
  walk_at "go"
  refine W.lostP 1 (by decide) ea fun g1 => ?_
  walk_at "go"
  refine W.lostP 3 (by decide) ea fun g3 => ?_
  refine r_neSame (.tup (SqT.of g1) dp_ints) (.tup (SqT.of (by rw [W.J.gb] at g3; exact g3)) dp_ints) (shaped_intsT _) ?_
  walk_at "go"
  refine W.lostP 4 (by decide) ea fun g4 => ?_
  walk_at "go"
  refine W.lostP 1 (by decide) ea fun _ => ?_
  refine r_neSame (.tup (SqT.of (by rw [W.J.gk] at g4; exact g4)) dp_ints) (.tup (SqT.of g1) dp_ints) (shaped_intsT _) ?_
  walk_at "go"
  refine W.tick 0 (by decide) ea ?_
  have s0 := (W.sml 0 (by decide)).ins
  have np := W.J.np
  have nl := W.J.nl
  walk_at "go"
  refine ⟨_, rfl, by omega, by omega, ?_⟩
  refine r_kLc walk_range [] (fun i acc => acc = (goneTo (sd 0).outs (sd 1).outs i).map V.int) rfl (fun _ _ => trivial) ?_ ?_
  · rintro D i x H7 H8 acc hi nw e7 hD rfl ⟨rfl, hx⟩
    have hx' : x = .int (i : Nat) := by
      rw [hx]
      show V.int (0 + (i : Int)) = _
      rw [Int.zero_add]
    subst hx'
    clear hx
    have hi2 : i < (sd 0).ins.length := by simpa using hi
    have e8 : Ext [] H H8 := by walk_at "ex"
    have gl : ((goneTo (sd 0).outs (sd 1).outs i).map V.int).length ≤ 90000 := by
      rw [List.length_map]
      unfold goneTo
      rw [List.length_map]
      have := List.length_filter_le (fun t => decide ((sd 0).outs.getD t .non ≠ .non) && decide ((sd 1).outs.getD t .non = .non)) (List.range i)
      rw [List.length_range] at this
      omega
    have i0' := mn_out ((W.same e8).fx.row 0 (by decide))
    have i1' := mn_out ((W.same e8).fx.row 1 (by decide))
    have fin : ∀ b : Prop, [Decidable b] → (b ↔ ((sd 0).outs.getD i .non ≠ .non ∧ (sd 1).outs.getD i .non = .non)) → goneTo (sd 0).outs (sd 1).outs (i + 1) = goneTo (sd 0).outs (sd 1).outs i ++ (if b then [(i : Int)] else []) := fun b _ h => by
      rw [goneTo_succ]
      congr 1
      by_cases c : b
      · rw [if_pos c, if_pos (h.mp c)]
      · rw [if_neg c, if_neg fun z => c (h.mpr z)]
    walk_at "go"
    refine ⟨rfl, ?_⟩
    walk_at "go"
    refine r_subO ?_
    walk_at "go"
    refine r_kSubO ?_
    walk_at "go"
    refine ⟨_, _, _, rfl, i0', ?_⟩
    refine W.item 0 (by decide) e8 hi2 np ?_
    walk_at "go"
    by_cases c0 : (sd 0).outs.getD i .non = .non
    · apply r_ifNF c0
      walk_at "go"
      exact r_LcI hD e7 (by rw [fin False ⟨False.elim, fun z => z.1 c0⟩, if_neg id, List.append_nil])
    · apply r_ifNT c0
      walk_at "go"
      refine r_subO ?_
      walk_at "go"
      refine r_kSubO ?_
      walk_at "go"
      refine ⟨_, _, _, rfl, i1', ?_⟩
      refine W.item 1 (by decide) e8 hi2 nl ?_
      walk_at "go"
      refine r_kIf ?_
      by_cases c1 : (sd 1).outs.getD i .non = .non
      · apply r_ifT c1
        walk_at "go"
        refine r_kAp hD e7 nw gl ?_
        rw [fin True ⟨fun _ => ⟨c0, c1⟩, fun _ => trivial⟩, if_pos trivial, List.map_append]
        rfl
      · apply r_ifF c1
        exact r_LcI hD e7 (by rw [fin False ⟨False.elim, fun z => c1 z.2⟩, if_neg id, List.append_nil])
  · rintro D H7 acc nw e7 hD rfl
    have ge : goneTo (sd 0).outs (sd 1).outs ((sd 0).ins.length : Int).toNat = (sd 1).gone := by
      rw [Int.toNat_natCast, ← np]
      exact W.J.gone.symm
    rw [ge] at hD
    have e07 : Ext [] H H7 := Ext.tr e7 ea Sub.nil
    walk_at "go"
    refine W.lostP 1 (by decide) e07 fun g7 => ?_
    walk_at "go"
    rename_i p8 H8 np8 e8 h8
    refine r_neSame (.tup (SqT.of (e8.ge _ _ List.not_mem_nil g7)) dp_ints) (.tup (SqT.of h8) dp_ints) (shaped_intsT _) ?_
    have e08 : Ext [] H H8 := Ext.tr e8 e07 Sub.nil
    have s8 := mn_out (W.same e08).fx.sess
    walk_at "go"
    refine W.alone hn e08 ⟨by decide, by decide +kernel⟩ (.inl ⟨rfl, fun H9 e9 => ?_⟩)
    have e09 : Ext [] H H9 := Ext.tr e9 e08 Sub.nil
    have i1' := mn_out ((W.same e09).fx.row 1 (by decide))
    walk_at "go"
    refine W.tick 1 (by decide) e09 ?_
    walk_at "go"
    refine r_strI (log_le (by simp; omega)) ?_
    walk_at "go"
    apply r_ifNF (by rw [W.J.is_])
    walk_at "go"
    have hb9 : H9 v.bx = some (.lst ((List.range 5).map fun r => V.ref (v.row r).x)) := mn_out (W.same e09).fx.boxes
    refine ⟨v.bx, rfl, ⟨_, SqL.of hb9⟩, ?_⟩
    refine r_kLc (walk_list (xs := (List.range 5).map fun r => V.ref (v.row r).x)) [] (fun i acc => acc = List.replicate i (V.int ((sd 0).ins.length : Nat))) rfl (fun H2 e => SqL.of (e.ge _ _ List.not_mem_nil hb9)) ?_ ?_
    · rintro D2 i x H10 H11 acc hi nw2 e10 hD2 rfl ⟨rfl, hx⟩
      have hi5 : i < 5 := by simpa using hi
      rw [List.getElem?_map, List.getElem?_range hi5] at hx
      cases hx
      have e011 : Ext [] H H11 := Ext.tr e10 e09 Sub.nil
      walk_at "go"
      refine ⟨rfl, ?_⟩
      walk_at "go"
      refine r_pF ?_
      walk_at "go"
      refine ⟨_, _, _, _, _, rfl, mn_out ((W.same e011).fx.row i (by omega)), ⟨box5 hi5, rfl⟩, ?_⟩
      refine W.tick i (by omega) e011 ?_
      exact r_kAp hD2 e10 nw2 (by simp; omega) (by rw [List.replicate_succ'])
    · rintro D2 H10 acc nw2 e10 hD2 rfl
      have e010 : Ext [] H H10 := Ext.tr e10 e09 Sub.nil
      have i0' := mn_out ((W.same e010).fx.row 0 (by decide))
      walk_at "go"
      refine W.tick 0 (by decide) e010 ?_
      walk_at "go"
      rename_i p11 H11 np11 e11 h11
      refine r_rep h11 (by decide) (by decide) (by simp) fun p12 H12 np12 e12 h12 => ?_
      have e012 : Ext [] H H12 := Ext.tr e12 (Ext.tr e11 e010 Sub.nil) Sub.nil
      refine r_neSame (d := .list ((List.replicate 5 ((sd 0).ins.length : Int)).map PyData.int)) (.lst (SqL.of (e12.ge _ _ List.not_mem_nil (e11.ge _ _ List.not_mem_nil hD2))) (dp_ints (ns := List.replicate 5 ((sd 0).ins.length : Int)))) (.lst (SqL.of h12) (dp_ints (ns := List.replicate 5 ((sd 0).ins.length : Int)))) (PySem.W.ke_shaped_ints _) ?_
      have s12 := mn_out (W.same e012).fx.sess
      have i1' := mn_out ((W.same e012).fx.row 1 (by decide))
      have i3' := mn_out ((W.same e012).fx.row 3 (by decide))
      walk_at "go"
      refine W.tick 1 (by decide) e012 ?_
      walk_at "go"
      apply r_if2
      · intro hp
        walk_at "go"
        refine W.jour hn 1 (by decide) e012 rfl fun H13 e13 => ?_
        have e013 : Ext [] H H13 := Ext.tr e13 e012 Sub.nil
        have s13 := mn_out (W.same e013).fx.sess
        walk_at "go"
        refine W.aloneJ hn e013 fun Ha ea1 => ?_
        rw [if_pos (by omega)]
        walk_at "go"
        apply r_ifT rfl
        walk_at "go"
        refine W.jour hn 3 (by decide) (Ext.tr ea1 e013 Sub.nil) W.J.ob fun Hb eb => ?_
        walk_at "go"
        refine W.jour hn 1 (by decide) (Ext.tr eb (Ext.tr ea1 e013 Sub.nil) Sub.nil) rfl fun Hc ec => ?_
        walk_at "go"
        rw [decT rfl]
        exact q _ (Ext.tr ec (Ext.tr eb (Ext.tr ea1 e013 Sub.nil) Sub.nil) Sub.nil)
      · intro hp
        walk_at "go"
        refine W.aloneJ hn e012 fun Ha ea1 => ?_
        rw [if_neg (by omega)]
        walk_at "go"
        apply r_ifT rfl
        walk_at "go"
        refine W.jour hn 3 (by decide) (Ext.tr ea1 e012 Sub.nil) W.J.ob fun Hb eb => ?_
        walk_at "go"
        refine W.jour hn 1 (by decide) (Ext.tr eb (Ext.tr ea1 e012 Sub.nil) Sub.nil) rfl fun Hc ec => ?_
        walk_at "go"
        rw [decT rfl]
        exact q _ (Ext.tr ec (Ext.tr eb (Ext.tr ea1 e012 Sub.nil) Sub.nil) Sub.nil)
end
/-! ### all is undone -/
section
variable {K : PySem.W.Frag} {mg : Str → Option Value}
theorem pde_Losing (T : Tx K mg) {X : Cx} (hK : X.K = K) (hm : X.mg = mg) : POk X 1 (ga K "Losing") "deeds" (spDeeds K (ga K "Losing")) := po_deeds T (rcLosing T) hK hm (deedsL T)
theorem ph_Link (T : Tx K mg) {X : Cx} (hK : X.K = K) (hm : X.mg = mg) : POk X 4 (ga K "Link") "held" (spLinkHeld K (ga K "Link")) := by
  subst hK hm
  exact ⟨(rcLink T).cl, _, _, T.pr "Link" "held" (by decide +kernel), FnR.lift (fn_Link_held T (fun_of T md_p_Link_held rfl) (rcLink T)) (by decide)⟩
end
/-- what has been done is being undone: row r has k r stands left -/
structure UndS (K : PySem.W.Frag) (v : Lv) (tb : List Int) (all : List Stg) (k : Nat → Nat) (H : Hp) : Prop where
  ap : Apart v
  pen : PenAt H v.pen
  fx : Fixed K v (mn v.M H)
  ls : ∀ r ∈ LR, H (v.row r).L = some (.lst ((all.take (k r)).map fun e => V.ref (e.A r).a))
  st : ∀ e ∈ all, (∀ r ∈ LR, Stn K (mn v.M H) (e.A r) tb (e.sd r)) ∧ J4 e
  ok : OkT tb
theorem LRlt : ∀ r ∈ LR, r < 6 := by decide
theorem UndS.ext0 {K : PySem.W.Frag} {v : Lv} {tb : List Int} {all : List Stg} {k : Nat → Nat} {H H' : Hp} (h : UndS K v tb all k H) (e : Ext [] H H') : UndS K v tb all k H' :=
  ⟨h.ap, h.pen.same e, h.fx.same (mn_ext e fun l hl => absurd hl List.not_mem_nil), fun r hr => e.ge _ _ List.not_mem_nil (h.ls r hr), fun x hx => ⟨fun r hr => ((h.st x hx).1 r hr).same (mn_ext e fun l hl => absurd hl List.not_mem_nil), (h.st x hx).2⟩, h.ok⟩
theorem UndS.pop {K : PySem.W.Frag} {v : Lv} {tb : List Int} {all : List Stg} {k : Nat → Nat} {H H' : Hp} {i m : Nat} (h : UndS K v tb all k H) (hi : i ∈ LR) (e : Ext [(v.row i).L] H H') (hx : H' (v.row i).L = some (.lst ((all.take m).map fun e => V.ref (e.A i).a))) : UndS K v tb all (up k i m) H' := by
  have hi6 := LRlt i hi
  have hL : ∀ l ∈ [(v.row i).L], l ∈ v.M := fun l hl => by rw [List.mem_singleton.mp hl]; exact Lv.memL hi6
  have em := mn_ext e hL
  refine ⟨h.ap, h.pen.ext e (fun m => h.ap.pen i hi6 (List.mem_singleton.mp m).symm), h.fx.same em, fun r hr => ?_, fun x hx => ⟨fun r hr => ((h.st x hx).1 r hr).same em, (h.st x hx).2⟩, h.ok⟩
  by_cases q : r = i
  · subst q
    rw [up_same]
    exact hx
  · rw [up_ne q]
    exact e.ge _ _ (fun m => h.ap.rows r i (LRlt r hr) hi6 q (List.mem_singleton.mp m)) (h.ls r hr)
/-- the last stand of a row -/
theorem UndS.top {K : PySem.W.Frag} {v : Lv} {tb : List Int} {all : List Stg} {k : Nat → Nat} {H : Hp} {m r : Nat} {e : Stg} (h : UndS K v tb all k H) (he : all[m]? = some e) (hr : r ∈ LR) (hk : k r = m + 1) :
    RowAt H (ga K (clsN r)) (v.row r).x (v.row r).dx (v.row r).L (((all.take m).map fun e => V.ref (e.A r).a) ++ [.ref (e.A r).a]) ∧ Stn K H (e.A r) tb (e.sd r) ∧ J4 e := by
  have hl := h.ls r hr
  rw [hk, List.take_succ, he, List.map_append] at hl
  have s := h.st e (List.mem_of_getElem? he)
  exact ⟨⟨mn_out (h.fx.row r (LRlt r hr)), hl⟩, (s.1 r hr).out, s.2⟩
theorem UndS.cong {K : PySem.W.Frag} {v : Lv} {tb : List Int} {all : List Stg} {k k' : Nat → Nat} {H : Hp} (h : UndS K v tb all k H) (e : ∀ r ∈ LR, k r = k' r) : UndS K v tb all k' H :=
  ⟨h.ap, h.pen, h.fx, fun r hr => by rw [← e r hr]; exact h.ls r hr, h.st, h.ok⟩
theorem donLR : ∀ r, (r = 1 ∨ r = 3 ∨ r = 4) → r ∈ LR := by
  rintro r (rfl | rfl | rfl) <;> decide
theorem take_ne {all : List Stg} {m : Nat} {f : Stg → V} (h : m < all.length) (h0 : 0 < m) : ((all.take m).map f) ≠ [] := fun z => by
  have := congrArg List.length z
  rw [List.length_map, List.length_take] at this
  have : min m all.length = 0 := this
  omega
theorem LapS.und {K : PySem.W.Frag} {v : Lv} {tb : List Int} {n : Nat} {H : Hp} {ys : Nat → List V} {A : Nat → Ad} {sd : Nat → SD} {st : List Stg} (h : LapS K v tb n H ys A sd st) (hn : n ≤ 13) : UndS K v tb (st ++ [(⟨A, sd⟩ : Stg)]) (fun _ => st.length + 1) H := by
  refine ⟨h.ap, h.pen, h.fx, fun r hr => ?_, fun x hx => ?_, h.ok⟩
  · rw [(h.rs r (LRlt r hr)).ls, h.hist.ys r hr]
    rw [List.take_of_length_le (by simp), List.map_append]
    rfl
  · rcases List.mem_append.mp hx with hx | hx
    · exact h.hist.old x hx
    · obtain rfl := List.mem_singleton.mp hx
      have J0 := h.J
      have s1 := h.sml 1 (by decide)
      have l1 := s1.ins
      have l2 := s1.due
      exact ⟨fun r hr => (h.rs r (LRlt r hr)).st, J0.ib.trans J0.il.symm, J0.is_.trans J0.il.symm, J0.db.trans J0.dl.symm, by show (sd 1).ins.length ≤ 800; omega, by show (sd 1).due.length ≤ 60; omega, fun d hd => J0.vd d (by rw [← J0.dl]; exact hd)⟩
section
variable {P : Program} {w : World} {K : PySem.W.Frag} {mg : Str → Option Value} {base : Heap}
def spUndone (K : PySem.W.Frag) : Sp := fun vs H Q _ => ∃ v tb n ys A sd st, vs = [.ref v.bx, .ref v.sx] ∧ LapS K v tb n H ys A sd st ∧ n ≤ 13 ∧ ∀ H', Ext v.M H H' → PenAt H' v.pen → Q (.bl true) H'
theorem sc_undone_right : FnScope ["_law_boxes", "_law_session", "_law_plain", "_law_losing", "_law_counting", "_law_both", "_law_link", "_law_box"] ["_law_boxes", "_law_session"] (defScope s99) := ⟨rfl, rfl, rfl, by decide +kernel, rfl, by decide +kernel, by decide +kernel⟩
theorem fn__law_undone_right (TPP : TP P) (T : Tx K mg) : FnR P w K mg base CX0 8 (d__law_undone_right.pl.ad K) (spUndone K) := by
  refine fnR_of (N := ["_law_boxes", "_law_session", "_law_plain", "_law_losing", "_law_counting", "_law_both", "_law_link", "_law_box"]) (ps := ["_law_boxes", "_law_session"]) (fun_of T md__law_undone_right rfl) sc_undone_right (fun _ _ _ _ _ _ us hl => match us, hl with | [_, _], _ => rfl) (fun _ _ _ _ ⟨_, _, _, _, _, _, _, e, _⟩ => by rw [e]; rfl) fun cdv A outer s H vs Q E hr hsp => ?_
  obtain ⟨v, tb, n, ys, A0, sd, st, rfl, W, hn, q⟩ := hsp
  refine ⟨_, (pss_cons (ps_asg (pv 0) (kg_unl (K := K) (n := 5) rfl rfl (pgs_cons (pg_name (i := 2) sc_undone_right.nd rfl (Or.inl rfl)) (pgs_cons (pg_name (i := 3) sc_undone_right.nd rfl (Or.inl rfl)) (pgs_cons (pg_name (i := 4) sc_undone_right.nd rfl (Or.inl rfl)) (pgs_cons (pg_name (i := 5) sc_undone_right.nd rfl (Or.inl rfl)) (pgs_cons (pg_name (i := 6) sc_undone_right.nd rfl (Or.inl rfl)) pgs_nil)))))))
  (pss_cons (ps_while PassesOwn.never (pt_cmpR op_gt (kc_prop (pv 3) (pde_Losing T rfl rfl) hr) pe_int (nomark _))
  (pss_cons (ps_for PassesOwn.never rfl (ki_tup (K := K) rfl (pe_tup (pa_cons (pv 3) (pa_cons (pv 5) (pa_cons (pv 6) pa_nil))))) (pg_name (i := 7) sc_undone_right.nd rfl (Or.inl rfl))
  (pss_one (ps_expr (kc_methF0 (G := GUndo K) (j := 3) (pv 7) (mok_undo T rfl rfl) hr))))
  (pss_one (ps_if (PW.pt (pw_or (pt_cmpR op_ne (kc_meth (pv 1) ⟨T.cls "Session" (by decide +kernel), _, T.mt "Session" "say" (by decide +kernel), fn_say (K := K) (mg := mg) TPP T⟩ hr (pa_cons pe_str pa_nil)) pe_str (nomark _)) (pw_or (pt_cmpR (opNeD (K := K) rfl hr.units) (kc_prop (pv 3) (ph_Losing T rfl rfl) hr) (kc_prop (pv 5) (ph_LosingCounting T rfl rfl) hr) (nomark _)) (pw_or1 (pt_cmpR op_ne (kc_meth (pv 1) ⟨T.cls "Session" (by decide +kernel), _, T.mt "Session" "say" (by decide +kernel), fn_say (K := K) (mg := mg) TPP T⟩ hr (pa_cons pe_str pa_nil)) (pe_callTy cl_str (by rfl) (T.free "str" (by decide +kernel)) (by decide +kernel) (pa_cons (kc_prop (pv 5) (po_tick T (rcLC T) rfl rfl) hr) pa_nil)) (nomark _))))))
  (pss_one (ps_ret pe_bl))
  pss_nil))))
  (pss_cons (ps_if (PW.pt (pw_or (pt_cmpR op_ne (kc_meth (pv 1) ⟨T.cls "Session" (by decide +kernel), _, T.mt "Session" "say" (by decide +kernel), fn_say (K := K) (mg := mg) TPP T⟩ hr (pa_cons pe_str pa_nil)) pe_str (nomark _)) (pw_or1 (pt_not (pt_cmpR (op_eqO (T.sp "Losing" "__eq__" (by decide +kernel)) (T.def_ _ md_Losing___eq__).fn (eq_Losing (K := K) (mg := mg) T) hr) (pv 3) (kc_make (T.mkr "Losing" (by decide +kernel)) (fn_Losing_init (K := K) (mg := mg) T) hr (by rfl) (T.cgl "Losing" (by decide +kernel)) (pa_cons (kc_prop (pv 3) (po_table T) hr) pa_nil)) (nomark _))))))
  (pss_one (ps_ret pe_bl))
  pss_nil)
  (pss_one (ps_ret (pe_and (pe_cmpR op_eq (kc_prop (pv 5) (pov_LosingCounting T rfl rfl) hr) pe_int (nomark _)) (pe_one (pe_cmpR (opEqD (K := K) rfl hr.units) (kc_prop (pv 6) (ph_Link T rfl rfl) hr) (pe_tup pa_nil) (nomark _))))))))), ?_⟩
  have hb : H v.bx = some (.lst [.ref (v.row 0).x, .ref (v.row 1).x, .ref (v.row 2).x, .ref (v.row 3).x, .ref (v.row 4).x]) := mn_out W.fx.boxes
  have U0 := W.und hn
  have hbot := W.bot
  have hst : st.length ≤ 13 := by
    have h1 := W.hist.ys 1 (by decide)
    have h2 := W.yl 1 (by decide)
    rw [h1, List.length_map] at h2
    omega
  have hlen : (st ++ [(⟨A0, sd⟩ : Stg)]).length = st.length + 1 := by simp
  revert U0 hbot hlen
  generalize st ++ [(⟨A0, sd⟩ : Stg)] = all
  intro U0 hbot hlen
  walk_at "go"
  refine ⟨fun m σ H1 => ∃ y, σ = [some (.ref v.bx), some (.ref v.sx), some (.ref (v.row 0).x), some (.ref (v.row 1).x), some (.ref (v.row 2).x), some (.ref (v.row 3).x), some (.ref (v.row 4).x), y] ∧ UndS K v tb all (fun _ => m + 1) H1 ∧ Ext v.M H H1 ∧ m < all.length, ⟨st.length, _, rfl, U0, Ext.rfl', by omega⟩, ?_⟩
  rintro m σ H1 ⟨y, rfl, U, ex, hm⟩
  obtain ⟨e, he⟩ : ∃ e, all[m]? = some e := ⟨_, List.getElem?_eq_getElem hm⟩
  obtain ⟨r1, t1, j4⟩ := U.top he (r := 1) (by decide) rfl
  have i1 := r1.inst
  have dl : (((((all.take m).map fun e : Stg => V.ref (e.A 1).a) ++ [V.ref (e.A 1).a]).length : Nat) : Int) - 1 = (m : Int) := by
    rw [List.length_append, List.length_map, List.length_take]
    simp
    omega
  walk_at "go"
  refine ⟨_, _, _, _, rfl, r1, ?_⟩
  rw [dl]
  walk_at "go"
  apply r_if2
  · intro hp
    obtain ⟨m', rfl⟩ : ∃ m', m = m' + 1 := ⟨m - 1, by omega⟩
    refine ⟨fun σ' H' => ∃ y, σ' = [some (.ref v.bx), some (.ref v.sx), some (.ref (v.row 0).x), some (.ref (v.row 1).x), some (.ref (v.row 2).x), some (.ref (v.row 3).x), some (.ref (v.row 4).x), y] ∧ UndS K v tb all (fun _ => m' + 1) H' ∧ Ext v.M H H' ∧ m' < all.length, fun σ' H' h => ⟨m', by omega, h⟩, ?_⟩
    walk_at "go"
    rename_i p3 H3 np3 e3 h3
    have n3 : p3 ∉ v.M := fun hmm => by
      obtain ⟨xs, hx⟩ := W.lsts.all _ hmm
      rw [ex.dom _ np3.no] at hx
      cases hx
    refine ⟨p3, rfl, ⟨_, SqT.of h3⟩, ?_⟩
    refine r_for_it (walk_tup (xs := [1, 3, 4].map fun r => V.ref (v.row r).x)) (fun i σ H4 => ∃ y k, σ = [some (.ref v.bx), some (.ref v.sx), some (.ref (v.row 0).x), some (.ref (v.row 1).x), some (.ref (v.row 2).x), some (.ref (v.row 3).x), some (.ref (v.row 4).x), y] ∧ Ext v.M H3 H4 ∧ UndS K v tb all k H4 ∧ ∀ r, k r = if r ∈ don i then m' + 1 else m' + 2) ⟨_, fun _ => m' + 2, rfl, Ext.rfl', U.ext0 e3, fun r => rfl⟩ ?_ ?_ ?_
    · rintro i σ H4 hi ⟨y, k, rfl, e4, _, _⟩
      exact SqT.of (e4.ge _ _ n3 h3)
    · rintro i x σ H4 H5 hi ⟨y, k, rfl, e4, U4, hk⟩ ⟨rfl, hx⟩
      have hi3 : i < 3 := by simpa using hi
      obtain ⟨g1, g2, g3, g4, g5⟩ := don_at i hi3
      revert g1 g2 g3 g4 g5
      generalize ([1, 3, 4] : List Nat).getD i 0 = r
      intro g1 g2 g3 g4 g5
      rw [List.getElem?_map, g1] at hx
      cases hx
      have hrL := donLR r g5
      obtain ⟨rr, tt, _⟩ := U4.top he hrL (by rw [hk, if_neg g3])
      walk_at "go"
      refine r_mF ?_
      walk_at "go"
      refine ⟨_, _, _, _, _, rfl, rr.inst, ⟨by rcases g5 with rfl | rfl | rfl; exact .inl rfl; exact .inr (.inl rfl); exact .inr (.inr rfl), rfl⟩, rfl, ?_⟩
      walk_at "go"
      refine ⟨_, _, _, _, _, rfl, rr, take_ne (by omega) (by omega), fun H6 e6 hx6 => ?_⟩
      walk_at "go"
      refine ⟨_, up k r (m' + 1), rfl, Ext.tr e6 e4 (Sub.cons (.inl (Lv.memL g4)) Sub.nil), U4.pop hrL e6 hx6, fun s => ?_⟩
      rw [g2]
      by_cases z : s = r
      · rw [z, up_same, if_pos List.mem_cons_self]
      · rw [up_ne z, hk]
        by_cases c : s ∈ don i
        · rw [if_pos c, if_pos (List.mem_cons_of_mem _ c)]
        · rw [if_neg c, if_neg fun w => c ((List.mem_cons.mp w).resolve_left z)]
    · rintro σ H4 ⟨y, k, rfl, e4, U4, hk⟩
      obtain ⟨r5, t5, _⟩ := U4.top he (r := 5) (by decide) (by rw [hk]; rfl)
      have hsx := mn_out U4.fx.sess
      have il5 : (e.sd 5).ins.length ≤ 800 := by rw [j4.is_]; exact j4.il
      walk_at "go"
      refine .inr (.inr (.inr ⟨v.sx, v.sdx, _, _, _, _, e.A 5, tb, e.sd 5, _, rfl, hsx, by decide, by decide +kernel, r5, t5, il5, .inr (.inl ⟨rfl, take_ne (by omega) (by omega), fun H7 e7 hx7 => ?_⟩)⟩))
      have U7 : UndS K v tb all (fun _ => m' + 1) H7 := (U4.pop (by decide) e7 hx7).cong fun r hr => by
        by_cases z : r = 5
        · rw [z, up_same]
        · rw [up_ne z, hk]
          revert r
          simp [LR, don]
      have ex7 : Ext v.M H H7 := Ext.tr e7 (Ext.tr e4 (Ext.tr e3 ex Sub.nil) ⟨fun l hl => .inl hl⟩) (Sub.cons (.inl (Lv.memL (by decide))) Sub.nil)
      obtain ⟨e', he'⟩ : ∃ e', all[m']? = some e' := ⟨_, List.getElem?_eq_getElem (show m' < all.length by omega)⟩
      obtain ⟨s1, u1, j'⟩ := U7.top he' (r := 1) (by decide) rfl
      have i1' := s1.inst
      walk_at "go"
      apply r_ifNF rfl
      walk_at "go"
      refine ⟨_, _, _, _, _, tb, e'.sd 1, rfl, s1, u1, j'.dl, fun H8 p8 xs8 hv e8 h8 hq8 hR8 => ?_⟩
      have hl := heldR_law j'.vd hR8
      have U8 := U7.ext0 e8
      obtain ⟨s3, u3, _⟩ := U8.top he' (r := 3) (by decide) rfl
      have i3' := s3.inst
      walk_at "go"
      refine ⟨_, _, _, _, _, tb, e'.sd 3, rfl, s3, u3, by rw [j'.db]; exact j'.dl, fun H9 p9 xs9 hv9 e9 h9 hq9 hR9 => ?_⟩
      rw [j'.db, j'.ib] at hR9
      obtain rfl := heldR_unique hR8 hR9
      refine r_neSame (.tup (SqT.of (e9.ge _ _ List.not_mem_nil h8)) (dp_h (hq8.same fun b xs q => e9.ge _ _ List.not_mem_nil q) hl)) (.tup (SqT.of h9) (dp_h hq9 hl)) (shaped_h hl) ?_
      have U9 := U8.ext0 e9
      obtain ⟨s5, u5, _⟩ := U9.top he' (r := 5) (by decide) rfl
      have hsx9 := mn_out U9.fx.sess
      walk_at "go"
      refine .inr (.inr (.inr ⟨v.sx, v.sdx, _, _, _, _, e'.A 5, tb, e'.sd 5, _, rfl, hsx9, by decide, by decide +kernel, s5, u5, by rw [j'.is_]; exact j'.il, .inl ⟨rfl, fun H10 e10 => ?_⟩⟩))
      have U10 := U9.ext0 e10
      obtain ⟨s3', u3', _⟩ := U10.top he' (r := 3) (by decide) rfl
      have i3'' := s3'.inst
      have il := j'.il
      walk_at "go"
      refine ⟨_, _, _, _, _, tb, e'.sd 3, rfl, s3', u3', ?_⟩
      walk_at "go"
      refine r_strI (log_le (by rw [j'.ib]; simp; omega)) ?_
      walk_at "go"
      apply r_ifNF (by rw [j'.ib, j'.is_])
      walk_at "go"
      exact ⟨_, rfl, U10, Ext.tr e10 (Ext.tr e9 (Ext.tr e8 ex7 Sub.nil) Sub.nil) Sub.nil, by omega⟩
  · intro hp
    obtain rfl : m = 0 := by omega
    have hsd : ∀ r ∈ LR, e.sd r = sd0 := hbot e (by rw [List.head?_eq_getElem?]; exact he)
    obtain ⟨r5, t5, _⟩ := U.top he (r := 5) (by decide) rfl
    have hsx := mn_out U.fx.sess
    walk_at "go"
    refine .inr (.inr (.inr ⟨v.sx, v.sdx, _, _, _, _, e.A 5, tb, e.sd 5, _, rfl, hsx, by decide, by decide +kernel, r5, t5, by rw [j4.is_]; exact j4.il, .inr (.inr (.inl ⟨rfl, by rw [hsd 5 (by decide)]; rfl, fun H2 e2 => ?_⟩))⟩))
    have U2 := U.ext0 e2
    obtain ⟨s1, u1, _⟩ := U2.top he (r := 1) (by decide) rfl
    have i1' := s1.inst
    have hown := u1.own
    walk_at "go"
    apply r_ifNF rfl
    walk_at "go"
    refine ⟨_, _, _, _, _, tb, e.sd 1, rfl, s1, u1, ?_⟩
    walk_at "go"
    rename_i nx dnx H3 nw3 e3 h3
    refine ⟨nx, dnx, (e.A 1).own, tb, rfl, h3, e3.ge _ _ List.not_mem_nil hown, U.ok, fun H4 L4 A4 e4 row4 nwL na fa st4 => ⟨rfl, ?_⟩⟩
    have e24 : Ext [] H2 H4 := Ext.tr e4 (Ext.tr e3 Ext.rfl' Sub.nil) (Sub.cons (.inr nw3.no) Sub.nil)
    have U4 := U2.ext0 e24
    obtain ⟨s1', u1', _⟩ := U4.top he (r := 1) (by decide) rfl
    rw [hsd 1 (by decide)] at u1'
    refine ⟨(v.row 1).x, _, _, nx, dnx, _, rfl, rfl, s1'.inst, row4.inst, ?_⟩
    refine ⟨_, _, _, e.A 1, nx, dnx, L4, A4, tb, _, [], rfl, s1', row4, u1', st4, U.ok, fun H5 e5 => ?_⟩
    have U5 := U4.ext0 e5
    obtain ⟨s3, u3, _⟩ := U5.top he (r := 3) (by decide) rfl
    have i3 := s3.inst
    walk_at "go"
    refine ⟨_, _, _, _, _, tb, e.sd 3, rfl, s3, u3, ?_⟩
    rw [hsd 3 (by decide)]
    obtain ⟨s4, u4, _⟩ := U5.top he (r := 4) (by decide) rfl
    have i4 := s4.inst
    walk_at "go"
    apply r_ifT rfl
    walk_at "go"
    refine ⟨_, _, _, _, _, tb, e.sd 4, rfl, s4, u4, by rw [hsd 4 (by decide)]; rfl, by rw [hsd 4 (by decide)]; rfl, fun H6 p6 e6 h6 => ?_⟩
    walk_at "go"
    rename_i p7 H7 np7 e7 h7
    refine r_eqSame (d := .tuple []) (.tup (SqT.of (e7.ge _ _ List.not_mem_nil h6)) .nil) (.tup (SqT.of h7) .nil) rfl ?_
    have e17 : Ext [] H1 H7 := Ext.tr e7 (Ext.tr e6 (Ext.tr e5 (Ext.tr e24 (Ext.tr e2 Ext.rfl' Sub.nil) Sub.nil) Sub.nil) Sub.nil) Sub.nil
    exact q _ (Ext.tr e17 ex Sub.nil) (U.ext0 e17).pen
end
/-! ### a lap's start -/
theorem SqL.ext0 {K : PySem.W.Frag} {H H' : Hp} {a : Addr} {xs : List V} (e : Ext [] H H') (h : SqL K H a xs) : SqL K H' a xs := by
  rcases h with (h | ⟨o, h⟩) | h
  · exact .inl (.inl (e.ge _ _ List.not_mem_nil h))
  · exact .inl (.inr ⟨o, e.ge _ _ List.not_mem_nil h⟩)
  · exact .inr h
structure Made (K : PySem.W.Frag) (tb : List Int) (k : Nat) (row : Nat → Rw) (A : Nat → Ad) (H : Hp) : Prop where
  rows : ∀ r, r < k → RowAt H (ga K (clsN r)) (row r).x (row r).dx (row r).L [.ref (A r).a] ∧ Stn K H (A r) tb sd0
  ap : ∀ r s, r < k → s < k → r ≠ s → (row r).L ≠ (row s).L
theorem Made.same {K : PySem.W.Frag} {tb : List Int} {k : Nat} {row : Nat → Rw} {A : Nat → Ad} {H H' : Hp} (h : Made K tb k row A H) (e : Ext [] H H') : Made K tb k row A H' :=
  ⟨fun r hr => ⟨⟨e.ge _ _ List.not_mem_nil (h.rows r hr).1.inst, e.ge _ _ List.not_mem_nil (h.rows r hr).1.st⟩, (h.rows r hr).2.same e⟩, h.ap⟩
theorem Made.nil {K : PySem.W.Frag} {tb : List Int} {row : Nat → Rw} {A : Nat → Ad} {H : Hp} : Made K tb 0 row A H := ⟨fun r hr => absurd hr (Nat.not_lt_zero _), fun r _ hr => absurd hr (Nat.not_lt_zero _)⟩
theorem Made.add {K : PySem.W.Frag} {tb : List Int} {k : Nat} {row : Nat → Rw} {A : Nat → Ad} {H H' : Hp} {x dx L : Addr} {A1 : Ad} (h0 : Made K tb k row A H) (nw : H L = none) (h : Made K tb k row A H') (hr : RowAt H' (ga K (clsN k)) x dx L [.ref A1.a]) (st : Stn K H' A1 tb sd0) :
    Made K tb (k + 1) (up row k ⟨x, dx, L⟩) (up A k A1) H' := by
  have ne : ∀ r, r < k → (row r).L ≠ L := fun r hr z => by
    have := (h0.rows r hr).1.st
    rw [z, nw] at this
    cases this
  refine ⟨fun r hr => ?_, fun r s h1 h2 n => ?_⟩
  · by_cases q : r = k
    · subst q
      rw [up_same, up_same]
      exact ⟨‹RowAt H' _ x dx L _›, st⟩
    · rw [up_ne q, up_ne q]
      exact h.rows r (by omega)
  · by_cases q : r = k
    · by_cases q2 : s = k
      · exact absurd (q.trans q2.symm) n
      · rw [q, up_same, up_ne q2]
        exact (ne s (by omega)).symm
    · by_cases q2 : s = k
      · rw [q2, up_same, up_ne q]
        exact ne r (by omega)
      · rw [up_ne q, up_ne q2]
        exact h.ap r s (by omega) (by omega) n
/-- an instance of one field is written to -/
theorem Stn.one_ {K : PySem.W.Frag} {H H' : Hp} {A : Ad} {tb : List Int} {s : SD} {d C dx : Addr} {f : Str} {u : V} (h : Stn K H A tb s) (e : Ext [d] H H') (hd : H d = some (.ins C dx [(f, u)])) : Stn K H' A tb s := by
  obtain ⟨kvs, h1, h2⟩ := h.due
  have k : ∀ b o, H b = some o → HO.ins C dx [(f, u)] ≠ o → H' b = some o := fun b o q n => e.ge b o (fun m => n (by
    rw [List.mem_singleton.mp m, hd] at q
    exact Option.some.inj q)) q
  exact ⟨k _ _ h.inst (by intro z; injection z with z1 z2 z3; exact absurd (congrArg List.length z3) (by simp [flds])), k _ _ h.own (by intro z; cases z), k _ _ h.coming (by intro z; cases z), k _ _ h.ins (by intro z; cases z), k _ _ h.outs (by intro z; cases z), ⟨kvs, k _ _ h1 (by intro z; cases z), h2.same fun b xs q => k _ _ q (by intro z; cases z)⟩,
    k _ _ h.cuts (by intro z; cases z), k _ _ h.gone (by intro z; cases z), k _ _ h.later (by intro z; cases z), h.d1, h.d2⟩
theorem Made.one_ {K : PySem.W.Frag} {tb : List Int} {k : Nat} {row : Nat → Rw} {A : Nat → Ad} {H H' : Hp} {d C dx : Addr} {u : V} (h : Made K tb k row A H) (e : Ext [d] H H') (hd : H d = some (.ins C dx [("carried", u)])) : Made K tb k row A H' :=
  ⟨fun r hr => ⟨⟨e.ge _ _ (fun m => ne_of (h.rows r hr).1.inst hd (by
      intro z
      injection z with z1 z2 z3
      injection z3 with z3 z4
      have : ("stands" : Str) = "carried" := congrArg Prod.fst z3
      exact absurd this (by decide)) (List.mem_singleton.mp m)) (h.rows r hr).1.inst, e.ge _ _ (fun m => ne_of (h.rows r hr).1.st hd (by intro z; cases z) (List.mem_singleton.mp m)) (h.rows r hr).1.st⟩, (h.rows r hr).2.one_ e hd⟩, h.ap⟩
theorem Stn.mn0 {K : PySem.W.Frag} {M : List Addr} {H : Hp} {A : Ad} {tb : List Int} (h : Stn K H A tb sd0) (hM : ∀ m ∈ M, ∃ xs, H m = some (.lst xs) ∧ xs ≠ []) : Stn K (mn M H) A tb sd0 := by
  have k : ∀ b o, H b = some o → (∀ xs, xs ≠ [] → HO.lst xs ≠ o) → mn M H b = some o := fun b o q n => mn_in q fun m => by
    obtain ⟨xs, hx, hn⟩ := hM b m
    rw [hx] at q
    exact n xs hn (Option.some.inj q)
  obtain ⟨kvs, h1, h2⟩ := h.due
  exact ⟨k _ _ h.inst (by intro _ _ z; cases z), k _ _ h.own (by intro _ _ z; cases z), k _ _ h.coming (by intro _ _ z; cases z), k _ _ h.ins (by intro _ n z; injection z with z; exact n z), k _ _ h.outs (by intro _ n z; injection z with z; exact n z), ⟨kvs, k _ _ h1 (by intro _ _ z; cases z), h2.same fun b xs q => k _ _ q (by intro _ _ z; cases z)⟩,
    k _ _ h.cuts (by intro _ _ z; cases z), k _ _ h.gone (by intro _ _ z; cases z), k _ _ h.later (by intro _ _ z; cases z), h.d1, h.d2⟩
theorem LapS.start {K : PySem.W.Frag} {v : Lv} {tb : List Int} {H : Hp} {A : Nat → Ad} (hp : PenAt H v.pen) (m : Made K tb 6 v.row A H) (hb : H v.bx = some (.lst ((List.range 5).map fun r => .ref (v.row r).x))) (hs : H v.sx = some (.ins (ga K "Session") v.sdx [("carried", .ref (v.row 5).x)])) (ok : OkT tb) :
    LapS K v tb 0 H (fun _ => []) A (fun _ => sd0) [] := by
  have hM : ∀ l ∈ v.M, ∃ xs, H l = some (.lst xs) ∧ xs ≠ [] ∧ xs.length ≠ 5 := fun l hl => by
    rcases List.mem_cons.mp hl with rfl | hl
    · obtain ⟨a, b, c, hh, _⟩ := hp
      exact ⟨_, hh, by simp, by simp⟩
    · obtain ⟨r, hr, rfl⟩ := List.mem_map.mp hl
      exact ⟨_, (m.rows r (List.mem_range.mp hr)).1.st, by simp, by simp⟩
  have out : ∀ b o, H b = some o → (∀ xs : List V, xs.length ≠ 5 → HO.lst xs ≠ o) → mn v.M H b = some o := fun b o q n => mn_in q fun mm => by
    obtain ⟨xs, hx, _, h5⟩ := hM b mm
    rw [hx] at q
    exact n xs h5 (Option.some.inj q)
  refine ⟨⟨fun r s h1 h2 n => m.ap r s h1 h2 n, fun r hr => ?_⟩, hp, ⟨?_, ?_, fun r hr => ?_⟩, fun r hr => ⟨(m.rows r hr).1.st, (m.rows r hr).2.mn0 fun l hl => ?_⟩, ?_, Near.zero, ok, fun r hr => ?_, fun r hr => Nat.le_refl _, ⟨fun r hr => rfl, fun e he => absurd he List.not_mem_nil⟩, fun e he r hr => ?_⟩
  · obtain ⟨a, b, c, hh, _⟩ := hp
    exact ne_of (m.rows r hr).1.st hh (by intro z; cases z)
  · exact out _ _ hb fun xs h5 z => h5 (by injection z with z; rw [z]; simp)
  · exact out _ _ hs fun xs h5 z => by cases z
  · exact out _ _ (m.rows r hr).1.inst fun xs h5 z => by cases z
  · obtain ⟨xs, h1, h2, _⟩ := hM l hl
    exact ⟨xs, h1, h2⟩
  · refine ⟨rfl, rfl, rfl, rfl, rfl, rfl, rfl, rfl, rfl, rfl, rfl, rfl, rfl, rfl, rfl, rfl, rfl, rfl, rfl, rfl, rfl, rfl, rfl, ?_, ?_, ?_, ?_⟩ <;> exact fun x hx => absurd hx List.not_mem_nil
  · exact ⟨by decide, by decide, by decide, by decide, by decide, by decide⟩
  · have e1 : (⟨A, fun _ => sd0⟩ : Stg) = e := Option.some.inj he
    rw [← e1]
/-! ### the law -/
theorem tab_words {tb : List Int} (h : OkT tb) : (∀ v ∈ tb.map V.int, OkW v) ∧ Paired (NumOk 3) (tb.map fun n => txt (.int n)) tb ∧ (∀ z ∈ tb.map fun n => txt (.int n), 32 ∉ z.cps.toList) ∧ ∀ z ∈ tb.map fun n => txt (.int n), z.length ≤ 3 := by
  have key : ∀ n ∈ tb, OkW (.int n) ∧ NumOk 3 (txt (.int n)) n ∧ 32 ∉ (txt (.int n)).cps.toList ∧ (txt (.int n)).length ≤ 3 := fun n hn => by
    have hb := h.bd n hn
    obtain ⟨k, rfl⟩ : ∃ k : Nat, n = (k : Int) := ⟨n.toNat, by omega⟩
    obtain ⟨k1, k2, k3, k4, k5, k6⟩ := holds_ok k (by omega)
    have k2' : (txt (.int (k : Int))).length ≤ 3 := k2
    exact ⟨⟨by omega, .inr (.inl ⟨_, rfl, k5⟩)⟩, ⟨k1, by omega, by omega, k3, k4⟩, k6, k2⟩
  clear h
  refine ⟨fun v hv => ?_, ?_, fun z hz => ?_, fun z hz => ?_⟩
  · obtain ⟨n, hn, rfl⟩ := List.mem_map.mp hv
    exact (key n hn).1
  · induction tb with
    | nil => exact .nil
    | cons n r ih => exact .cons (key n List.mem_cons_self).2.1 (ih fun m hm => key m (List.mem_cons_of_mem _ hm))
  · obtain ⟨n, hn, rfl⟩ := List.mem_map.mp hz
    exact (key n hn).2.2.1
  · obtain ⟨n, hn, rfl⟩ := List.mem_map.mp hz
    exact (key n hn).2.2.2
section
variable {P : Program} {w : World} {K : PySem.W.Frag} {mg : Str → Option Value} {base : Heap}
def spLaw (K : PySem.W.Frag) : Sp := fun vs H Q _ => ∃ (a : Addr) (ns : List Int), vs = [.ref a] ∧ SqL K H a (ns.map V.int) ∧ ns.length ≤ 63 ∧ ∀ H', Q (.bl true) H'
theorem sc_law : FnScope ["_law_script", "_law_k", "_law_pen_here", "_law_lap", "_law_table_here", "_law_session", "_law_boxes", "_law_turn"] ["_law_script"] (defScope s100) := ⟨rfl, rfl, rfl, by decide +kernel, rfl, by decide +kernel, by decide +kernel⟩
theorem law_ok {f : Addr} {fd : FuncData} (TPP : TP P) (T : Tx K mg) (F : Fun K "law" "law" s100 f fd) : FnOk P w K mg base CX0 10 f fd ["_law_script"] (spLaw K) := by
  refine F.ok (N := ["_law_script", "_law_k", "_law_pen_here", "_law_lap", "_law_table_here", "_law_session", "_law_boxes", "_law_turn"]) (ps := ["_law_script"]) sc_law (fun _ _ _ _ ⟨_, _, e, _⟩ => by rw [e]; rfl) fun cdv A outer s H vs Q E hr hsp => ?_
  obtain ⟨a, ns, rfl, hS, hn, q⟩ := hsp
  refine ⟨_, (pss_cons (ps_for PassesOwn.never rfl (pi_range1 (by rfl) (T.free "range" (by decide +kernel)) (pa_cons (pe_callB (cl_max2 rfl) (by rfl) (T.free "max" (by decide +kernel)) (by decide +kernel) (pa_cons pe_int (pa_cons (pe_callB (cl_min2 rfl) (by rfl) (T.free "min" (by decide +kernel)) (by decide +kernel) (pa_cons (pe_callB (cl_len (K := K) rfl) (by rfl) (T.free "len" (by decide +kernel)) (by decide +kernel) (pa_cons (pv 0) pa_nil)) (pa_cons pe_int pa_nil))) pa_nil))) pa_nil)) (pg_name (i := 1) sc_law.nd rfl (Or.inl rfl))
  (pss_cons (ps_set (i := 2) sc_law.nd rfl (Or.inl rfl) (kc_call (fn__law_pen (K := K) (mg := mg) T) hr (by rfl) (T.glo "_law_pen" (by decide +kernel)) (T.def_ _ md__law_pen).kp (pa_cons (kc_call (fn__law_cell (K := K) (mg := mg) T) hr (by rfl) (T.glo "_law_cell" (by decide +kernel)) (T.def_ _ md__law_cell).kp (pa_cons (pv 0) (pa_cons (pv 1) pa_nil))) pa_nil)))
  (pss_one (ps_for PassesOwn.never rfl (pi_range1 (by rfl) (T.free "range" (by decide +kernel)) (pa_cons pe_int pa_nil)) (pg_name (i := 3) sc_law.nd rfl (Or.inl rfl))
  (pss_cons (ps_par (by rfl) sc_law.nd (i := 4) (j := 5) rfl rfl (by decide) rfl rfl (pa_cons (kc_call (fn__law_table (K := K) (mg := mg) T) hr (by rfl) (T.glo "_law_table" (by decide +kernel)) (T.def_ _ md__law_table).kp (pa_cons (pv 2) (pa_cons pe_int (pa_cons pe_int pa_nil)))) (pa_cons (kc_make0 (T.mkr "Session" (by decide +kernel)) (fn_Session_init (K := K) (mg := mg) T) hr (by rfl) (T.cgl "Session" (by decide +kernel))) pa_nil)) (by rfl))
  (pss_cons (ps_set (i := 6) sc_law.nd rfl (Or.inl rfl) (pe_lst (pa_cons (kc_make (T.mkr "Row" (by decide +kernel)) (fn_Rowc_init (K := K) (mg := mg) T) hr (by rfl) (T.cgl "Row" (by decide +kernel)) (pa_cons (pv 4) pa_nil)) (pa_cons (kc_make (T.mkr "Losing" (by decide +kernel)) (fn_Losing_init (K := K) (mg := mg) T) hr (by rfl) (T.cgl "Losing" (by decide +kernel)) (pa_cons (pv 4) pa_nil)) (pa_cons (kc_make (T.mkr "Counting" (by decide +kernel)) (fn_Counting_init (K := K) (mg := mg) T) hr (by rfl) (T.cgl "Counting" (by decide +kernel)) (pa_cons (pv 4) pa_nil)) (pa_cons (kc_make (T.mkr "LosingCounting" (by decide +kernel)) (fn_LosingCounting_init (K := K) (mg := mg) T) hr (by rfl) (T.cgl "LosingCounting" (by decide +kernel)) (pa_cons (pv 4) pa_nil)) (pa_cons (kc_make (T.mkr "Link" (by decide +kernel)) (fn_Link_init (K := K) (mg := mg) T) hr (by rfl) (T.cgl "Link" (by decide +kernel)) (pa_cons (pv 4) pa_nil)) pa_nil)))))))
  (pss_cons (ps_if (pt_cmpR op_ne (kc_meth (pv 5) ⟨T.cls "Session" (by decide +kernel), _, T.mt "Session" "say" (by decide +kernel), fn_say (K := K) (mg := mg) TPP T⟩ hr (pa_cons (pe_op opAddS pe_str (kc_call (fn_table_text (K := K) (mg := mg) T) hr (by rfl) (T.glo "table_text" (by decide +kernel)) (T.def_ _ md_table_text).kp (pa_cons (pv 4) pa_nil))) pa_nil)) pe_str (nomark _))
  (pss_one (ps_ret pe_bl))
  pss_nil)
  (pss_cons (ps_for PassesOwn.never rfl (pi_range1 (by rfl) (T.free "range" (by decide +kernel)) (pa_cons pe_int pa_nil)) (pg_name (i := 7) sc_law.nd rfl (Or.inl rfl))
  (pss_one (ps_if (PW.pt (pw_or (pt_not (pt_val (kc_call (fn__law_led_right (K := K) (mg := mg) TPP T) hr (by rfl) (T.glo "_law_led_right" (by decide +kernel)) (T.def_ _ md__law_led_right).kp (pa_cons (pv 2) (pa_cons (pv 6) (pa_cons (pv 5) pa_nil)))))) (pw_or1 (pt_not (pt_val (kc_call (fn__law_same_now (K := K) (mg := mg) TPP T) hr (by rfl) (T.glo "_law_same_now" (by decide +kernel)) (T.def_ _ md__law_same_now).kp (pa_cons (pv 6) (pa_cons (pv 5) pa_nil))))))))
  (pss_one (ps_ret pe_bl))
  pss_nil)))
  (pss_one (ps_if (pt_not (pt_val (kc_call (fn__law_undone_right (K := K) (mg := mg) TPP T) hr (by rfl) (T.glo "_law_undone_right" (by decide +kernel)) (T.def_ _ md__law_undone_right).kp (pa_cons (pv 6) (pa_cons (pv 5) pa_nil)))))
  (pss_one (ps_ret pe_bl))
  pss_nil))))))))))
  (pss_one (ps_ret pe_bl))), ?_⟩
  walk_at "go"
  refine ⟨a, _, rfl, .inl hS, ?_⟩
  rw [List.length_map]
  walk_at "go"
  refine ⟨_, rfl, by split <;> (try split) <;> omega, by split <;> (try split) <;> omega, ?_⟩
  refine r_for_it walk_range (fun i σ H1 => ∃ x1 x2 x3 x4 x5 x6 x7, σ = [some (.ref a), x1, x2, x3, x4, x5, x6, x7] ∧ Ext [] H H1) ⟨_, _, _, _, _, _, _, rfl, Ext.rfl'⟩ (fun _ _ _ _ _ => trivial) ?_ ?_
  · rintro i x σ H0 H1 hi ⟨x1, x2, x3, x4, x5, x6, x7, rfl, e1⟩ ⟨rfl, rfl⟩
    walk_at "go"
    refine ⟨a, ns, _, rfl, SqL.ext0 e1 hS, by omega, fun c => ?_⟩
    walk_at "go"
    refine ⟨c, rfl, fun H2 p np e2 hp2 => ?_⟩
    walk_at "go"
    refine ⟨_, rfl, by decide, by decide, ?_⟩
    refine r_for_it walk_range (fun j σ H3 => ∃ x1 x3 x4 x5 x6 x7, σ = [some (.ref a), x1, some (.ref p), x3, x4, x5, x6, x7] ∧ Ext [] H1 H3 ∧ PenAt H3 p) ⟨_, _, _, _, _, _, rfl, e2, hp2⟩ (fun _ _ _ _ _ => trivial) ?_ ?_
    · rintro j y σ Hz H3 hj ⟨y1, y3, y4, y5, y6, y7, rfl, e3, hp3⟩ ⟨rfl, rfl⟩
      walk_at "go"
      refine ⟨p, rfl, hp3, fun H4 t tb e4 hp4 ht ok h6 => ?_⟩
      walk_at "go"
      rename_i sx sdx H5 nsx e5 hsx5
      refine ⟨sx, sdx, rfl, hsx5, fun H6 xc e6 hs6 => ⟨rfl, ?_⟩⟩
      have F14 : Ext [] H1 H4 := Ext.tr e4 e3 (Sub.cons (.inr np.no) Sub.nil)
      have F46 : Ext [] H4 H6 := Ext.tr e6 (Ext.tr e5 Ext.rfl' Sub.nil) (Sub.cons (.inr nsx.no) Sub.nil)
      have m0 : Made K tb 0 (fun _ => ⟨0, 0, 0⟩) (fun _ => ⟨0, 0, 0, 0, 0, 0, 0, 0, 0, 0⟩) H6 := Made.nil
      have G6 : Ext [] H1 H6 := Ext.tr F46 F14 Sub.nil
      have t6 : H6 t = some (.tup (tb.map V.int)) := F46.ge _ _ List.not_mem_nil ht
      have p6 := hp4.same F46
      walk_at "go"
      rename_i x0 dx0 Ha0 nx0 ea0 ha0
      have ta0 : Ha0 t = some (.tup (tb.map V.int)) := ea0.ge _ _ List.not_mem_nil t6
      refine ⟨x0, dx0, t, tb, rfl, ha0, ta0, ok, fun Hb0 L0 A0 eb0 row0 nwL0 na0 fa0 st0 => ⟨rfl, ?_⟩⟩
      have nL0 : H1 L0 = none := (Ext.tr ea0 G6 Sub.nil).dom _ nwL0.no
      have F0 : Ext [] H6 Hb0 := Ext.tr eb0 (Ext.tr ea0 Ext.rfl' Sub.nil) (Sub.cons (.inr nx0.no) Sub.nil)
      have m1 := (m0.same ea0).add nwL0.no (m0.same F0) (x := x0) (dx := dx0) row0 st0
      have Gb0 : Ext [] H1 Hb0 := Ext.tr F0 G6 Sub.nil
      have tb0 := F0.ge _ _ List.not_mem_nil t6
      have sb0 := F0.ge _ _ List.not_mem_nil hs6
      have pb0 := p6.same F0
      clear F0 ea0 eb0
      walk_at "go"
      rename_i x1 dx1 Ha1 nx1 ea1 ha1
      have ta1 : Ha1 t = some (.tup (tb.map V.int)) := ea1.ge _ _ List.not_mem_nil tb0
      refine ⟨x1, dx1, t, tb, rfl, ha1, ta1, ok, fun Hb1 L1 A1 eb1 row1 nwL1 na1 fa1 st1 => ⟨rfl, ?_⟩⟩
      have nL1 : H1 L1 = none := (Ext.tr ea1 Gb0 Sub.nil).dom _ nwL1.no
      have F1 : Ext [] Hb0 Hb1 := Ext.tr eb1 (Ext.tr ea1 Ext.rfl' Sub.nil) (Sub.cons (.inr nx1.no) Sub.nil)
      have m2 := (m1.same ea1).add nwL1.no (m1.same F1) (x := x1) (dx := dx1) row1 st1
      have Gb1 : Ext [] H1 Hb1 := Ext.tr F1 Gb0 Sub.nil
      have tb1 := F1.ge _ _ List.not_mem_nil tb0
      have sb1 := F1.ge _ _ List.not_mem_nil sb0
      have pb1 := pb0.same F1
      clear F1 ea1 eb1
      walk_at "go"
      rename_i x2 dx2 Ha2 nx2 ea2 ha2
      have ta2 : Ha2 t = some (.tup (tb.map V.int)) := ea2.ge _ _ List.not_mem_nil tb1
      refine ⟨x2, dx2, t, tb, rfl, ha2, ta2, ok, fun Hb2 L2 A2 eb2 row2 nwL2 na2 fa2 st2 => ⟨rfl, ?_⟩⟩
      have nL2 : H1 L2 = none := (Ext.tr ea2 Gb1 Sub.nil).dom _ nwL2.no
      have F2 : Ext [] Hb1 Hb2 := Ext.tr eb2 (Ext.tr ea2 Ext.rfl' Sub.nil) (Sub.cons (.inr nx2.no) Sub.nil)
      have m3 := (m2.same ea2).add nwL2.no (m2.same F2) (x := x2) (dx := dx2) row2 st2
      have Gb2 : Ext [] H1 Hb2 := Ext.tr F2 Gb1 Sub.nil
      have tb2 := F2.ge _ _ List.not_mem_nil tb1
      have sb2 := F2.ge _ _ List.not_mem_nil sb1
      have pb2 := pb1.same F2
      clear F2 ea2 eb2
      walk_at "go"
      rename_i x3 dx3 Ha3 nx3 ea3 ha3
      have ta3 : Ha3 t = some (.tup (tb.map V.int)) := ea3.ge _ _ List.not_mem_nil tb2
      refine ⟨x3, dx3, t, tb, rfl, ha3, ta3, ok, fun Hb3 L3 A3 eb3 row3 nwL3 na3 fa3 st3 => ⟨rfl, ?_⟩⟩
      have nL3 : H1 L3 = none := (Ext.tr ea3 Gb2 Sub.nil).dom _ nwL3.no
      have F3 : Ext [] Hb2 Hb3 := Ext.tr eb3 (Ext.tr ea3 Ext.rfl' Sub.nil) (Sub.cons (.inr nx3.no) Sub.nil)
      have m4 := (m3.same ea3).add nwL3.no (m3.same F3) (x := x3) (dx := dx3) row3 st3
      have Gb3 : Ext [] H1 Hb3 := Ext.tr F3 Gb2 Sub.nil
      have tb3 := F3.ge _ _ List.not_mem_nil tb2
      have sb3 := F3.ge _ _ List.not_mem_nil sb2
      have pb3 := pb2.same F3
      clear F3 ea3 eb3
      walk_at "go"
      rename_i x4 dx4 Ha4 nx4 ea4 ha4
      have ta4 : Ha4 t = some (.tup (tb.map V.int)) := ea4.ge _ _ List.not_mem_nil tb3
      refine ⟨x4, dx4, t, tb, rfl, ha4, ta4, ok, fun Hb4 L4 A4 eb4 row4 nwL4 na4 fa4 st4 => ⟨rfl, ?_⟩⟩
      have nL4 : H1 L4 = none := (Ext.tr ea4 Gb3 Sub.nil).dom _ nwL4.no
      have F4 : Ext [] Hb3 Hb4 := Ext.tr eb4 (Ext.tr ea4 Ext.rfl' Sub.nil) (Sub.cons (.inr nx4.no) Sub.nil)
      have m5 := (m4.same ea4).add nwL4.no (m4.same F4) (x := x4) (dx := dx4) row4 st4
      have Gb4 : Ext [] H1 Hb4 := Ext.tr F4 Gb3 Sub.nil
      have tb4 := F4.ge _ _ List.not_mem_nil tb3
      have sb4 := F4.ge _ _ List.not_mem_nil sb3
      have pb4 := pb3.same F4
      clear F4 ea4 eb4
      walk_at "go"
      rename_i bx H12 nbx e12 hbx
      obtain ⟨tw1, tw2, tw3, tw4⟩ := tab_words ok
      refine ⟨t, tb, rfl, e12.ge _ _ List.not_mem_nil tb4, ok, tw1, fun H13 e13 => ?_⟩
      have jl := join_len (tb.map fun n => txt (.int n)) (n := 3) tw4
      rw [List.length_map] at jl
      have ne : (tb.map fun n => txt (.int n)) ≠ [] := fun z => by
        have := congrArg List.length z
        rw [List.length_map] at this
        have h0 := ok.pos
        simp at this
        rw [this] at h0
        simp at h0
      have hc : ("use " : Str) = ("use" : Str) ++ (" " : Str) := by decide +kernel
      have ul : ("use " : Str).length = 4 := rfl
      refine r_addS (by rw [ul]; omega) ?_
      have F13 : Ext [] Hb4 H13 := Ext.tr e13 e12 Sub.nil
      have s13 := F13.ge _ _ List.not_mem_nil sb4
      walk_at "go"
      refine .inl ⟨sx, sdx, xc, _, tb.map fun n => txt (.int n), tb, rfl, s13, by rw [Str.length_append, ul]; omega, line_alone (line_space hc), line_split hc (by decide +kernel) ne tw3, ne, by rw [List.length_map]; omega, tw2, ok, fun H14 e14 nr => ?_⟩
      obtain ⟨x5, dx5, L5, A5, hs14, row5, st5, nx5, nL5', nA5, fa5⟩ := nr
      have m5' := m5.same F13
      have m6' := m5'.add nL5' (m5'.one_ e14 s13) (x := x5) (dx := dx5) row5 st5
      have G13 : Ext [] H1 H13 := Ext.tr F13 Gb4 Sub.nil
      have nL5 : H1 L5 = none := G13.dom _ nL5'
      have nsx1 : H1 sx = none := F14.dom _ nsx.no
      have G14 : Ext [] H1 H14 := Ext.tr e14 (Ext.tr G13 Ext.rfl' Sub.nil) (Sub.cons (.inr nsx1) Sub.nil)
      have p13 := pb4.same F13
      have p14 : PenAt H14 p := p13.ext e14 fun m => by
        obtain ⟨b1, b2, b3, hh, _⟩ := p13
        rw [List.mem_singleton.mp m, s13] at hh
        cases hh
      have bx14 : H14 bx = some (.lst [.ref x0, .ref x1, .ref x2, .ref x3, .ref x4]) := e14.ge _ _ (fun m => ne_of (e13.ge _ _ List.not_mem_nil hbx) s13 (by intro z; cases z) (List.mem_singleton.mp m)) (e13.ge _ _ List.not_mem_nil hbx)
      obtain ⟨row, A6, m6, r0, r1, r2, r3, r4, r5, l0, l1, l2, l3, l4, l5⟩ : ∃ row A, Made K tb 6 row A H14 ∧ (row 0).x = x0 ∧ (row 1).x = x1 ∧ (row 2).x = x2 ∧ (row 3).x = x3 ∧ (row 4).x = x4 ∧ (row 5).x = x5 ∧ (row 0).L = L0 ∧ (row 1).L = L1 ∧ (row 2).L = L2 ∧ (row 3).L = L3 ∧ (row 4).L = L4 ∧ (row 5).L = L5 :=
        ⟨_, _, m6', rfl, rfl, rfl, rfl, rfl, rfl, rfl, rfl, rfl, rfl, rfl, rfl⟩
      clear m6' m5' m5 m4 m3 m2 m1 m0
      have W0 : LapS K ⟨p, bx, sx, sdx, row⟩ tb 0 H14 (fun _ => []) A6 (fun _ => sd0) [] := LapS.start p14 m6 (by
        show H14 bx = some (.lst [.ref (row 0).x, .ref (row 1).x, .ref (row 2).x, .ref (row 3).x, .ref (row 4).x])
        rw [r0, r1, r2, r3, r4]
        exact bx14) (by
        show H14 sx = some (.ins (ga K "Session") sdx [("carried", .ref (row 5).x)])
        rw [r5]
        exact hs14) ok
      have Mn : ∀ l ∈ (⟨p, bx, sx, sdx, row⟩ : Lv).M, H1 l = none := fun l hl => by
        rcases List.mem_cons.mp hl with rfl | hl
        · exact np.no
        · obtain ⟨r, hr, rfl⟩ := List.mem_map.mp hl
          have hr6 := List.mem_range.mp hr
          show H1 (row r).L = none
          match r, hr6 with
          | 0, _ => rw [l0]; exact nL0
          | 1, _ => rw [l1]; exact nL1
          | 2, _ => rw [l2]; exact nL2
          | 3, _ => rw [l3]; exact nL3
          | 4, _ => rw [l4]; exact nL4
          | 5, _ => rw [l5]; exact nL5
      clear r0 r1 r2 r3 r4 r5 l0 l1 l2 l3 l4 l5 m6
      walk_at "go"
      apply r_ifNF rfl
      walk_at "go"
      refine ⟨_, rfl, by decide, by decide, ?_⟩
      refine r_for_it walk_range (fun i σ H15 => ∃ z1 z3 z ys A sd st, σ = [some (.ref a), z1, some (.ref p), z3, some (.ref t), some (.ref sx), some (.ref bx), z] ∧ LapS K ⟨p, bx, sx, sdx, row⟩ tb i H15 ys A sd st ∧ Ext (⟨p, bx, sx, sdx, row⟩ : Lv).M H14 H15) ⟨_, _, _, _, _, _, _, rfl, W0, Ext.rfl'⟩ (fun _ _ _ _ _ => trivial) ?_ ?_
      · rintro i y σ H15 H16 hi ⟨z1, z3, z, ys, A, sd, st, rfl, W, e15⟩ ⟨rfl, rfl⟩
        have hi12 : i < 12 := hi
        walk_at "go"
        refine ⟨⟨p, bx, sx, sdx, row⟩, tb, i, ys, A, sd, st, rfl, W, by omega, fun H17 ys' A' sd' st' e17 W' => ?_⟩
        walk_at "go"
        refine ⟨⟨p, bx, sx, sdx, row⟩, tb, i + 1, ys', A', sd', st', rfl, W', by omega, fun H18 e18 => ?_⟩
        walk_at "go"
        exact ⟨_, _, _, ys', A', sd', st', rfl, W'.same e18, Ext.tr e18 (Ext.tr e17 e15 ⟨fun l hl => .inl hl⟩) Sub.nil⟩
      · rintro σ H18 ⟨z1, z3, z, ys, A, sd, st, rfl, W, e18⟩
        walk_at "go"
        refine ⟨⟨p, bx, sx, sdx, row⟩, tb, 12, ys, A, sd, st, rfl, W, by decide, fun H19 e19 hp19 => ?_⟩
        walk_at "go"
        exact ⟨_, _, _, _, _, _, rfl, Ext.tr (Ext.tr e19 e18 ⟨fun l hl => .inl hl⟩) G14 ⟨fun l hl => .inr (Mn l hl)⟩, hp19⟩
    · rintro σ H20 ⟨y1, y3, y4, y5, y6, y7, rfl, e20, hp20⟩
      exact ⟨_, _, _, _, _, _, _, rfl, Ext.tr e20 e1 Sub.nil⟩
  · rintro σ H21 ⟨x1, x2, x3, x4, x5, x6, x7, rfl, e21⟩
    walk_at "go"
    exact q _
end
end K7
set_option Elab.async false
set_option linter.all false
set_option maxRecDepth 100000
set_option maxHeartbeats 0
namespace K7
open PySem PySem.Spec PyProof.Rows L2
theorem Fun.bind1 {K : PySem.W.Frag} {x qual p : Str} {st : Stmt} {f : Addr} {fd : FuncData} (F : Fun K x qual st f fd)
    (h : ∀ (kV doc pm : Value) (an : Option Addr) (cdv ct : Value) (u : Value), bindArgs (PySem.W.fnOf x qual (defArgs st) (defBody st) (defScope st) .none kV doc pm an cdv ct) ⟨[u], []⟩ = pure [(p, u)]) (s : Shared) (u : Value) : BindsTo s fd ⟨[u], []⟩ [(p, u)] := by
  obtain ⟨oc, od, kV, doc, pm, an, cdv, ct, osl, rfl, lk, hcd⟩ := F.ex
  exact .of_eq (h kV doc pm an cdv ct u)
end K7
open PySem PySem.W PySem.Calls PyProof.Rows
theorem PySem.Challenge.cw_burstapart_k79_whole_classes_agree_holds : PySem.Challenge.rw_burstapart_k79_whole_classes_agree.Holds := by
  w_on; o_law
  refine HandSHeadRun.head_any (r := OpenLaw.row PySem.Challenge.rw_burstapart_k79_whole_classes_agree) (q := view (OpenLaw.row PySem.Challenge.rw_burstapart_k79_whole_classes_agree).prog [100]) (H := K7.hookX 5) (ob := K7.obQ) (M := 9000) (loose := K7.hns) (d := HandSHeadRun.topDef (OpenLaw.row PySem.Challenge.rw_burstapart_k79_whole_classes_agree).prog 100) (kwd := []) K7.obQ_eq
    (by kernel_rfl) (fun s => by kernel_rfl) K7.runX (by kernel_rfl) (by kernel_rfl) (by kernel_rfl) (by rfl) (by first | assumption | decide +kernel) (by decide +kernel) ⟨rfl, rfl, rfl, rfl, rfl, by decide +kernel⟩ ?hw ?hc
  case hw => w_witness2
  case hc =>
    refine L2.walk_ofE (l := PySem.Challenge.rw_burstapart_k79_whole_classes_agree) (n := 63) (k := 10) (x := "_law_script") (CX := L2.CX0) rfl (by decide) (by kernel_rfl) ⟨rfl, by decide, by decide⟩ ?F (fun _ _ _ _ z => z)
    intro w mg fa h Y G hmg0
    obtain ⟨K, KX, c⟩ := Y
    have hmg : mg ("law" : PySem.Str) = some (.ref fa) := by
      have e : (HandSHeadRun.topDef (OpenLaw.row PySem.Challenge.rw_burstapart_k79_whole_classes_agree).prog 100).name = ("law" : PySem.Str) := by kernel_rfl
      rw [← e]
      exact hmg0
    have T := K7.tx_of KX G c
    have e : some (Value.ref fa) = some (.ref (K7.ga K "law")) := hmg.symm.trans (T.glo "law" (by decide +kernel))
    cases e
    have F := K7.fun_of T K7.md_law rfl
    refine ⟨K, _, K7.spLaw K, KX, fun s u => K7.Fun.bind1 F (fun _ _ _ _ _ _ _ => rfl) s u, fun H a ns hl _ hS => ⟨a, ns, rfl, hS, hl, fun _ => rfl⟩, fun base _ _ => K7.law_ok ⟨rfl, by decide +kernel⟩ T F⟩
