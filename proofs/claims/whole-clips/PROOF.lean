import PyProof.Rows.All
import Wide.All
import OpenK.AllK
import Wide.FinOn
import HandS.ForMost
import HandS.Codes
import HandS.CallLocal
import HandS.Defaults
import HandS.More
import HandS.Exc
import HandS.TupAny
import HandS.TupMul
import HandS.Style
import HandS.Zip
import HandS.Walk
import HandS.IsInst
import HandS.DictComp
import HandS.NoneIn
import HandS.Deep
import HandS.Wide
import HandS.Conv
import HandS.Flow
import KE.KDictZip
import KE.GoesEnum
import PySem.Challenge.RW_pageloom_k52_whole_clips
import HandS.Head0
import HandS.Head1
import HandS.Head2
import HandS.HeadHook1
import HandS.HeadHook2
import HandS.HeadEnd
set_option Elab.async false
set_option linter.all false
set_option maxRecDepth 100000
set_option maxHeartbeats 4000000
/-! The places of the defs in the row's text; the facts of the text that the walks lean on. Printed by genfacts.py. -/
namespace Pg
open PySem L2
def top (i : Nat) : Stmt := PySem.Challenge.pw_pageloom_k52_whole_clips.main.body.getD i (.Pass ⟨0, 0, 0, 0⟩)
/-- the operators that the law's programs use, and their defs -/
def opTab : List (Str × Str) := [("newpath", "do_newpath"), ("moveto", "do_moveto"), ("lineto", "do_lineto"), ("closepath", "do_closepath"), ("rect", "do_rect"), ("setink", "do_setink"), ("fill", "do_fill"), ("eofill", "do_eofill"), ("clip", "do_clip"), ("eoclip", "do_eoclip"), ("initclip", "do_initclip"), ("gsave", "do_gsave"), ("grestore", "do_grestore"), ("erase", "do_erase")]
abbrev s_is_whole : Stmt := top 15
abbrev s_common : Stmt := top 16
abbrev s_made : Stmt := top 19
abbrev s_plus : Stmt := top 20
abbrev s_times : Stmt := top 22
abbrev s_is_less : Stmt := top 24
abbrev s_figures : Stmt := top 27
abbrev s_read_number : Stmt := top 29
abbrev s_summed : Stmt := top 37
abbrev s_moved : Stmt := top 38
abbrev s_copied : Stmt := top 49
abbrev s_need : Stmt := top 50
abbrev s_need_kinds : Stmt := top 52
abbrev s_taken : Stmt := top 53
abbrev s_whole_of : Stmt := top 54
abbrev s_begun : Stmt := top 83
abbrev s_lined : Stmt := top 84
abbrev s_shut : Stmt := top 85
abbrev s_end_of : Stmt := top 86
abbrev s_need_room : Stmt := top 94
abbrev s_need_here : Stmt := top 102
abbrev s_do_newpath : Stmt := top 103
abbrev s_placed : Stmt := top 104
abbrev s_do_moveto : Stmt := top 106
abbrev s_do_lineto : Stmt := top 107
abbrev s_do_closepath : Stmt := top 111
abbrev s_do_rect : Stmt := top 112
abbrev s_do_setink : Stmt := top 115
abbrev s_ink_path : Stmt := top 117
abbrev s_do_fill : Stmt := top 118
abbrev s_do_eofill : Stmt := top 119
abbrev s_do_clip : Stmt := top 121
abbrev s_do_eoclip : Stmt := top 122
abbrev s_do_initclip : Stmt := top 123
abbrev s_do_gsave : Stmt := top 124
abbrev s_do_grestore : Stmt := top 125
abbrev s_do_erase : Stmt := top 126
abbrev s_apart : Stmt := top 136
abbrev s_edges : Stmt := top 138
abbrev s_is_between : Stmt := top 147
abbrev s_need_size : Stmt := top 148
abbrev s_crossings : Stmt := top 150
abbrev s_row_within : Stmt := top 151
abbrev s_row_of : Stmt := top 153
abbrev s_ink_of : Stmt := top 154
abbrev s_rows_of : Stmt := top 155
abbrev s_is_name : Stmt := top 164
abbrev s_item_of : Stmt := top 165
abbrev s_read_item : Stmt := top 167
abbrev s_read_items : Stmt := top 168
abbrev s_read_program : Stmt := top 169
abbrev s_operator : Stmt := top 235
abbrev s_need_steps : Stmt := top 237
abbrev s_law_drawn : Stmt := top 240
abbrev s_law_common : Stmt := top 241
abbrev s_law_made : Stmt := top 242
abbrev s_law_text : Stmt := top 243
abbrev s_law_point : Stmt := top 244
abbrev s_law_part : Stmt := top 245
abbrev s_law_path : Stmt := top 246
abbrev s_law_walk : Stmt := top 247
abbrev s_law_page : Stmt := top 248
abbrev s_law : Stmt := top 249
abbrev s_Look_init : Stmt := inClass (top 46) 0
abbrev s_World_init : Stmt := inClass (top 47) 0
abbrev s_Items_init : Stmt := inClass (top 58) 0
abbrev s_Reader_init : Stmt := inClass (top 163) 0
abbrev s_Machine_init : Stmt := inClass (top 238) 0
abbrev s_Look_twin : Stmt := inClass (top 46) 1
abbrev s_World_twin : Stmt := inClass (top 47) 1
abbrev s_Items_pays : Stmt := inClass (top 58) 1
abbrev s_Items_step : Stmt := inClass (top 58) 2
abbrev s_Reader_see : Stmt := inClass (top 163) 1
abbrev s_Reader_go : Stmt := inClass (top 163) 2
abbrev s_Reader_place : Stmt := inClass (top 163) 3
abbrev s_Reader_skip : Stmt := inClass (top 163) 4
abbrev s_Reader_word : Stmt := inClass (top 163) 5
abbrev s_Machine_pay : Stmt := inClass (top 238) 1
abbrev s_Machine_do_item : Stmt := inClass (top 238) 4
abbrev s_Machine_do_operator : Stmt := inClass (top 238) 5
abbrev s_Machine_step : Stmt := inClass (top 238) 6
abbrev s_Machine_need_idle : Stmt := inClass (top 238) 8
abbrev s_Machine_start : Stmt := inClass (top 238) 9
abbrev s_Machine_settle : Stmt := inClass (top 238) 10
abbrev s_Machine_go : Stmt := inClass (top 238) 11
abbrev s_Machine_run : Stmt := inClass (top 238) 12
abbrev s_Machine_page : Stmt := inClass (top 238) 15
/-- the addresses of the classes -/
structure Ad where
  Look : Addr
  World : Addr
  Items : Addr
  Reader : Addr
  Machine : Addr
/-- a def of the text under its global's name -/
def GFn (K : PySem.W.Frag) (mg : Str → Option Value) (g x : Str) (st : Stmt) : Prop := ∃ f fd, mg g = some (.ref f) ∧ FunD K x x (defArgs st) (defBody st) (defScope st) [] [] f fd
def MFn (K : PySem.W.Frag) (C : Addr) (m qual : Str) (st : Stmt) : Prop := ∃ f fd, Meth K C m f ∧ FunD K m qual (defArgs st) (defBody st) (defScope st) [] [] f fd
/-- .. with defaults -/
def MFnD (K : PySem.W.Frag) (C : Addr) (m qual : Str) (st : Stmt) (dvs : List V) : Prop := ∃ f fd, Meth K C m f ∧ FunD K m qual (defArgs st) (defBody st) (defScope st) dvs [] f fd
def IFn (K : PySem.W.Frag) (C : Addr) (qual : Str) (st : Stmt) (kws : List (Str × V)) : Prop := ∃ f fd, Mk K C f ∧ FunD K "__init__" qual (defArgs st) (defBody st) (defScope st) [] kws f fd
/-- the facts -/
structure Tx (w : World) (K : PySem.W.Frag) (mg : Str → Option Value) (A : Ad) : Prop where
  f_is_whole : GFn K mg "is_whole" "is_whole" s_is_whole
  f_common : GFn K mg "common" "common" s_common
  f_made : GFn K mg "made" "made" s_made
  f_plus : GFn K mg "plus" "plus" s_plus
  f_times : GFn K mg "times" "times" s_times
  f_is_less : GFn K mg "is_less" "is_less" s_is_less
  f_figures : GFn K mg "figures" "figures" s_figures
  f_read_number : GFn K mg "read_number" "read_number" s_read_number
  f_summed : GFn K mg "summed" "summed" s_summed
  f_moved : GFn K mg "moved" "moved" s_moved
  f_copied : GFn K mg "copied" "copied" s_copied
  f_need : GFn K mg "need" "need" s_need
  f_need_kinds : GFn K mg "need_kinds" "need_kinds" s_need_kinds
  f_taken : GFn K mg "taken" "taken" s_taken
  f_whole_of : GFn K mg "whole_of" "whole_of" s_whole_of
  f_begun : GFn K mg "begun" "begun" s_begun
  f_lined : GFn K mg "lined" "lined" s_lined
  f_shut : GFn K mg "shut" "shut" s_shut
  f_end_of : GFn K mg "end_of" "end_of" s_end_of
  f_need_room : GFn K mg "need_room" "need_room" s_need_room
  f_need_here : GFn K mg "need_here" "need_here" s_need_here
  f_do_newpath : GFn K mg "do_newpath" "do_newpath" s_do_newpath
  f_placed : GFn K mg "placed" "placed" s_placed
  f_do_moveto : GFn K mg "do_moveto" "do_moveto" s_do_moveto
  f_do_lineto : GFn K mg "do_lineto" "do_lineto" s_do_lineto
  f_do_closepath : GFn K mg "do_closepath" "do_closepath" s_do_closepath
  f_do_rect : GFn K mg "do_rect" "do_rect" s_do_rect
  f_do_setink : GFn K mg "do_setink" "do_setink" s_do_setink
  f_ink_path : GFn K mg "ink_path" "ink_path" s_ink_path
  f_do_fill : GFn K mg "do_fill" "do_fill" s_do_fill
  f_do_eofill : GFn K mg "do_eofill" "do_eofill" s_do_eofill
  f_do_clip : GFn K mg "do_clip" "do_clip" s_do_clip
  f_do_eoclip : GFn K mg "do_eoclip" "do_eoclip" s_do_eoclip
  f_do_initclip : GFn K mg "do_initclip" "do_initclip" s_do_initclip
  f_do_gsave : GFn K mg "do_gsave" "do_gsave" s_do_gsave
  f_do_grestore : GFn K mg "do_grestore" "do_grestore" s_do_grestore
  f_do_erase : GFn K mg "do_erase" "do_erase" s_do_erase
  f_apart : GFn K mg "apart" "apart" s_apart
  f_edges : GFn K mg "edges" "edges" s_edges
  f_is_between : GFn K mg "is_between" "is_between" s_is_between
  f_need_size : GFn K mg "need_size" "need_size" s_need_size
  f_crossings : GFn K mg "crossings" "crossings" s_crossings
  f_row_within : GFn K mg "row_within" "row_within" s_row_within
  f_row_of : GFn K mg "row_of" "row_of" s_row_of
  f_ink_of : GFn K mg "ink_of" "ink_of" s_ink_of
  f_rows_of : GFn K mg "rows_of_inking" "rows_of" s_rows_of
  f_is_name : GFn K mg "is_name" "is_name" s_is_name
  f_item_of : GFn K mg "item_of" "item_of" s_item_of
  f_read_item : GFn K mg "read_item" "read_item" s_read_item
  f_read_items : GFn K mg "read_items" "read_items" s_read_items
  f_read_program : GFn K mg "read_program" "read_program" s_read_program
  f_operator : GFn K mg "operator" "operator" s_operator
  f_need_steps : GFn K mg "need_steps" "need_steps" s_need_steps
  f_law_drawn : GFn K mg "_law_drawn" "_law_drawn" s_law_drawn
  f_law_common : GFn K mg "_law_common" "_law_common" s_law_common
  f_law_made : GFn K mg "_law_made" "_law_made" s_law_made
  f_law_text : GFn K mg "_law_text" "_law_text" s_law_text
  f_law_point : GFn K mg "_law_point" "_law_point" s_law_point
  f_law_part : GFn K mg "_law_part" "_law_part" s_law_part
  f_law_path : GFn K mg "_law_path" "_law_path" s_law_path
  f_law_walk : GFn K mg "_law_walk" "_law_walk" s_law_walk
  f_law_page : GFn K mg "_law_page" "_law_page" s_law_page
  f_law : GFn K mg "law" "law" s_law
  gc_Look : mg "Look" = some (.ref A.Look)
  c_Look : Cls K A.Look
  i_Look : IFn K A.Look "Look.__init__" s_Look_init []
  m_Look_twin : MFn K A.Look "twin" "Look.twin" s_Look_twin
  a_Look_matrix : NoAttr K A.Look "matrix"
  a_Look_path : NoAttr K A.Look "path"
  a_Look_ink : NoAttr K A.Look "ink"
  a_Look_width : NoAttr K A.Look "width"
  a_Look_clips : NoAttr K A.Look "clips"
  a_Look_font : NoAttr K A.Look "font"
  gc_World : mg "World" = some (.ref A.World)
  c_World : Cls K A.World
  i_World : IFn K A.World "World.__init__" s_World_init []
  m_World_twin : MFn K A.World "twin" "World.twin" s_World_twin
  a_World_operands : NoAttr K A.World "operands"
  a_World_rooms : NoAttr K A.World "rooms"
  a_World_scopes : NoAttr K A.World "scopes"
  a_World_look : NoAttr K A.World "look"
  a_World_kept : NoAttr K A.World "kept"
  a_World_sheets : NoAttr K A.World "sheets"
  a_World_inkings : NoAttr K A.World "inkings"
  a_World_saves : NoAttr K A.World "saves"
  a_World_many_saves : NoAttr K A.World "many_saves"
  gc_Items : mg "Items" = some (.ref A.Items)
  c_Items : Cls K A.Items
  i_Items : IFn K A.Items "Items.__init__" s_Items_init []
  m_Items_pays : MFn K A.Items "pays" "Items.pays" s_Items_pays
  m_Items_step : MFn K A.Items "step" "Items.step" s_Items_step
  a_Items_body : NoAttr K A.Items "body"
  a_Items_at : NoAttr K A.Items "at"
  gc_Reader : mg "Reader" = some (.ref A.Reader)
  c_Reader : Cls K A.Reader
  i_Reader : IFn K A.Reader "Reader.__init__" s_Reader_init []
  m_Reader_see : MFn K A.Reader "see" "Reader.see" s_Reader_see
  m_Reader_go : MFn K A.Reader "go" "Reader.go" s_Reader_go
  m_Reader_place : MFn K A.Reader "place" "Reader.place" s_Reader_place
  m_Reader_skip : MFn K A.Reader "skip" "Reader.skip" s_Reader_skip
  m_Reader_word : MFn K A.Reader "word" "Reader.word" s_Reader_word
  a_Reader_text : NoAttr K A.Reader "text"
  a_Reader_at : NoAttr K A.Reader "at"
  a_Reader_row : NoAttr K A.Reader "row"
  a_Reader_column : NoAttr K A.Reader "column"
  a_Reader_deep : NoAttr K A.Reader "deep"
  gc_Machine : mg "Machine" = some (.ref A.Machine)
  c_Machine : Cls K A.Machine
  i_Machine : IFn K A.Machine "Machine.__init__" s_Machine_init [("steps", .int 5000)]
  m_Machine_pay : MFn K A.Machine "pay" "Machine.pay" s_Machine_pay
  m_Machine_do_item : MFn K A.Machine "do_item" "Machine.do_item" s_Machine_do_item
  m_Machine_do_operator : MFn K A.Machine "do_operator" "Machine.do_operator" s_Machine_do_operator
  m_Machine_step : MFn K A.Machine "step" "Machine.step" s_Machine_step
  m_Machine_need_idle : MFn K A.Machine "need_idle" "Machine.need_idle" s_Machine_need_idle
  m_Machine_start : MFn K A.Machine "start" "Machine.start" s_Machine_start
  m_Machine_settle : MFn K A.Machine "settle" "Machine.settle" s_Machine_settle
  m_Machine_go : MFnD K A.Machine "go" "Machine.go" s_Machine_go [.int 1]
  m_Machine_run : MFn K A.Machine "run" "Machine.run" s_Machine_run
  m_Machine_page : MFn K A.Machine "page" "Machine.page" s_Machine_page
  a_Machine_wide : NoAttr K A.Machine "wide"
  a_Machine_high : NoAttr K A.Machine "high"
  a_Machine_most : NoAttr K A.Machine "most"
  a_Machine_world : NoAttr K A.Machine "world"
  a_Machine_frames : NoAttr K A.Machine "frames"
  a_Machine_left : NoAttr K A.Machine "left"
  a_Machine_told : NoAttr K A.Machine "told"
  a_Machine_is_running : NoAttr K A.Machine "is_running"
  a_Machine_ahead : NoAttr K A.Machine "ahead"
  a_Machine_past : NoAttr K A.Machine "past"
  a_Machine_later : NoAttr K A.Machine "later"
  v_MOST : ∃ u, mg "MOST" = some u ∧ RelV (.int 10000000000000000000000000000000000000000) u
  v_MOST_SIDE : ∃ u, mg "MOST_SIDE" = some u ∧ RelV (.int 64) u
  v_MOST_STEPS : ∃ u, mg "MOST_STEPS" = some u ∧ RelV (.int 20000) u
  v_MOST_INK : ∃ u, mg "MOST_INK" = some u ∧ RelV (.int 15) u
  v_FIGURES : ∃ u, mg "FIGURES" = some u ∧ RelV (.str "0123456789") u
  v_LETTERS : ∃ u, mg "LETTERS" = some u ∧ RelV (.str "abcdefghijklmnopqrstuvwxyz") u
  v_WORD : ∃ u, mg "WORD" = some u ∧ RelV (.str "abcdefghijklmnopqrstuvwxyz0123456789-:.") u
  v_BRACKETS : ∃ u, mg "BRACKETS" = some u ∧ RelV (.str "[]") u
  v_WHITE : ∃ u, mg "WHITE" = some u ∧ RelV (.str " \n") u
  n_len : mg "len" = none
  n_abs : mg "abs" = none
  n_int : mg "int" = none
  n_str : mg "str" = none
  n_tuple : mg "tuple" = none
  n_list : mg "list" = none
  n_sum : mg "sum" = none
  n_all : mg "all" = none
  n_isinstance : mg "isinstance" = none
  n_range : mg "range" = none
  n_zip : mg "zip" = none
  n_enumerate : mg "enumerate" = none
  n_dict : mg "dict" = none
  n_bool : mg "bool" = none
  same : ∃ a o z, mg "SAME" = some (.ref a) ∧ ∀ H, SqT K H a [.ref o, .ref z, .ref z, .ref o, .ref z, .ref z] ∧ SqT K H o [.int 1, .int 1] ∧ SqT K H z [.int 0, .int 1]
  t_stackops : ∃ d es n, mg "TABLE_stackops" = some (.ref d) ∧ KDict K w d es n ∧ ∀ p ∈ opTab, PySem.W.nsIn K d p.1 = some none
  t_sumops : ∃ d es n, mg "TABLE_sumops" = some (.ref d) ∧ KDict K w d es n ∧ ∀ p ∈ opTab, PySem.W.nsIn K d p.1 = some none
  t_flowops : ∃ d es n, mg "TABLE_flowops" = some (.ref d) ∧ KDict K w d es n ∧ ∀ p ∈ opTab, PySem.W.nsIn K d p.1 = some none
  t_drawops : ∃ d es n, mg "TABLE_drawops" = some (.ref d) ∧ KDict K w d es n ∧ ∀ p ∈ opTab, ∃ f, PySem.W.nsIn K d p.1 = some (some (.ref f)) ∧ mg p.2 = some (.ref f)
end Pg
noncomputable section
namespace Hd
open PySem PySem.W PySem.Calls PyProof.Rows
/-! ### the row's own looks -/
theorem said_pg (k : (OpenLaw.row PySem.Challenge.rw_pageloom_k52_whole_clips).wellSaid = true → (OpenLaw.row PySem.Challenge.rw_pageloom_k52_whole_clips).Holds) : PySem.Challenge.rw_pageloom_k52_whole_clips.Holds := by
  w_on; o_law
  exact k (by assumption)
end Hd
end
noncomputable section
namespace Hd
open PySem PySem.W PySem.Calls PyProof.Rows HandSHeadRun
abbrev pr : Program := PySem.Challenge.pw_pageloom_k52_whole_clips
/-! ### the twins that the run takes -/
def execsQ : List Stmt → Env → Sem Flow := PySem.W.Fast.tw12563942051412417395
theorem execsQ_eq : PySem.execs = execsQ := PySem.W.Fast.te12563942051412417395
def blockQ : List Stmt → Env → Sem Unit := PySem.W.Fast.tw1066825118222455980
theorem blockQ_eq : PySem.blockStart = blockQ := PySem.W.Fast.te1066825118222455980
def okQ : Nat → Option Value → Thread → Bool := PySem.W.Fast.tw6613529449190102663
theorem okQ_eq : PySem.W.stepOk = okQ := PySem.W.Fast.te6613529449190102663
/-! ### a segment of the top, over a tree -/
def frN {α : Type} (s : SharedT) (k : SharedT → α) : α := match s with
  | ⟨T, n, life, gens, drawn, toks, os⟩ => frNat n fun n => k ⟨T, n, life, gens, drawn, toks, os⟩
theorem frN_eq {α : Type} (s : SharedT) (k : SharedT → α) : frN s k = k s := by
  obtain ⟨T, n, life, gens, drawn, toks, os⟩ := s
  show frNat n (fun n => k ⟨T, n, life, gens, drawn, toks, os⟩) = _
  rw [frNat_eq]
section
variable (st : SharedT → Thread → Option (SharedT × Thread)) (ok : Thread → Bool)
def segF : Nat → SharedT → Thread → Option (SharedT × Code × Pos)
  | 0, _, _ => none
  | m + 1, s, t => match endAt 1 t with
    | some .next => some (s, t.code, t.pos)
    | some _ => none
    | none => match ok t with
      | false => none
      | true => match st s t with
        | some (s', t') => frN s' fun s' => segF m s' t'
        | none => none
/-- to the stub's body -/
def preF : Nat → SharedT → Thread → Option (SharedT × Thread)
  | 0, _, _ => none
  | m + 1, s, t => match Nat.beq t.stack.length 1 with
    | true => some (s, t)
    | false => match through t with
      | true => none
      | false => match ok t with
        | false => none
        | true => match st s t with
          | some (s', t') => frN s' fun s' => preF m s' t'
          | none => none
end
section
variable {tb : String → Option Builtin} {p : Program} {w : World} {n0 : Nat} {ann : Option Value}
theorem segF_ok : ∀ {m : Nat} {s s' : SharedT} {t : Thread} {c : Code} {q : Pos}, segF (stepT (denote tb) p w) (stepOk n0 ann) m s t = some (s', c, q) → segRun tb p w n0 ann 1 m s.abs t = some (.next, s'.abs, c, q)
  | 0, _, _, _, _, _, h => by cases h
  | m + 1, s, s', t, c, q, h => by
    unfold segF at h
    unfold segRun
    cases he : endAt 1 t with
    | some f =>
      rw [he] at h
      cases f <;> first | (cases h; rfl) | cases h
    | none =>
      rw [he] at h
      cases hk : stepOk n0 ann t with
      | false =>
        rw [hk] at h
        cases h
      | true =>
        rw [hk] at h
        cases hs : stepT (denote tb) p w s t with
        | none =>
          rw [hs] at h
          cases h
        | some r =>
          obtain ⟨s2, t2⟩ := r
          rw [hs] at h
          have h3 : (frN s2 fun s' => segF (stepT (denote tb) p w) (stepOk n0 ann) m s' t2) = some (s', c, q) := h
          rw [frN_eq] at h3
          rw [stepT_spec hs]
          exact segF_ok h3
theorem preF_ok : ∀ {m : Nat} {s s' : SharedT} {t t' : Thread} {N : Nat} {r : Shared}, preF (stepT (denote tb) p w) (stepOk n0 ann) m s t = some (s', t') → topRun tb p w n0 ann N s'.abs t' = some r → topRun tb p w n0 ann (m + N) s.abs t = some r
  | 0, _, _, _, _, _, _, h, _ => by cases h
  | m + 1, s, s', t, t', N, r, h, k => by
    rw [show m + 1 + N = m + N + 1 by omega]
    unfold preF at h
    cases hb : Nat.beq t.stack.length 1 with
    | true =>
      rw [hb] at h
      cases h
      have q := topRun_mono (m + 1) _ _ _ _ k
      rw [show N + (m + 1) = m + N + 1 by omega] at q
      exact q
    | false =>
      rw [hb] at h
      unfold topRun
      cases ht : through t with
      | true =>
        rw [ht] at h
        cases h
      | false =>
        rw [ht] at h
        cases hk : stepOk n0 ann t with
        | false =>
          rw [hk] at h
          cases h
        | true =>
          rw [hk] at h
          cases hs : stepT (denote tb) p w s t with
          | none =>
            rw [hs] at h
            cases h
          | some r2 =>
            obtain ⟨s2, t2⟩ := r2
            rw [hs] at h
            have h3 : (frN s2 fun s' => preF (stepT (denote tb) p w) (stepOk n0 ann) m s' t2) = some (s', t') := h
            rw [frN_eq] at h3
            rw [stepT_spec hs]
            exact preF_ok h3 k
end
/-! ### a tree of given contents -/
def mkT (f : Nat → Obj) (n : Nat) : Nat → Nat → Nat → BT
  | 0, _, _ => .nil
  | k + 1, a, b => match Nat.blt b n with
    | true => .node (f b) (mkT f n k (2 * a) (a + b)) (mkT f n k (2 * a) (2 * a + b))
    | false => .nil
theorem mkT_get {f : Nat → Obj} {n : Nat} : ∀ {k a b i : Nat}, 0 < a → i + 1 < 2 ^ k → a * i + b < n → (mkT f n k a b).get i = some (f (a * i + b))
  | 0, a, b, i, _, h, _ => by simp at h
  | k + 1, a, b, i, ha, h, hn => by
    have hb : Nat.blt b n = true := Nat.ble_eq_true_of_le (show b + 1 ≤ n by omega)
    show (match Nat.blt b n with
      | true => BT.node (f b) (mkT f n k (2 * a) (a + b)) (mkT f n k (2 * a) (2 * a + b))
      | false => .nil).get i = _
    rw [hb]
    show (BT.node (f b) (mkT f n k (2 * a) (a + b)) (mkT f n k (2 * a) (2 * a + b))).get i = _
    rw [BT.get_node]
    have h2 : 2 ^ (k + 1) = 2 * 2 ^ k := by rw [Nat.pow_succ]; omega
    by_cases e : i = 0
    · rw [if_pos e, e, Nat.mul_zero, Nat.zero_add]
    · rw [if_neg e]
      by_cases o : i % 2 = 1
      · rw [if_pos o]
        have ei : i = 2 * (i / 2) + 1 := by omega
        have em : a * i + b = 2 * a * (i / 2) + (a + b) := by
          conv => lhs; rw [ei]
          rw [Nat.mul_add, Nat.mul_one, show a * (2 * (i / 2)) = 2 * a * (i / 2) by rw [← Nat.mul_assoc, Nat.mul_comm a 2]]
          omega
        rw [mkT_get (by omega) (by omega) (by rw [← em]; exact hn), em]
      · rw [if_neg o]
        have ei : i = 2 * (i / 2 - 1) + 2 := by omega
        have em : a * i + b = 2 * a * (i / 2 - 1) + (2 * a + b) := by
          conv => lhs; rw [ei]
          rw [Nat.mul_add, show a * (2 * (i / 2 - 1)) = 2 * a * (i / 2 - 1) by rw [← Nat.mul_assoc, Nat.mul_comm a 2], show a * 2 = 2 * a by rw [Nat.mul_comm]]
          omega
        rw [mkT_get (by omega) (by omega) (by rw [← em]; exact hn), em]
/-- n objects of given contents (n under 4095) -/
abbrev T12 (f : Nat → Obj) (n : Nat) : BT := mkT f n 12 1 0
theorem T12_get {f : Nat → Obj} {n i : Nat} (hn : n ≤ 4094) (h : i < n) : (T12 f n).get i = some (f i) := by
  have := mkT_get (f := f) (n := n) (k := 12) (a := 1) (b := 0) (i := i) (by omega) (by have : (2 : Nat) ^ 12 = 4096 := rfl; omega) (by omega)
  rw [this, Nat.one_mul, Nat.add_zero]
/-- what stands at an address -/
def cont (T : BT) (i : Nat) : Obj := match T.get i with
  | some o => o
  | none => default
theorem abs_T12 {T : BT} {n : Nat} {life : Life} (hn : n ≤ 4094) : absHeap T n life = absHeap (T12 (cont T) n) n life := by
  have e : BT.list T n = BT.list (T12 (cont T) n) n := by
    unfold BT.list
    refine List.map_congr_left fun i hi => ?_
    rw [T12_get hn (List.mem_range.mp hi)]
    unfold cont
    cases T.get i <;> rfl
  unfold absHeap
  rw [e]
end Hd
end
noncomputable section
namespace Hd
open PySem PySem.W PySem.Calls PyProof.Rows
/-! ### the text's tables, part by part -/
abbrev wS0 (m : Module) (l : List Stmt) : Bool := TablesWhole.wSs TablesWhole.holds m.scope ⟨m.scope, [], [], [], none⟩ m.scope l
theorem wS0_app (m : Module) : ∀ l1 l2 : List Stmt, wS0 m (l1 ++ l2) = (wS0 m l1 && wS0 m l2)
  | [], _ => rfl
  | s :: l1, l2 => by
    show (TablesWhole.wS TablesWhole.holds m.scope ⟨m.scope, [], [], [], none⟩ m.scope s && wS0 m (l1 ++ l2)) = ((TablesWhole.wS TablesWhole.holds m.scope ⟨m.scope, [], [], [], none⟩ m.scope s && wS0 m l1) && wS0 m l2)
    rw [wS0_app m l1 l2, Bool.and_assoc]
theorem wS0_cut (m : Module) (l : List Stmt) (a b c : Nat) (hc : a + b = c) (h1 : wS0 m ((l.drop a).take b) = true) (h2 : wS0 m (l.drop c) = true) : wS0 m (l.drop a) = true := by
  rw [← List.take_append_drop b (l.drop a), wS0_app, h1, List.drop_drop, hc, h2]
  rfl
theorem wModule_of (m : Module) (h1 : TablesWhole.noTwice m.scope = true) (h2 : TablesWhole.wSs TablesWhole.gather m.scope ⟨m.scope, [], [], [], none⟩ m.scope m.body = []) (h3 : wS0 m (m.body.drop 0) = true) : TablesWhole.wModule TablesWhole.holds m = true := by
  unfold TablesWhole.wModule
  dsimp only
  rw [h2]
  show (true && (TablesWhole.noTwice m.scope && (wS0 m (m.body.drop 0) && true))) = true
  rw [h1, h3]
  rfl
theorem whole_of (p : Program) (h : TablesWhole.wModule TablesWhole.holds p.main = true) (h1 : p.modules = []) (h2 : p.parses = []) (h3 : p.harvested = []) : p.tablesWhole = true := by
  unfold Program.tablesWhole TablesWhole.wProgram
  rw [h1, h2, h3]
  show (TablesWhole.wModule TablesWhole.holds p.main && (true && (true && (true && true)))) = true
  rw [h]
  rfl
theorem wh_n : TablesWhole.noTwice pr.main.scope = true := by kernel_rfl
theorem wh_g : TablesWhole.wSs TablesWhole.gather pr.main.scope ⟨pr.main.scope, [], [], [], none⟩ pr.main.scope pr.main.body = [] := by kernel_rfl
theorem wh_0 : wS0 pr.main ((pr.main.body.drop 0).take 60) = true := by kernel_rfl
theorem wh_1 : wS0 pr.main ((pr.main.body.drop 60).take 70) = true := by kernel_rfl
theorem wh_2 : wS0 pr.main ((pr.main.body.drop 130).take 70) = true := by kernel_rfl
theorem wh_3 : wS0 pr.main (pr.main.body.drop 200) = true := by kernel_rfl
theorem whole_pg : pr.tablesWhole = true := whole_of pr (wModule_of pr.main wh_n wh_g (wS0_cut _ _ 0 60 60 rfl wh_0 (wS0_cut _ _ 60 70 130 rfl wh_1 (wS0_cut _ _ 130 70 200 rfl wh_2 wh_3)))) rfl rfl rfl
theorem bare_pg : pr.bare := ⟨rfl, rfl, rfl, rfl, rfl, whole_pg⟩
end Hd
end
noncomputable section
namespace Hd
open PySem PySem.W PySem.Calls PyProof.Rows HandSHeadRun
/-! ### the run's frame -/
def envE : Env := { scope := pr.main.scope, locals := mainNs, globals := mainNs, cells := [], code := .ref 13, frame := some 14 }
def bE : List Stmt := behindTheImports pr
abbrev cE : Code := .body bE envE
abbrev stkE : List Frame := [topFrame default]
def stpQ (w : World) : SharedT → Thread → Option (SharedT × Thread) := stepQ (denQ tabQ) pr w
def okE : Thread → Bool := okQ 11 (some (.ref 6))
def thrP (l : List Stmt) (p : Pos) : Thread := ⟨(execsQ l envE).wrap doneF deadEnd id id, cE, p, stkE⟩
def thrB (p : Pos) : Thread := ⟨(blockQ bE envE).wrap (fun _ => doneF .next) deadEnd id id, cE, p, stkE⟩
def segQ (w : World) (m : Nat) (l : List Stmt) (s : SharedT) (p : Pos) : Option (SharedT × Code × Pos) := segF (stpQ w) okE m s (thrP l p)
def blkQ (w : World) (m : Nat) (s : SharedT) (p : Pos) : Option (SharedT × Code × Pos) := segF (stpQ w) okE m s (thrB p)
/-- the boot's contents -/
def bootF (w : World) (a : Nat) : Obj := match (boot_heap w.params).objs.toList[a]? with
  | some o => o
  | none => default
def bootS (w : World) (os : OsState) : SharedT := ⟨T12 (bootF w) 11, 11, (boot_heap w.params).life, #[], boot_drawn, boot_toks, os⟩
def preQ (w : World) (os : OsState) : Option (SharedT × Thread) := preF (stpQ w) okE 60 (bootS w os) (topStub pr)
/-- the contents behind the stub -/
def bF (w : World) (os : OsState) (a : Nat) : Obj := match preQ w os with
  | some (s, _) => cont s.tree a
  | none => default
/-- from the boot over the first statements -/
def firstQ (w : World) (os : OsState) (m : Nat) (l : List Stmt) : Option (SharedT × Code × Pos) := match preQ w os with
  | some (s, t) => match blkQ w 60 s t.pos with
    | some (s, _, p) => segQ w m l s p
    | none => none
  | none => none
/-- the module's names, in their order -/
def keyS0 (e : DictEntry) : Option Str := match e.key with
  | .str x _ => some x
  | _ => none
def keysAt (T : BT) (a : Nat) : Option (List (Option Str)) := match T.get a with
  | some ⟨.type "dict", none, .dict es _, sl⟩ => match sl.toList with
    | [] => some (es.toList.map keyS0)
    | _ => none
  | _ => none
end Hd
end
section
namespace Hd
open PySem PySem.Spec PySem.W PySem.Calls PyProof.Rows L2
/-! ### facts under a part of the heap hold under a larger one -/
def Le (K K' : Frag) : Prop := ∀ a o, K.lookup a = some o → K'.lookup a = some o
section
variable {K K' : Frag} (h : Le K K')
include h
theorem ns_mono {ns : Addr} {x : Str} {r : Option Value} (e : nsIn K ns x = some r) : nsIn K' ns x = some r := by
  unfold nsIn at e ⊢
  cases q : K.lookup ns with
  | none =>
    rw [q] at e
    cases e
  | some o =>
    rw [q] at e
    rw [h _ _ q]
    exact e
theorem own_mono {x : Str} {c : Value} {r : Option Value} (e : ownIn K x c = some r) : ownIn K' x c = some r := by
  cases c with
  | ref a =>
    show (match K'.lookup a with
      | some ⟨_, _, .cls cd, _⟩ => nsIn K' cd.ns x
      | _ => none) = some r
    have e1 : (match K.lookup a with
      | some ⟨_, _, .cls cd, _⟩ => nsIn K cd.ns x
      | _ => none) = some r := e
    cases q : K.lookup a with
    | none =>
      rw [q] at e1
      cases e1
    | some o =>
      rw [q] at e1
      rw [h _ _ q]
      obtain ⟨oc, od, dt, osl⟩ := o
      cases dt with
      | cls cd => exact ns_mono h e1
      | _ => cases e1
  | _ => exact e
theorem along_mono {x : Str} : ∀ {l : List Value} {r : Option Value}, alongIn K x l = some r → alongIn K' x l = some r
  | [], r, e => e
  | c :: l, r, e => by
    have e1 : (match ownIn K x c with
      | some (some v) => some (some v)
      | some none => alongIn K x l
      | none => none) = some r := e
    show (match ownIn K' x c with
      | some (some v) => some (some v)
      | some none => alongIn K' x l
      | none => none) = some r
    cases q : ownIn K x c with
    | none =>
      rw [q] at e1
      cases e1
    | some o =>
      rw [q] at e1
      rw [own_mono h q]
      cases o with
      | none => exact along_mono e1
      | some v => exact e1
theorem find_mono {t : Value} {x : Str} {r : Option Value} (e : findIn K t x = some r) : findIn K' t x = some r := by
  cases t with
  | ref a =>
    have e1 : (match K.lookup a with
      | some ⟨_, _, .cls cd, _⟩ => alongIn K x cd.mro
      | _ => none) = some r := e
    show (match K'.lookup a with
      | some ⟨_, _, .cls cd, _⟩ => alongIn K' x cd.mro
      | _ => none) = some r
    cases q : K.lookup a with
    | none =>
      rw [q] at e1
      cases e1
    | some o =>
      rw [q] at e1
      rw [h _ _ q]
      obtain ⟨oc, od, dt, osl⟩ := o
      cases dt with
      | cls cd => exact along_mono h e1
      | _ => cases e1
  | type n => exact e
  | _ => cases e
theorem type_mono {v t : Value} (e : typeIn K v = some t) : typeIn K' v = some t := by
  cases v with
  | ref a =>
    obtain ⟨o, ho, eo⟩ := Option.map_eq_some_iff.mp (show (K.lookup a).map (·.cls) = some t from e)
    show (K'.lookup a).map (·.cls) = some t
    rw [h _ _ ho]
    exact congrArg some eo
  | _ => exact e
theorem special_mono {v : Value} {x : Str} {r : Option Value} (e : specialIn K v x = some r) : specialIn K' v x = some r := by
  obtain ⟨t, a, b⟩ := Option.bind_eq_some_iff.mp (show (typeIn K v).bind (fun t => findIn K t x) = some r from e)
  show (typeIn K' v).bind (fun t => findIn K' t x) = some r
  rw [type_mono h a]
  exact find_mono h b
theorem clsIn_mono {C : Addr} {cd : ClassData} (e : clsIn K C = some cd) : clsIn K' C = some cd := by
  unfold clsIn at e ⊢
  cases q : K.lookup C with
  | none =>
    rw [q] at e
    cases e
  | some o =>
    rw [q] at e
    rw [h _ _ q]
    exact e
theorem sub_mono {t b : Value} {r : Bool} (e : subIn K t b = some r) : subIn K' t b = some r := by
  cases t with
  | ref C =>
    obtain ⟨cd, a, c⟩ := Option.bind_eq_some_iff.mp (show (clsIn K C).bind (fun cd => if cd.mro.isEmpty then none else some (cd.mro.contains b)) = some r from e)
    show (clsIn K' C).bind (fun cd => if cd.mro.isEmpty then none else some (cd.mro.contains b)) = some r
    rw [clsIn_mono h a]
    exact c
  | type n => exact e
  | _ => cases e
theorem inst_mono {v b : Value} {r : Bool} (e : instIn K v b = some r) : instIn K' v b = some r := by
  obtain ⟨t, a, c⟩ := Option.bind_eq_some_iff.mp (show (typeIn K v).bind (fun t => subIn K t b) = some r from e)
  show (typeIn K' v).bind (fun t => subIn K' t b) = some r
  rw [type_mono h a]
  exact sub_mono h c
theorem eqS_mono {α : Type} [BEq α] [LawfulBEq α] {x y : Option α} {r : α} (m : x = some r → y = some r) (e : (x == some r) = true) : (y == some r) = true := by
  rw [m (beq_iff_eq.mp e)]
  exact beq_iff_eq.mpr rfl
theorem keep_mono {f : Value} (e : keepIn K f = true) : keepIn K' f = true := by
  cases f with
  | ref a =>
    have e1 : (match K.lookup a with
      | some ⟨_, _, .func _, _⟩ => true
      | some ⟨_, _, .cls _, _⟩ => specialIn K (.ref a) "__call__" == some (some (.builtin "type.__call__"))
      | _ => false) = true := e
    show (match K'.lookup a with
      | some ⟨_, _, .func _, _⟩ => true
      | some ⟨_, _, .cls _, _⟩ => specialIn K' (.ref a) "__call__" == some (some (.builtin "type.__call__"))
      | _ => false) = true
    cases q : K.lookup a with
    | none =>
      rw [q] at e1
      cases e1
    | some o =>
      rw [q] at e1
      rw [h _ _ q]
      obtain ⟨oc, od, dt, osl⟩ := o
      cases dt with
      | func fd => exact e1
      | cls cd => exact eqS_mono h (special_mono h) e1
      | _ => cases e1
  | _ => cases e
theorem isFn_mono {v : Value} (e : isFn K v = true) : isFn K' v = true := eqS_mono h (type_mono h) e
theorem code_mono {cd : Value} {q : Str} (e : codeIn K cd q = true) : codeIn K' cd q = true := by
  cases cd with
  | ref c =>
    have e1 : (match K.lookup c with
      | some ⟨_, _, .fields vs, _⟩ => (match vs.toList with | _ :: .str n _ :: _ => n == q | _ => false)
      | _ => false) = true := e
    show (match K'.lookup c with
      | some ⟨_, _, .fields vs, _⟩ => (match vs.toList with | _ :: .str n _ :: _ => n == q | _ => false)
      | _ => false) = true
    cases z : K.lookup c with
    | none =>
      rw [z] at e1
      cases e1
    | some o =>
      rw [z] at e1
      rw [h _ _ z]
      exact e1
  | _ => cases e
theorem any_mono {C : Addr} {p : ClassData → Bool} (e : (clsIn K C).any p = true) : (clsIn K' C).any p = true := by
  obtain ⟨cd, a, b⟩ := any_some e
  rw [clsIn_mono h a]
  exact b
theorem makes_mono {C : Addr} (e : makesIn K C = true) : makesIn K' C = true := by
  unfold makesIn at e ⊢
  cases q : K.lookup C with
  | none =>
    rw [q] at e
    cases e
  | some o =>
    rw [q] at e
    rw [h _ _ q]
    obtain ⟨oc, od, dt, osl⟩ := o
    cases dt with
    | cls cd =>
      dsimp only at e ⊢
      obtain ⟨e1, e3⟩ := Bool.and_eq_true_iff.mp e
      obtain ⟨e1, e2⟩ := Bool.and_eq_true_iff.mp e1
      exact Bool.and_eq_true_iff.mpr ⟨Bool.and_eq_true_iff.mpr ⟨e1, eqS_mono h (special_mono h) e2⟩, eqS_mono h (inst_mono h) e3⟩
    | _ => cases e
theorem FunD.mono {x qual : Str} {params : Arguments} {body : List Stmt} {scope : Scope} {dvs : List V} {kws : List (Str × V)} {f : Addr} {fd : FuncData} (F : FunD K x qual params body scope dvs kws f fd) : FunD K' x qual params body scope dvs kws f fd := by
  obtain ⟨⟨oc, od, dV, kV, doc, pm, an, cdv, ct, osl, e1, e2, e3, e4, e5⟩, kp⟩ := F
  refine ⟨⟨oc, od, dV, kV, doc, pm, an, cdv, ct, osl, e1, h _ _ e2, code_mono h e3, ?_, ?_⟩, keep_mono h kp⟩
  · rcases e4 with e4 | ⟨n, T, o, its, m, d1, d2, d3, d4⟩
    · exact .inl e4
    · exact .inr ⟨n, T, o, its, m, d1, h _ _ d2, d3, d4⟩
  · rcases e5 with e5 | ⟨D, d1, d2⟩
    · exact .inl e5
    · refine .inr ⟨D, d1, fun q hq => ?_⟩
      obtain ⟨u, u1, u2⟩ := d2 q hq
      exact ⟨u, ns_mono h u1, u2⟩
theorem Cls.mono {C : Addr} (c : Cls K C) : Cls K' C := by
  refine ⟨?_, any_mono h c.hd, any_mono h c.po, find_mono h c.sa⟩
  obtain ⟨a, b⟩ := Bool.and_eq_true_iff.mp (show (findIn K (.ref C) "__getattribute__" == some (some (.builtin "object.__getattribute__")) && findIn K (.ref C) "__getattr__" == some none) = true from c.pg)
  show (findIn K' (.ref C) "__getattribute__" == some (some (.builtin "object.__getattribute__")) && findIn K' (.ref C) "__getattr__" == some none) = true
  exact Bool.and_eq_true_iff.mpr ⟨eqS_mono h (find_mono h) a, eqS_mono h (find_mono h) b⟩
theorem NoAttr.mono {C : Addr} {f : Str} (n : NoAttr K C f) : NoAttr K' C f := find_mono h n
theorem Meth.mono {C f : Addr} {m : Str} (n : Meth K C m f) : Meth K' C m f := ⟨find_mono h n.at_, isFn_mono h n.fn, keep_mono h n.kp⟩
theorem Mk.mono {C f : Addr} (n : Mk K C f) : Mk K' C f := ⟨makes_mono h n.makes, find_mono h n.init, isFn_mono h n.fn, keep_mono h n.kp⟩
end
end Hd
end
noncomputable section
namespace Hd
open PySem PySem.Spec PySem.W PySem.Calls PyProof.Rows L2 HandSHeadRun He
/-! ### what is looked at behind a piece: n objects of contents f, the module's dict at 3 -/
def valF (f : Nat → Obj) (i : Nat) : Value := match f 3 with
  | ⟨_, _, .dict es _, _⟩ => match es.toList[i]? with
    | some e => e.val
    | none => .none
  | _ => .none
/-- the two objects that the top writes at: the module's dict, its code's places -/
def isOff (a : Nat) : Bool := match Nat.beq a 3 with
  | true => true
  | false => Nat.beq a 12
theorem isOff_of {a : Nat} (h : isOff a = false) : a ≠ 3 ∧ a ≠ 12 := by
  unfold isOff at h
  cases q : Nat.beq a 3 with
  | true =>
    rw [q] at h
    cases h
  | false =>
    rw [q] at h
    exact ⟨Nat.ne_of_beq_eq_false q, Nat.ne_of_beq_eq_false h⟩
theorem nbeq_false {a b : Nat} (h : a ≠ b) : Nat.beq a b = false := by
  cases q : Nat.beq a b with
  | false => rfl
  | true => exact absurd (Nat.eq_of_beq_eq_true q) h
theorem of_isOff {a : Nat} (h3 : a ≠ 3) (h12 : a ≠ 12) : isOff a = false := by
  unfold isOff
  rw [nbeq_false h3]
  exact nbeq_false h12
/-- the objects, but those two -/
def gF (n : Nat) (f : Nat → Obj) (a : Addr) : Option Obj := match isOff a with
  | true => none
  | false => match Nat.blt a n with
    | true => alive (f a)
    | false => none
def Un (K : Frag) (g : Addr → Option Obj) : Prop := ∀ a o, K.lookup a = some o → g a = some o
def okA (K : Frag) (f : Addr) (qual : Str) (dvs : List V) (kws : List (Str × V)) : Bool := keepIn K (.ref f) && (match K.lookup f with
  | some ⟨_, _, .func fd, _⟩ => codeIn K fd.code qual && (dflB K fd.defaults dvs && kwdB K fd.kwdefaults kws)
  | _ => false)
def fnA (K : Frag) (f : Addr) : FnW := match K.lookup f with
  | some ⟨_, _, .func fd, _⟩ => some (fd.name, fd.qualname, fd.params, fd.body, fd.scope, fd.globals, fd.closure, fd.builtins)
  | _ => none
def valA (x qual : Str) (st : Stmt) : FnW := some (x, qual, defArgs st, .stmts (defBody st), defScope st, mainGlobals, [], builtinsNs)
theorem fnA_ok {K : Frag} {f : Addr} {x qual : Str} {st : Stmt} {dvs : List V} {kws : List (Str × V)} (e : fnA K f = valA x qual st) (c : okA K f qual dvs kws = true) : ∃ fd, FunD K x qual (defArgs st) (defBody st) (defScope st) dvs kws f fd := by
  obtain ⟨kp, c2⟩ := ba c
  unfold fnA valA at e
  cases q : K.lookup f with
  | none =>
    rw [q] at c2
    cases c2
  | some o =>
    obtain ⟨oc, od, dt, osl⟩ := o
    rw [q] at c2 e
    cases dt with
    | func fd =>
      obtain ⟨n1, n2, n3, n4, n5, n6, n7, n8, n9, n10, n11, n12, n13, n14, n15⟩ := fd
      have e2 : (some (n1, n2, n3, n4, n5, n6, n7, n15) : FnW) = some (x, qual, defArgs st, .stmts (defBody st), defScope st, mainGlobals, [], builtinsNs) := e
      simp only [Option.some.injEq, Prod.mk.injEq] at e2
      obtain ⟨h1, h2, h3, h4, h5, h6, h7, h8⟩ := e2
      have c3 : (codeIn K n13 qual && (dflB K n8 dvs && kwdB K n9 kws)) = true := c2
      obtain ⟨k1, k2⟩ := ba c3
      obtain ⟨k3, k4⟩ := ba k2
      subst h1 h2 h3 h4 h5 h6 h7 h8
      exact ⟨_, ⟨oc, od, n8, n9, n10, n11, n12, n13, n14, osl, rfl, q, k1, dflB_ok k3, kwdB_ok k4⟩, kp⟩
    | _ => cases c2
/-- a def under a global's name: the place of its name, its name, its text -/
structure FSpec where
  i : Nat
  x : Str
  st : Stmt
def FSpec.obs (n : Nat) (f : Nat → Obj) (d : FSpec) : Option (Bool × FnW) := match valF f d.i with
  | .ref a => some (okA (frG (gF n f) (growD (gF n f) [a])) a d.x [] [], fnA (frG (gF n f) (growD (gF n f) [a])) a)
  | _ => none
def FSpec.val (d : FSpec) : Option (Bool × FnW) := some (true, valA d.x d.x d.st)
def FSpec.Is (n : Nat) (f : Nat → Obj) (d : FSpec) : Prop := ∃ a K fd, valF f d.i = .ref a ∧ Un K (gF n f) ∧ FunD K d.x d.x (defArgs d.st) (defBody d.st) (defScope d.st) [] [] a fd
theorem un_frG {g : Addr → Option Obj} {as : List Addr} : Un (frG g as) g := fun _ _ e => frG_at as e
theorem FSpec.of {n : Nat} {f : Nat → Obj} {d : FSpec} (h : d.obs n f = d.val) : d.Is n f := by
  unfold FSpec.obs FSpec.val at h
  cases q : valF f d.i with
  | ref a =>
    rw [q] at h
    have h2 := Option.some.inj h
    simp only [Prod.mk.injEq] at h2
    obtain ⟨h3, h4⟩ := h2
    obtain ⟨fd, F⟩ := fnA_ok h4 h3
    exact ⟨a, _, fd, q, un_frG, F⟩
  | _ =>
    rw [q] at h
    cases h
/-- a class: the place of its name, names that it has not, its methods (name, qualified name, text, keyword defaults), the first is __init__ -/
structure MSpec where
  m : Str
  qual : Str
  st : Stmt
  kws : List (Str × V) := []
  dvs : List V := []
structure CSpec where
  i : Nat
  no : List Str
  init : MSpec
  ms : List MSpec
def clsB (K : Frag) (C : Addr) : Bool := plainGet K C Str.empty && (hasDictIn K C && (plainOver K C && eqO (findIn K (.ref C) "__setattr__") (some (some (.builtin "object.__setattr__")))))
def methB (K : Frag) (C : Addr) (m : Str) : Bool := eqO (findIn K (.ref C) m) (some (some (.ref (ma K C m)))) && (isFn K (.ref (ma K C m)) && keepIn K (.ref (ma K C m)))
def mkB (K : Frag) (C : Addr) : Bool := makesIn K C && (eqO (findIn K (.ref C) "__init__") (some (some (.ref (ma K C "__init__")))) && (isFn K (.ref (ma K C "__init__")) && keepIn K (.ref C)))
theorem clsB_ok {K : Frag} {C : Addr} (c : clsB K C = true) : Cls K C := by
  obtain ⟨c1, c⟩ := ba c
  obtain ⟨c2, c⟩ := ba c
  obtain ⟨c3, c4⟩ := ba c
  exact ⟨c1, c2, c3, eqO_ok c4⟩
theorem methB_ok {K : Frag} {C : Addr} {m : Str} (c : methB K C m = true) : Meth K C m (ma K C m) := by
  obtain ⟨c1, c⟩ := ba c
  obtain ⟨c2, c3⟩ := ba c
  exact ⟨eqO_ok c1, c2, c3⟩
theorem mkB_ok {K : Frag} {C : Addr} (c : mkB K C = true) : Mk K C (ma K C "__init__") := by
  obtain ⟨c1, c⟩ := ba c
  obtain ⟨c2, c⟩ := ba c
  obtain ⟨c3, c4⟩ := ba c
  exact ⟨c1, eqO_ok c2, c3, c4⟩
def CSpec.b (d : CSpec) (K : Frag) (C : Addr) : Bool := clsB K C && (mkB K C && (d.no.all (fun x => eqO (findIn K (.ref C) x) (some none)) && (okA K (ma K C "__init__") d.init.qual d.init.dvs d.init.kws && d.ms.all fun m => methB K C m.m && okA K (ma K C m.m) m.qual m.dvs m.kws)))
def CSpec.v (d : CSpec) (K : Frag) (C : Addr) : FnW × List FnW := (fnA K (ma K C "__init__"), d.ms.map fun m => fnA K (ma K C m.m))
def CSpec.frag (n : Nat) (f : Nat → Obj) (C : Addr) : Frag := frG (gF n f) (growD (gF n f) (growD (gF n f) (growD (gF n f) [C])))
def CSpec.obs (n : Nat) (f : Nat → Obj) (d : CSpec) : Option (Bool × FnW × List FnW) := match valF f d.i with
  | .ref C => some (d.b (CSpec.frag n f C) C, d.v (CSpec.frag n f C) C)
  | _ => none
def CSpec.val (d : CSpec) : Option (Bool × FnW × List FnW) := some (true, valA "__init__" d.init.qual d.init.st, d.ms.map fun m => valA m.m m.qual m.st)
structure CSpec.At (d : CSpec) (K : Frag) (C : Addr) : Prop where
  cls : Cls K C
  init : ∃ f fd, Mk K C f ∧ FunD K "__init__" d.init.qual (defArgs d.init.st) (defBody d.init.st) (defScope d.init.st) d.init.dvs d.init.kws f fd
  no : ∀ x ∈ d.no, NoAttr K C x
  ms : ∀ m ∈ d.ms, ∃ f fd, Meth K C m.m f ∧ FunD K m.m m.qual (defArgs m.st) (defBody m.st) (defScope m.st) m.dvs m.kws f fd
theorem CSpec.At.mono {d : CSpec} {K K' : Frag} {C : Addr} (h : Le K K') (c : d.At K C) : d.At K' C := by
  obtain ⟨c1, ⟨f, fd, m, F⟩, c3, c4⟩ := c
  refine ⟨Cls.mono h c1, ⟨f, fd, Mk.mono h m, FunD.mono h F⟩, fun x hx => NoAttr.mono h (c3 x hx), fun m hm => ?_⟩
  obtain ⟨f, fd, a, b⟩ := c4 m hm
  exact ⟨f, fd, Meth.mono h a, FunD.mono h b⟩
theorem CSpec.at_of {d : CSpec} {K : Frag} {C : Addr} (h3 : d.b K C = true) (h4 : fnA K (ma K C "__init__") = valA "__init__" d.init.qual d.init.st) (h5 : (d.ms.map fun m => fnA K (ma K C m.m)) = d.ms.map fun m => valA m.m m.qual m.st) : d.At K C := by
  unfold CSpec.b at h3
  obtain ⟨a1, h3⟩ := ba h3
  obtain ⟨a2, h3⟩ := ba h3
  obtain ⟨a3, h3⟩ := ba h3
  obtain ⟨a4, a5⟩ := ba h3
  obtain ⟨fd, F⟩ := fnA_ok h4 a4
  refine ⟨clsB_ok a1, ⟨_, fd, mkB_ok a2, F⟩, fun x hx => eqO_ok (List.all_eq_true.mp a3 x hx), fun m hm => ?_⟩
  obtain ⟨b1, b2⟩ := ba (List.all_eq_true.mp a5 m hm)
  obtain ⟨fd, F⟩ := fnA_ok (List.map_inj_left.mp h5 m hm) b2
  exact ⟨_, fd, methB_ok b1, F⟩
def CSpec.Is (n : Nat) (f : Nat → Obj) (d : CSpec) : Prop := ∃ C K, valF f d.i = .ref C ∧ Un K (gF n f) ∧ d.At K C
theorem CSpec.of {n : Nat} {f : Nat → Obj} {d : CSpec} (h : d.obs n f = d.val) : d.Is n f := by
  unfold CSpec.obs CSpec.val at h
  cases q : valF f d.i with
  | ref C =>
    rw [q] at h
    have h2 := Option.some.inj h
    unfold CSpec.v at h2
    simp only [Prod.mk.injEq] at h2
    obtain ⟨h3, h4, h5⟩ := h2
    exact ⟨C, CSpec.frag n f C, q, un_frG, CSpec.at_of h3 h4 h5⟩
  | _ =>
    rw [q] at h
    cases h
/-! ### constants, tuples, tables -/
def SameB (n : Nat) (f : Nat → Obj) (i : Nat) : Bool := match valF f i with
  | .ref a => match gF n f a with
    | some ⟨.type c, _, .seq its _, _⟩ => match its.toList with
      | .ref o :: .ref z :: r => match gF n f o, gF n f z with
        | some ⟨.type c1, _, .seq i1 _, _⟩, some ⟨.type c2, _, .seq i2 _, _⟩ => decide (c = "tuple") && (decide (c1 = "tuple") && (decide (c2 = "tuple") && (decide (its.size ≤ sizeLine) && (decide (i1.size ≤ sizeLine) && (decide (i2.size ≤ sizeLine) &&
          (relAll [.ref z, .ref o, .ref z, .ref z] r && (relAll [.int 1, .int 1] i1.toList && relAll [.int 0, .int 1] i2.toList)))))))
        | _, _ => false
      | _ => false
    | _ => false
  | _ => false
def SameIs (K : Frag) (v : Value) : Prop := ∃ a o z, v = .ref a ∧ ∀ H, SqT K H a [.ref o, .ref z, .ref z, .ref o, .ref z, .ref z] ∧ SqT K H o [.int 1, .int 1] ∧ SqT K H z [.int 0, .int 1]
theorem SameB_ok {n : Nat} {f : Nat → Obj} {i : Nat} {K : Frag} (h : SameB n f i = true) (hK : ∀ a o, gF n f a = some o → K.lookup a = some o) : SameIs K (valF f i) := by
  unfold SameB at h
  split at h
  · rename_i a hv
    split at h
    · rename_i c od its ep sl ha
      split at h
      · rename_i o z r hl
        split at h
        · rename_i c1 d1 i1 e1 s1 c2 d2 i2 e2 s2 ho hz
          obtain ⟨k1, h⟩ := ba h
          obtain ⟨k2, h⟩ := ba h
          obtain ⟨k3, h⟩ := ba h
          obtain ⟨k4, h⟩ := ba h
          obtain ⟨k5, h⟩ := ba h
          obtain ⟨k6, h⟩ := ba h
          obtain ⟨k7, h⟩ := ba h
          obtain ⟨k8, k9⟩ := ba h
          refine ⟨a, o, z, hv, fun H => ⟨.inr ⟨_, its, ep, hK _ _ ha, congrArg Value.type (of_decide_eq_true k1), rfl, of_decide_eq_true k4, ?_⟩, .inr ⟨_, i1, e1, hK _ _ ho, congrArg Value.type (of_decide_eq_true k2), rfl, of_decide_eq_true k5, relAll_ok k8⟩,
            .inr ⟨_, i2, e2, hK _ _ hz, congrArg Value.type (of_decide_eq_true k3), rfl, of_decide_eq_true k6, relAll_ok k9⟩⟩⟩
          rw [hl]
          exact .cons rfl (.cons rfl (relAll_ok k7))
        · cases h
      · cases h
    · cases h
  · cases h
/-- a table of the top: a dict with text keys -/
def keyS (e : DictEntry) : Option Str := match e.key with
  | .str x _ => some x
  | _ => none
abbrev TabV : Type := Option (Bool × List (Option Str) × List Int)
def tabO (n : Nat) (f : Nat → Obj) (i : Nat) (look : Frag → Addr → Bool) : TabV := match valF f i with
  | .ref d => match gF n f d with
    | some ⟨.type c, none, .dict es _, sl⟩ => some (decide (c = "dict") && (sl.toList.isEmpty && (!(Nat.beq d 1) && look (frG (gF n f) [d]) d)), es.toList.map keyS, es.toList.map (·.hash))
    | _ => none
  | _ => none
theorem keysLit_of {P : Params} : ∀ {es : List DictEntry} {ns : List Str}, es.map keyS = ns.map some → es.map (·.hash) = ns.map (PyData.keyHash P) → KeysLit P es
  | [], _, _, _ => trivial
  | e :: es, [], h, _ => by cases h
  | e :: es, x :: ns, h1, h2 => by
    simp only [List.map_cons, List.cons.injEq] at h1 h2
    obtain ⟨a1, a2⟩ := h1
    obtain ⟨b1, b2⟩ := h2
    refine ⟨⟨x, ?_⟩, keysLit_of a2 b2⟩
    unfold keyS at a1
    split at a1
    · rename_i y t ek
      cases a1
      exact ⟨t, ek, b1⟩
    · cases a1
/-- a table, found; its hashes apart -/
def TabIs (n : Nat) (f : Nat → Obj) (i : Nat) (ns : List Str) (hs : List Int) (look : Frag → Addr → Bool) : Prop :=
  ∃ d es ep K, valF f i = .ref d ∧ Un K (gF n f) ∧ K.lookup d = some ⟨.type "dict", none, .dict es ep, #[]⟩ ∧ es.toList.map keyS = ns.map some ∧ es.toList.map (·.hash) = hs ∧ (d == sysModules) = false ∧ look K d = true
theorem tabO_ok {n : Nat} {f : Nat → Obj} {i : Nat} {look : Frag → Addr → Bool} {ns : List Str} {hs : List Int} (h : tabO n f i look = some (true, ns.map some, hs)) : TabIs n f i ns hs look := by
  unfold tabO at h
  split at h
  · rename_i d hv
    split at h
    · rename_i c es ep sl hd
      have h1 := Option.some.inj h
      simp only [Prod.mk.injEq] at h1
      obtain ⟨h1, h2, h3⟩ := h1
      obtain ⟨k1, h1⟩ := ba h1
      obtain ⟨k2, h1⟩ := ba h1
      obtain ⟨k3, k4⟩ := ba h1
      refine ⟨d, es, ep, frG (gF n f) [d], hv, un_frG, ?_, h2, h3, ?_, k4⟩
      · have e : frG (gF n f) [d] = [(d, ⟨.type c, none, .dict es ep, sl⟩)] := by
          unfold frG
          rw [List.filterMap_cons, hd]
          rfl
        rw [e]
        have es0 : sl = #[] := by
          obtain ⟨l⟩ := sl
          cases l with
          | nil => rfl
          | cons _ _ => cases k2
        rw [es0, of_decide_eq_true k1]
        show (match d == d with | true => some _ | false => _) = _
        rw [beq_iff_eq.mpr rfl]
      · have : Nat.beq d 1 = false := by
          cases q : Nat.beq d 1 with
          | false => rfl
          | true =>
            rw [q] at k3
            cases k3
        exact beq_eq_false_iff_ne.mpr (Nat.ne_of_beq_eq_false this)
    · cases h
  · cases h
theorem KDict.mono {K K' : Frag} {w : World} {d : Addr} {es : Array DictEntry} {n : Nat} (h : Le K K') (k : KDict K w d es n) : KDict K' w d es n := ⟨h _ _ k.at_, k.lit, k.low⟩
end Hd
end
noncomputable section
namespace Hd
open PySem PySem.Spec PySem.W PySem.Calls PyProof.Rows L2 HandSHeadRun He
/-! ### the module's dict of given names -/
def entsOf : List Str → Nat → (Nat → Int) → (Nat → Nat) → (Nat → Value) → List DictEntry
  | [], _, _, _, _ => []
  | x :: r, i, h, tk, v => ⟨h i, .str x (tk i), v i⟩ :: entsOf r (i + 1) h tk v
def mdO (ns : List Str) (h : Nat → Int) (tk : Nat → Nat) (v : Nat → Value) (ep : Nat) : Obj := ⟨.type "dict", none, .dict ⟨entsOf ns 0 h tk v⟩ ep, #[]⟩
def tokOf (e : DictEntry) : Nat := match e.key with
  | .str _ t => t
  | _ => 0
theorem ents_of : ∀ {es : List DictEntry} {ns : List Str} {k : Nat} {h : Nat → Int} {tk : Nat → Nat} {v : Nat → Value}, es.map keyS0 = ns.map some → (∀ i e, es[i]? = some e → h (k + i) = e.hash ∧ tk (k + i) = tokOf e ∧ v (k + i) = e.val) → es = entsOf ns k h tk v
  | [], [], _, _, _, _, _, _ => rfl
  | [], _ :: _, _, _, _, _, h, _ => by cases h
  | _ :: _, [], _, _, _, _, h, _ => by cases h
  | ⟨eh, ek, ev⟩ :: es, x :: ns, k, h, tk, v, h1, h2 => by
    simp only [List.map_cons, List.cons.injEq] at h1
    obtain ⟨a1, a2⟩ := h1
    obtain ⟨b1, b2, b3⟩ := h2 0 _ rfl
    have r : es = entsOf ns (k + 1) h tk v := ents_of a2 fun i e he => by
      have := h2 (i + 1) e he
      rwa [show k + (i + 1) = k + 1 + i by omega] at this
    unfold keyS0 at a1
    split at a1
    · rename_i y t eq
      cases a1
      dsimp only at eq
      subst eq
      show _ = ⟨h k, .str x (tk k), v k⟩ :: entsOf ns (k + 1) h tk v
      rw [← r]
      rw [Nat.add_zero] at b1 b2 b3
      rw [b1, b2, b3]
      rfl
    · cases a1
theorem ents_find {h : Nat → Int} {tk : Nat → Nat} {v : Nat → Value} {x : Str} : ∀ {ns : List Str} {k : Nat}, (entsOf ns k h tk v).find? (·.key.isStr x) = (ns.findIdx? (· == x)).map fun j => ⟨h (k + j), .str (ns.getD j x) (tk (k + j)), v (k + j)⟩
  | [], _ => rfl
  | y :: ns, k => by
    show (⟨h k, .str y (tk k), v k⟩ :: entsOf ns (k + 1) h tk v).find? (·.key.isStr x) = _
    rw [List.find?_cons, List.findIdx?_cons]
    show (match y == x with | true => _ | false => _) = _
    cases q : y == x with
    | true => simp
    | false =>
      simp only [Bool.false_eq_true, if_false]
      rw [ents_find, Option.map_map]
      congr 1
      funext j
      simp only [Function.comp]
      rw [show k + 1 + j = k + (j + 1) by omega]
      rfl
theorem ents_refKey {h : Nat → Int} {tk : Nat → Nat} {v : Nat → Value} : ∀ {ns : List Str} {k : Nat}, (entsOf ns k h tk v).any (·.refKey) = false
  | [], _ => rfl
  | y :: ns, k => by
    show (DictEntry.refKey ⟨h k, .str y (tk k), v k⟩ || (entsOf ns (k + 1) h tk v).any (·.refKey)) = false
    rw [ents_refKey]
    rfl
/-! ### the places of the text's code -/
def flatP : List (Int × Int) → Nat → (Nat → Value) → List Value
  | [], _, _ => []
  | (l, k) :: r, i, c => .int l 0 :: .int k 0 :: c i :: flatP r (i + 1) c
def plO (ps : List (Int × Int)) (c : Nat → Value) : Obj := ⟨.none, none, .fields ⟨flatP ps 0 c⟩, #[]⟩
def unP : List Value → Option (List (Int × Int))
  | [] => some []
  | .int l 0 :: .int k 0 :: _ :: r => (match unP r with
    | some q => some ((l, k) :: q)
    | none => none)
  | _ => none
def plAt (T : BT) : Option (List (Int × Int)) := match T.get 12 with
  | some ⟨.none, none, .fields vs, sl⟩ => match sl.toList with
    | [] => unP vs.toList
    | _ => none
  | _ => none
def PlIs (ps : List (Int × Int)) (f : Nat → Obj) : Prop := ∃ c, f 12 = plO ps c
theorem unP_of : ∀ {vs : List Value} {ps : List (Int × Int)}, unP vs = some ps → ∀ k : Nat, ∃ c, vs = flatP ps k c := by
  intro vs
  induction vs using unP.induct with
  | case1 => 
    intro ps h k
    cases h
    exact ⟨fun _ => .none, rfl⟩
  | case2 l m v r q e ih =>
    intro ps h k
    have h : (match unP r with | some q => some ((l, m) :: q) | none => none) = some ps := h
    rw [e] at h
    cases h
    obtain ⟨c, hc⟩ := ih e (k + 1)
    refine ⟨fun i => match Nat.beq i k with | true => v | false => c i, ?_⟩
    have hf : ∀ (ps : List (Int × Int)) (j : Nat), k < j → flatP ps j c = flatP ps j (fun i => match Nat.beq i k with | true => v | false => c i) := by
      intro ps
      induction ps with
      | nil => intros; rfl
      | cons a ps ihp =>
        intro j hj
        obtain ⟨a1, a2⟩ := a
        show _ :: _ :: _ :: _ = _ :: _ :: _ :: _
        rw [ihp (j + 1) (by omega)]
        dsimp only
        rw [nbeq_false (show j ≠ k by omega)]
    show _ = _ :: _ :: _ :: _
    rw [← hf _ (k + 1) (by omega), ← hc]
    dsimp only
    rw [show Nat.beq k k = true from Nat.beq_refl k]
  | case3 l m v r e ih =>
    intro ps h k
    have h : (match unP r with | some q => some ((l, m) :: q) | none => none) = some ps := h
    rw [e] at h
    cases h
  | case4 t h1 h2 =>
    intro ps h k
    unfold unP at h
    split at h
    · exact absurd rfl h1
    · rename_i l m v r
      exact absurd rfl (h2 l m v r)
    · cases h
theorem pl_of {T : BT} {ps : List (Int × Int)} (h : plAt T = some ps) : PlIs ps (cont T) := by
  unfold plAt at h
  split at h
  · rename_i vs sl hT
    split at h
    · rename_i hs
      obtain ⟨c, hc⟩ := unP_of h 0
      refine ⟨c, ?_⟩
      unfold cont
      rw [hT]
      unfold plO
      rw [← hc]
      obtain ⟨l⟩ := sl
      cases hs
      rfl
    · cases h
  · cases h
/-! ### values of the module's dict that a piece must see -/
/-- what the boot has under the module's i-th name -/
def bv (w : World) (i : Nat) : Value := valF (bootF w) i
/-- the places of names that the boot laid -/
def lz : List Nat := [2, 3, 4, 7, 8]
def vx (w : World) (x0 : Str) (t0 : Nat) (v : Nat → Value) (i : Nat) : Value := match i with
  | 0 => .str x0 t0
  | 2 => bv w 2
  | 3 => bv w 3
  | 4 => bv w 4
  | 5 => .ref 6
  | 6 => .ref 4
  | 7 => bv w 7
  | 8 => bv w 8
  | _ => v i
def nmB (f : Nat → Obj) (x0 : Str) : Bool := match valF f 0 with
  | .str x _ => decide (x = x0) && (match valF f 5 with
    | .ref a => Nat.beq a 6
    | _ => false) && (match valF f 6 with
    | .ref a => Nat.beq a 4
    | _ => false)
  | _ => false
theorem nmB_ok {w : World} {f : Nat → Obj} {x0 : Str} (h : nmB f x0 = true) (hz : ∀ i ∈ lz, valF f i = bv w i) : ∃ t0, vx w x0 t0 (valF f) = valF f := by
  unfold nmB at h
  split at h
  · rename_i x t h0
    obtain ⟨h, h2⟩ := ba h
    obtain ⟨h, h1⟩ := ba h
    have ex := of_decide_eq_true h
    subst ex
    refine ⟨t, ?_⟩
    split at h1
    · rename_i a h5
      split at h2
      · rename_i b h6
        have ea := Nat.eq_of_beq_eq_true h1
        have eb := Nat.eq_of_beq_eq_true h2
        subst ea eb
        funext i
        unfold vx
        split
        · exact h0.symm
        · exact (hz 2 (by decide)).symm
        · exact (hz 3 (by decide)).symm
        · exact (hz 4 (by decide)).symm
        · exact h5.symm
        · exact h6.symm
        · exact (hz 7 (by decide)).symm
        · exact (hz 8 (by decide)).symm
        · rfl
      · cases h2
    · cases h1
  · cases h
/-! ### a state of given contents -/
def fx (w : World) (os : OsState) (md pl : Obj) (f : Nat → Obj) (a : Nat) : Obj := match Nat.blt a 15 with
  | true => match Nat.beq a 3 with
    | true => md
    | false => match Nat.beq a 12 with
      | true => pl
      | false => bF w os a
  | false => f a
def stE (w : World) (n : Nat) (f : Nat → Obj) (k : Nat) (os : OsState) : SharedT := ⟨T12 f n, n, (boot_heap w.params).life, #[], boot_drawn, k, os⟩
def Kept (n : Nat) (f f' : Nat → Obj) : Prop := ∀ a, a < n → isOff a = false → f' a = f a
theorem Kept.trans {n n' : Nat} {f f' f'' : Nat → Obj} (h : n ≤ n') (a : Kept n f f') (b : Kept n' f' f'') : Kept n f f'' := fun i hi ho => (b i (Nat.lt_of_lt_of_le hi h) ho).trans (a i hi ho)
theorem Kept.gF {n n' : Nat} {f f' : Nat → Obj} (h : n ≤ n') (k : Kept n f f') {a : Addr} {o : Obj} (e : gF n f a = some o) : gF n' f' a = some o := by
  unfold Hd.gF at e ⊢
  cases q : isOff a with
  | true =>
    rw [q] at e
    cases e
  | false =>
    rw [q] at e
    cases b : Nat.blt a n with
    | false =>
      rw [b] at e
      cases e
    | true =>
      rw [b] at e
      have lt := Nat.le_of_ble_eq_true b
      rw [show Nat.blt a n' = true from Nat.ble_eq_true_of_le (Nat.le_trans lt h)]
      show alive (f' a) = some o
      rw [k a lt q]
      exact e
def offT (T : BT) (a : Nat) : Obj := match isOff a with
  | true => default
  | false => cont T a
def offF (f : Nat → Obj) (a : Nat) : Obj := match isOff a with
  | true => default
  | false => f a
theorem kept_of {T : BT} {f : Nat → Obj} {n : Nat} (hn : n ≤ 4094) (e : T12 (offT T) n = T12 (offF f) n) : Kept n f (cont T) := fun a ha h3 => by
  have e2 : (T12 (offT T) n).get a = (T12 (offF f) n).get a := by rw [e]
  rw [T12_get hn ha, T12_get hn ha] at e2
  have e3 := Option.some.inj e2
  unfold offT offF at e3
  rw [h3] at e3
  exact e3
theorem fx_eq {w : World} {os : OsState} {md pl : Obj} {f : Nat → Obj} (h3 : f 3 = md) (h12 : f 12 = pl) (hb : Kept 15 (bF w os) f) : fx w os md pl f = f := by
  funext a
  unfold fx
  cases q : Nat.blt a 15 with
  | false => rfl
  | true =>
    cases b : Nat.beq a 3 with
    | true =>
      have e := Nat.eq_of_beq_eq_true b
      subst e
      exact h3.symm
    | false =>
      cases b2 : Nat.beq a 12 with
      | true =>
        have e := Nat.eq_of_beq_eq_true b2
        subst e
        exact h12.symm
      | false => exact (hb a (Nat.le_of_ble_eq_true q) (of_isOff (Nat.ne_of_beq_eq_false b) (Nat.ne_of_beq_eq_false b2))).symm
/-! ### what a piece leaves -/
abbrev CoreT : Type := Nat × Code × Life × Array GenState × Drawn × OsState × Option (List (Option Str)) × Option (List (Int × Int)) × BT × List Value
def coreO (n0 : Nat) (is : List Nat) (r : SharedT × Code × Pos) : CoreT := (r.1.n, r.2.1, r.1.life, r.1.gens, r.1.drawn, r.1.os, keysAt r.1.tree 3, plAt r.1.tree, T12 (offT r.1.tree) n0, is.map (valF (cont r.1.tree)))
def coreV (w : World) (os : OsState) (n1 : Nat) (names : List Str) (ps : List (Int × Int)) (n0 : Nat) (f : Nat → Obj) (is : List Nat) (v : Nat → Value) : CoreT := (n1, cE, (boot_heap w.params).life, #[], boot_drawn, os, some (names.map some), some ps, T12 (offF f) n0, is.map v)
def MdIs (names : List Str) (f : Nat → Obj) : Prop := ∃ h tk ep, f 3 = mdO names h tk (valF f) ep
theorem md_of {T : BT} {names : List Str} (h : keysAt T 3 = some (names.map some)) : MdIs names (cont T) := by
  unfold keysAt at h
  split at h
  · rename_i es ep sl hT
    split at h
    · rename_i hs
      have h1 := Option.some.inj h
      have c3 : cont T 3 = ⟨.type "dict", none, .dict es ep, sl⟩ := by
        unfold cont
        rw [hT]
      have hv : ∀ i e, es.toList[i]? = some e → valF (cont T) i = e.val := fun i e he => by
        unfold valF
        rw [c3]
        dsimp only
        rw [he]
      refine ⟨fun i => match es.toList[i]? with | some e => e.hash | none => 0, fun i => match es.toList[i]? with | some e => tokOf e | none => 0, ep, ?_⟩
      rw [c3]
      unfold mdO
      have e := ents_of (k := 0) (h := fun i => match es.toList[i]? with | some e => e.hash | none => 0) (tk := fun i => match es.toList[i]? with | some e => tokOf e | none => 0) (v := valF (cont T)) h1 fun i e he => by
        rw [Nat.zero_add]
        refine ⟨?_, ?_, hv i e he⟩
        · rw [he]
        · rw [he]
      rw [← e]
      obtain ⟨l⟩ := sl
      cases hs
      rfl
    · cases h
  · cases h
theorem core_ok {w : World} {os : OsState} {n0 n1 : Nat} {is : List Nat} {names : List Str} {ps : List (Int × Int)} {f : Nat → Obj} {v : Nat → Value} {s : SharedT} {c : Code} {p : Pos} (h : coreO n0 is (s, c, p) = coreV w os n1 names ps n0 f is v) (h0 : n0 ≤ 4094) (h1 : n1 ≤ 4094) :
    c = cE ∧ s.n = n1 ∧ s.abs = (stE w n1 (cont s.tree) s.toks os).abs ∧ MdIs names (cont s.tree) ∧ PlIs ps (cont s.tree) ∧ Kept n0 f (cont s.tree) ∧ ∀ i ∈ is, valF (cont s.tree) i = v i := by
  unfold coreO coreV at h
  simp only [Prod.mk.injEq] at h
  obtain ⟨e1, e2, e3, e4, e5, e6, e7, ep, e8, e9⟩ := h
  refine ⟨e2, e1, ?_, md_of e7, pl_of ep, kept_of h0 e8, fun i hi => List.map_inj_left.mp e9 i hi⟩
  obtain ⟨T, n, life, gens, drawn, toks, os'⟩ := s
  dsimp only at e1 e3 e4 e5 e6
  subst e1 e3 e4 e5 e6
  show (⟨absHeap T n (boot_heap w.params).life, #[], boot_drawn, toks, os'⟩ : Shared) = ⟨absHeap (T12 (cont T) n) n (boot_heap w.params).life, #[], boot_drawn, toks, os'⟩
  rw [← abs_T12 h1]
/-! ### the chain -/
abbrev bootA (w : World) (os : OsState) : Shared := ⟨boot_heap w.params, #[], boot_drawn, boot_toks, os⟩
abbrev topQ (w : World) (N : Nat) (s : Shared) (t : Thread) : Option Shared := topRun treeTable pr w 11 (some (.ref 6)) N s t
def Rch (w : World) (os : OsState) (N : Nat) (rest : List Stmt) (n : Nat) (names : List Str) (ps : List (Int × Int)) (f : Nat → Obj) : Prop :=
  MdIs names f ∧ PlIs ps f ∧ Kept 15 (bF w os) f ∧ (∀ i ∈ lz, valF f i = bv w i) ∧ ∃ k p, ∀ N' r, topQ w N' (stE w n f k os).abs (restOf rest envE cE p stkE) = some r → topQ w (N + N') (bootA w os) (topStub pr) = some r
theorem segQ_ok {w : World} {m : Nat} {l : List Stmt} {s s' : SharedT} {p q : Pos} {c : Code} (h : segQ w m l s p = some (s', c, q)) : segRun treeTable pr w 11 (some (.ref 6)) 1 m s.abs (piecesOf l envE cE p stkE) = some (.next, s'.abs, c, q) := by
  unfold segQ stpQ okE thrP at h
  rw [← stepQ_eq, ← denQ_eq, ← tabQ_eq, ← okQ_eq, ← execsQ_eq] at h
  exact segF_ok h
theorem blkQ_ok {w : World} {m : Nat} {s s' : SharedT} {p q : Pos} {c : Code} (h : blkQ w m s p = some (s', c, q)) : segRun treeTable pr w 11 (some (.ref 6)) 1 m s.abs (blockOf bE envE cE p stkE) = some (.next, s'.abs, c, q) := by
  unfold blkQ stpQ okE thrB at h
  rw [← stepQ_eq, ← denQ_eq, ← tabQ_eq, ← okQ_eq, ← blockQ_eq] at h
  exact segF_ok h
theorem next_ok {w : World} {os : OsState} {N n n' m : Nat} {l rest : List Stmt} {names names' : List Str} {ps ps' : List (Int × Int)} {f : Nat → Obj} {is : List Nat} {x0 : Str} {β : Type} {fo : Nat → (Nat → Obj) → β} {fv : β} (R : Rch w os N (l ++ rest) n names ps f) (nb : nmB f x0 = true) (hn : n ≤ 4094) (hn' : n' ≤ 4094) (hl : 15 ≤ n) (hz : ∀ i ∈ lz, i ∈ is)
    (C : ∀ (f : Nat → Obj) (h : Nat → Int) (tk : Nat → Nat) (t0 : Nat) (v c : Nat → Value) (ep k : Nat) (p : Pos), (segQ w m l (stE w n (fx w os (mdO names h tk (vx w x0 t0 v) ep) (plO ps c) f) k os) p).map (fun r => (coreO n is r, fo n' (cont r.1.tree))) = some (coreV w os n' names' ps' n (fx w os (mdO names h tk (vx w x0 t0 v) ep) (plO ps c) f) is (vx w x0 t0 v), fv)) :
    ∃ f', Rch w os (N + m) rest n' names' ps' f' ∧ Kept n f f' ∧ (∀ i ∈ is, valF f' i = valF f i) ∧ fo n' f' = fv := by
  obtain ⟨⟨h, tk, ep, e3⟩, ⟨c, e12⟩, kb, kz, k, p, R⟩ := R
  obtain ⟨t0, et⟩ := nmB_ok nb kz
  have D := C f h tk t0 (valF f) c ep k p
  rw [et, fx_eq e3 e12 kb] at D
  obtain ⟨⟨s, c, q⟩, h1, h2⟩ := Option.map_eq_some_iff.mp D
  simp only [Prod.mk.injEq] at h2
  obtain ⟨h2, h3⟩ := h2
  obtain ⟨ec, en, ea, em, epl, ek, ev⟩ := core_ok h2 hn hn'
  subst ec
  have g := segQ_ok h1
  refine ⟨cont s.tree, ⟨em, epl, fun a ha h3 => (ek a (Nat.lt_of_lt_of_le ha hl) h3).trans (kb a ha h3), fun i hi => (ev i (hz i hi)).trans (kz i hi), s.toks, q, fun N' r hr => ?_⟩, ek, ev, h3⟩
  rw [← ea] at hr
  have := R _ r (piece_app g hr)
  rwa [← Nat.add_assoc] at this
theorem first_ok {w : World} {os : OsState} {n' m : Nat} {l rest : List Stmt} {names' : List Str} {ps' : List (Int × Int)} {β : Type} {fo : Nat → (Nat → Obj) → β} {fv : β} (hb : bE = l ++ rest) (B : bootA w os = (bootS w os).abs) (T : (preQ w os).map (·.2) = some ⟨denQ tabQ cE, cE, default, stkE⟩) (T2 : ((preQ w os).bind fun r => blkQ w 60 r.1 r.2.pos).map (·.2.1) = some cE) (hn' : n' ≤ 4094)
    (C : (firstQ w os m l).map (fun r => (coreO 15 lz r, fo n' (cont r.1.tree))) = some (coreV w os n' names' ps' 15 (bF w os) lz (bv w), fv)) :
    ∃ f', Rch w os (60 + (60 + m)) rest n' names' ps' f' ∧ fo n' f' = fv := by
  obtain ⟨⟨s1, t1⟩, p1, p2⟩ := Option.map_eq_some_iff.mp T
  dsimp only at p2
  subst p2
  unfold firstQ at C
  rw [p1] at C
  dsimp only at C
  cases q2 : blkQ w 60 s1 default with
  | none =>
    rw [q2] at C
    cases C
  | some r2 =>
    obtain ⟨s2, c2, p⟩ := r2
    rw [q2] at C
    rw [p1] at T2
    dsimp only [Option.bind_some] at T2
    rw [q2] at T2
    have ec2 : c2 = cE := Option.some.inj T2
    subst ec2
    dsimp only at C
    obtain ⟨⟨s, c, q⟩, h1, h2⟩ := Option.map_eq_some_iff.mp C
    simp only [Prod.mk.injEq] at h2
    obtain ⟨h2, h3⟩ := h2
    obtain ⟨ec, en, ea, em, epl, ek, ev⟩ := core_ok h2 (by omega) hn'
    subst ec
    have g := segQ_ok h1
    have g2 := blkQ_ok q2
    refine ⟨cont s.tree, ⟨em, epl, fun a ha h3 => ek a ha h3, ev, s.toks, q, fun N' r hr => ?_⟩, h3⟩
    rw [← ea] at hr
    have r3 := piece_app g hr
    rw [← hb] at r3
    have r4 := piece_block g2 r3
    have p3 : preF (stepT (denote treeTable) pr w) (stepOk 11 (some (.ref 6))) 60 (bootS w os) (topStub pr) = some (s1, ⟨denote treeTable cE, cE, default, stkE⟩) := by
      unfold preQ stpQ okE at p1
      rw [← stepQ_eq, ← denQ_eq, ← tabQ_eq, ← okQ_eq] at p1
      exact p1
    have r5 := preF_ok p3 r4
    rw [← B] at r5
    rw [show 60 + (60 + m) + N' = 60 + (60 + (m + N')) by omega]
    exact r5
theorem last_ok {w : World} {os : OsState} {N n n' m : Nat} {l rest : List Stmt} {names names' : List Str} {ps ps' : List (Int × Int)} {f : Nat → Obj} {is : List Nat} {x0 : Str} {β γ δ : Type} {fo : Nat → (Nat → Obj) → β} {fv : β} {la : Shared → γ} {va : γ} {lb : Shared → δ} {vb : δ} (R : Rch w os N (l ++ rest) n names ps f) (nb : nmB f x0 = true) (hn : n ≤ 4094) (hn' : n' ≤ 4094)
    (C : ∀ (f : Nat → Obj) (h : Nat → Int) (tk : Nat → Nat) (t0 : Nat) (v c : Nat → Value) (ep k : Nat) (p : Pos), (segQ w m l (stE w n (fx w os (mdO names h tk (vx w x0 t0 v) ep) (plO ps c) f) k os) p).map (fun r => (coreO n is r, fo n' (cont r.1.tree))) = some (coreV w os n' names' ps' n (fx w os (mdO names h tk (vx w x0 t0 v) ep) (plO ps c) f) is (vx w x0 t0 v), fv))
    (CA : ∀ (f : Nat → Obj) (h : Nat → Int) (tk : Nat → Nat) (t0 : Nat) (v c : Nat → Value) (ep k : Nat) (p : Pos), (segQ w m l (stE w n (fx w os (mdO names h tk (vx w x0 t0 v) ep) (plO ps c) f) k os) p).map (fun r => la r.1.abs) = some va)
    (CB : ∀ (f : Nat → Obj) (h : Nat → Int) (tk : Nat → Nat) (t0 : Nat) (v c : Nat → Value) (ep k : Nat) (p : Pos), (segQ w m l (stE w n (fx w os (mdO names h tk (vx w x0 t0 v) ep) (plO ps c) f) k os) p).map (fun r => lb r.1.abs) = some vb) :
    ∃ f' k p, MdIs names' f' ∧ (∀ N' r, topQ w N' (stE w n' f' k os).abs (restOf rest envE cE p stkE) = some r → topQ w (N + m + N') (bootA w os) (topStub pr) = some r) ∧ Kept n f f' ∧ (∀ i ∈ is, valF f' i = valF f i) ∧ fo n' f' = fv ∧ la (stE w n' f' k os).abs = va ∧ lb (stE w n' f' k os).abs = vb := by
  obtain ⟨⟨h, tk, ep, e3⟩, ⟨c, e12⟩, kb, kz, k, p, R⟩ := R
  obtain ⟨t0, et⟩ := nmB_ok nb kz
  have D := C f h tk t0 (valF f) c ep k p
  have DA := CA f h tk t0 (valF f) c ep k p
  have DB := CB f h tk t0 (valF f) c ep k p
  rw [et, fx_eq e3 e12 kb] at D DA DB
  obtain ⟨⟨s, c, q⟩, h1, h2⟩ := Option.map_eq_some_iff.mp D
  rw [h1] at DA DB
  have ha : la s.abs = va := Option.some.inj DA
  have hb : lb s.abs = vb := Option.some.inj DB
  simp only [Prod.mk.injEq] at h2
  obtain ⟨h2, h3⟩ := h2
  obtain ⟨ec, en, ea, em, epl, ek, ev⟩ := core_ok h2 hn hn'
  subst ec
  have g := segQ_ok h1
  refine ⟨cont s.tree, s.toks, q, em, fun N' r hr => ?_, ek, ev, h3, ?_, ?_⟩
  · rw [← ea] at hr
    have := R _ r (piece_app g hr)
    rwa [← Nat.add_assoc] at this
  · rw [← ea]
    exact ha
  · rw [← ea]
    exact hb
end Hd
end
noncomputable section
namespace Hd
open PySem PySem.Spec PySem.W PySem.Calls PyProof.Rows L2 HandSHeadRun He Pg
def lookNo (K : Frag) (d : Addr) : Bool := opTab.all fun q => eqO (nsIn K d q.1) (some none)
def drawL : List (Str × Nat) := [("newpath", 105), ("moveto", 108), ("lineto", 109), ("closepath", 113), ("rect", 114), ("setink", 117), ("fill", 120), ("eofill", 121), ("clip", 123), ("eoclip", 124), ("initclip", 125), ("gsave", 126), ("grestore", 127), ("erase", 128)]
def isRef : Value → Bool
  | .ref _ => true
  | _ => false
def lookDraw (f : Nat → Obj) (K : Frag) (d : Addr) : Bool := drawL.all fun q => eqO (nsIn K d q.1) (some (some (valF f q.2))) && isRef (valF f q.2)
/-! ### names, what is looked at; printed by genhead.py -/
def nm1 : List Str := (["__name__", "__doc__", "__package__", "__loader__", "__spec__", "__annotations__", "__builtins__", "__file__", "__cached__", "_wall", "PageError", "NoNumber", "NoProgram", "NoPath", "NoSize", "NoSteps", "Busy", "Idle", "NoBack", "Fault", "FIGURES", "MOST", "is_whole", "common", "is_number", "need_number", "made", "plus", "minus", "times", "over", "is_less", "floor_of", "text_of", "figures", "tens", "read_number", "ONE", "ZERO", "SAME", "LESS", "HALF_TURN", "QUARTERS", "summed", "moved", "leant", "joined", "spread", "turned_back", "quarter", "MOST_OPERANDS", "Look", "World", "Save", "copied", "need", "need_space", "need_kinds", "taken", "whole_of", "count_of", "push_number"] : List String).map Str.ofString
def ps1 : List (Int × Int) := [(1, 0), (5, 0), (7, 0), (9, 0), (14, 0), (16, 0), (18, 0), (20, 0), (22, 0), (24, 0), (26, 0), (34, 0), (36, 0), (41, 0), (45, 0), (48, 0), (54, 0), (56, 0), (58, 0), (60, 0), (62, 0), (64, 0), (66, 0), (69, 0), (71, 0), (76, 0), (95, 0), (101, 0), (105, 0), (107, 0), (113, 0), (116, 0), (129, 0), (135, 0), (150, 0), (186, 0), (196, 0), (198, 0), (201, 0), (204, 0), (209, 0), (215, 0), (219, 0), (224, 0)]
def ls1 : List Stmt := (bE.drop 0).take 58
def nm2 : List Str := (["__name__", "__doc__", "__package__", "__loader__", "__spec__", "__annotations__", "__builtins__", "__file__", "__cached__", "_wall", "PageError", "NoNumber", "NoProgram", "NoPath", "NoSize", "NoSteps", "Busy", "Idle", "NoBack", "Fault", "FIGURES", "MOST", "is_whole", "common", "is_number", "need_number", "made", "plus", "minus", "times", "over", "is_less", "floor_of", "text_of", "figures", "tens", "read_number", "ONE", "ZERO", "SAME", "LESS", "HALF_TURN", "QUARTERS", "summed", "moved", "leant", "joined", "spread", "turned_back", "quarter", "MOST_OPERANDS", "Look", "World", "Save", "copied", "need", "need_space", "need_kinds", "taken", "whole_of", "count_of", "push_number", "Items", "Rounds", "Walk", "Each", "Fence", "do_exec", "do_if", "do_ifelse", "do_repeat", "do_loop", "do_for", "rows_of", "rows_of_flowops", "do_forall", "do_exit", "do_stop", "do_stopped", "TABLE_flowops"] : List String).map Str.ofString
def ps2 : List (Int × Int) := [(1, 0), (5, 0), (7, 0), (9, 0), (14, 0), (16, 0), (18, 0), (20, 0), (22, 0), (24, 0), (26, 0), (34, 0), (36, 0), (41, 0), (45, 0), (48, 0), (54, 0), (56, 0), (58, 0), (60, 0), (62, 0), (64, 0), (66, 0), (69, 0), (71, 0), (76, 0), (95, 0), (101, 0), (105, 0), (107, 0), (113, 0), (116, 0), (129, 0), (135, 0), (150, 0), (186, 0), (196, 0), (198, 0), (201, 0), (204, 0), (209, 0), (215, 0), (219, 0), (224, 0), (229, 0), (247, 0), (264, 0), (286, 0), (305, 0), (313, 0), (315, 0), (319, 0), (322, 0), (325, 0), (327, 0), (332, 0), (342, 0), (346, 0), (354, 0), (356, 0)]
def ls2 : List Stmt := (bE.drop 58).take 18
def nm3 : List Str := (["__name__", "__doc__", "__package__", "__loader__", "__spec__", "__annotations__", "__builtins__", "__file__", "__cached__", "_wall", "PageError", "NoNumber", "NoProgram", "NoPath", "NoSize", "NoSteps", "Busy", "Idle", "NoBack", "Fault", "FIGURES", "MOST", "is_whole", "common", "is_number", "need_number", "made", "plus", "minus", "times", "over", "is_less", "floor_of", "text_of", "figures", "tens", "read_number", "ONE", "ZERO", "SAME", "LESS", "HALF_TURN", "QUARTERS", "summed", "moved", "leant", "joined", "spread", "turned_back", "quarter", "MOST_OPERANDS", "Look", "World", "Save", "copied", "need", "need_space", "need_kinds", "taken", "whole_of", "count_of", "push_number", "Items", "Rounds", "Walk", "Each", "Fence", "do_exec", "do_if", "do_ifelse", "do_repeat", "do_loop", "do_for", "rows_of", "rows_of_flowops", "do_forall", "do_exit", "do_stop", "do_stopped", "TABLE_flowops", "THREE", "EIGHTH", "is_point", "is_part", "is_path", "need_path", "begun", "lined", "shut", "end_of", "mixed", "curve", "lowest", "greatest", "box_of", "MOST_INK", "need_room", "bent", "do_translate", "do_scale", "do_rotate", "do_concat", "do_transform", "do_itransform", "need_here", "do_newpath", "placed", "further", "do_moveto", "do_lineto", "do_rmoveto", "do_rlineto", "do_curveto", "do_closepath", "do_rect", "do_currentpoint", "do_pathbox", "do_setink", "do_setwidth", "ink_path", "do_fill", "do_eofill", "do_stroke", "do_clip", "do_eoclip", "do_initclip", "do_gsave", "do_grestore", "do_erase", "do_showpage", "Letters", "Shown", "letter", "do_setfont", "do_show", "do_stringwidth", "TABLE_drawops"] : List String).map Str.ofString
def ps3 : List (Int × Int) := [(1, 0), (5, 0), (7, 0), (9, 0), (14, 0), (16, 0), (18, 0), (20, 0), (22, 0), (24, 0), (26, 0), (34, 0), (36, 0), (41, 0), (45, 0), (48, 0), (54, 0), (56, 0), (58, 0), (60, 0), (62, 0), (64, 0), (66, 0), (69, 0), (71, 0), (76, 0), (95, 0), (101, 0), (105, 0), (107, 0), (113, 0), (116, 0), (129, 0), (135, 0), (150, 0), (186, 0), (196, 0), (198, 0), (201, 0), (204, 0), (209, 0), (215, 0), (219, 0), (224, 0), (229, 0), (247, 0), (264, 0), (286, 0), (305, 0), (313, 0), (315, 0), (319, 0), (322, 0), (325, 0), (327, 0), (332, 0), (342, 0), (346, 0), (354, 0), (356, 0), (364, 0), (366, 0), (371, 0), (373, 0), (376, 0), (380, 0), (385, 0), (387, 0), (392, 0), (398, 0), (411, 0), (416, 0), (421, 0), (430, 0), (434, 0), (439, 0), (442, 0), (445, 0), (448, 0), (456, 0), (461, 0), (467, 0), (472, 0), (474, 0), (476, 0), (479, 0), (483, 0), (488, 0), (492, 0), (496, 0), (503, 0), (505, 0), (514, 0), (520, 0), (524, 0), (529, 0), (534, 0), (539, 0), (541, 0), (543, 0), (545, 0), (548, 0), (551, 0), (553, 0), (555, 0), (558, 0), (560, 0), (563, 0), (587, 0), (605, 0), (615, 0), (617, 0), (621, 0)]
def ls3 : List Stmt := (bE.drop 76).take 59
def nm4 : List Str := (["__name__", "__doc__", "__package__", "__loader__", "__spec__", "__annotations__", "__builtins__", "__file__", "__cached__", "_wall", "PageError", "NoNumber", "NoProgram", "NoPath", "NoSize", "NoSteps", "Busy", "Idle", "NoBack", "Fault", "FIGURES", "MOST", "is_whole", "common", "is_number", "need_number", "made", "plus", "minus", "times", "over", "is_less", "floor_of", "text_of", "figures", "tens", "read_number", "ONE", "ZERO", "SAME", "LESS", "HALF_TURN", "QUARTERS", "summed", "moved", "leant", "joined", "spread", "turned_back", "quarter", "MOST_OPERANDS", "Look", "World", "Save", "copied", "need", "need_space", "need_kinds", "taken", "whole_of", "count_of", "push_number", "Items", "Rounds", "Walk", "Each", "Fence", "do_exec", "do_if", "do_ifelse", "do_repeat", "do_loop", "do_for", "rows_of", "rows_of_flowops", "do_forall", "do_exit", "do_stop", "do_stopped", "TABLE_flowops", "THREE", "EIGHTH", "is_point", "is_part", "is_path", "need_path", "begun", "lined", "shut", "end_of", "mixed", "curve", "lowest", "greatest", "box_of", "MOST_INK", "need_room", "bent", "do_translate", "do_scale", "do_rotate", "do_concat", "do_transform", "do_itransform", "need_here", "do_newpath", "placed", "further", "do_moveto", "do_lineto", "do_rmoveto", "do_rlineto", "do_curveto", "do_closepath", "do_rect", "do_currentpoint", "do_pathbox", "do_setink", "do_setwidth", "ink_path", "do_fill", "do_eofill", "do_stroke", "do_clip", "do_eoclip", "do_initclip", "do_gsave", "do_grestore", "do_erase", "do_showpage", "Letters", "Shown", "letter", "do_setfont", "do_show", "do_stringwidth", "TABLE_drawops", "apart", "fold", "edges", "dot", "way_of", "no_more", "is_near", "strokes", "lies_near", "MOST_SIDE", "is_between", "need_size", "middle", "crossings", "row_within", "row_near", "row_of", "ink_of", "rows_of_inking", "LETTERS", "WORD", "BRACKETS", "WHITE", "MOST_DEEP", "Reader", "is_name", "item_of", "read_text", "read_item", "read_items", "read_program", "ORDERED", "do_pop", "do_dup", "do_exch", "do_copy", "do_index", "do_roll", "do_clear", "do_count", "do_mark", "above_mark", "do_counttomark", "do_cleartomark", "push_truth", "are_equal", "do_eq", "do_ne", "taken_in_order", "do_lt", "do_le", "do_gt", "do_ge", "do_and", "do_or", "do_not", "do_true", "do_false", "do_null", "TABLE_stackops"] : List String).map Str.ofString
def ps4 : List (Int × Int) := [(1, 0), (5, 0), (7, 0), (9, 0), (14, 0), (16, 0), (18, 0), (20, 0), (22, 0), (24, 0), (26, 0), (34, 0), (36, 0), (41, 0), (45, 0), (48, 0), (54, 0), (56, 0), (58, 0), (60, 0), (62, 0), (64, 0), (66, 0), (69, 0), (71, 0), (76, 0), (95, 0), (101, 0), (105, 0), (107, 0), (113, 0), (116, 0), (129, 0), (135, 0), (150, 0), (186, 0), (196, 0), (198, 0), (201, 0), (204, 0), (209, 0), (215, 0), (219, 0), (224, 0), (229, 0), (247, 0), (264, 0), (286, 0), (305, 0), (313, 0), (315, 0), (319, 0), (322, 0), (325, 0), (327, 0), (332, 0), (342, 0), (346, 0), (354, 0), (356, 0), (364, 0), (366, 0), (371, 0), (373, 0), (376, 0), (380, 0), (385, 0), (387, 0), (392, 0), (398, 0), (411, 0), (416, 0), (421, 0), (430, 0), (434, 0), (439, 0), (442, 0), (445, 0), (448, 0), (456, 0), (461, 0), (467, 0), (472, 0), (474, 0), (476, 0), (479, 0), (483, 0), (488, 0), (492, 0), (496, 0), (503, 0), (505, 0), (514, 0), (520, 0), (524, 0), (529, 0), (534, 0), (539, 0), (541, 0), (543, 0), (545, 0), (548, 0), (551, 0), (553, 0), (555, 0), (558, 0), (560, 0), (563, 0), (587, 0), (605, 0), (615, 0), (617, 0), (621, 0), (629, 0), (631, 0), (633, 0), (638, 0), (641, 0), (643, 0), (645, 0), (657, 0), (664, 0), (669, 0), (671, 0), (674, 0), (676, 0), (687, 0), (694, 0), (696, 0), (705, 0), (707, 0), (722, 0), (757, 0), (761, 0), (768, 0), (776, 0), (801, 0), (813, 0), (819, 0), (822, 0), (825, 0), (829, 0), (835, 0), (840, 0), (849, 0), (851, 0), (853, 0), (855, 0), (860, 0), (862, 0), (865, 0), (867, 0), (871, 0), (874, 0), (877, 0), (884, 0), (886, 0), (888, 0), (890, 0), (892, 0), (895, 0), (898, 0), (900, 0), (902, 0), (904, 0)]
def ls4 : List Stmt := (bE.drop 135).take 65
def nm5 : List Str := (["__name__", "__doc__", "__package__", "__loader__", "__spec__", "__annotations__", "__builtins__", "__file__", "__cached__", "_wall", "PageError", "NoNumber", "NoProgram", "NoPath", "NoSize", "NoSteps", "Busy", "Idle", "NoBack", "Fault", "FIGURES", "MOST", "is_whole", "common", "is_number", "need_number", "made", "plus", "minus", "times", "over", "is_less", "floor_of", "text_of", "figures", "tens", "read_number", "ONE", "ZERO", "SAME", "LESS", "HALF_TURN", "QUARTERS", "summed", "moved", "leant", "joined", "spread", "turned_back", "quarter", "MOST_OPERANDS", "Look", "World", "Save", "copied", "need", "need_space", "need_kinds", "taken", "whole_of", "count_of", "push_number", "Items", "Rounds", "Walk", "Each", "Fence", "do_exec", "do_if", "do_ifelse", "do_repeat", "do_loop", "do_for", "rows_of", "rows_of_flowops", "do_forall", "do_exit", "do_stop", "do_stopped", "TABLE_flowops", "THREE", "EIGHTH", "is_point", "is_part", "is_path", "need_path", "begun", "lined", "shut", "end_of", "mixed", "curve", "lowest", "greatest", "box_of", "MOST_INK", "need_room", "bent", "do_translate", "do_scale", "do_rotate", "do_concat", "do_transform", "do_itransform", "need_here", "do_newpath", "placed", "further", "do_moveto", "do_lineto", "do_rmoveto", "do_rlineto", "do_curveto", "do_closepath", "do_rect", "do_currentpoint", "do_pathbox", "do_setink", "do_setwidth", "ink_path", "do_fill", "do_eofill", "do_stroke", "do_clip", "do_eoclip", "do_initclip", "do_gsave", "do_grestore", "do_erase", "do_showpage", "Letters", "Shown", "letter", "do_setfont", "do_show", "do_stringwidth", "TABLE_drawops", "apart", "fold", "edges", "dot", "way_of", "no_more", "is_near", "strokes", "lies_near", "MOST_SIDE", "is_between", "need_size", "middle", "crossings", "row_within", "row_near", "row_of", "ink_of", "rows_of_inking", "LETTERS", "WORD", "BRACKETS", "WHITE", "MOST_DEEP", "Reader", "is_name", "item_of", "read_text", "read_item", "read_items", "read_program", "ORDERED", "do_pop", "do_dup", "do_exch", "do_copy", "do_index", "do_roll", "do_clear", "do_count", "do_mark", "above_mark", "do_counttomark", "do_cleartomark", "push_truth", "are_equal", "do_eq", "do_ne", "taken_in_order", "do_lt", "do_le", "do_gt", "do_ge", "do_and", "do_or", "do_not", "do_true", "do_false", "do_null", "TABLE_stackops", "MOST_ROOM", "do_add", "do_sub", "do_mul", "do_div", "taken_whole", "do_idiv", "do_mod", "do_neg", "do_abs", "do_floor", "do_ceiling", "do_array", "do_close", "do_length", "place_in", "do_get", "do_put", "do_aload", "do_astore", "do_dict", "do_begin", "do_end", "do_def", "do_load", "do_known", "do_undef", "do_currentdict", "do_save", "do_restore", "TABLE_sumops", "MOST_STEPS", "WORDS"] : List String).map Str.ofString
def ps5 : List (Int × Int) := [(1, 0), (5, 0), (7, 0), (9, 0), (14, 0), (16, 0), (18, 0), (20, 0), (22, 0), (24, 0), (26, 0), (34, 0), (36, 0), (41, 0), (45, 0), (48, 0), (54, 0), (56, 0), (58, 0), (60, 0), (62, 0), (64, 0), (66, 0), (69, 0), (71, 0), (76, 0), (95, 0), (101, 0), (105, 0), (107, 0), (113, 0), (116, 0), (129, 0), (135, 0), (150, 0), (186, 0), (196, 0), (198, 0), (201, 0), (204, 0), (209, 0), (215, 0), (219, 0), (224, 0), (229, 0), (247, 0), (264, 0), (286, 0), (305, 0), (313, 0), (315, 0), (319, 0), (322, 0), (325, 0), (327, 0), (332, 0), (342, 0), (346, 0), (354, 0), (356, 0), (364, 0), (366, 0), (371, 0), (373, 0), (376, 0), (380, 0), (385, 0), (387, 0), (392, 0), (398, 0), (411, 0), (416, 0), (421, 0), (430, 0), (434, 0), (439, 0), (442, 0), (445, 0), (448, 0), (456, 0), (461, 0), (467, 0), (472, 0), (474, 0), (476, 0), (479, 0), (483, 0), (488, 0), (492, 0), (496, 0), (503, 0), (505, 0), (514, 0), (520, 0), (524, 0), (529, 0), (534, 0), (539, 0), (541, 0), (543, 0), (545, 0), (548, 0), (551, 0), (553, 0), (555, 0), (558, 0), (560, 0), (563, 0), (587, 0), (605, 0), (615, 0), (617, 0), (621, 0), (629, 0), (631, 0), (633, 0), (638, 0), (641, 0), (643, 0), (645, 0), (657, 0), (664, 0), (669, 0), (671, 0), (674, 0), (676, 0), (687, 0), (694, 0), (696, 0), (705, 0), (707, 0), (722, 0), (757, 0), (761, 0), (768, 0), (776, 0), (801, 0), (813, 0), (819, 0), (822, 0), (825, 0), (829, 0), (835, 0), (840, 0), (849, 0), (851, 0), (853, 0), (855, 0), (860, 0), (862, 0), (865, 0), (867, 0), (871, 0), (874, 0), (877, 0), (884, 0), (886, 0), (888, 0), (890, 0), (892, 0), (895, 0), (898, 0), (900, 0), (902, 0), (904, 0), (909, 0), (912, 0), (915, 0), (918, 0), (923, 0), (929, 0), (932, 0), (935, 0), (938, 0), (941, 0), (943, 0), (946, 0), (952, 0), (960, 0), (966, 0), (971, 0), (982, 0), (992, 0), (997, 0), (1005, 0), (1007, 0), (1009, 0), (1013, 0), (1018, 0), (1024, 0), (1027, 0), (1030, 0), (1032, 0), (1038, 0)]
def ls5 : List Stmt := (bE.drop 200).take 35
def nm6 : List Str := (["__name__", "__doc__", "__package__", "__loader__", "__spec__", "__annotations__", "__builtins__", "__file__", "__cached__", "_wall", "PageError", "NoNumber", "NoProgram", "NoPath", "NoSize", "NoSteps", "Busy", "Idle", "NoBack", "Fault", "FIGURES", "MOST", "is_whole", "common", "is_number", "need_number", "made", "plus", "minus", "times", "over", "is_less", "floor_of", "text_of", "figures", "tens", "read_number", "ONE", "ZERO", "SAME", "LESS", "HALF_TURN", "QUARTERS", "summed", "moved", "leant", "joined", "spread", "turned_back", "quarter", "MOST_OPERANDS", "Look", "World", "Save", "copied", "need", "need_space", "need_kinds", "taken", "whole_of", "count_of", "push_number", "Items", "Rounds", "Walk", "Each", "Fence", "do_exec", "do_if", "do_ifelse", "do_repeat", "do_loop", "do_for", "rows_of", "rows_of_flowops", "do_forall", "do_exit", "do_stop", "do_stopped", "TABLE_flowops", "THREE", "EIGHTH", "is_point", "is_part", "is_path", "need_path", "begun", "lined", "shut", "end_of", "mixed", "curve", "lowest", "greatest", "box_of", "MOST_INK", "need_room", "bent", "do_translate", "do_scale", "do_rotate", "do_concat", "do_transform", "do_itransform", "need_here", "do_newpath", "placed", "further", "do_moveto", "do_lineto", "do_rmoveto", "do_rlineto", "do_curveto", "do_closepath", "do_rect", "do_currentpoint", "do_pathbox", "do_setink", "do_setwidth", "ink_path", "do_fill", "do_eofill", "do_stroke", "do_clip", "do_eoclip", "do_initclip", "do_gsave", "do_grestore", "do_erase", "do_showpage", "Letters", "Shown", "letter", "do_setfont", "do_show", "do_stringwidth", "TABLE_drawops", "apart", "fold", "edges", "dot", "way_of", "no_more", "is_near", "strokes", "lies_near", "MOST_SIDE", "is_between", "need_size", "middle", "crossings", "row_within", "row_near", "row_of", "ink_of", "rows_of_inking", "LETTERS", "WORD", "BRACKETS", "WHITE", "MOST_DEEP", "Reader", "is_name", "item_of", "read_text", "read_item", "read_items", "read_program", "ORDERED", "do_pop", "do_dup", "do_exch", "do_copy", "do_index", "do_roll", "do_clear", "do_count", "do_mark", "above_mark", "do_counttomark", "do_cleartomark", "push_truth", "are_equal", "do_eq", "do_ne", "taken_in_order", "do_lt", "do_le", "do_gt", "do_ge", "do_and", "do_or", "do_not", "do_true", "do_false", "do_null", "TABLE_stackops", "MOST_ROOM", "do_add", "do_sub", "do_mul", "do_div", "taken_whole", "do_idiv", "do_mod", "do_neg", "do_abs", "do_floor", "do_ceiling", "do_array", "do_close", "do_length", "place_in", "do_get", "do_put", "do_aload", "do_astore", "do_dict", "do_begin", "do_end", "do_def", "do_load", "do_known", "do_undef", "do_currentdict", "do_save", "do_restore", "TABLE_sumops", "MOST_STEPS", "WORDS", "operator", "shown", "need_steps", "Machine", "_law_drawn", "_law_common", "_law_made", "_law_text", "_law_point", "_law_part", "_law_path", "_law_walk", "_law_page", "law"] : List String).map Str.ofString
def ps6 : List (Int × Int) := [(1, 0), (5, 0), (7, 0), (9, 0), (14, 0), (16, 0), (18, 0), (20, 0), (22, 0), (24, 0), (26, 0), (34, 0), (36, 0), (41, 0), (45, 0), (48, 0), (54, 0), (56, 0), (58, 0), (60, 0), (62, 0), (64, 0), (66, 0), (69, 0), (71, 0), (76, 0), (95, 0), (101, 0), (105, 0), (107, 0), (113, 0), (116, 0), (129, 0), (135, 0), (150, 0), (186, 0), (196, 0), (198, 0), (201, 0), (204, 0), (209, 0), (215, 0), (219, 0), (224, 0), (229, 0), (247, 0), (264, 0), (286, 0), (305, 0), (313, 0), (315, 0), (319, 0), (322, 0), (325, 0), (327, 0), (332, 0), (342, 0), (346, 0), (354, 0), (356, 0), (364, 0), (366, 0), (371, 0), (373, 0), (376, 0), (380, 0), (385, 0), (387, 0), (392, 0), (398, 0), (411, 0), (416, 0), (421, 0), (430, 0), (434, 0), (439, 0), (442, 0), (445, 0), (448, 0), (456, 0), (461, 0), (467, 0), (472, 0), (474, 0), (476, 0), (479, 0), (483, 0), (488, 0), (492, 0), (496, 0), (503, 0), (505, 0), (514, 0), (520, 0), (524, 0), (529, 0), (534, 0), (539, 0), (541, 0), (543, 0), (545, 0), (548, 0), (551, 0), (553, 0), (555, 0), (558, 0), (560, 0), (563, 0), (587, 0), (605, 0), (615, 0), (617, 0), (621, 0), (629, 0), (631, 0), (633, 0), (638, 0), (641, 0), (643, 0), (645, 0), (657, 0), (664, 0), (669, 0), (671, 0), (674, 0), (676, 0), (687, 0), (694, 0), (696, 0), (705, 0), (707, 0), (722, 0), (757, 0), (761, 0), (768, 0), (776, 0), (801, 0), (813, 0), (819, 0), (822, 0), (825, 0), (829, 0), (835, 0), (840, 0), (849, 0), (851, 0), (853, 0), (855, 0), (860, 0), (862, 0), (865, 0), (867, 0), (871, 0), (874, 0), (877, 0), (884, 0), (886, 0), (888, 0), (890, 0), (892, 0), (895, 0), (898, 0), (900, 0), (902, 0), (904, 0), (909, 0), (912, 0), (915, 0), (918, 0), (923, 0), (929, 0), (932, 0), (935, 0), (938, 0), (941, 0), (943, 0), (946, 0), (952, 0), (960, 0), (966, 0), (971, 0), (982, 0), (992, 0), (997, 0), (1005, 0), (1007, 0), (1009, 0), (1013, 0), (1018, 0), (1024, 0), (1027, 0), (1030, 0), (1032, 0), (1038, 0), (1053, 0), (1061, 0), (1070, 0), (1073, 0), (1237, 0), (1253, 0), (1257, 0), (1261, 0), (1263, 0), (1267, 0), (1271, 0), (1273, 0), (1280, 0), (1283, 0)]
def ls6 : List Stmt := (bE.drop 235).take 15
def is2 : List Nat := [0, 1, 2, 3, 4, 5, 6, 7, 8, 9, 10, 11, 12, 13, 14, 15, 16, 17, 18, 19, 20, 21, 22, 23, 24, 25, 26, 27, 28, 29, 30, 31, 32, 33, 34, 35, 36, 37, 38, 39, 40, 41, 42, 43, 44, 45, 46, 47, 48, 49, 50, 51, 52, 53, 54, 55, 56, 57, 58, 59, 60, 61]
def is3 : List Nat := [1, 2, 3, 4, 5, 6, 7, 8, 9, 10, 11, 12, 13, 14, 15, 16, 17, 18, 19, 20, 21, 22, 23, 24, 25, 26, 27, 28, 29, 30, 31, 32, 33, 34, 35, 36, 37, 38, 39, 40, 41, 42, 43, 44, 45, 46, 47, 48, 49, 50, 51, 52, 53, 54, 55, 56, 57, 58, 59, 60, 61, 62, 63, 64, 65, 66, 67, 68, 69, 70, 71, 72, 73, 74, 75, 76, 77, 78, 79]
def is4 : List Nat := [1, 2, 3, 4, 5, 6, 7, 8, 9, 10, 11, 12, 13, 14, 15, 16, 17, 18, 19, 20, 21, 22, 23, 24, 25, 26, 27, 28, 29, 30, 31, 32, 33, 34, 35, 36, 37, 38, 39, 40, 41, 42, 43, 44, 45, 46, 47, 48, 49, 50, 51, 52, 53, 54, 55, 56, 57, 58, 59, 60, 61, 62, 63, 64, 65, 66, 67, 68, 69, 70, 71, 72, 74, 75, 76, 77, 78, 79, 80, 81, 82, 83, 84, 85, 86, 87, 88, 89, 90, 91, 92, 93, 94, 95, 96, 97, 98, 99, 100, 101, 102, 103, 104, 105, 106, 107, 108, 109, 110, 111, 112, 113, 114, 115, 116, 117, 118, 119, 120, 121, 122, 123, 124, 125, 126, 127, 128, 129, 130, 131, 132, 133, 134, 135, 136]
def is5 : List Nat := [1, 2, 3, 4, 5, 6, 7, 8, 9, 10, 11, 12, 13, 14, 15, 16, 17, 18, 19, 20, 21, 22, 23, 24, 25, 26, 27, 28, 29, 30, 31, 32, 33, 34, 35, 36, 37, 38, 39, 40, 41, 42, 43, 44, 45, 46, 47, 48, 49, 50, 51, 52, 53, 54, 55, 56, 57, 58, 59, 60, 61, 62, 63, 64, 65, 66, 67, 68, 69, 70, 71, 72, 73, 74, 75, 76, 77, 78, 79, 80, 81, 82, 83, 84, 85, 86, 87, 88, 89, 90, 91, 92, 93, 94, 95, 96, 97, 98, 99, 100, 101, 102, 103, 104, 105, 106, 107, 108, 109, 110, 111, 112, 113, 114, 115, 116, 117, 118, 119, 120, 121, 122, 123, 124, 125, 126, 127, 128, 129, 130, 131, 132, 133, 134, 135, 136, 137, 138, 139, 140, 141, 142, 143, 144, 145, 146, 147, 148, 149, 150, 151, 152, 153, 154, 155, 156, 157, 158, 159, 160, 161, 162, 163, 164, 165, 166, 167, 168, 169, 170, 171, 172, 173, 174, 175, 176, 177, 178, 179, 180, 181, 182, 183, 184, 185, 186, 187, 188, 189, 190, 191, 192, 193, 194, 195, 196]
def is6 : List Nat := [1, 2, 3, 4, 5, 6, 7, 8, 9, 10, 11, 12, 13, 14, 15, 16, 17, 18, 19, 20, 21, 22, 23, 24, 25, 26, 27, 28, 29, 30, 31, 32, 33, 34, 35, 36, 37, 38, 39, 40, 41, 42, 43, 44, 45, 46, 47, 48, 49, 50, 51, 52, 53, 54, 55, 56, 57, 58, 59, 60, 61, 62, 63, 64, 65, 66, 67, 68, 69, 70, 71, 72, 73, 74, 75, 76, 77, 78, 79, 80, 81, 82, 83, 84, 85, 86, 87, 88, 89, 90, 91, 92, 93, 94, 95, 96, 97, 98, 99, 100, 101, 102, 103, 104, 105, 106, 107, 108, 109, 110, 111, 112, 113, 114, 115, 116, 117, 118, 119, 120, 121, 122, 123, 124, 125, 126, 127, 128, 129, 130, 131, 132, 133, 134, 135, 136, 137, 138, 139, 140, 141, 142, 143, 144, 145, 146, 147, 148, 149, 150, 151, 152, 153, 154, 155, 156, 157, 158, 159, 160, 161, 162, 163, 164, 165, 166, 167, 168, 169, 170, 171, 172, 173, 174, 175, 176, 177, 178, 179, 180, 181, 182, 183, 184, 185, 186, 187, 188, 189, 190, 191, 192, 193, 194, 195, 196, 197, 198, 199, 200, 201, 202, 203, 204, 205, 206, 207, 208, 209, 210, 211, 212, 213, 214, 215, 216, 217, 218, 219, 220, 221, 222, 223, 224, 225, 226, 227, 228, 229]
def fs1 : List FSpec := [⟨22, "is_whole", s_is_whole⟩,
  ⟨23, "common", s_common⟩,
  ⟨26, "made", s_made⟩,
  ⟨27, "plus", s_plus⟩,
  ⟨29, "times", s_times⟩,
  ⟨31, "is_less", s_is_less⟩,
  ⟨34, "figures", s_figures⟩,
  ⟨36, "read_number", s_read_number⟩,
  ⟨43, "summed", s_summed⟩,
  ⟨44, "moved", s_moved⟩,
  ⟨54, "copied", s_copied⟩,
  ⟨55, "need", s_need⟩,
  ⟨57, "need_kinds", s_need_kinds⟩,
  ⟨58, "taken", s_taken⟩,
  ⟨59, "whole_of", s_whole_of⟩]
def cs_Look : CSpec := ⟨51, (["matrix", "path", "ink", "width", "clips", "font"] : List String).map Str.ofString, ⟨"__init__", "Look.__init__", s_Look_init, [], []⟩, [⟨"twin", "Look.twin", s_Look_twin, [], []⟩]⟩
def cs_World : CSpec := ⟨52, (["operands", "rooms", "scopes", "look", "kept", "sheets", "inkings", "saves", "many_saves"] : List String).map Str.ofString, ⟨"__init__", "World.__init__", s_World_init, [], []⟩, [⟨"twin", "World.twin", s_World_twin, [], []⟩]⟩
def cs1 : List CSpec := [cs_Look, cs_World]
def ks1 : List (Nat × V) := [(21, (.int 10000000000000000000000000000000000000000)), (20, (.str "0123456789"))]
abbrev fo1 (n : Nat) (f : Nat → Obj) : Bool × List (Option (Bool × FnW)) × List (Option (Bool × FnW × List FnW)) × List TabV := (((nmB f "pageloom.flowops") && (ks1.all fun q => relB q.2 (valF f q.1)) && (SameB n f 39)), fs1.map (FSpec.obs n f), cs1.map (CSpec.obs n f), [])
abbrev fv1 (w : World) : Bool × List (Option (Bool × FnW)) × List (Option (Bool × FnW × List FnW)) × List TabV := (true, fs1.map FSpec.val, cs1.map CSpec.val, [])
def fs2 : List FSpec := []
def cs_Items : CSpec := ⟨62, (["body", "at"] : List String).map Str.ofString, ⟨"__init__", "Items.__init__", s_Items_init, [], []⟩, [⟨"pays", "Items.pays", s_Items_pays, [], []⟩, ⟨"step", "Items.step", s_Items_step, [], []⟩]⟩
def cs2 : List CSpec := [cs_Items]
def ks2 : List (Nat × V) := []
def tk_flowops : List Str := (["exec", "if", "ifelse", "repeat", "loop", "for", "forall", "exit", "stop", "stopped"] : List String).map Str.ofString
abbrev fo2 (n : Nat) (f : Nat → Obj) : Bool × List (Option (Bool × FnW)) × List (Option (Bool × FnW × List FnW)) × List TabV := (((nmB f "pageloom.flowops") && (ks2.all fun q => relB q.2 (valF f q.1))), fs2.map (FSpec.obs n f), cs2.map (CSpec.obs n f), [tabO n f 79 lookNo])
abbrev fv2 (w : World) : Bool × List (Option (Bool × FnW)) × List (Option (Bool × FnW × List FnW)) × List TabV := (true, fs2.map FSpec.val, cs2.map CSpec.val, [some (true, tk_flowops.map some, tk_flowops.map (PyData.keyHash w.params))])
def fs3 : List FSpec := [⟨86, "begun", s_begun⟩,
  ⟨87, "lined", s_lined⟩,
  ⟨88, "shut", s_shut⟩,
  ⟨89, "end_of", s_end_of⟩,
  ⟨96, "need_room", s_need_room⟩,
  ⟨104, "need_here", s_need_here⟩,
  ⟨105, "do_newpath", s_do_newpath⟩,
  ⟨106, "placed", s_placed⟩,
  ⟨108, "do_moveto", s_do_moveto⟩,
  ⟨109, "do_lineto", s_do_lineto⟩,
  ⟨113, "do_closepath", s_do_closepath⟩,
  ⟨114, "do_rect", s_do_rect⟩,
  ⟨117, "do_setink", s_do_setink⟩,
  ⟨119, "ink_path", s_ink_path⟩,
  ⟨120, "do_fill", s_do_fill⟩,
  ⟨121, "do_eofill", s_do_eofill⟩,
  ⟨123, "do_clip", s_do_clip⟩,
  ⟨124, "do_eoclip", s_do_eoclip⟩,
  ⟨125, "do_initclip", s_do_initclip⟩,
  ⟨126, "do_gsave", s_do_gsave⟩,
  ⟨127, "do_grestore", s_do_grestore⟩,
  ⟨128, "do_erase", s_do_erase⟩]
def cs3 : List CSpec := []
def ks3 : List (Nat × V) := [(95, (.int 15))]
def tk_drawops : List Str := (["translate", "scale", "rotate", "concat", "transform", "itransform", "newpath", "moveto", "lineto", "rmoveto", "rlineto", "curveto", "closepath", "rect", "currentpoint", "pathbox", "setink", "setwidth", "fill", "eofill", "stroke", "clip", "eoclip", "initclip", "gsave", "grestore", "erase", "showpage", "setfont", "show", "stringwidth"] : List String).map Str.ofString
abbrev fo3 (n : Nat) (f : Nat → Obj) : Bool × List (Option (Bool × FnW)) × List (Option (Bool × FnW × List FnW)) × List TabV := (((nmB f "pageloom.drawops") && (ks3.all fun q => relB q.2 (valF f q.1))), fs3.map (FSpec.obs n f), cs3.map (CSpec.obs n f), [tabO n f 136 (lookDraw f)])
abbrev fv3 (w : World) : Bool × List (Option (Bool × FnW)) × List (Option (Bool × FnW × List FnW)) × List TabV := (true, fs3.map FSpec.val, cs3.map CSpec.val, [some (true, tk_drawops.map some, tk_drawops.map (PyData.keyHash w.params))])
def fs4 : List FSpec := [⟨137, "apart", s_apart⟩,
  ⟨139, "edges", s_edges⟩,
  ⟨147, "is_between", s_is_between⟩,
  ⟨148, "need_size", s_need_size⟩,
  ⟨150, "crossings", s_crossings⟩,
  ⟨151, "row_within", s_row_within⟩,
  ⟨153, "row_of", s_row_of⟩,
  ⟨154, "ink_of", s_ink_of⟩,
  ⟨155, "rows_of", s_rows_of⟩,
  ⟨162, "is_name", s_is_name⟩,
  ⟨163, "item_of", s_item_of⟩,
  ⟨165, "read_item", s_read_item⟩,
  ⟨166, "read_items", s_read_items⟩,
  ⟨167, "read_program", s_read_program⟩]
def cs_Reader : CSpec := ⟨161, (["text", "at", "row", "column", "deep"] : List String).map Str.ofString, ⟨"__init__", "Reader.__init__", s_Reader_init, [], []⟩, [⟨"see", "Reader.see", s_Reader_see, [], []⟩, ⟨"go", "Reader.go", s_Reader_go, [], []⟩, ⟨"place", "Reader.place", s_Reader_place, [], []⟩, ⟨"skip", "Reader.skip", s_Reader_skip, [], []⟩, ⟨"word", "Reader.word", s_Reader_word, [], []⟩]⟩
def cs4 : List CSpec := [cs_Reader]
def ks4 : List (Nat × V) := [(146, (.int 64)), (156, (.str "abcdefghijklmnopqrstuvwxyz")), (157, (.str "abcdefghijklmnopqrstuvwxyz0123456789-:.")), (158, (.str "[]")), (159, (.str " \n"))]
def tk_stackops : List Str := (["pop", "dup", "exch", "copy", "index", "roll", "clear", "count", "mark", "[", "counttomark", "cleartomark", "eq", "ne", "lt", "le", "gt", "ge", "and", "or", "not", "true", "false", "null"] : List String).map Str.ofString
abbrev fo4 (n : Nat) (f : Nat → Obj) : Bool × List (Option (Bool × FnW)) × List (Option (Bool × FnW × List FnW)) × List TabV := (((nmB f "pageloom.stackops") && (ks4.all fun q => relB q.2 (valF f q.1))), fs4.map (FSpec.obs n f), cs4.map (CSpec.obs n f), [tabO n f 196 lookNo])
abbrev fv4 (w : World) : Bool × List (Option (Bool × FnW)) × List (Option (Bool × FnW × List FnW)) × List TabV := (true, fs4.map FSpec.val, cs4.map CSpec.val, [some (true, tk_stackops.map some, tk_stackops.map (PyData.keyHash w.params))])
def fs5 : List FSpec := []
def cs5 : List CSpec := []
def ks5 : List (Nat × V) := [(228, (.int 20000))]
def tk_sumops : List Str := (["add", "sub", "mul", "div", "idiv", "mod", "neg", "abs", "floor", "ceiling", "array", "]", "length", "get", "put", "aload", "astore", "dict", "begin", "end", "def", "load", "known", "undef", "currentdict", "save", "restore"] : List String).map Str.ofString
abbrev fo5 (n : Nat) (f : Nat → Obj) : Bool × List (Option (Bool × FnW)) × List (Option (Bool × FnW × List FnW)) × List TabV := (((nmB f "pageloom.machines") && (ks5.all fun q => relB q.2 (valF f q.1))), fs5.map (FSpec.obs n f), cs5.map (CSpec.obs n f), [tabO n f 227 lookNo])
abbrev fv5 (w : World) : Bool × List (Option (Bool × FnW)) × List (Option (Bool × FnW × List FnW)) × List TabV := (true, fs5.map FSpec.val, cs5.map CSpec.val, [some (true, tk_sumops.map some, tk_sumops.map (PyData.keyHash w.params))])
def fs6 : List FSpec := [⟨230, "operator", s_operator⟩,
  ⟨232, "need_steps", s_need_steps⟩,
  ⟨234, "_law_drawn", s_law_drawn⟩,
  ⟨235, "_law_common", s_law_common⟩,
  ⟨236, "_law_made", s_law_made⟩,
  ⟨237, "_law_text", s_law_text⟩,
  ⟨238, "_law_point", s_law_point⟩,
  ⟨239, "_law_part", s_law_part⟩,
  ⟨240, "_law_path", s_law_path⟩,
  ⟨241, "_law_walk", s_law_walk⟩,
  ⟨242, "_law_page", s_law_page⟩,
  ⟨243, "law", s_law⟩]
def cs_Machine : CSpec := ⟨233, (["wide", "high", "most", "world", "frames", "left", "told", "is_running", "ahead", "past", "later"] : List String).map Str.ofString, ⟨"__init__", "Machine.__init__", s_Machine_init, [("steps", .int 5000)], []⟩, [⟨"pay", "Machine.pay", s_Machine_pay, [], []⟩, ⟨"do_item", "Machine.do_item", s_Machine_do_item, [], []⟩, ⟨"do_operator", "Machine.do_operator", s_Machine_do_operator, [], []⟩, ⟨"step", "Machine.step", s_Machine_step, [], []⟩, ⟨"need_idle", "Machine.need_idle", s_Machine_need_idle, [], []⟩, ⟨"start", "Machine.start", s_Machine_start, [], []⟩, ⟨"settle", "Machine.settle", s_Machine_settle, [], []⟩, ⟨"go", "Machine.go", s_Machine_go, [], [.int 1]⟩, ⟨"run", "Machine.run", s_Machine_run, [], []⟩, ⟨"page", "Machine.page", s_Machine_page, [], []⟩]⟩
def cs6 : List CSpec := [cs_Machine]
def ks6 : List (Nat × V) := []
abbrev fo6 (n : Nat) (f : Nat → Obj) : Bool × List (Option (Bool × FnW)) × List (Option (Bool × FnW × List FnW)) × List TabV := (((nmB f "law_pageloom_k52_whole_clips") && (ks6.all fun q => relB q.2 (valF f q.1))), fs6.map (FSpec.obs n f), cs6.map (CSpec.obs n f), [])
abbrev fv6 (w : World) : Bool × List (Option (Bool × FnW)) × List (Option (Bool × FnW × List FnW)) × List TabV := (true, fs6.map FSpec.val, cs6.map CSpec.val, [])
/-! the law's own looks -/
abbrev Rw : OpenRow := OpenLaw.row PySem.Challenge.rw_pageloom_k52_whole_clips
def qv : Program := view Rw.prog [249]
def loose : List Str := (["_wall", "PageError", "NoNumber", "NoProgram", "NoPath", "NoSize", "NoSteps", "Busy", "Idle", "NoBack", "Fault", "FIGURES", "MOST", "is_whole", "common", "is_number", "need_number", "made", "plus", "minus", "times", "over", "is_less", "floor_of", "text_of", "figures", "tens", "read_number", "ONE", "ZERO", "SAME", "LESS", "HALF_TURN", "QUARTERS", "summed", "moved", "leant", "joined", "spread", "turned_back", "quarter", "MOST_OPERANDS", "Look", "World", "Save", "copied", "need", "need_space", "need_kinds", "taken", "whole_of", "count_of", "push_number", "Items", "Rounds", "Walk", "Each", "Fence", "do_exec", "do_if", "do_ifelse", "do_repeat", "do_loop", "do_for", "rows_of", "rows_of_flowops", "do_forall", "do_exit", "do_stop", "do_stopped", "TABLE_flowops", "THREE", "EIGHTH", "is_point", "is_part", "is_path", "need_path", "begun", "lined", "shut", "end_of", "mixed", "curve", "lowest", "greatest", "box_of", "MOST_INK", "need_room", "bent", "do_translate", "do_scale", "do_rotate", "do_concat", "do_transform", "do_itransform", "need_here", "do_newpath", "placed", "further", "do_moveto", "do_lineto", "do_rmoveto", "do_rlineto", "do_curveto", "do_closepath", "do_rect", "do_currentpoint", "do_pathbox", "do_setink", "do_setwidth", "ink_path", "do_fill", "do_eofill", "do_stroke", "do_clip", "do_eoclip", "do_initclip", "do_gsave", "do_grestore", "do_erase", "do_showpage", "Letters", "Shown", "letter", "do_setfont", "do_show", "do_stringwidth", "TABLE_drawops", "apart", "fold", "edges", "dot", "way_of", "no_more", "is_near", "strokes", "lies_near", "MOST_SIDE", "is_between", "need_size", "middle", "crossings", "row_within", "row_near", "row_of", "ink_of", "rows_of_inking", "LETTERS", "WORD", "BRACKETS", "WHITE", "MOST_DEEP", "Reader", "is_name", "item_of", "read_text", "read_item", "read_items", "read_program", "ORDERED", "do_pop", "do_dup", "do_exch", "do_copy", "do_index", "do_roll", "do_clear", "do_count", "do_mark", "above_mark", "do_counttomark", "do_cleartomark", "push_truth", "are_equal", "do_eq", "do_ne", "taken_in_order", "do_lt", "do_le", "do_gt", "do_ge", "do_and", "do_or", "do_not", "do_true", "do_false", "do_null", "TABLE_stackops", "MOST_ROOM", "do_add", "do_sub", "do_mul", "do_div", "taken_whole", "do_idiv", "do_mod", "do_neg", "do_abs", "do_floor", "do_ceiling", "do_array", "do_close", "do_length", "place_in", "do_get", "do_put", "do_aload", "do_astore", "do_dict", "do_begin", "do_end", "do_def", "do_load", "do_known", "do_undef", "do_currentdict", "do_save", "do_restore", "TABLE_sumops", "MOST_STEPS", "WORDS", "operator", "shown", "need_steps", "Machine", "_law_drawn", "_law_common", "_law_made", "_law_text", "_law_point", "_law_part", "_law_path", "_law_walk", "_law_page"] : List String).map Str.ofString
def Xt (s : Shared) : Bool := xlAt qv [] s && recOk Rw.toRowW.records s
def la (w : World) (s : Shared) : Bool := looksF pr (boot_heap w.params) s
abbrev lb (s : Shared) := seenQ qv loose (importedModules pr.main.body) Xt s
end Hd
end
noncomputable section
namespace Hd
open PySem PySem.Spec PySem.W PySem.Calls PyProof.Rows L2 HandSHeadRun He Pg
theorem hc6 (w : World) (os : OsState) (f : Nat → Obj) (h : Nat → Int) (tk : Nat → Nat) (t0 : Nat) (v c : Nat → Value) (ep k : Nat) (p : Pos) : (segQ w 20000 ls6 (stE w 1743 (fx w os (mdO nm5 h tk (vx w "pageloom.machines" t0 v) ep) (plO ps5 c) f) k os) p).map (fun r => (coreO 1743 is6 r, fo6 2015 (cont r.1.tree))) = some (coreV w os 2015 nm6 ps6 1743 (fx w os (mdO nm5 h tk (vx w "pageloom.machines" t0 v) ep) (plO ps5 c) f) is6 (vx w "pageloom.machines" t0 v), fv6 w) := by kernel_rfl
theorem hc6a (w : World) (os : OsState) (f : Nat → Obj) (h : Nat → Int) (tk : Nat → Nat) (t0 : Nat) (v c : Nat → Value) (ep k : Nat) (p : Pos) : (segQ w 20000 ls6 (stE w 1743 (fx w os (mdO nm5 h tk (vx w "pageloom.machines" t0 v) ep) (plO ps5 c) f) k os) p).map (fun r => la w r.1.abs) = some true := by kernel_rfl
theorem hc6b (w : World) (os : OsState) (f : Nat → Obj) (h : Nat → Int) (tk : Nat → Nat) (t0 : Nat) (v c : Nat → Value) (ep k : Nat) (p : Pos) : (segQ w 20000 ls6 (stE w 1743 (fx w os (mdO nm5 h tk (vx w "pageloom.machines" t0 v) ep) (plO ps5 c) f) k os) p).map (fun r => lb r.1.abs) = some (openGood qv loose) := by kernel_rfl
end Hd
end
noncomputable section
namespace Hd
open PySem PySem.Spec PySem.W PySem.Calls PyProof.Rows L2 HandSHeadRun He Pg
def hc4_P (w : World) : Prop := ∀ (os : OsState) (f : Nat → Obj) (h : Nat → Int) (tk : Nat → Nat) (t0 : Nat) (v c : Nat → Value) (ep k : Nat) (p : Pos), (segQ w 20000 ls4 (stE w 1139 (fx w os (mdO nm3 h tk (vx w "pageloom.drawops" t0 v) ep) (plO ps3 c) f) k os) p).map (fun r => (coreO 1139 is4 r, fo4 1543 (cont r.1.tree))) = some (coreV w os 1543 nm4 ps4 1139 (fx w os (mdO nm3 h tk (vx w "pageloom.drawops" t0 v) ep) (plO ps3 c) f) is4 (vx w "pageloom.drawops" t0 v), fv4 w)
theorem hc4_f (w : World) (os : OsState) (f : Nat → Obj) (h : Nat → Int) (tk : Nat → Nat) (t0 : Nat) (v c : Nat → Value) (ep k : Nat) (p : Pos) : (segQ (w.withFollow "special-get-raises" false) 20000 ls4 (stE (w.withFollow "special-get-raises" false) 1139 (fx (w.withFollow "special-get-raises" false) os (mdO nm3 h tk (vx (w.withFollow "special-get-raises" false) "pageloom.drawops" t0 v) ep) (plO ps3 c) f) k os) p).map (fun r => (coreO 1139 is4 r, fo4 1543 (cont r.1.tree))) = some (coreV (w.withFollow "special-get-raises" false) os 1543 nm4 ps4 1139 (fx (w.withFollow "special-get-raises" false) os (mdO nm3 h tk (vx (w.withFollow "special-get-raises" false) "pageloom.drawops" t0 v) ep) (plO ps3 c) f) is4 (vx (w.withFollow "special-get-raises" false) "pageloom.drawops" t0 v), fv4 (w.withFollow "special-get-raises" false)) := by kernel_rfl
theorem hc4_t (w : World) (os : OsState) (f : Nat → Obj) (h : Nat → Int) (tk : Nat → Nat) (t0 : Nat) (v c : Nat → Value) (ep k : Nat) (p : Pos) : (segQ (w.withFollow "special-get-raises" true) 20000 ls4 (stE (w.withFollow "special-get-raises" true) 1139 (fx (w.withFollow "special-get-raises" true) os (mdO nm3 h tk (vx (w.withFollow "special-get-raises" true) "pageloom.drawops" t0 v) ep) (plO ps3 c) f) k os) p).map (fun r => (coreO 1139 is4 r, fo4 1543 (cont r.1.tree))) = some (coreV (w.withFollow "special-get-raises" true) os 1543 nm4 ps4 1139 (fx (w.withFollow "special-get-raises" true) os (mdO nm3 h tk (vx (w.withFollow "special-get-raises" true) "pageloom.drawops" t0 v) ep) (plO ps3 c) f) is4 (vx (w.withFollow "special-get-raises" true) "pageloom.drawops" t0 v), fv4 (w.withFollow "special-get-raises" true)) := by kernel_rfl
theorem hc4 (w : World) : hc4_P w := byRow2 "special-get-raises" (P := hc4_P) (fun w os f h tk t0 v c ep k p => hc4_f w os f h tk t0 v c ep k p) (fun w os f h tk t0 v c ep k p => hc4_t w os f h tk t0 v c ep k p) w
end Hd
end
noncomputable section
namespace Hd
open PySem PySem.Spec PySem.W PySem.Calls PyProof.Rows L2 HandSHeadRun He Pg
def hc3_P (w : World) : Prop := ∀ (os : OsState) (f : Nat → Obj) (h : Nat → Int) (tk : Nat → Nat) (t0 : Nat) (v c : Nat → Value) (ep k : Nat) (p : Pos), (segQ w 20000 ls3 (stE w 707 (fx w os (mdO nm2 h tk (vx w "pageloom.flowops" t0 v) ep) (plO ps2 c) f) k os) p).map (fun r => (coreO 707 is3 r, fo3 1139 (cont r.1.tree))) = some (coreV w os 1139 nm3 ps3 707 (fx w os (mdO nm2 h tk (vx w "pageloom.flowops" t0 v) ep) (plO ps2 c) f) is3 (vx w "pageloom.flowops" t0 v), fv3 w)
theorem hc3_f (w : World) (os : OsState) (f : Nat → Obj) (h : Nat → Int) (tk : Nat → Nat) (t0 : Nat) (v c : Nat → Value) (ep k : Nat) (p : Pos) : (segQ (w.withFollow "special-get-raises" false) 20000 ls3 (stE (w.withFollow "special-get-raises" false) 707 (fx (w.withFollow "special-get-raises" false) os (mdO nm2 h tk (vx (w.withFollow "special-get-raises" false) "pageloom.flowops" t0 v) ep) (plO ps2 c) f) k os) p).map (fun r => (coreO 707 is3 r, fo3 1139 (cont r.1.tree))) = some (coreV (w.withFollow "special-get-raises" false) os 1139 nm3 ps3 707 (fx (w.withFollow "special-get-raises" false) os (mdO nm2 h tk (vx (w.withFollow "special-get-raises" false) "pageloom.flowops" t0 v) ep) (plO ps2 c) f) is3 (vx (w.withFollow "special-get-raises" false) "pageloom.flowops" t0 v), fv3 (w.withFollow "special-get-raises" false)) := by kernel_rfl
theorem hc3_t (w : World) (os : OsState) (f : Nat → Obj) (h : Nat → Int) (tk : Nat → Nat) (t0 : Nat) (v c : Nat → Value) (ep k : Nat) (p : Pos) : (segQ (w.withFollow "special-get-raises" true) 20000 ls3 (stE (w.withFollow "special-get-raises" true) 707 (fx (w.withFollow "special-get-raises" true) os (mdO nm2 h tk (vx (w.withFollow "special-get-raises" true) "pageloom.flowops" t0 v) ep) (plO ps2 c) f) k os) p).map (fun r => (coreO 707 is3 r, fo3 1139 (cont r.1.tree))) = some (coreV (w.withFollow "special-get-raises" true) os 1139 nm3 ps3 707 (fx (w.withFollow "special-get-raises" true) os (mdO nm2 h tk (vx (w.withFollow "special-get-raises" true) "pageloom.flowops" t0 v) ep) (plO ps2 c) f) is3 (vx (w.withFollow "special-get-raises" true) "pageloom.flowops" t0 v), fv3 (w.withFollow "special-get-raises" true)) := by kernel_rfl
theorem hc3 (w : World) : hc3_P w := byRow2 "special-get-raises" (P := hc3_P) (fun w os f h tk t0 v c ep k p => hc3_f w os f h tk t0 v c ep k p) (fun w os f h tk t0 v c ep k p => hc3_t w os f h tk t0 v c ep k p) w
end Hd
end
noncomputable section
namespace Hd
open PySem PySem.Spec PySem.W PySem.Calls PyProof.Rows L2 HandSHeadRun He Pg
def hc5_P (w : World) : Prop := ∀ (os : OsState) (f : Nat → Obj) (h : Nat → Int) (tk : Nat → Nat) (t0 : Nat) (v c : Nat → Value) (ep k : Nat) (p : Pos), (segQ w 20000 ls5 (stE w 1543 (fx w os (mdO nm4 h tk (vx w "pageloom.stackops" t0 v) ep) (plO ps4 c) f) k os) p).map (fun r => (coreO 1543 is5 r, fo5 1743 (cont r.1.tree))) = some (coreV w os 1743 nm5 ps5 1543 (fx w os (mdO nm4 h tk (vx w "pageloom.stackops" t0 v) ep) (plO ps4 c) f) is5 (vx w "pageloom.stackops" t0 v), fv5 w)
theorem hc5_f (w : World) (os : OsState) (f : Nat → Obj) (h : Nat → Int) (tk : Nat → Nat) (t0 : Nat) (v c : Nat → Value) (ep k : Nat) (p : Pos) : (segQ (w.withFollow "special-get-raises" false) 20000 ls5 (stE (w.withFollow "special-get-raises" false) 1543 (fx (w.withFollow "special-get-raises" false) os (mdO nm4 h tk (vx (w.withFollow "special-get-raises" false) "pageloom.stackops" t0 v) ep) (plO ps4 c) f) k os) p).map (fun r => (coreO 1543 is5 r, fo5 1743 (cont r.1.tree))) = some (coreV (w.withFollow "special-get-raises" false) os 1743 nm5 ps5 1543 (fx (w.withFollow "special-get-raises" false) os (mdO nm4 h tk (vx (w.withFollow "special-get-raises" false) "pageloom.stackops" t0 v) ep) (plO ps4 c) f) is5 (vx (w.withFollow "special-get-raises" false) "pageloom.stackops" t0 v), fv5 (w.withFollow "special-get-raises" false)) := by kernel_rfl
theorem hc5_t (w : World) (os : OsState) (f : Nat → Obj) (h : Nat → Int) (tk : Nat → Nat) (t0 : Nat) (v c : Nat → Value) (ep k : Nat) (p : Pos) : (segQ (w.withFollow "special-get-raises" true) 20000 ls5 (stE (w.withFollow "special-get-raises" true) 1543 (fx (w.withFollow "special-get-raises" true) os (mdO nm4 h tk (vx (w.withFollow "special-get-raises" true) "pageloom.stackops" t0 v) ep) (plO ps4 c) f) k os) p).map (fun r => (coreO 1543 is5 r, fo5 1743 (cont r.1.tree))) = some (coreV (w.withFollow "special-get-raises" true) os 1743 nm5 ps5 1543 (fx (w.withFollow "special-get-raises" true) os (mdO nm4 h tk (vx (w.withFollow "special-get-raises" true) "pageloom.stackops" t0 v) ep) (plO ps4 c) f) is5 (vx (w.withFollow "special-get-raises" true) "pageloom.stackops" t0 v), fv5 (w.withFollow "special-get-raises" true)) := by kernel_rfl
theorem hc5 (w : World) : hc5_P w := byRow2 "special-get-raises" (P := hc5_P) (fun w os f h tk t0 v c ep k p => hc5_f w os f h tk t0 v c ep k p) (fun w os f h tk t0 v c ep k p => hc5_t w os f h tk t0 v c ep k p) w
end Hd
end
noncomputable section
namespace Hd
open PySem PySem.Spec PySem.W PySem.Calls PyProof.Rows L2 HandSHeadRun He Pg
def hc2_P (w : World) : Prop := ∀ (os : OsState) (f : Nat → Obj) (h : Nat → Int) (tk : Nat → Nat) (t0 : Nat) (v c : Nat → Value) (ep k : Nat) (p : Pos), (segQ w 20000 ls2 (stE w 463 (fx w os (mdO nm1 h tk (vx w "pageloom.flowops" t0 v) ep) (plO ps1 c) f) k os) p).map (fun r => (coreO 463 is2 r, fo2 707 (cont r.1.tree))) = some (coreV w os 707 nm2 ps2 463 (fx w os (mdO nm1 h tk (vx w "pageloom.flowops" t0 v) ep) (plO ps1 c) f) is2 (vx w "pageloom.flowops" t0 v), fv2 w)
theorem hc2_f (w : World) (os : OsState) (f : Nat → Obj) (h : Nat → Int) (tk : Nat → Nat) (t0 : Nat) (v c : Nat → Value) (ep k : Nat) (p : Pos) : (segQ (w.withFollow "special-get-raises" false) 20000 ls2 (stE (w.withFollow "special-get-raises" false) 463 (fx (w.withFollow "special-get-raises" false) os (mdO nm1 h tk (vx (w.withFollow "special-get-raises" false) "pageloom.flowops" t0 v) ep) (plO ps1 c) f) k os) p).map (fun r => (coreO 463 is2 r, fo2 707 (cont r.1.tree))) = some (coreV (w.withFollow "special-get-raises" false) os 707 nm2 ps2 463 (fx (w.withFollow "special-get-raises" false) os (mdO nm1 h tk (vx (w.withFollow "special-get-raises" false) "pageloom.flowops" t0 v) ep) (plO ps1 c) f) is2 (vx (w.withFollow "special-get-raises" false) "pageloom.flowops" t0 v), fv2 (w.withFollow "special-get-raises" false)) := by kernel_rfl
theorem hc2_t (w : World) (os : OsState) (f : Nat → Obj) (h : Nat → Int) (tk : Nat → Nat) (t0 : Nat) (v c : Nat → Value) (ep k : Nat) (p : Pos) : (segQ (w.withFollow "special-get-raises" true) 20000 ls2 (stE (w.withFollow "special-get-raises" true) 463 (fx (w.withFollow "special-get-raises" true) os (mdO nm1 h tk (vx (w.withFollow "special-get-raises" true) "pageloom.flowops" t0 v) ep) (plO ps1 c) f) k os) p).map (fun r => (coreO 463 is2 r, fo2 707 (cont r.1.tree))) = some (coreV (w.withFollow "special-get-raises" true) os 707 nm2 ps2 463 (fx (w.withFollow "special-get-raises" true) os (mdO nm1 h tk (vx (w.withFollow "special-get-raises" true) "pageloom.flowops" t0 v) ep) (plO ps1 c) f) is2 (vx (w.withFollow "special-get-raises" true) "pageloom.flowops" t0 v), fv2 (w.withFollow "special-get-raises" true)) := by kernel_rfl
theorem hc2 (w : World) : hc2_P w := byRow2 "special-get-raises" (P := hc2_P) (fun w os f h tk t0 v c ep k p => hc2_f w os f h tk t0 v c ep k p) (fun w os f h tk t0 v c ep k p => hc2_t w os f h tk t0 v c ep k p) w
end Hd
end
noncomputable section
namespace Hd
open PySem PySem.Spec PySem.W PySem.Calls PyProof.Rows L2 HandSHeadRun He Pg
theorem hc1 (w : World) (os : OsState) : (firstQ w os 20000 ls1).map (fun r => (coreO 15 lz r, fo1 463 (cont r.1.tree))) = some (coreV w os 463 nm1 ps1 15 (bF w os) lz (bv w), fv1 w) := by kernel_rfl
end Hd
end
namespace Pg
open PySem PySem.Spec PyProof.Rows L2 C8
section
/-! Own rules, and words that all walks share. -/
/-! ### promises by the number of arguments -/
def Sp1 (F : V → Hp → VK → Prop) : Sp := fun vs H Q _ => ∃ a, vs = [a] ∧ F a H Q
def Sp2 (F : V → V → Hp → VK → Prop) : Sp := fun vs H Q _ => ∃ a b, vs = [a, b] ∧ F a b H Q
def Sp3 (F : V → V → V → Hp → VK → Prop) : Sp := fun vs H Q _ => ∃ a b c, vs = [a, b, c] ∧ F a b c H Q
def Sp4 (F : V → V → V → V → Hp → VK → Prop) : Sp := fun vs H Q _ => ∃ a b c d, vs = [a, b, c, d] ∧ F a b c d H Q
def Sp5 (F : V → V → V → V → V → Hp → VK → Prop) : Sp := fun vs H Q _ => ∃ a b c d e, vs = [a, b, c, d, e] ∧ F a b c d e H Q
section
variable {P : Program} {w : World} {K : PySem.W.Frag} {mg : Str → Option Value} {base : Heap}
/-- how a def without defaults binds -/
abbrev BindF (x qual : Str) (st : Stmt) (ps : List Str) : Prop := ∀ (kV doc pm : Value) (an : Option Addr) (cdv ct : Value) (us : List Value), us.length = ps.length → bindArgs (PySem.W.fnOf x qual (defArgs st) (defBody st) (defScope st) .none kV doc pm an cdv ct) ⟨us, []⟩ = pure (ps.zip us)
/-- the body's walk -/
abbrev BodyF (P : Program) (w : World) (K : PySem.W.Frag) (mg : Str → Option Value) (base : Heap) (qual : Str) (st : Stmt) (N : List Str) (k : Nat) (sp : Sp) : Prop :=
  ∀ (f : Addr) (cdv : Value) (A : Around) (outer : List Env) (s : Shared) (H : Hp) (vs : List V) (Q : VK) (E : XK), Room k (A.deeper (envOfC qual (defScope st) s.heap.objs.size f cdv)) → sp vs H Q E →
    ∃ t, PSs (cxOf C8.CX0 P w K mg base N qual (defScope st) f cdv A outer s H E).nox (defBody st) t ∧ t { nx := fun _ H' => Q .non H', rt := Q } (start N vs) H
theorem calOf {g x : Str} {st : Stmt} {N ps : List Str} {k : Nat} {sp : Sp} (G : GFn K mg g x st) (S : FnScope N ps (defScope st)) (hb : BindF x x st ps) (len : ∀ vs H Q E, sp vs H Q E → vs.length = ps.length) (hw : BodyF P w K mg base x st N k sp) :
    Cal P w K mg base (k + 1) g sp [] := by
  obtain ⟨f, fd, gl, F⟩ := G
  exact ⟨f, fd, ps, [], F.ok S len fun cdv A outer s H vs Q E hr h => by
    obtain ⟨t, a, b⟩ := hw f cdv A outer s H vs Q E hr h
    exact ⟨t, a.nox, b⟩, gl, F.kp, F.bindsN hb, .nil⟩
theorem metOf {C : Addr} {m qual : Str} {st : Stmt} {N ps : List Str} {k : Nat} {sp : Sp} (c : Cls K C) (G : MFn K C m qual st) (S : FnScope N ps (defScope st)) (hb : BindF m qual st ps) (len : ∀ vs H Q E, sp vs H Q E → vs.length = ps.length) (hw : BodyF P w K mg base qual st N k sp) :
    Met P w K mg base (k + 1) C m sp [] := by
  obtain ⟨f, fd, me, F⟩ := G
  exact ⟨f, fd, ps, [], c, me, F.ok S len fun cdv A outer s H vs Q E hr h => by
    obtain ⟨t, a, b⟩ := hw f cdv A outer s H vs Q E hr h
    exact ⟨t, a.nox, b⟩, F.bindsN hb, .nil⟩
theorem makOf {C : Addr} {x qual : Str} {st : Stmt} {N ps : List Str} {k : Nat} {sp : Sp} (gc : mg x = some (.ref C)) (G : IFn K C qual st []) (S : FnScope N ps (defScope st)) (hb : BindF "__init__" qual st ps) (len : ∀ vs H Q E, sp vs H Q E → vs.length = ps.length) (hw : BodyF P w K mg base qual st N k sp) :
    Mak P w K mg base (k + 1) x C sp [] := by
  obtain ⟨f, fd, M, F⟩ := G
  exact ⟨f, fd, ps, [], M, F.ok S len fun cdv A outer s H vs Q E hr h => by
    obtain ⟨t, a, b⟩ := hw f cdv A outer s H vs Q E hr h
    exact ⟨t, a.nox, b⟩, gc, F.bindsN hb, .nil⟩
theorem Sp1.len {F : V → Hp → VK → Prop} {n : List Str} (h : n.length = 1 := by rfl) : ∀ vs H Q E, Sp1 F vs H Q E → vs.length = n.length := by
  rintro vs H Q E ⟨a, rfl, _⟩
  exact h.symm
theorem Sp2.len {F : V → V → Hp → VK → Prop} {n : List Str} (h : n.length = 2 := by rfl) : ∀ vs H Q E, Sp2 F vs H Q E → vs.length = n.length := by
  rintro vs H Q E ⟨a, b, rfl, _⟩
  exact h.symm
theorem Sp3.len {F : V → V → V → Hp → VK → Prop} {n : List Str} (h : n.length = 3 := by rfl) : ∀ vs H Q E, Sp3 F vs H Q E → vs.length = n.length := by
  rintro vs H Q E ⟨a, b, c, rfl, _⟩
  exact h.symm
theorem Sp4.len {F : V → V → V → V → Hp → VK → Prop} {n : List Str} (h : n.length = 4 := by rfl) : ∀ vs H Q E, Sp4 F vs H Q E → vs.length = n.length := by
  rintro vs H Q E ⟨a, b, c, d, rfl, _⟩
  exact h.symm
theorem Sp5.len {F : V → V → V → V → V → Hp → VK → Prop} {n : List Str} (h : n.length = 5 := by rfl) : ∀ vs H Q E, Sp5 F vs H Q E → vs.length = n.length := by
  rintro vs H Q E ⟨a, b, c, d, e, rfl, _⟩
  exact h.symm
end
/-! ### rules -/
section
variable {X : Cx} {k j : Nat} {C : Addr} {x m : Str} {sp : Sp} {p pos : Pos} {e o : Expr} {es : List Expr} {ta te : TE} {t : TA}
/-- an expression that is never come to -/
def tNo : TE := fun _ _ _ => False
theorem pe_no : PE X e tNo := ⟨fun _ _ _ _ _ _ h => h.elim⟩
/-- C() -/
theorem pe_mk0 {dvs : List V} (c : Mak X.prog X.w X.K X.mg X.base k x C sp dvs) (hr : Room j X.A) (hk : k + 1 ≤ j) (hg : Gl X x) (hdb : (x == ("__debug__" : Str)) = false := by decide) : PE X (.Call (.Name x p) [] [] pos) (tMake C sp dvs C8.E0 tNil) := by
  obtain ⟨f, fd, ps, ds, M, F, gc, hb, hd⟩ := c.ex
  exact pe_make0 M F (hr.mono hk) hg gc hb hd C8.pass0 hdb
/-- o.f = .. as a target -/
def gFld (K : PySem.W.Frag) (to : TE) (f : Str) : TG := fun y σ H Q => to σ H fun x H1 => ∃ a C dx fs, x = .ref a ∧ H1 a = some (.ins C dx fs) ∧ Cls K C ∧ NoAttr K C f ∧ fs.length < 1000 ∧ Q σ (upd H1 a (.ins C dx (putF f y fs)))
theorem pg_fld {f : Str} (ho : PE X o te)
    (ha : ∀ v, assign (.Attribute o f pos) X.env v = (do
      let ov ← holding [v] (eval o X.env)
      standAt pos.atName
      holding [v, ov] (setAttr ov f v)
      release [v, ov] []) := by intro _; rfl) : PG X (.Attribute o f pos) (gFld X.K te f) := by
  refine ⟨fun pins s σ H v u Q I r h => ?_⟩
  rw [ha]
  refine wpAny_bind (wpAny_holding (thn (ho.run pins s σ H _ I h) fun ov s1 z => ?_))
  obtain ⟨x, H1, I1, r1, a, C, dx, fs, ex, ea, c, n, l, q⟩ := z
  subst ex
  obtain rfl : ov = Value.ref a := r1
  refine wpAny_bind (wpAny_standAt (wpAny_bind (wpAny_holding (setattr_ok I1 ea c n l r fun s3 I3 => ?_))))
  exact wpAny_release ⟨σ, _, I3, q⟩
end
/-! ### an instance's fields, in the order in which they were stored -/
theorem lk : ∀ {nm : List Str} {vs : List V} {i : Nat} {f : Str} {v : V}, nm.Nodup → nm[i]? = some f → vs[i]? = some v → (nm.zip vs).lookup f = some v
  | [], _, _, _, _, _, h, _ => by simp at h
  | _ :: _, [], _, _, _, _, _, h => by simp at h
  | n :: nm, x :: vs, 0, f, v, _, h1, h2 => by
    cases h1
    cases h2
    show ((n, x) :: nm.zip vs).lookup n = some x
    rw [List.lookup_cons, beq_self_eq_true]
  | n :: nm, x :: vs, i + 1, f, v, h, h1, h2 => by
    obtain ⟨a, b⟩ := List.nodup_cons.mp h
    have q := lk (nm := nm) (vs := vs) (i := i) b h1 h2
    have ne : (f == n) = false := by
      rw [beq_eq_false_iff_ne]
      intro z
      exact a (z ▸ List.mem_of_getElem? h1)
    show ((n, x) :: nm.zip vs).lookup f = some v
    rw [List.lookup_cons, ne]
    exact q
theorem lkn : ∀ {nm : List Str} {vs : List V} {f : Str}, f ∉ nm → (nm.zip vs).lookup f = none
  | [], _, _, _ => rfl
  | _ :: _, [], _, _ => rfl
  | n :: nm, x :: vs, f, h => by
    have ne : (f == n) = false := by
      rw [beq_eq_false_iff_ne]
      intro z
      exact h (z ▸ List.mem_cons_self)
    show ((n, x) :: nm.zip vs).lookup f = none
    rw [List.lookup_cons, ne]
    exact lkn fun m => h (List.mem_cons_of_mem _ m)
theorem zlen (nm : List Str) (vs : List V) : (nm.zip vs).length ≤ nm.length := by
  rw [List.length_zip]
  omega
theorem pt : ∀ {nm : List Str} {vs : List V} {i : Nat} {f : Str} (v : V), nm.Nodup → nm[i]? = some f → i < vs.length → putF f v (nm.zip vs) = nm.zip (vs.set i v)
  | [], _, _, _, _, _, h, _ => by simp at h
  | _ :: _, [], _, _, _, _, _, h => by simp at h
  | n :: nm, x :: vs, 0, f, v, _, h1, h2 => by
    cases h1
    show (if n = n then (n, v) :: nm.zip vs else _) = (n, v) :: nm.zip vs
    rw [if_pos rfl]
  | n :: nm, x :: vs, i + 1, f, v, h, h1, h2 => by
    obtain ⟨a, b⟩ := List.nodup_cons.mp h
    have q := pt (nm := nm) (vs := vs) (i := i) v b h1 (Nat.lt_of_succ_lt_succ h2)
    have ne : ¬ n = f := fun z => a (z ▸ List.mem_of_getElem? h1)
    show (if n = f then _ else (n, x) :: putF f v (nm.zip vs)) = (n, x) :: nm.zip (vs.set i v)
    rw [if_neg ne, q]
/-- the next field is stored for the first time -/
theorem ptNew : ∀ {nm : List Str} {vs : List V} {f : Str} (v : V), nm.Nodup → nm[vs.length]? = some f → putF f v (nm.zip vs) = nm.zip (vs ++ [v])
  | [], _, _, _, _, h => by simp at h
  | n :: nm, [], f, v, _, h1 => by
    cases h1
    show [(n, v)] = (n, v) :: nm.zip []
    rw [List.zip_nil_right]
  | n :: nm, x :: vs, f, v, h, h1 => by
    obtain ⟨a, b⟩ := List.nodup_cons.mp h
    have q := ptNew (nm := nm) (vs := vs) v b h1
    have ne : ¬ n = f := fun z => a (z ▸ List.mem_of_getElem? h1)
    show (if n = f then _ else (n, x) :: putF f v (nm.zip vs)) = (n, x) :: nm.zip (vs ++ [v])
    rw [if_neg ne, q]
/-! ### what stays: tuples -/
def Tk (K : PySem.W.Frag) (H H' : Hp) : Prop := ∀ a xs, SqT K H a xs → SqT K H' a xs
theorem Tk.refl {K : PySem.W.Frag} (H : Hp) : Tk K H H := fun _ _ h => h
theorem Tk.trans {K : PySem.W.Frag} {H H1 H2 : Hp} (a : Tk K H H1) (b : Tk K H1 H2) : Tk K H H2 := fun c xs h => b c xs (a c xs h)
theorem Same.tk {K : PySem.W.Frag} {H H' : Hp} (e : Same H H') : Tk K H H' := by
  rintro a xs ((h | ⟨o, h⟩) | h)
  · exact .inl (.inl (e _ _ h))
  · exact .inl (.inr ⟨o, e _ _ h⟩)
  · exact .inr h
theorem Tk.upd {K : PySem.W.Frag} {H : Hp} {p : Addr} {o : HO} (h1 : ∀ xs, H p ≠ some (.tup xs)) (h2 : ∀ ob u, H p ≠ some (.frz ob u)) : Tk K H (upd H p o) := by
  rintro a xs ((h | ⟨ob, h⟩) | h)
  · have ne : a ≠ p := fun z => h1 xs (z ▸ h)
    exact .inl (.inl (by rw [upd_ne ne]; exact h))
  · have ne : a ≠ p := fun z => h2 ob _ (z ▸ h)
    exact .inl (.inr ⟨ob, by rw [upd_ne ne]; exact h⟩)
  · exact .inr h
theorem Tk.new {K : PySem.W.Frag} {H : Hp} {p : Addr} {o : HO} (h : H p = none) : Tk K H (L2.upd H p o) := Tk.upd (fun xs z => by rw [h] at z; cases z) (fun ob u z => by rw [h] at z; cases z)
theorem Tk.ins {K : PySem.W.Frag} {H : Hp} {p C dx : Addr} {fs : List (Str × V)} {o : HO} (h : H p = some (.ins C dx fs)) : Tk K H (L2.upd H p o) := Tk.upd (fun xs z => by rw [h] at z; cases z) (fun ob u z => by rw [h] at z; cases z)
theorem Tk.lst {K : PySem.W.Frag} {H : Hp} {p : Addr} {ys : List V} {o : HO} (h : H p = some (.lst ys)) : Tk K H (L2.upd H p o) := Tk.upd (fun xs z => by rw [h] at z; cases z) (fun ob u z => by rw [h] at z; cases z)
theorem same_new {H : Hp} {p : Addr} {o : HO} (h : H p = none) : Same H (upd H p o) := fun b u e => by
  rw [upd_ne (ne_of_none e h)]
  exact e
/-- all but the objects at these addresses stay -/
def But (l : List Addr) (H H' : Hp) : Prop := ∀ b o, b ∉ l → H b = some o → H' b = some o
theorem But.of {l : List Addr} {H H' : Hp} (e : Same H H') : But l H H' := fun b o _ h => e b o h
theorem But.trans {l : List Addr} {H H1 H2 : Hp} (a : But l H H1) (b : But l H1 H2) : But l H H2 := fun c o n h => b c o n (a c o n h)
theorem But.upd {l : List Addr} {H : Hp} {p : Addr} {o : HO} (h : p ∈ l) : But l H (L2.upd H p o) := fun b u n e => by
  have ne : b ≠ p := fun z => n (by rw [z]; exact h)
  rw [upd_ne ne]
  exact e
theorem But.mono {l l' : List Addr} {H H' : Hp} (e : But l H H') (h : ∀ a ∈ l, a ∈ l') : But l' H H' := fun b o n q => e b o (fun z => n (h _ z)) q
/-! ### numbers: tuples of two ints -/
abbrev Num := Int × Int
def Nm (K : PySem.W.Frag) (H : Hp) (v : V) (n : Num) : Prop := ∃ a, v = .ref a ∧ SqT K H a [.int n.1, .int n.2]
theorem Nm.tk {K : PySem.W.Frag} {H H' : Hp} {v : V} {n : Num} (h : Nm K H v n) (e : Tk K H H') : Nm K H' v n := by
  obtain ⟨a, rfl, q⟩ := h
  exact ⟨a, rfl, e _ _ q⟩
theorem Nm.same {K : PySem.W.Frag} {H H' : Hp} {v : V} {n : Num} (h : Nm K H v n) (e : Same H H') : Nm K H' v n := h.tk (Same.tk e)
theorem at0 {α : Type} {x : α} {xs : List α} : atI (x :: xs) (0 : Int) = some x := atI_nat (j := 0) rfl
theorem at1 {α : Type} {x y : α} {xs : List α} : atI (x :: y :: xs) (1 : Int) = some y := atI_nat (j := 1) rfl
end
section
/-! Readings, one step at a time: introduction rules for the heads of readings. -/
section
variable {K : PySem.W.Frag} {D : Ends} {σ : L2.St} {H : Hp} {Q : VK} {B : Bool → Hp → Prop} {ta tb te : TE} {t u : TS} {c d : TT} {v x y : V} {i j : Int} {n : Nat} {r : R2} {L : List V → Hp → Prop} {a b : V} {tt tr : TA} {B2 : L2.St → Hp → Prop}
theorem r_var (h : σ[n]? = some (some v)) (q : Q v H) : tVar n σ H Q := ⟨v, h, q⟩
theorem r_c (q : Q v H) : tC v σ H Q := q
theorem r_op (h : ta σ H fun x H1 => tb σ H1 fun y H2 => r x y H2 Q) : tOp r ta tb σ H Q := h
theorem r_un {r : V → Hp → VK → Prop} (h : ta σ H fun x H1 => r x H1 Q) : tUn r ta σ H Q := h
theorem r_U {g : Int → V} (q : Q (g i) H) : rU g (.int i) H Q := ⟨i, rfl, q⟩
theorem r_I0 {g : Int → Int → V} (q : Q (g i j) H) : rI0 g (.int i) (.int j) H Q := ⟨i, j, rfl, rfl, q⟩
theorem r_I {C : Int → Int → Prop} {g : Int → Int → V} (c : C i j) (q : Q (g i j) H) : rI C g (.int i) (.int j) H Q := ⟨i, j, rfl, rfl, c, q⟩
theorem r_ixT {p : Addr} {xs : List V} (h : SqT K H p xs) (ha : atI xs i = some v) (q : Q v H) : rIxT K (.ref p) (.int i) H Q := ⟨p, xs, i, v, rfl, rfl, h, ha, q⟩
theorem r_ixL {p : Addr} {xs : List V} (h : SqL K H p xs) (ha : atI xs i = some v) (q : Q v H) : rIxL K (.ref p) (.int i) H Q := ⟨p, xs, i, v, rfl, rfl, h, ha, q⟩
theorem r_eq (h : scal x y = true) (q : Q (.bl (decide (x = y))) H) : rEq x y H Q := ⟨h, q⟩
theorem r_ne (h : scal x y = true) (q : Q (.bl (!decide (x = y))) H) : rNe x y H Q := ⟨h, q⟩
theorem r_bl {k : Bool} (q : B k H) : ∃ c, V.bl k = .bl c ∧ B c H := ⟨k, rfl, q⟩
theorem r_seq (h : t { D with nx := u D } σ H) : tSeq t u D σ H := h
theorem r_set (h : te σ H fun x H1 => D.nx (σ.set n (some x)) H1) : tAsg te (gName n) D σ H := h
theorem r_asg {g : TG} (h : te σ H fun x H1 => g x σ H1 D.nx) : tAsg te g D σ H := h
theorem r_ret (h : te σ H D.rt) : tRet te D σ H := h
theorem r_drop (h : te σ H fun _ H1 => D.nx σ H1) : tDrop te D σ H := h
theorem r_if (h : c σ H fun b H1 => if b = true then t D σ H1 else u D σ H1) : tIfS c t u D σ H := h
theorem r_next (h : D.nx σ H) : tNext D σ H := h
theorem r_test (h : te σ H fun x H' => ∃ k, x = .bl k ∧ B k H') : tTest te σ H B := h
theorem r_B (h : te σ H fun x H1 => ∃ c, x = .bl c ∧ B c H1) : tB te σ H B := h
theorem r_and (h : c σ H fun k H1 => if k = true then d σ H1 B else B false H1) : tAnd c d σ H B := h
theorem r_or (h : c σ H fun k H1 => if k = true then B true H1 else d σ H1 B) : tOr c d σ H B := h
theorem r_not (h : c σ H fun k H1 => B (!k) H1) : tNot c σ H B := h
theorem r_andV (h : ta σ H fun x H1 => ∃ c, x = .bl c ∧ if c = true then tb σ H1 Q else Q (.bl false) H1) : tAndV ta tb σ H Q := h
theorem r_orV (h : ta σ H fun x H1 => ∃ c, x = .bl c ∧ if c = true then Q (.bl true) H1 else tb σ H1 Q) : tOrV ta tb σ H Q := h
theorem r_notV (h : ta σ H fun x H1 => ∃ c, x = .bl c ∧ Q (.bl (!c)) H1) : tNotV ta σ H Q := h
theorem r_ifx (h : c σ H fun k H1 => if k = true then ta σ H1 Q else tb σ H1 Q) : tIf c ta tb σ H Q := h
theorem r_nil (q : L [] H) : tNil σ H L := q
theorem r_cons (h : ta σ H fun x H1 => tr σ H1 fun xs H2 => L (x :: xs) H2) : tCons ta tr σ H L := h
theorem r_cb {r : List V → Hp → VK → Prop} (h : tt σ H fun vs H1 => r vs H1 Q) : tCB r tt σ H Q := h
theorem r_call {sp : Sp} {E : XK} (h : tt σ H fun vs H1 => sp (vs ++ []) H1 Q E) : tCall sp [] E tt σ H Q := h
theorem r_sp1 {F : V → Hp → VK → Prop} {E : XK} (q : F a H Q) : Sp1 F ([a] ++ []) H Q E := ⟨a, rfl, q⟩
theorem r_sp2 {F : V → V → Hp → VK → Prop} {E : XK} (q : F a b H Q) : Sp2 F ([a, b] ++ []) H Q E := ⟨a, b, rfl, q⟩
theorem r_sp3 {F : V → V → V → Hp → VK → Prop} {E : XK} {e : V} (q : F a b e H Q) : Sp3 F ([a, b, e] ++ []) H Q E := ⟨a, b, e, rfl, q⟩
theorem r_sp4 {F : V → V → V → V → Hp → VK → Prop} {E : XK} {e f : V} (q : F a b e f H Q) : Sp4 F ([a, b, e, f] ++ []) H Q E := ⟨a, b, e, f, rfl, q⟩
theorem r_sp5 {F : V → V → V → V → V → Hp → VK → Prop} {E : XK} {e f g : V} (q : F a b e f g H Q) : Sp5 F ([a, b, e, f, g] ++ []) H Q E := ⟨a, b, e, f, g, rfl, q⟩
theorem r_tup (h : tt σ H fun xs H1 => xs.length ≤ sizeLine ∧ ∀ p, H1 p = none → Q (.ref p) (upd H1 p (.tup xs))) : tTup tt σ H Q := h
theorem r_lst (h : tt σ H fun xs H1 => xs.length ≤ sizeLine ∧ ∀ p, H1 p = none → Q (.ref p) (upd H1 p (.lst xs))) : tLst tt σ H Q := h
theorem r_par {i j : Nat} (h : tt σ H fun vs H1 => ∃ v w, vs = [v, w] ∧ D.nx ((σ.set i (some v)).set j (some w)) H1) : tPar i j tt D σ H := h
theorem r_par2 {i j : Nat} (h : D.nx ((σ.set i (some a)).set j (some b)) H) : ∃ v w, [a, b] = [v, w] ∧ D.nx ((σ.set i (some v)).set j (some w)) H := ⟨a, b, rfl, h⟩
theorem r_isN (q : Q (.bl (decide (x = .non))) H) : (fun (x y : V) (H : Hp) (Q : VK) => y = V.non ∧ Q (.bl (decide (x = .non))) H) x .non H Q := ⟨rfl, q⟩
theorem r_aug {ti : TIp} {i : Nat} (h : σ[i]? = some (some x)) (q : te σ H fun y H1 => ti x y H1 fun z H2 => D.nx (σ.set i (some z)) H2) : tAug i te ti D σ H := ⟨x, h, q⟩
theorem r_ipI {f : Int → Int → Int} (q : Q (.int (f i j)) H) : ipI f (.int i) (.int j) H Q := ⟨i, j, rfl, rfl, q⟩
theorem r_sl {r : V → Option Int → Option Int → Hp → VK → Prop} {tl th : TO} (h : te σ H fun x H1 => tl σ H1 fun l H2 => th σ H2 fun u H3 => r x l u H3 Q) : L2.tSl r te tl th σ H Q := h
theorem r_np {L1 : Option Int → Hp → Prop} (h : L1 none H) : tNoPart σ H L1 := h
theorem r_pt {L1 : Option Int → Hp → Prop} (h : te σ H fun x H1 => ∃ i, x = .int i ∧ L1 (some i) H1) : tPart te σ H L1 := h
theorem r_wh {D : Ends} {σ : L2.St} {H : Hp} {tc : TT} {tb : TS} (h : ∃ W : Nat → L2.St → Hp → Prop, (∃ m, W m σ H) ∧ ∀ m σ H, W m σ H →
  tc σ H fun b H1 => if b = true then ∃ N : L2.St → Hp → Prop, (∀ σ' H', N σ' H' → ∃ m', m' < m ∧ W m' σ' H') ∧ tb { D with nx := N, ct := N, bk := D.nx } σ H1 else D.nx σ H1) : tWhile tc tb D σ H := h
theorem r_yes (h : B true H) : tYes σ H B := h
theorem r_gn (h : B2 (σ.set n (some v)) H) : gName n v σ H B2 := h
theorem r_gt {K : PySem.W.Frag} {p : Addr} {xs : List V} {t : TGs} {m : Nat} (e : SqT K H p xs) (l : xs.length = m) (h : t xs σ H B2) : gTup K m t (.ref p) σ H B2 := ⟨p, xs, rfl, e, l, h⟩
theorem r_gc {t : TG} {u : TGs} {vs : List V} (h : t v σ H fun σ' H' => u vs σ' H' B2) : gCons t u (v :: vs) σ H B2 := ⟨v, vs, rfl, h⟩
theorem r_g0 (h : B2 σ H) : gNil [] σ H B2 := ⟨rfl, h⟩
theorem r_sz {xs : List V} {R : Prop} (q : R) (h : xs.length ≤ sizeLine := by exact Nat.le_of_ble_eq_true rfl) : xs.length ≤ sizeLine ∧ R := ⟨h, q⟩
/-- a field of an instance, its fields in order -/
theorem r_fld {f : Str} (h : ta σ H fun x H1 => ∃ a C dx fs v, x = .ref a ∧ H1 a = some (.ins C dx fs) ∧ Cls K C ∧ NoAttr K C f ∧ fs.lookup f = some v ∧ Q v H1) : tFld K ta f σ H Q := h
theorem r_fldv {f : Str} {p C dx : Addr} {nm : List Str} {vs : List V} {m : Nat} (e : H p = some (.ins C dx (nm.zip vs))) (cl : Cls K C) (na : NoAttr K C f) (nd : nm.Nodup) (hi : nm[m]? = some f) (hv : vs[m]? = some v) (q : Q v H) :
    ∃ a C dx fs v, V.ref p = .ref a ∧ H a = some (.ins C dx fs) ∧ Cls K C ∧ NoAttr K C f ∧ fs.lookup f = some v ∧ Q v H := ⟨p, C, dx, _, v, rfl, e, cl, na, lk nd hi hv, q⟩
end
theorem seqL {K : PySem.W.Frag} {H : Hp} {l : Addr} {xs : List V} (e : H l = some (.lst xs)) : SqL K H l xs := .inl (.inl e)
theorem r_for {wi : TI} {g : TG} {tb : TS} {D : Ends} {σ : L2.St} {H : Hp} (h : wi σ H fun J H1 => ∃ W : Nat → Nat → L2.St → Hp → Prop, (∃ m, W 0 m σ H1) ∧ ∀ i m σ H, W i m σ H →
  (J.stop i H ∧ D.nx σ H) ∨ (J.go i H ∧ ∃ N : L2.St → Hp → Prop, (∀ σ' H', N σ' H' → ∃ m', m' < m ∧ W (i + 1) m' σ' H') ∧ ∀ x H', J.yld i H x H' → g x σ H' fun σ2 H2 => tb { D with nx := N, ct := N, bk := D.nx } σ2 H2)) : tFor wi g tb D σ H := h
theorem r_il {σ : L2.St} {H : Hp} {K : PySem.W.Frag} {te : TE} {R : It → Hp → Prop} (h : te σ H fun x H1 => ∃ a, x = .ref a ∧ (∃ xs, SqL K H1 a xs) ∧ R (Itl K a) H1) : iList K te σ H R := h
theorem r_it {σ : L2.St} {H : Hp} {K : PySem.W.Frag} {te : TE} {R : It → Hp → Prop} (h : te σ H fun x H1 => ∃ a, x = .ref a ∧ (∃ xs, SqT K H1 a xs) ∧ R (Itt K a) H1) : iTup K te σ H R := h
theorem r_iz {σ : L2.St} {H : Hp} {K : PySem.W.Frag} {ta : TA} {R : It → Hp → Prop} (h : ta σ H fun vs H1 => ∃ a b xs ys, vs = [.ref a, .ref b] ∧ SqL K H1 a xs ∧ SqL K H1 b ys ∧ R (Itz K a b) H1) : iZip K ta σ H R := h
theorem r_ir1 {σ : L2.St} {H : Hp} {ta : TA} {R : It → Hp → Prop} (h : ta σ H fun vs H1 => ∃ j : Int, vs = [.int j] ∧ -(2 ^ 62) ≤ j ∧ j < 2 ^ 62 ∧ R (Itr 0 j.toNat) H1) : iRng1 ta σ H R := h
theorem r_ir2 {σ : L2.St} {H : Hp} {ta : TA} {R : It → Hp → Prop} (h : ta σ H fun vs H1 => ∃ i j : Int, vs = [.int i, .int j] ∧ (-(2 ^ 62) ≤ i ∧ i < 2 ^ 62 ∧ -(2 ^ 62) ≤ j ∧ j < 2 ^ 62) ∧ R (Itr i (j - i).toNat) H1) : iRng2 ta σ H R := h
theorem r_lc {σ : L2.St} {H : Hp} {Q : VK} {wi : TI} {g : TG} {tt : TT} {te : TE} {vs : List Nat} (h : wi σ H fun J H1 => ∀ D, H1 D = none → ∃ W : Nat → Nat → Hp → Prop, (∃ m, W 0 m (upd H1 D (.lst []))) ∧ ∀ i m H, W i m H →
  (J.stop i H ∧ Q (.ref D) H) ∨ (J.go i H ∧ ∃ Nx : Hp → Prop, (∀ H', Nx H' → ∃ m', m' < m ∧ W (i + 1) m' H') ∧ ∀ x H', J.yld i H x H' → g x (wipe σ vs) H' fun σ2 H2 => wipe σ2 vs = wipe σ vs ∧ tt σ2 H2 fun b H3 =>
    if b = true then te σ2 H3 fun y H4 => ∃ acc, H4 D = some (.lst acc) ∧ acc.length < sizeLine ∧ Nx (upd H4 D (.lst (acc ++ [y]))) else Nx H3)) : tLc wi g tt te vs σ H Q := h
theorem r_ll {l : Addr} {xs : List V} {H : Hp} {K : PySem.W.Frag} {R : Prop} (e : H l = some (.lst xs)) (q : R) : (∃ xs, SqL K H l xs) ∧ R := ⟨⟨xs, seqL e⟩, q⟩
end
section
local macro_rules | `(tactic| walk_at "fld") => `(tactic| (refine fkT (w := ?w) (K := ?K) (mg := ?mg) (A := ?A) ?t ?e ?h; (case t => assumption); (case e => exact rfl); (case h => first | with_reducible exact g_Look_matrix (by assumption) | with_reducible exact g_Look_path (by assumption) | with_reducible exact g_Look_ink (by assumption) | with_reducible exact g_Look_width (by assumption) | with_reducible exact g_Look_clips (by assumption) | with_reducible exact g_Look_font (by assumption) | with_reducible exact g_World_operands (by assumption) | with_reducible exact g_World_rooms (by assumption) | with_reducible exact g_World_scopes (by assumption) | with_reducible exact g_World_look (by assumption) | with_reducible exact g_World_kept (by assumption) | with_reducible exact g_World_sheets (by assumption) | with_reducible exact g_World_inkings (by assumption) | with_reducible exact g_World_saves (by assumption) | with_reducible exact g_World_many_saves (by assumption) | with_reducible exact g_Items_body (by assumption) | with_reducible exact g_Items_at (by assumption) | with_reducible exact g_Reader_text (by assumption) | with_reducible exact g_Reader_at (by assumption) | with_reducible exact g_Reader_row (by assumption) | with_reducible exact g_Reader_column (by assumption) | with_reducible exact g_Reader_deep (by assumption) | with_reducible exact g_Machine_wide (by assumption) | with_reducible exact g_Machine_high (by assumption) | with_reducible exact g_Machine_most (by assumption) | with_reducible exact g_Machine_world (by assumption) | with_reducible exact g_Machine_frames (by assumption) | with_reducible exact g_Machine_left (by assumption) | with_reducible exact g_Machine_told (by assumption) | with_reducible exact g_Machine_is_running (by assumption) | with_reducible exact g_Machine_ahead (by assumption) | with_reducible exact g_Machine_past (by assumption) | with_reducible exact g_Machine_later (by assumption))))
/-- as many steps as go by themselves -/
local macro_rules | `(tactic| walk_at "g1") => `(tactic| (first
  | with_reducible refine r_seq ?_ | with_reducible refine r_set ?_ | with_reducible refine r_asg ?_ | with_reducible refine r_sl ?_ | with_reducible refine r_np ?_ | with_reducible refine r_pt ?_ | with_reducible refine r_gn ?_ | with_reducible refine r_gc ?_ | with_reducible refine r_g0 ?_ | ((with_reducible refine r_gt (xs := ?xs) ?h ?g ?_); (case h => assumption); (case g => exact rfl)) | with_reducible refine r_ret ?_ | with_reducible refine r_if ?_ | with_reducible refine r_test ?_ | with_reducible refine r_B ?_ | with_reducible refine r_and ?_ | with_reducible refine r_or ?_ | with_reducible refine r_not ?_
  | with_reducible refine r_andV ?_ | with_reducible refine r_orV ?_ | with_reducible refine r_notV ?_ | with_reducible refine r_ifx ?_ | with_reducible refine r_op ?_ | with_reducible refine r_un ?_ | with_reducible refine r_U ?_ | with_reducible refine r_c ?_ | with_reducible refine r_I0 ?_ | with_reducible refine r_drop ?_ | with_reducible refine r_next ?_
  | ((with_reducible refine r_var (v := ?v) ?h ?_); (case h => exact rfl)) | with_reducible refine r_bl ?_ | with_reducible refine r_nil ?_ | with_reducible refine r_cons ?_ | with_reducible refine r_cb ?_ | with_reducible refine r_call ?_ | with_reducible refine r_spk ?_ | with_reducible refine r_sp1 ?_ | with_reducible refine r_sp2 ?_ | with_reducible refine r_sp3 ?_ | with_reducible refine r_sp4 ?_ | with_reducible refine r_sp5 ?_
  | with_reducible refine r_tup ?_ | with_reducible refine r_lst ?_ | with_reducible refine r_par ?_ | with_reducible refine r_par2 ?_ 
  | ((with_reducible refine r_eq ?h ?_); (case h => exact rfl)) | ((with_reducible refine r_ne ?h ?_); (case h => exact rfl))
  | ((with_reducible refine r_ixT (xs := ?xs) (v := ?v) ?h ?g ?_); (case h => assumption); (case g => first | exact at0 | exact at1))
  | ((with_reducible refine r_fl (i := ?i) (nm := ?nm) (C := ?C) (dx := ?dx) (vs := ?vs) (v := ?v) ?ok ?e ?hv ?_); (case e => assumption); (case ok => walk_at "fld"); (case hv => rfl)) | with_reducible refine r_for ?_ | with_reducible refine r_il ?_ | with_reducible refine r_it ?_ | with_reducible refine r_iz ?_ | with_reducible refine r_ir1 ?_ | with_reducible refine r_ir2 ?_ | with_reducible refine r_lc ?_ | with_reducible refine r_sFld ?_ | with_reducible refine r_ck ?_ | with_reducible refine r_fld ?_ | with_reducible refine ⟨_, rfl, ?_⟩ | with_reducible refine ⟨_, _, rfl, .inr (by with_unfolding_all assumption), ?_⟩ | with_reducible refine ⟨_, _, rfl, .inl (seqL (by assumption)), ?_⟩ | with_reducible refine ⟨_, _, rfl, rfl, ?_⟩ | with_reducible refine ⟨_, _, rfl, ?_⟩ | with_reducible refine ⟨rfl, ?_⟩ | with_reducible refine r_sz ?_))
local macro_rules | `(tactic| walk_at "go") => `(tactic| (repeat walk_at "g1"))
variable {P : Program} {w : World} {K : PySem.W.Frag} {mg : Str → Option Value} {A : Ad} {base : Heap}
theorem gcd_step {u v : Int} (hu : 0 ≤ u) (hv : 0 < v) : Int.gcd v (u % v) = Int.gcd u v := by
  rw [Int.gcd_comm v, Int.gcd_comm u]
  have e : ((u % v).natAbs) = u.natAbs % v.natAbs := Int.natAbs_emod_of_nonneg hu v
  show Nat.gcd ((u % v).natAbs) v.natAbs = Nat.gcd v.natAbs u.natAbs
  rw [e]
  rw [Nat.gcd_rec v.natAbs u.natAbs, Nat.gcd_comm]
theorem sc_common : FnScope ["one", "other"] ["one", "other"] (defScope s_common) := ⟨rfl, rfl, rfl, by decide +kernel, rfl, by decide +kernel, by decide +kernel⟩
abbrev spCommon : Sp := Sp2 fun a b H Q => ∃ i j : Int, a = .int i ∧ b = .int j ∧ Q (.int (Int.gcd i j : Nat)) H
theorem cal_common (T : Tx w K mg A) : Cal P w K mg base 1 "common" spCommon [] := by
  refine calOf T.f_common sc_common (fun _ _ _ _ _ _ us hl => match us, hl with | [_, _], _ => rfl) Sp2.len fun f cdv A outer s H vs Q E hr h => ?_
  obtain ⟨_, _, rfl, i, j, rfl, rfl, q⟩ := h
  refine ⟨_, (pss_cons (ps_par (i := 0) (j := 1) rfl sc_common.nd rfl rfl (by decide) rfl rfl (pa_cons (pe_callB call_abs rfl T.n_abs (by decide +kernel) (pa_cons (pv 0) pa_nil)) (pa_cons (pe_callB call_abs rfl T.n_abs (by decide +kernel) (pa_cons (pv 1) pa_nil)) pa_nil)) (by rfl))
    (pss_cons (ps_while PassesOwn.never (pt_cmpR op_gt (pv 1) pe_int (nomark _))
    (pss_one (ps_par (i := 0) (j := 1) rfl sc_common.nd rfl rfl (by decide) rfl rfl (pa_cons (pv 1) (pa_cons (pe_op op_mod (pv 0) (pv 1)) pa_nil)) (by rfl))))
    (pss_one (ps_ret (pv 0))))), ?_⟩
  walk_at "go"
  refine ⟨fun m σ H' => ∃ u v : Int, σ = [some (.int u), some (.int v)] ∧ H' = H ∧ 0 ≤ u ∧ 0 ≤ v ∧ Int.gcd u v = Int.gcd i j ∧ m = v.toNat, ⟨_, _, _, rfl, rfl, by split <;> omega, by split <;> omega, ?_, rfl⟩, ?_⟩
  · have e : ∀ k : Int, (if k < 0 then -k else k).natAbs = k.natAbs := fun k => by split <;> omega
    show Nat.gcd _ _ = Nat.gcd _ _
    rw [e, e]
  · rintro m σ H' ⟨u, v, rfl, rfl, hu, hv, hg, rfl⟩
    walk_at "go"
    refine ite2 (fun h => ⟨fun σ' H2 => ∃ m', m' < v.toNat ∧ ∃ u v : Int, σ' = [some (.int u), some (.int v)] ∧ H2 = H' ∧ 0 ≤ u ∧ 0 ≤ v ∧ Int.gcd u v = Int.gcd i j ∧ m' = v.toNat, fun _ _ h => h, ?_⟩) (fun h => ?_)
    · have hv' : 0 < v := of_decide_eq_true h
      walk_at "go"
      refine r_I hv' ?_
      walk_at "go"
      have h1 := Int.emod_lt_of_pos u hv'
      have h2 := Int.emod_nonneg u (by omega : v ≠ 0)
      exact ⟨(u % v).toNat, by omega, v, u % v, rfl, rfl, hv, h2, (gcd_step hu hv').trans hg, rfl⟩
    · walk_at "go"
      have hv' : ¬ 0 < v := fun z => h (decide_eq_true z)
      have e0 : v = 0 := by omega
      subst e0
      have e1 : (Int.gcd i j : Int) = u := by
        rw [← hg, Int.gcd_zero_right]
        omega
      show Q (.int u) H'
      rw [← e1]
      exact q
/-! ### made, plus, times, is_less -/
/-- the number of two whole ones, the second above 0 -/
def nrm (t d : Int) : Num := (t / (Int.gcd t d : Nat), d / (Int.gcd t d : Nat))
theorem gcd_pos {t d : Int} (h : 0 < d) : (0 : Int) < (Int.gcd t d : Nat) := by
  have := Int.gcd_pos_of_ne_zero_right t (by omega : d ≠ 0)
  omega
theorem gcd_le {t d : Int} (h : 0 < d) : ((Int.gcd t d : Nat) : Int) ≤ d := Int.le_of_dvd h (Int.gcd_dvd_right t d)
theorem natAbs_div_le (t : Int) {g : Int} (h : 0 < g) : (t / g).natAbs ≤ t.natAbs := by
  obtain ⟨n, rfl⟩ := Int.eq_ofNat_of_zero_le (Int.le_of_lt h)
  exact Int.natAbs_ediv_le_natAbs t n
abbrev spMade (K : PySem.W.Frag) : Sp := Sp2 fun a b H Q => ∃ t d : Int, a = .int t ∧ b = .int d ∧ 0 < d ∧ t.natAbs < 10 ^ 40 ∧ d.natAbs < 10 ^ 40 ∧ ∀ v H', Same H H' → Nm K H' v (nrm t d) → Q v H'
theorem sc_made : FnScope ["top", "below", "size"] ["top", "below"] (defScope s_made) := ⟨rfl, rfl, rfl, by decide +kernel, rfl, by decide +kernel, by decide +kernel⟩
theorem lt40 {x : Int} (h : x.natAbs < 10 ^ 40) : x.natAbs < 2 ^ 133 := Nat.lt_of_lt_of_le h (by decide)
theorem cal_made (T : Tx w K mg A) : Cal P w K mg base 2 "made" (spMade K) [] := by
  refine calOf T.f_made sc_made (fun _ _ _ _ _ _ us hl => match us, hl with | [_, _], _ => rfl) Sp2.len fun f cdv A outer s H vs Q E hr h => ?_
  obtain ⟨_, _, rfl, t, d, rfl, rfl, hd, ht, hdd, q⟩ := h
  refine ⟨_, (pss_cons (ps_if (pt_cmpR op_lt (pv 1) pe_int (nomark _))
    (pss_one (ps_par (i := 0) (j := 1) rfl sc_made.nd rfl rfl (by decide) rfl rfl (pa_cons (pe_un un_neg (pv 0)) (pa_cons (pe_un un_neg (pv 1)) pa_nil)) (by rfl)))
    pss_nil)
    (pss_cons (ps_set (i := 2) sc_made.nd rfl (.inl rfl) (pe_c (cal_common T) hr (by decide) rfl (pa_cons (pv 0) (pa_cons (pv 1) pa_nil))))
    (pss_cons (ps_par (i := 0) (j := 1) rfl sc_made.nd rfl rfl (by decide) rfl rfl (pa_cons (pe_op op_fdivW (pv 0) (pv 2)) (pa_cons (pe_op op_fdivW (pv 1) (pv 2)) pa_nil)) (by rfl))
    (pss_one (ps_ret (pe_ifExp (PW.pt (pw_and (pt_cmpR op_lt (pe_callB call_abs rfl T.n_abs (by decide +kernel) (pa_cons (pv 0) pa_nil)) (pe_gc rfl T.v_MOST) (nomark _)) (pw_and1 (pt_cmpR op_lt (pv 1) (pe_gc rfl T.v_MOST) (nomark _))))) (pe_tup (pa_cons (pv 0) (pa_cons (pv 1) pa_nil))) pe_non)))))), ?_⟩
  have hg : (0 : Int) < (Int.gcd t d : Nat) := gcd_pos hd
  have hgl : ((Int.gcd t d : Nat) : Int) ≤ d := gcd_le hd
  have hdv : CDivW t (Int.gcd t d : Nat) := wide_div hg (wide_le (Int.le_of_lt hg) hgl (lt40 hdd)) (by decide) (by decide)
  walk_at "go"
  refine ite2 (fun z => absurd (of_decide_eq_true z) (by omega)) fun _ => ?_
  walk_at "go"
  walk_at "go"
  refine r_I hdv ?_
  walk_at "go"
  refine r_I hdv ?_
  walk_at "go"
  have b1 := natAbs_div_le t hg
  have b2 := natAbs_div_le d hg
  have n2 : 0 ≤ d / (Int.gcd t d : Nat) := Int.ediv_nonneg (by omega) (by omega)
  rw [decide_eq_true (show (if t / (Int.gcd t d : Nat) < 0 then -(t / (Int.gcd t d : Nat)) else t / (Int.gcd t d : Nat)) < (10000000000000000000000000000000000000000 : Int) by split <;> omega)]
  refine iteT ?_
  walk_at "go"
  rw [decide_eq_true (show d / (Int.gcd t d : Nat) < (10000000000000000000000000000000000000000 : Int) by omega)]
  refine iteT ?_
  walk_at "go"
  intro p hp
  exact q _ _ (same_new hp) ⟨p, rfl, SqT.of upd_same⟩
def plusN (x y : Num) : Num := nrm (x.1 * y.2 + y.1 * x.2) (x.2 * y.2)
def timesN (x y : Num) : Num := nrm (x.1 * y.1) (x.2 * y.2)
def lessN (x y : Num) : Bool := decide (x.1 * y.2 < y.1 * x.2)
/-- small enough: below 2^60 -/
structure Sm (x : Num) : Prop where
  pos : 0 < x.2
  top : x.1.natAbs < 2 ^ 60
  low : x.2.natAbs < 2 ^ 60
theorem lt_add {a b : Int} {n : Nat} (ha : a.natAbs < 2 ^ n) (hb : b.natAbs < 2 ^ n) : (a + b).natAbs < 2 ^ (n + 1) := by
  have := Int.natAbs_add_le a b
  rw [Nat.pow_succ]
  omega
theorem lt_sub {a b : Int} {n : Nat} (ha : a.natAbs < 2 ^ n) (hb : b.natAbs < 2 ^ n) : (a - b).natAbs < 2 ^ (n + 1) := by
  have := Int.natAbs_sub_le a b
  rw [Nat.pow_succ]
  omega
theorem up40 {x : Int} {n : Nat} (h : x.natAbs < 2 ^ n) (hn : n ≤ 130) : x.natAbs < 10 ^ 40 := Nat.lt_of_lt_of_le h (Nat.le_trans (Nat.pow_le_pow_right (by decide) hn) (by decide))
theorem Sm.mul {a b : Int} (ha : a.natAbs < 2 ^ 60) (hb : b.natAbs < 2 ^ 60) : CMulW a b := wide_mul ha hb (by decide) (by decide) (by decide)
abbrev sp2N (K : PySem.W.Frag) (F : Num → Num → Num) : Sp := Sp2 fun a b H Q => ∃ x y, Nm K H a x ∧ Nm K H b y ∧ Sm x ∧ Sm y ∧ ∀ v H', Same H H' → Nm K H' v (F x y) → Q v H'
theorem sc_plus : FnScope ["one", "other"] ["one", "other"] (defScope s_plus) := ⟨rfl, rfl, rfl, by decide +kernel, rfl, by decide +kernel, by decide +kernel⟩
theorem cal_plus (T : Tx w K mg A) : Cal P w K mg base 3 "plus" (sp2N K plusN) [] := by
  refine calOf T.f_plus sc_plus (fun _ _ _ _ _ _ us hl => match us, hl with | [_, _], _ => rfl) Sp2.len fun f cdv A outer s H vs Q E hr h => ?_
  obtain ⟨_, _, rfl, ⟨x1, x2⟩, ⟨y1, y2⟩, ⟨a, rfl, ha⟩, ⟨b, rfl, hb⟩, sx, sy, q⟩ := h
  refine ⟨_, (pss_one (ps_ret (pe_c (cal_made T) hr (by decide) rfl (pa_cons (pe_op op_add (pe_op op_mulW (pe_ix ix_tup (pv 0) pe_int (fun _ _ => rfl)) (pe_ix ix_tup (pv 1) pe_int (fun _ _ => rfl))) (pe_op op_mulW (pe_ix ix_tup (pv 1) pe_int (fun _ _ => rfl)) (pe_ix ix_tup (pv 0) pe_int (fun _ _ => rfl)))) (pa_cons (pe_op op_mulW (pe_ix ix_tup (pv 0) pe_int (fun _ _ => rfl)) (pe_ix ix_tup (pv 1) pe_int (fun _ _ => rfl))) pa_nil))))), ?_⟩
  have e1 : (x1 * y2).natAbs < 2 ^ 120 := wide_lt sx.top sy.low
  have e2 : (y1 * x2).natAbs < 2 ^ 120 := wide_lt sy.top sx.low
  have e3 : (x2 * y2).natAbs < 2 ^ 120 := wide_lt sx.low sy.low
  walk_at "go"
  refine r_I (Sm.mul sx.top sy.low) ?_
  walk_at "go"
  refine r_I (Sm.mul sy.top sx.low) ?_
  walk_at "go"
  refine r_I (Sm.mul sx.low sy.low) ?_
  walk_at "go"
  exact ⟨Int.mul_pos sx.pos sy.pos, up40 (lt_add e1 e2) (by decide), up40 e3 (by decide), q⟩
theorem sc_times : FnScope ["one", "other"] ["one", "other"] (defScope s_times) := ⟨rfl, rfl, rfl, by decide +kernel, rfl, by decide +kernel, by decide +kernel⟩
theorem cal_times (T : Tx w K mg A) : Cal P w K mg base 3 "times" (sp2N K timesN) [] := by
  refine calOf T.f_times sc_times (fun _ _ _ _ _ _ us hl => match us, hl with | [_, _], _ => rfl) Sp2.len fun f cdv A outer s H vs Q E hr h => ?_
  obtain ⟨_, _, rfl, ⟨x1, x2⟩, ⟨y1, y2⟩, ⟨a, rfl, ha⟩, ⟨b, rfl, hb⟩, sx, sy, q⟩ := h
  refine ⟨_, (pss_one (ps_ret (pe_c (cal_made T) hr (by decide) rfl (pa_cons (pe_op op_mulW (pe_ix ix_tup (pv 0) pe_int (fun _ _ => rfl)) (pe_ix ix_tup (pv 1) pe_int (fun _ _ => rfl))) (pa_cons (pe_op op_mulW (pe_ix ix_tup (pv 0) pe_int (fun _ _ => rfl)) (pe_ix ix_tup (pv 1) pe_int (fun _ _ => rfl))) pa_nil))))), ?_⟩
  walk_at "go"
  refine r_I (Sm.mul sx.top sy.top) ?_
  walk_at "go"
  refine r_I (Sm.mul sx.low sy.low) ?_
  walk_at "go"
  exact ⟨Int.mul_pos sx.pos sy.pos, up40 (wide_lt sx.top sy.top) (by decide), up40 (wide_lt sx.low sy.low) (by decide), q⟩
theorem sc_is_less : FnScope ["one", "other"] ["one", "other"] (defScope s_is_less) := ⟨rfl, rfl, rfl, by decide +kernel, rfl, by decide +kernel, by decide +kernel⟩
abbrev spLess (K : PySem.W.Frag) : Sp := Sp2 fun a b H Q => ∃ x y, Nm K H a x ∧ Nm K H b y ∧ Sm x ∧ Sm y ∧ Q (.bl (lessN x y)) H
theorem cal_is_less (T : Tx w K mg A) : Cal P w K mg base 1 "is_less" (spLess K) [] := by
  refine calOf T.f_is_less sc_is_less (fun _ _ _ _ _ _ us hl => match us, hl with | [_, _], _ => rfl) Sp2.len fun f cdv A outer s H vs Q E hr h => ?_
  obtain ⟨_, _, rfl, ⟨x1, x2⟩, ⟨y1, y2⟩, ⟨a, rfl, ha⟩, ⟨b, rfl, hb⟩, sx, sy, q⟩ := h
  refine ⟨_, (pss_one (ps_ret (pe_cmpR op_lt (pe_op op_mulW (pe_ix ix_tup (pv 0) pe_int (fun _ _ => rfl)) (pe_ix ix_tup (pv 1) pe_int (fun _ _ => rfl))) (pe_op op_mulW (pe_ix ix_tup (pv 1) pe_int (fun _ _ => rfl)) (pe_ix ix_tup (pv 0) pe_int (fun _ _ => rfl))) (nomark _)))), ?_⟩
  walk_at "go"
  refine r_I (Sm.mul sx.top sy.low) ?_
  walk_at "go"
  refine r_I (Sm.mul sy.top sx.low) ?_
  walk_at "go"
  exact q
end
section
local macro_rules | `(tactic| walk_at "fld") => `(tactic| (refine fkT (w := ?w) (K := ?K) (mg := ?mg) (A := ?A) ?t ?e ?h; (case t => assumption); (case e => exact rfl); (case h => first | with_reducible exact g_Look_matrix (by assumption) | with_reducible exact g_Look_path (by assumption) | with_reducible exact g_Look_ink (by assumption) | with_reducible exact g_Look_width (by assumption) | with_reducible exact g_Look_clips (by assumption) | with_reducible exact g_Look_font (by assumption) | with_reducible exact g_World_operands (by assumption) | with_reducible exact g_World_rooms (by assumption) | with_reducible exact g_World_scopes (by assumption) | with_reducible exact g_World_look (by assumption) | with_reducible exact g_World_kept (by assumption) | with_reducible exact g_World_sheets (by assumption) | with_reducible exact g_World_inkings (by assumption) | with_reducible exact g_World_saves (by assumption) | with_reducible exact g_World_many_saves (by assumption) | with_reducible exact g_Items_body (by assumption) | with_reducible exact g_Items_at (by assumption) | with_reducible exact g_Reader_text (by assumption) | with_reducible exact g_Reader_at (by assumption) | with_reducible exact g_Reader_row (by assumption) | with_reducible exact g_Reader_column (by assumption) | with_reducible exact g_Reader_deep (by assumption) | with_reducible exact g_Machine_wide (by assumption) | with_reducible exact g_Machine_high (by assumption) | with_reducible exact g_Machine_most (by assumption) | with_reducible exact g_Machine_world (by assumption) | with_reducible exact g_Machine_frames (by assumption) | with_reducible exact g_Machine_left (by assumption) | with_reducible exact g_Machine_told (by assumption) | with_reducible exact g_Machine_is_running (by assumption) | with_reducible exact g_Machine_ahead (by assumption) | with_reducible exact g_Machine_past (by assumption) | with_reducible exact g_Machine_later (by assumption))))
/-- as many steps as go by themselves -/
local macro_rules | `(tactic| walk_at "g1") => `(tactic| (first
  | with_reducible refine r_seq ?_ | with_reducible refine r_set ?_ | with_reducible refine r_asg ?_ | with_reducible refine r_sl ?_ | with_reducible refine r_np ?_ | with_reducible refine r_pt ?_ | with_reducible refine r_gn ?_ | with_reducible refine r_gc ?_ | with_reducible refine r_g0 ?_ | ((with_reducible refine r_gt (xs := ?xs) ?h ?g ?_); (case h => assumption); (case g => exact rfl)) | with_reducible refine r_ret ?_ | with_reducible refine r_if ?_ | with_reducible refine r_test ?_ | with_reducible refine r_B ?_ | with_reducible refine r_and ?_ | with_reducible refine r_or ?_ | with_reducible refine r_not ?_
  | with_reducible refine r_andV ?_ | with_reducible refine r_orV ?_ | with_reducible refine r_notV ?_ | with_reducible refine r_ifx ?_ | with_reducible refine r_op ?_ | with_reducible refine r_un ?_ | with_reducible refine r_U ?_ | with_reducible refine r_c ?_ | with_reducible refine r_I0 ?_ | with_reducible refine r_drop ?_ | with_reducible refine r_next ?_
  | ((with_reducible refine r_var (v := ?v) ?h ?_); (case h => exact rfl)) | with_reducible refine r_bl ?_ | with_reducible refine r_nil ?_ | with_reducible refine r_cons ?_ | with_reducible refine r_cb ?_ | with_reducible refine r_call ?_ | with_reducible refine r_spk ?_ | with_reducible refine r_sp1 ?_ | with_reducible refine r_sp2 ?_ | with_reducible refine r_sp3 ?_ | with_reducible refine r_sp4 ?_ | with_reducible refine r_sp5 ?_
  | with_reducible refine r_tup ?_ | with_reducible refine r_lst ?_ | with_reducible refine r_par ?_ | with_reducible refine r_par2 ?_ 
  | ((with_reducible refine r_eq ?h ?_); (case h => exact rfl)) | ((with_reducible refine r_ne ?h ?_); (case h => exact rfl))
  | ((with_reducible refine r_ixT (xs := ?xs) (v := ?v) ?h ?g ?_); (case h => assumption); (case g => first | exact at0 | exact at1))
  | ((with_reducible refine r_fl (i := ?i) (nm := ?nm) (C := ?C) (dx := ?dx) (vs := ?vs) (v := ?v) ?ok ?e ?hv ?_); (case e => assumption); (case ok => walk_at "fld"); (case hv => rfl)) | with_reducible refine r_for ?_ | with_reducible refine r_il ?_ | with_reducible refine r_it ?_ | with_reducible refine r_iz ?_ | with_reducible refine r_ir1 ?_ | with_reducible refine r_ir2 ?_ | with_reducible refine r_lc ?_ | with_reducible refine r_sFld ?_ | with_reducible refine r_ck ?_ | with_reducible refine r_fld ?_ | with_reducible refine ⟨_, rfl, ?_⟩ | with_reducible refine ⟨_, _, rfl, .inr (by with_unfolding_all assumption), ?_⟩ | with_reducible refine ⟨_, _, rfl, .inl (seqL (by assumption)), ?_⟩ | with_reducible refine ⟨_, _, rfl, rfl, ?_⟩ | with_reducible refine ⟨_, _, rfl, ?_⟩ | with_reducible refine ⟨rfl, ?_⟩ | with_reducible refine r_sz ?_))
local macro_rules | `(tactic| walk_at "go") => `(tactic| (repeat walk_at "g1"))
variable {P : Program} {w : World} {K : PySem.W.Frag} {mg : Str → Option Value} {A : Ad} {base : Heap}
/-! Points, parts, paths as values; moved and the path's helpers. -/
theorem pApp {α β : Type} {F : α → β → Prop} : ∀ {l₁ m₁ : List α} {l₂ m₂ : List β}, Paired F l₁ l₂ → Paired F m₁ m₂ → Paired F (l₁ ++ m₁) (l₂ ++ m₂)
  | _, _, _, _, .nil, h => h
  | _, _, _, _, .cons h t, h2 => .cons h (pApp t h2)
theorem pImp {α β : Type} {F G : α → β → Prop} (e : ∀ a b, F a b → G a b) : ∀ {l₁ : List α} {l₂ : List β}, Paired F l₁ l₂ → Paired G l₁ l₂
  | _, _, .nil => .nil
  | _, _, .cons h t => .cons (e _ _ h) (pImp e t)
theorem pAt {α β : Type} {F : α → β → Prop} : ∀ {l₁ : List α} {l₂ : List β}, Paired F l₁ l₂ → ∀ {i : Nat} {a : α} {b : β}, l₁[i]? = some a → l₂[i]? = some b → F a b
  | _, _, .nil, _, _, _, h, _ => by simp at h
  | _, _, .cons h t, 0, _, _, h1, h2 => by
    cases h1
    cases h2
    exact h
  | _, _, .cons h t, i + 1, _, _, h1, h2 => pAt t (i := i) h1 h2
theorem pLen {α β : Type} {F : α → β → Prop} : ∀ {l₁ : List α} {l₂ : List β}, Paired F l₁ l₂ → l₁.length = l₂.length
  | _, _, .nil => rfl
  | _, _, .cons _ t => congrArg (· + 1) (pLen t)
theorem pUnsnoc {α β : Type} {F : α → β → Prop} {b : β} : ∀ {l₁ : List α} {l₂ : List β}, Paired F l₁ (l₂ ++ [b]) → ∃ l a, l₁ = l ++ [a] ∧ Paired F l l₂ ∧ F a b
  | _, [], .cons h .nil => ⟨[], _, rfl, .nil, h⟩
  | _, _ :: _, .cons h t => by
    obtain ⟨l, a, rfl, q, r⟩ := pUnsnoc t
    exact ⟨_ :: l, a, rfl, .cons h q, r⟩
theorem pDrop {α β : Type} {F : α → β → Prop} : ∀ {l₁ : List α} {l₂ : List β} (n : Nat), Paired F l₁ l₂ → Paired F (l₁.drop n) (l₂.drop n)
  | _, _, 0, h => h
  | _, _, n + 1, .nil => .nil
  | _, _, n + 1, .cons _ t => pDrop n t
theorem pTake {α β : Type} {F : α → β → Prop} : ∀ {l₁ : List α} {l₂ : List β} (n : Nat), Paired F l₁ l₂ → Paired F (l₁.take n) (l₂.take n)
  | _, _, 0, _ => .nil
  | _, _, n + 1, .nil => .nil
  | _, _, n + 1, .cons h t => .cons h (pTake n t)
abbrev Pnt := Num × Num
abbrev Part := List Pnt × Bool
abbrev Path := List Part
/-- a tuple of things -/
def TupOf {α : Type} (R : Hp → V → α → Prop) (K : PySem.W.Frag) (H : Hp) (v : V) (as : List α) : Prop := ∃ a xs, v = .ref a ∧ SqT K H a xs ∧ Paired (R H) xs as
def Pn (K : PySem.W.Frag) (H : Hp) (v : V) (p : Pnt) : Prop := ∃ a x y, v = .ref a ∧ SqT K H a [x, y] ∧ Nm K H x p.1 ∧ Nm K H y p.2
def PtsAt (K : PySem.W.Frag) (H : Hp) (v : V) (p : List Pnt) : Prop := TupOf (Pn K) K H v p
def PartAt (K : PySem.W.Frag) (H : Hp) (v : V) (p : Part) : Prop := ∃ a x, v = .ref a ∧ SqT K H a [x, .bl p.2] ∧ PtsAt K H x p.1
def PathAt (K : PySem.W.Frag) (H : Hp) (v : V) (p : Path) : Prop := TupOf (PartAt K) K H v p
theorem TupOf.tk {α : Type} {R : Hp → V → α → Prop} {K : PySem.W.Frag} {H H' : Hp} {v : V} {as : List α} (h : TupOf R K H v as) (e : Tk K H H') (m : ∀ v a, R H v a → R H' v a) : TupOf R K H' v as := by
  obtain ⟨a, xs, rfl, q, r⟩ := h
  exact ⟨a, xs, rfl, e _ _ q, pImp m r⟩
theorem Pn.tk {K : PySem.W.Frag} {H H' : Hp} {v : V} {p : Pnt} (h : Pn K H v p) (e : Tk K H H') : Pn K H' v p := by
  obtain ⟨a, x, y, rfl, q, r, s⟩ := h
  exact ⟨a, x, y, rfl, e _ _ q, r.tk e, s.tk e⟩
theorem PtsAt.tk {K : PySem.W.Frag} {H H' : Hp} {v : V} {p : List Pnt} (h : PtsAt K H v p) (e : Tk K H H') : PtsAt K H' v p := TupOf.tk h e fun _ _ q => q.tk e
theorem PartAt.tk {K : PySem.W.Frag} {H H' : Hp} {v : V} {p : Part} (h : PartAt K H v p) (e : Tk K H H') : PartAt K H' v p := by
  obtain ⟨a, x, rfl, q, r⟩ := h
  exact ⟨a, x, rfl, e _ _ q, r.tk e⟩
theorem PathAt.tk {K : PySem.W.Frag} {H H' : Hp} {v : V} {p : Path} (h : PathAt K H v p) (e : Tk K H H') : PathAt K H' v p := TupOf.tk h e fun _ _ q => q.tk e
/-! ### as data, for == -/
def numD (n : Num) : PyData := .tuple [.int n.1, .int n.2]
def pntD (p : Pnt) : PyData := .tuple [numD p.1, numD p.2]
def partD (p : Part) : PyData := .tuple [.tuple (p.1.map pntD), .bool p.2]
def pathD (p : Path) : PyData := .tuple (p.map partD)
theorem dps {α : Type} {K : PySem.W.Frag} {H : Hp} {R : V → α → Prop} {f : α → PyData} (h : ∀ v a, R v a → Dp K H v (f a)) : ∀ {xs : List V} {as : List α}, Paired R xs as → DpAll K H xs (as.map f)
  | _, _, .nil => .nil
  | _, _, .cons a t => .cons (h _ _ a) (dps h t)
theorem Nm.dp {K : PySem.W.Frag} {H : Hp} {v : V} {n : Num} (h : Nm K H v n) : Dp K H v (numD n) := by
  obtain ⟨a, rfl, q⟩ := h
  exact .tup q (.cons (.int _) (.cons (.int _) .nil))
theorem Pn.dp {K : PySem.W.Frag} {H : Hp} {v : V} {p : Pnt} (h : Pn K H v p) : Dp K H v (pntD p) := by
  obtain ⟨a, x, y, rfl, q, r, s⟩ := h
  exact .tup q (.cons r.dp (.cons s.dp .nil))
theorem PartAt.dp {K : PySem.W.Frag} {H : Hp} {v : V} {p : Part} (h : PartAt K H v p) : Dp K H v (partD p) := by
  obtain ⟨a, x, rfl, q, b, ys, rfl, r, s⟩ := h
  exact .tup q (.cons (.tup r (dps (fun _ _ z => z.dp) s)) (.cons (.bl _) .nil))
theorem PathAt.dp {K : PySem.W.Frag} {H : Hp} {v : V} {p : Path} (h : PathAt K H v p) : Dp K H v (pathD p) := by
  obtain ⟨b, ys, rfl, r, s⟩ := h
  exact .tup r (dps (fun _ _ z => z.dp) s)
theorem canLay_map {α : Type} {f : α → PyData} (h : ∀ a, (f a).canLay0 = true) : ∀ as : List α, PyData.canLayAll0 (as.map f) = true
  | [] => by simp [PyData.canLayAll0]
  | a :: as => by simp [PyData.canLayAll0, h a, canLay_map h as]
theorem depth_map {α : Type} {f : α → PyData} {n : Nat} (h : ∀ a, (f a).depth ≤ n) : ∀ as : List α, PyData.depthAll (as.map f) ≤ n
  | [] => by simp [PyData.depthAll]
  | a :: as => by
    have h1 := h a
    have h2 := depth_map h as
    simp only [List.map_cons, PyData.depthAll]
    omega
theorem numD_lay (n : Num) : (numD n).canLay0 = true := by simp [numD, PyData.canLay0, PyData.canLayAll0]
theorem numD_dep (n : Num) : (numD n).depth ≤ 2 := by simp [numD, PyData.depth, PyData.depthAll]
theorem pntD_lay (n : Pnt) : (pntD n).canLay0 = true := by simp [pntD, PyData.canLay0, PyData.canLayAll0, numD_lay]
theorem pntD_dep (n : Pnt) : (pntD n).depth ≤ 3 := by
  have h1 := numD_dep n.1
  have h2 := numD_dep n.2
  simp only [pntD, PyData.depth, PyData.depthAll]
  omega
theorem partD_lay (n : Part) : (partD n).canLay0 = true := by simp [partD, PyData.canLay0, PyData.canLayAll0, canLay_map pntD_lay]
theorem partD_dep (n : Part) : (partD n).depth ≤ 5 := by
  have h1 := depth_map pntD_dep n.1
  simp only [partD, PyData.depth, PyData.depthAll]
  omega
theorem shaped_of {d : PyData} (a : d.canLay0 = true) (b : d.depth ≤ 64) : SeqAt.shaped d = true := by
  show (d.canLay0 && decide (d.depth ≤ 64)) = true
  rw [Bool.and_eq_true]
  exact ⟨a, decide_eq_true b⟩
theorem pathD_shaped (p : Path) : SeqAt.shaped (pathD p) = true := by
  have h1 := depth_map partD_dep p
  refine shaped_of (by simp only [pathD, PyData.canLay0]; exact canLay_map partD_lay p) ?_
  simp only [pathD, PyData.depth]
  omega
theorem nilD_shaped : SeqAt.shaped (.tuple []) = true := by
  refine shaped_of (by simp [PyData.canLay0, PyData.canLayAll0]) ?_
  simp [PyData.depth, PyData.depthAll]
theorem pathD_nil (p : Path) : PyData.eqv (pathD p) (.tuple []) = decide (p = []) := by
  cases p <;> simp [pathD, PyData.eqv, PyData.eqvAll]
end
section
local macro_rules | `(tactic| walk_at "fld") => `(tactic| (refine fkT (w := ?w) (K := ?K) (mg := ?mg) (A := ?A) ?t ?e ?h; (case t => assumption); (case e => exact rfl); (case h => first | with_reducible exact g_Look_matrix (by assumption) | with_reducible exact g_Look_path (by assumption) | with_reducible exact g_Look_ink (by assumption) | with_reducible exact g_Look_width (by assumption) | with_reducible exact g_Look_clips (by assumption) | with_reducible exact g_Look_font (by assumption) | with_reducible exact g_World_operands (by assumption) | with_reducible exact g_World_rooms (by assumption) | with_reducible exact g_World_scopes (by assumption) | with_reducible exact g_World_look (by assumption) | with_reducible exact g_World_kept (by assumption) | with_reducible exact g_World_sheets (by assumption) | with_reducible exact g_World_inkings (by assumption) | with_reducible exact g_World_saves (by assumption) | with_reducible exact g_World_many_saves (by assumption) | with_reducible exact g_Items_body (by assumption) | with_reducible exact g_Items_at (by assumption) | with_reducible exact g_Reader_text (by assumption) | with_reducible exact g_Reader_at (by assumption) | with_reducible exact g_Reader_row (by assumption) | with_reducible exact g_Reader_column (by assumption) | with_reducible exact g_Reader_deep (by assumption) | with_reducible exact g_Machine_wide (by assumption) | with_reducible exact g_Machine_high (by assumption) | with_reducible exact g_Machine_most (by assumption) | with_reducible exact g_Machine_world (by assumption) | with_reducible exact g_Machine_frames (by assumption) | with_reducible exact g_Machine_left (by assumption) | with_reducible exact g_Machine_told (by assumption) | with_reducible exact g_Machine_is_running (by assumption) | with_reducible exact g_Machine_ahead (by assumption) | with_reducible exact g_Machine_past (by assumption) | with_reducible exact g_Machine_later (by assumption))))
/-- as many steps as go by themselves -/
local macro_rules | `(tactic| walk_at "g1") => `(tactic| (first
  | with_reducible refine r_seq ?_ | with_reducible refine r_set ?_ | with_reducible refine r_asg ?_ | with_reducible refine r_sl ?_ | with_reducible refine r_np ?_ | with_reducible refine r_pt ?_ | with_reducible refine r_gn ?_ | with_reducible refine r_gc ?_ | with_reducible refine r_g0 ?_ | ((with_reducible refine r_gt (xs := ?xs) ?h ?g ?_); (case h => assumption); (case g => exact rfl)) | with_reducible refine r_ret ?_ | with_reducible refine r_if ?_ | with_reducible refine r_test ?_ | with_reducible refine r_B ?_ | with_reducible refine r_and ?_ | with_reducible refine r_or ?_ | with_reducible refine r_not ?_
  | with_reducible refine r_andV ?_ | with_reducible refine r_orV ?_ | with_reducible refine r_notV ?_ | with_reducible refine r_ifx ?_ | with_reducible refine r_op ?_ | with_reducible refine r_un ?_ | with_reducible refine r_U ?_ | with_reducible refine r_c ?_ | with_reducible refine r_I0 ?_ | with_reducible refine r_drop ?_ | with_reducible refine r_next ?_
  | ((with_reducible refine r_var (v := ?v) ?h ?_); (case h => exact rfl)) | with_reducible refine r_bl ?_ | with_reducible refine r_nil ?_ | with_reducible refine r_cons ?_ | with_reducible refine r_cb ?_ | with_reducible refine r_call ?_ | with_reducible refine r_spk ?_ | with_reducible refine r_sp1 ?_ | with_reducible refine r_sp2 ?_ | with_reducible refine r_sp3 ?_ | with_reducible refine r_sp4 ?_ | with_reducible refine r_sp5 ?_
  | with_reducible refine r_tup ?_ | with_reducible refine r_lst ?_ | with_reducible refine r_par ?_ | with_reducible refine r_par2 ?_ 
  | ((with_reducible refine r_eq ?h ?_); (case h => exact rfl)) | ((with_reducible refine r_ne ?h ?_); (case h => exact rfl))
  | ((with_reducible refine r_ixT (xs := ?xs) (v := ?v) ?h ?g ?_); (case h => assumption); (case g => first | exact at0 | exact at1))
  | ((with_reducible refine r_fl (i := ?i) (nm := ?nm) (C := ?C) (dx := ?dx) (vs := ?vs) (v := ?v) ?ok ?e ?hv ?_); (case e => assumption); (case ok => walk_at "fld"); (case hv => rfl)) | with_reducible refine r_for ?_ | with_reducible refine r_il ?_ | with_reducible refine r_it ?_ | with_reducible refine r_iz ?_ | with_reducible refine r_ir1 ?_ | with_reducible refine r_ir2 ?_ | with_reducible refine r_lc ?_ | with_reducible refine r_sFld ?_ | with_reducible refine r_ck ?_ | with_reducible refine r_fld ?_ | with_reducible refine ⟨_, rfl, ?_⟩ | with_reducible refine ⟨_, _, rfl, .inr (by with_unfolding_all assumption), ?_⟩ | with_reducible refine ⟨_, _, rfl, .inl (seqL (by assumption)), ?_⟩ | with_reducible refine ⟨_, _, rfl, rfl, ?_⟩ | with_reducible refine ⟨_, _, rfl, ?_⟩ | with_reducible refine ⟨rfl, ?_⟩ | with_reducible refine r_sz ?_))
local macro_rules | `(tactic| walk_at "go") => `(tactic| (repeat walk_at "g1"))
variable {P : Program} {w : World} {K : PySem.W.Frag} {mg : Str → Option Value} {A : Ad} {base : Heap}
/-! moved, begun, lined, shut, end_of. -/
abbrev spSummed (K : PySem.W.Frag) : Sp := Sp2 fun a b H Q => ∃ (l t1 t2 : Addr) (a1 x1 a2 x2 : V) (n1 m1 n2 m2 e : Num), a = .ref l ∧ H l = some (.lst [.ref t1, .ref t2]) ∧ SqT K H t1 [a1, x1] ∧ SqT K H t2 [a2, x2] ∧ Nm K H a1 n1 ∧ Nm K H x1 m1 ∧ Nm K H a2 n2 ∧ Nm K H x2 m2 ∧ Nm K H b e ∧
  Sm n1 ∧ Sm m1 ∧ Sm n2 ∧ Sm m2 ∧ Sm e ∧ Sm (timesN n1 m1) ∧ Sm (timesN n2 m2) ∧ Sm (plusN e (timesN n1 m1)) ∧ ∀ v H', Same H H' → Nm K H' v (plusN (plusN e (timesN n1 m1)) (timesN n2 m2)) → Q v H'
theorem Nm.ne {K : PySem.W.Frag} {H : Hp} {v : V} {n : Num} (h : Nm K H v n) : ¬ v = .non := by
  obtain ⟨a, rfl, _⟩ := h
  exact fun z => by cases z
theorem difF {p : Prop} [Decidable p] {X Y : Prop} (h : ¬ p) (q : Y) : if decide p = true then X else Y := by
  rw [if_neg (by rw [decide_eq_false h]; decide)]
  exact q
theorem difT {p : Prop} [Decidable p] {X Y : Prop} (h : p) (q : X) : if decide p = true then X else Y := by
  rw [if_pos (decide_eq_true h)]
  exact q
theorem ndifT {p : Prop} [Decidable p] {X Y : Prop} (h : ¬ p) (q : X) : if (!decide p) = true then X else Y := by
  rw [if_pos (by rw [decide_eq_false h]; rfl)]
  exact q
theorem ndifF {p : Prop} [Decidable p] {X Y : Prop} (h : p) (q : Y) : if (!decide p) = true then X else Y := by
  rw [if_neg (by rw [decide_eq_true h]; decide)]
  exact q
theorem nw {H : Hp} {p : Addr} {o : HO} {H1 : Hp} (e : upd H p o = H1) (f : H p = none) : Same H H1 ∧ H1 p = some o := by
  subst e
  exact ⟨same_new f, upd_same⟩
theorem nwT {H : Hp} {p : Addr} {xs : List V} {H1 : Hp} (e : upd H p (.tup xs) = H1) (f : H p = none) : Same H H1 ∧ ∀ K, SqT K H1 p xs := by
  subst e
  exact ⟨same_new f, fun _ => .inl (.inl upd_same)⟩
theorem sqS {K : PySem.W.Frag} {H H' : Hp} {a : Addr} {xs : List V} (h : SqT K H a xs) (e : Same H H') : SqT K H' a xs := Same.tk e _ _ h
theorem sc_summed : FnScope ["pairs", "more", "found", "one", "other", "part"] ["pairs", "more"] (defScope s_summed) := ⟨rfl, rfl, rfl, by decide +kernel, rfl, by decide +kernel, by decide +kernel⟩
theorem cal_summed (T : Tx w K mg A) : Cal P w K mg base 4 "summed" (spSummed K) [] := by
  refine calOf T.f_summed sc_summed (fun _ _ _ _ _ _ us hl => match us, hl with | [_, _], _ => rfl) Sp2.len fun f cdv A outer s H vs Q E hr h => ?_
  obtain ⟨_, b, rfl, l, t1, t2, a1, x1, a2, x2, n1, m1, n2, m2, e, rfl, hl, h1, h2, ha1, hx1, ha2, hx2, he, sn1, sm1, sn2, sm2, se, st1, st2, sp, q⟩ := h
  refine ⟨_, (pss_cons (ps_set (i := 2) sc_summed.nd rfl (.inl rfl) (pv 1))
    (pss_cons (ps_for PassesOwn.never rfl (pi_list (pv 0)) (pg_tup rfl (pgs_cons (pg_name (i := 3) sc_summed.nd rfl (.inl rfl)) (pgs_cons (pg_name (i := 4) sc_summed.nd rfl (.inl rfl)) pgs_nil)))
    (pss_cons (ps_set (i := 5) sc_summed.nd rfl (.inl rfl) (pe_c (cal_times T) hr (by decide) rfl (pa_cons (pv 3) (pa_cons (pv 4) pa_nil))))
    (pss_one (ps_set (i := 2) sc_summed.nd rfl (.inl rfl) (pe_ifExp (PW.pt (pw_or (pt_cmpR op_isN (pv 2) pe_non (nomark _)) (pw_or1 (pt_cmpR op_isN (pv 5) pe_non (nomark _))))) pe_non (pe_c (cal_plus T) hr (by decide) rfl (pa_cons (pv 2) (pa_cons (pv 5) pa_nil))))))))
    (pss_one (ps_ret (pv 2))))), ?_⟩
  walk_at "go"
  refine r_ll hl ?_
  refine for_it (walk_list (xs := [.ref t1, .ref t2])) (fun i σ H' => ∃ s3 s4 s5 v, σ = [some (.ref l), some b, some v, s3, s4, s5] ∧ Same H H' ∧ Nm K H' v (match i with | 0 => e | 1 => plusN e (timesN n1 m1) | _ => plusN (plusN e (timesN n1 m1)) (timesN n2 m2))) ⟨_, _, _, _, rfl, Same.refl _, he⟩ ?_ ?_ ?_
  · rintro i σ H' hi ⟨_, _, _, _, _, sh, _⟩
    exact .inl (.inl (sh _ _ hl))
  · rintro i x σ H' H2 hi ⟨s3, s4, s5, v, rfl, sh, hv⟩ ⟨rfl, hx⟩
    have tk := Same.tk (K := K) sh
    rcases i with _ | _ | i
    · cases hx
      refine r_gt (tk _ _ h1) rfl ?_
      walk_at "go"
      refine ⟨_, _, ha1.tk tk, hx1.tk tk, sn1, sm1, fun p H3 sh2 hp => ?_⟩
      walk_at "go"
      refine difF hv.ne ?_
      walk_at "go"
      refine difF hp.ne ?_
      walk_at "go"
      refine ⟨_, _, hv.same sh2, hp, se, st1, fun p2 H4 sh3 hp2 => ?_⟩
      exact ⟨_, _, _, _, rfl, sh.trans (sh2.trans sh3), hp2⟩
    · cases hx
      refine r_gt (tk _ _ h2) rfl ?_
      walk_at "go"
      refine ⟨_, _, ha2.tk tk, hx2.tk tk, sn2, sm2, fun p H3 sh2 hp => ?_⟩
      walk_at "go"
      refine difF hv.ne ?_
      walk_at "go"
      refine difF hp.ne ?_
      walk_at "go"
      refine ⟨_, _, hv.same sh2, hp, sp, st2, fun p2 H4 sh3 hp2 => ?_⟩
      exact ⟨_, _, _, _, rfl, sh.trans (sh2.trans sh3), hp2⟩
    · simp at hx
  · rintro σ H' ⟨s3, s4, s5, v, rfl, sh, hv⟩
    walk_at "go"
    exact q _ _ sh hv
/-! ### moved, by SAME -/
/-- small and in lowest terms -/
structure Lw (n : Num) : Prop where
  pos : 0 < n.2
  top : n.1.natAbs < 2 ^ 28
  low : n.2.natAbs < 2 ^ 28
  red : Int.gcd n.1 n.2 = 1
theorem Lw.sm {n : Num} (h : Lw n) : Sm n := ⟨h.pos, Nat.lt_of_lt_of_le h.top (by decide), Nat.lt_of_lt_of_le h.low (by decide)⟩
theorem nrm_red {t d : Int} (h : Int.gcd t d = 1) : nrm t d = (t, d) := by
  unfold nrm
  rw [h]
  show (t / 1, d / 1) = _
  rw [Int.ediv_one, Int.ediv_one]
theorem one_times {n : Num} (h : Lw n) : timesN (1, 1) n = n := by
  show nrm (1 * n.1) (1 * n.2) = n
  rw [Int.one_mul, Int.one_mul]
  exact nrm_red h.red
theorem zero_times {n : Num} (h : 0 < n.2) : timesN (0, 1) n = (0, 1) := by
  show nrm (0 * n.1) (1 * n.2) = (0, 1)
  rw [Int.zero_mul, Int.one_mul]
  unfold nrm
  rw [Int.gcd_zero_left]
  have e : ((n.2.natAbs : Nat) : Int) = n.2 := by omega
  rw [e, Int.zero_ediv, Int.ediv_self (by omega)]
theorem zero_plus {n : Num} (h : Lw n) : plusN (0, 1) n = n := by
  show nrm (0 * n.2 + n.1 * 1) (1 * n.2) = n
  rw [Int.zero_mul, Int.one_mul, Int.mul_one, Int.zero_add]
  exact nrm_red h.red
theorem plus_zero {n : Num} (h : Lw n) : plusN n (0, 1) = n := by
  show nrm (n.1 * 1 + 0 * n.2) (n.2 * 1) = n
  rw [Int.zero_mul, Int.mul_one, Int.mul_one, Int.add_zero]
  exact nrm_red h.red
theorem lw0 : Lw (0, 1) := ⟨by decide, by decide, by decide, by decide⟩
theorem lw1 : Lw (1, 1) := ⟨by decide, by decide, by decide, by decide⟩
/-- SAME stands at a -/
def IsSame (K : PySem.W.Frag) (a : Addr) : Prop := ∃ o z, ∀ H, SqT K H a [.ref o, .ref z, .ref z, .ref o, .ref z, .ref z] ∧ SqT K H o [.int 1, .int 1] ∧ SqT K H z [.int 0, .int 1]
abbrev spMoved (K : PySem.W.Frag) : Sp := Sp3 fun a b c H Q => ∃ (m : Addr) (x y : Num), a = .ref m ∧ IsSame K m ∧ Nm K H b x ∧ Nm K H c y ∧ Lw x ∧ Lw y ∧ ∀ v H', Same H H' → Pn K H' v (x, y) → Q v H'
theorem sc_moved : FnScope ["matrix", "x", "y", "a", "b", "c", "d", "e", "f", "one", "other"] ["matrix", "x", "y"] (defScope s_moved) := ⟨rfl, rfl, rfl, by decide +kernel, rfl, by decide +kernel, by decide +kernel⟩
theorem cal_moved (T : Tx w K mg A) : Cal P w K mg base 5 "moved" (spMoved K) [] := by
  refine calOf T.f_moved sc_moved (fun _ _ _ _ _ _ us hl => match us, hl with | [_, _, _], _ => rfl) Sp3.len fun f cdv A outer s H vs Q E hr h => ?_
  obtain ⟨_, b, c, rfl, m, x, y, rfl, ⟨o, z, hm⟩, hx, hy, lx, ly, q⟩ := h
  refine ⟨_, (pss_cons (ps_asg (pv 0) (pg_tup rfl (pgs_cons (pg_name (i := 3) sc_moved.nd rfl (.inl rfl)) (pgs_cons (pg_name (i := 4) sc_moved.nd rfl (.inl rfl)) (pgs_cons (pg_name (i := 5) sc_moved.nd rfl (.inl rfl)) (pgs_cons (pg_name (i := 6) sc_moved.nd rfl (.inl rfl)) (pgs_cons (pg_name (i := 7) sc_moved.nd rfl (.inl rfl)) (pgs_cons (pg_name (i := 8) sc_moved.nd rfl (.inl rfl)) pgs_nil))))))))
    (pss_cons (ps_par (i := 9) (j := 10) rfl sc_moved.nd rfl rfl (by decide) rfl rfl (pa_cons (pe_c (cal_summed T) hr (by decide) rfl (pa_cons (pe_lst (pa_cons (pe_tup (pa_cons (pv 3) (pa_cons (pv 1) pa_nil))) (pa_cons (pe_tup (pa_cons (pv 5) (pa_cons (pv 2) pa_nil))) pa_nil))) (pa_cons (pv 7) pa_nil))) (pa_cons (pe_c (cal_summed T) hr (by decide) rfl (pa_cons (pe_lst (pa_cons (pe_tup (pa_cons (pv 4) (pa_cons (pv 1) pa_nil))) (pa_cons (pe_tup (pa_cons (pv 6) (pa_cons (pv 2) pa_nil))) pa_nil))) (pa_cons (pv 8) pa_nil))) pa_nil)) (by rfl))
    (pss_one (ps_ret (pe_ifExp (PW.pt (pw_or (pt_cmpR op_isN (pv 9) pe_non (nomark _)) (pw_or1 (pt_cmpR op_isN (pv 10) pe_non (nomark _))))) pe_non (pe_tup (pa_cons (pv 9) (pa_cons (pv 10) pa_nil)))))))), ?_⟩
  have ho : ∀ H, Nm K H (.ref o) (1, 1) := fun H => ⟨o, rfl, (hm H).2.1⟩
  have hz : ∀ H, Nm K H (.ref z) (0, 1) := fun H => ⟨z, rfl, (hm H).2.2⟩
  walk_at "go"
  refine r_gt (hm H).1 rfl ?_
  walk_at "go"
  intro p1 f1
  generalize g1 : upd _ _ _ = H1
  have ⟨s1, e1⟩ := nwT g1 f1
  walk_at "go"
  intro p2 f2
  generalize g2 : upd _ _ _ = H2
  have ⟨s2, e2⟩ := nwT g2 f2
  walk_at "go"
  intro p3 f3
  generalize g3 : upd _ _ _ = H3
  have ⟨s3, e3⟩ := nw g3 f3
  walk_at "go"
  have s12 := s1.trans (s2.trans s3)
  refine ⟨p3, p1, p2, _, _, _, _, (1, 1), x, (0, 1), y, (0, 1), rfl, e3, sqS (e1 K) (s2.trans s3), sqS (e2 K) s3, ho _, hx.same s12, hz _, hy.same s12, hz _, lw1.sm, lx.sm, lw0.sm, ly.sm, lw0.sm, ?_, ?_, ?_, fun v H' sh hv => ?_⟩
  · rw [one_times lx]; exact lx.sm
  · rw [zero_times ly.pos]; exact lw0.sm
  · rw [one_times lx, zero_plus lx]; exact lx.sm
  rw [one_times lx, zero_times ly.pos, zero_plus lx, plus_zero lx] at hv
  walk_at "go"
  intro p4 f4
  generalize g4 : upd _ _ _ = H4
  have ⟨s4, e4⟩ := nwT g4 f4
  walk_at "go"
  intro p5 f5
  generalize g5 : upd _ _ _ = H5
  have ⟨s5, e5⟩ := nwT g5 f5
  walk_at "go"
  intro p6 f6
  generalize g6 : upd _ _ _ = H6
  have ⟨s6, e6⟩ := nw g6 f6
  walk_at "go"
  have s16 := s12.trans (sh.trans (s4.trans (s5.trans s6)))
  refine ⟨p6, p4, p5, _, _, _, _, (0, 1), x, (1, 1), y, (0, 1), rfl, e6, sqS (e4 K) (s5.trans s6), sqS (e5 K) s6, hz _, hx.same s16, ho _, hy.same s16, hz _, lw0.sm, lx.sm, lw1.sm, ly.sm, lw0.sm, ?_, ?_, ?_, fun v2 H7 sh2 hv2 => ?_⟩
  · rw [zero_times lx.pos]; exact lw0.sm
  · rw [one_times ly]; exact ly.sm
  · rw [zero_times lx.pos]; exact lw0.sm
  have e0 : plusN (0, 1) (0, 1) = (0, 1) := by decide
  rw [zero_times lx.pos, one_times ly, e0, zero_plus ly] at hv2
  walk_at "go"
  refine difF hv.ne ?_
  walk_at "go"
  refine difF hv2.ne ?_
  walk_at "go"
  intro p7 f7
  generalize g7 : upd _ _ _ = H8
  have ⟨s7, e7⟩ := nwT g7 f7
  have sh3 := s4.trans (s5.trans (s6.trans (sh2.trans s7)))
  exact q _ _ (s12.trans (sh.trans sh3)) ⟨p7, _, _, rfl, e7 K, hv.same sh3, hv2.same s7⟩
theorem sc_need_room : FnScope ["found"] ["found"] (defScope s_need_room) := ⟨rfl, rfl, rfl, by decide +kernel, rfl, by decide +kernel, by decide +kernel⟩
abbrev spNeedRoom : Sp := Sp1 fun a H Q => ¬ a = .non ∧ Q a H
theorem cal_need_room (T : Tx w K mg A) : Cal P w K mg base 1 "need_room" spNeedRoom [] := by
  refine calOf T.f_need_room sc_need_room (fun _ _ _ _ _ _ us hl => match us, hl with | [_], _ => rfl) Sp1.len fun f cdv A outer s H vs Q E hr h => ?_
  obtain ⟨_, rfl, hn, q⟩ := h
  refine ⟨_, (pss_cons (ps_if (pt_cmpR op_isN (pv 0) pe_non (nomark _))
    pss_never
    pss_nil)
    (pss_one (ps_ret (pv 0)))), ?_⟩
  walk_at "go"
  refine difF hn ?_
  walk_at "go"
  exact q
/-! ### the path's helpers -/
theorem r_neNil {K : PySem.W.Frag} {H : Hp} {x : V} {p : Path} {q : Addr} {Q : VK} (h : PathAt K H x p) (e : SqT K H q []) (k : Q (.bl (!decide (p = []))) H) : rNeD K x (.ref q) H Q :=
  ⟨pathD p, .tuple [], h.dp, .tup e .nil, pathD_shaped p, nilD_shaped, by rw [pathD_nil]; exact k⟩
theorem r_eqNil {K : PySem.W.Frag} {H : Hp} {x : V} {p : Path} {q : Addr} {Q : VK} (h : PathAt K H x p) (e : SqT K H q []) (k : Q (.bl (decide (p = []))) H) : rEqD K x (.ref q) H Q :=
  ⟨pathD p, .tuple [], h.dp, .tup e .nil, pathD_shaped p, nilD_shaped, by rw [pathD_nil]; exact k⟩
theorem r_catT {K : PySem.W.Frag} {H : Hp} {a b : Addr} {xs ys : List V} {Q : VK} (ha : SqT K H a xs) (hb : SqT K H b ys) (hy : ys ≠ []) (hz : xs.length + ys.length ≤ sizeLine) (q : ∀ p H', Same H H' → SqT K H' p (xs ++ ys) → Q (.ref p) H') : rCatA K (.ref a) (.ref b) H Q :=
  ⟨a, b, xs, ys, rfl, rfl, ha, hb, hz, fun e => by subst e; exact q _ _ (Same.refl _) hb, fun _ e => absurd e hy, fun _ _ p f => q _ _ (same_new f) (.inl (.inl upd_same))⟩
theorem cut_last {ys : List V} {v : V} : cutV (ys ++ [v]) none (some (-1)) = ys ∧ ¬ (HT.sIx (ys ++ [v]).length 0 Option.none = 0 ∧ HT.sIx (ys ++ [v]).length (ys ++ [v]).length (some (-1)) = (ys ++ [v]).length) := by
  have e : HT.sIx (ys ++ [v]).length (ys ++ [v]).length (some (-1)) = ys.length := by
    show (if (-1 : Int) < 0 then ((-1 : Int) + ((ys ++ [v]).length : Int)).toNat else min (-1 : Int).toNat (ys ++ [v]).length) = _
    rw [if_pos (by decide)]
    simp
    omega
  constructor
  · unfold cutV
    rw [e, HT.sIx_none]
    simp
  · rw [e]
    simp
theorem r_cutLast {K : PySem.W.Frag} {H : Hp} {a : Addr} {ys : List V} {v : V} {Q : VK} (ha : SqT K H a (ys ++ [v])) (q : ∀ p H', Same H H' → SqT K H' p ys → Q (.ref p) H') : rSlA K (.ref a) none (some (-1)) H Q :=
  ⟨a, _, rfl, ha, fun z => absurd z cut_last.2, fun _ p f => by
    rw [cut_last.1]
    exact q _ _ (same_new f) (.inl (.inl upd_same))⟩
theorem sz1000 : 1000 ≤ sizeLine := by decide
abbrev Fl := fun (p : Path) => ∀ q l, p = q ++ [l] → l.1.length ≠ 1
theorem path_cases (p : Path) : p = [] ∨ ∃ q l, p = q ++ [l] := by
  rcases List.eq_nil_or_concat p with h | ⟨q, l, h⟩
  · exact .inl h
  · exact .inr ⟨q, l, by rw [h, List.concat_eq_append]⟩
abbrev spBegun (K : PySem.W.Frag) : Sp := Sp2 fun a b H Q => ∃ (p : Path) (x : Pnt), PathAt K H a p ∧ Pn K H b x ∧ Fl p ∧ p.length < 999 ∧ ∀ v H', Same H H' → PathAt K H' v (p ++ [([x], false)]) → Q v H'
theorem sc_begun : FnScope ["path", "at"] ["path", "at"] (defScope s_begun) := ⟨rfl, rfl, rfl, by decide +kernel, rfl, by decide +kernel, by decide +kernel⟩
theorem cal_begun (T : Tx w K mg A) : Cal P w K mg base 1 "begun" (spBegun K) [] := by
  refine calOf T.f_begun sc_begun (fun _ _ _ _ _ _ us hl => match us, hl with | [_, _], _ => rfl) Sp2.len fun f cdv A outer s H vs Q E hr h => ?_
  obtain ⟨a, b, rfl, p, x, hp, hx, fl, lp, q⟩ := h
  refine ⟨_, (pss_cons (ps_if (PW.pt (pw_and (pt_cmpR (op_neD hr.units) (pv 0) (pe_tup pa_nil) (nomark _)) (pw_and (pt_cmpR op_eq (pe_callB call_len_seq rfl T.n_len PySem.boot_len (pa_cons (pe_ix ix_tup (pe_ix ix_tup (pv 0) (pe_un un_neg pe_int) (fun _ _ => rfl)) pe_int (fun _ _ => rfl)) pa_nil)) pe_int (nomark _)) (pw_and1 (pt_not (pt_val (pe_ix ix_tup (pe_ix ix_tup (pv 0) (pe_un un_neg pe_int) (fun _ _ => rfl)) pe_int (fun _ _ => rfl))))))))
    (pss_one ps_never)
    pss_nil)
    (pss_one (ps_ret (pe_op op_catA (pv 0) (pe_tup (pa_cons (pe_tup (pa_cons (pe_tup (pa_cons (pv 1) pa_nil)) (pa_cons pe_bl pa_nil))) pa_nil)))))), ?_⟩
  have fin : ∀ H1, Same H H1 → tRet (tOp (rCatA K) (tVar 0) (tTup (tCons (tTup (tCons (tTup (tCons (tVar 1) tNil)) (tCons (tC (.bl false)) tNil))) tNil))) { nx := fun _ H' => Q .non H', rt := Q } [some a, some b] H1 := by
    intro H1 s1
    walk_at "go"
    intro p1 f1
    generalize g1 : upd _ _ _ = H2
    have ⟨s2, e1⟩ := nwT g1 f1
    walk_at "go"
    intro p2 f2
    generalize g2 : upd _ _ _ = H3
    have ⟨s3, e2⟩ := nwT g2 f2
    walk_at "go"
    intro p3 f3
    generalize g3 : upd _ _ _ = H4
    have ⟨s4, e3⟩ := nwT g3 f3
    have sh := s1.trans (s2.trans (s3.trans s4))
    obtain ⟨a, xs, rfl, ha, hxs⟩ := hp.tk (Same.tk sh)
    have hl := pLen hxs
    refine r_catT ha (e3 K) (by simp) (by have := sz1000; simp only [List.length_singleton]; omega) fun pp H5 s5 e5 => ?_
    refine q _ _ (sh.trans s5) ⟨pp, _, rfl, e5, pApp (pImp (fun _ _ z => z.tk (Same.tk s5)) hxs) (.cons ?_ .nil)⟩
    exact ⟨p2, _, rfl, sqS (e2 K) (s4.trans s5), p1, _, rfl, sqS (e1 K) (s3.trans (s4.trans s5)), .cons (hx.tk (Same.tk (sh.trans s5))) .nil⟩
  walk_at "go"
  intro p0 f0
  generalize g0 : upd _ _ _ = H1
  have ⟨s1, e0⟩ := nwT g0 f0
  walk_at "go"
  have hp1 := hp.tk (Same.tk (K := K) s1)
  refine r_neNil hp1 (e0 K) ?_
  walk_at "go"
  rcases path_cases p with rfl | ⟨pq, l, rfl⟩
  · refine ndifF rfl ?_
    walk_at "go"
    exact fin _ s1
  · refine ndifT (by simp) ?_
    obtain ⟨a, xs, rfl, ha, hxs⟩ := hp1
    obtain ⟨ys, v, rfl, hys, hv⟩ := pUnsnoc hxs
    obtain ⟨av, vp, rfl, hav, ap, ps, rfl, hap, hps⟩ := hv
    walk_at "go"
    refine r_ixT ha (atI_last _ _) ?_
    walk_at "go"
    refine difF ?_ ?_
    · have := fl _ _ rfl
      have := pLen hps
      simp
      omega
    walk_at "go"
    exact fin _ s1
end
section
local macro_rules | `(tactic| walk_at "fld") => `(tactic| (refine fkT (w := ?w) (K := ?K) (mg := ?mg) (A := ?A) ?t ?e ?h; (case t => assumption); (case e => exact rfl); (case h => first | with_reducible exact g_Look_matrix (by assumption) | with_reducible exact g_Look_path (by assumption) | with_reducible exact g_Look_ink (by assumption) | with_reducible exact g_Look_width (by assumption) | with_reducible exact g_Look_clips (by assumption) | with_reducible exact g_Look_font (by assumption) | with_reducible exact g_World_operands (by assumption) | with_reducible exact g_World_rooms (by assumption) | with_reducible exact g_World_scopes (by assumption) | with_reducible exact g_World_look (by assumption) | with_reducible exact g_World_kept (by assumption) | with_reducible exact g_World_sheets (by assumption) | with_reducible exact g_World_inkings (by assumption) | with_reducible exact g_World_saves (by assumption) | with_reducible exact g_World_many_saves (by assumption) | with_reducible exact g_Items_body (by assumption) | with_reducible exact g_Items_at (by assumption) | with_reducible exact g_Reader_text (by assumption) | with_reducible exact g_Reader_at (by assumption) | with_reducible exact g_Reader_row (by assumption) | with_reducible exact g_Reader_column (by assumption) | with_reducible exact g_Reader_deep (by assumption) | with_reducible exact g_Machine_wide (by assumption) | with_reducible exact g_Machine_high (by assumption) | with_reducible exact g_Machine_most (by assumption) | with_reducible exact g_Machine_world (by assumption) | with_reducible exact g_Machine_frames (by assumption) | with_reducible exact g_Machine_left (by assumption) | with_reducible exact g_Machine_told (by assumption) | with_reducible exact g_Machine_is_running (by assumption) | with_reducible exact g_Machine_ahead (by assumption) | with_reducible exact g_Machine_past (by assumption) | with_reducible exact g_Machine_later (by assumption))))
/-- as many steps as go by themselves -/
local macro_rules | `(tactic| walk_at "g1") => `(tactic| (first
  | with_reducible refine r_seq ?_ | with_reducible refine r_set ?_ | with_reducible refine r_asg ?_ | with_reducible refine r_sl ?_ | with_reducible refine r_np ?_ | with_reducible refine r_pt ?_ | with_reducible refine r_gn ?_ | with_reducible refine r_gc ?_ | with_reducible refine r_g0 ?_ | ((with_reducible refine r_gt (xs := ?xs) ?h ?g ?_); (case h => assumption); (case g => exact rfl)) | with_reducible refine r_ret ?_ | with_reducible refine r_if ?_ | with_reducible refine r_test ?_ | with_reducible refine r_B ?_ | with_reducible refine r_and ?_ | with_reducible refine r_or ?_ | with_reducible refine r_not ?_
  | with_reducible refine r_andV ?_ | with_reducible refine r_orV ?_ | with_reducible refine r_notV ?_ | with_reducible refine r_ifx ?_ | with_reducible refine r_op ?_ | with_reducible refine r_un ?_ | with_reducible refine r_U ?_ | with_reducible refine r_c ?_ | with_reducible refine r_I0 ?_ | with_reducible refine r_drop ?_ | with_reducible refine r_next ?_
  | ((with_reducible refine r_var (v := ?v) ?h ?_); (case h => exact rfl)) | with_reducible refine r_bl ?_ | with_reducible refine r_nil ?_ | with_reducible refine r_cons ?_ | with_reducible refine r_cb ?_ | with_reducible refine r_call ?_ | with_reducible refine r_spk ?_ | with_reducible refine r_sp1 ?_ | with_reducible refine r_sp2 ?_ | with_reducible refine r_sp3 ?_ | with_reducible refine r_sp4 ?_ | with_reducible refine r_sp5 ?_
  | with_reducible refine r_tup ?_ | with_reducible refine r_lst ?_ | with_reducible refine r_par ?_ | with_reducible refine r_par2 ?_ 
  | ((with_reducible refine r_eq ?h ?_); (case h => exact rfl)) | ((with_reducible refine r_ne ?h ?_); (case h => exact rfl))
  | ((with_reducible refine r_ixT (xs := ?xs) (v := ?v) ?h ?g ?_); (case h => assumption); (case g => first | exact at0 | exact at1))
  | ((with_reducible refine r_fl (i := ?i) (nm := ?nm) (C := ?C) (dx := ?dx) (vs := ?vs) (v := ?v) ?ok ?e ?hv ?_); (case e => assumption); (case ok => walk_at "fld"); (case hv => rfl)) | with_reducible refine r_for ?_ | with_reducible refine r_il ?_ | with_reducible refine r_it ?_ | with_reducible refine r_iz ?_ | with_reducible refine r_ir1 ?_ | with_reducible refine r_ir2 ?_ | with_reducible refine r_lc ?_ | with_reducible refine r_sFld ?_ | with_reducible refine r_ck ?_ | with_reducible refine r_fld ?_ | with_reducible refine ⟨_, rfl, ?_⟩ | with_reducible refine ⟨_, _, rfl, .inr (by with_unfolding_all assumption), ?_⟩ | with_reducible refine ⟨_, _, rfl, .inl (seqL (by assumption)), ?_⟩ | with_reducible refine ⟨_, _, rfl, rfl, ?_⟩ | with_reducible refine ⟨_, _, rfl, ?_⟩ | with_reducible refine ⟨rfl, ?_⟩ | with_reducible refine r_sz ?_))
local macro_rules | `(tactic| walk_at "go") => `(tactic| (repeat walk_at "g1"))
variable {P : Program} {w : World} {K : PySem.W.Frag} {mg : Str → Option Value} {A : Ad} {base : Heap}
/-! lined, shut, end_of. -/
abbrev spLined (K : PySem.W.Frag) : Sp := Sp2 fun a b H Q => ∃ (p : Path) (ps : List Pnt) (x : Pnt), PathAt K H a (p ++ [(ps, false)]) ∧ Pn K H b x ∧ p.length < 999 ∧ ps.length < 999 ∧ ∀ v H', Same H H' → PathAt K H' v (p ++ [(ps ++ [x], false)]) → Q v H'
theorem sc_lined : FnScope ["path", "at", "points", "is_closed"] ["path", "at"] (defScope s_lined) := ⟨rfl, rfl, rfl, by decide +kernel, rfl, by decide +kernel, by decide +kernel⟩
theorem cal_lined (T : Tx w K mg A) : Cal P w K mg base 1 "lined" (spLined K) [] := by
  refine calOf T.f_lined sc_lined (fun _ _ _ _ _ _ us hl => match us, hl with | [_, _], _ => rfl) Sp2.len fun f cdv A outer s H vs Q E hr h => ?_
  obtain ⟨_, b, rfl, p, ps, x, hp, hx, lp, lps, q⟩ := h
  refine ⟨_, (pss_cons (ps_asg (pe_ix ix_tup (pv 0) (pe_un un_neg pe_int) (fun _ _ => rfl)) (pg_tup rfl (pgs_cons (pg_name (i := 2) sc_lined.nd rfl (.inl rfl)) (pgs_cons (pg_name (i := 3) sc_lined.nd rfl (.inl rfl)) pgs_nil))))
    (pss_cons (ps_if (pt_val (pv 3))
    (pss_one ps_never)
    pss_nil)
    (pss_one (ps_ret (pe_op op_catA (pe_slice sl_tupA (pv 0) po_none (po_some (pe_un un_neg pe_int))) (pe_tup (pa_cons (pe_tup (pa_cons (pe_op op_catA (pv 2) (pe_tup (pa_cons (pv 1) pa_nil))) (pa_cons pe_bl pa_nil))) pa_nil))))))), ?_⟩
  obtain ⟨a, xs, rfl, ha, hxs⟩ := hp
  obtain ⟨ys, v, rfl, hys, hv⟩ := pUnsnoc hxs
  obtain ⟨av, vp, rfl, hav, ap, zs, rfl, hap, hzs⟩ := hv
  walk_at "go"
  refine r_ixT ha (atI_last _ _) ?_
  walk_at "go"
  refine iteF ?_
  walk_at "go"
  refine r_cutLast ha fun pc H1 s1 e1 => ?_
  walk_at "go"
  intro p2 f2
  generalize g2 : upd _ _ _ = H2
  have ⟨s2, e2⟩ := nwT g2 f2
  have l1 := pLen hys
  have l2 : zs.length = ps.length := pLen hzs
  walk_at "go"
  refine r_catT (sqS hap (s1.trans s2)) (e2 K) (by simp) (by have := sz1000; simp only [List.length_singleton]; omega) fun p3 H3 s3 e3 => ?_
  walk_at "go"
  intro p4 f4
  generalize g4 : upd _ _ _ = H4
  have ⟨s4, e4⟩ := nwT g4 f4
  walk_at "go"
  intro p5 f5
  generalize g5 : upd _ _ _ = H5
  have ⟨s5, e5⟩ := nwT g5 f5
  refine r_catT (sqS e1 (s2.trans (s3.trans (s4.trans s5)))) (e5 K) (by simp) (by have := sz1000; simp only [List.length_singleton]; omega) fun p6 H6 s6 e6 => ?_
  have sh := s1.trans (s2.trans (s3.trans (s4.trans (s5.trans s6))))
  refine q _ _ sh ⟨p6, _, rfl, e6, pApp (pImp (fun _ _ z => z.tk (Same.tk sh)) hys) (.cons ⟨p4, _, rfl, sqS (e4 K) (s5.trans s6), p3, _, rfl, sqS e3 (s4.trans (s5.trans s6)), ?_⟩ .nil)⟩
  exact pApp (pImp (fun _ _ z => z.tk (Same.tk sh)) hzs) (.cons (hx.tk (Same.tk sh)) .nil)
abbrev spShut (K : PySem.W.Frag) : Sp := Sp1 fun a H Q => ∃ (p : Path) (l : Part), PathAt K H a (p ++ [l]) ∧ p.length < 999 ∧ ∀ v H', Same H H' → PathAt K H' v (p ++ [(l.1, true)]) → Q v H'
theorem sc_shut : FnScope ["path"] ["path"] (defScope s_shut) := ⟨rfl, rfl, rfl, by decide +kernel, rfl, by decide +kernel, by decide +kernel⟩
theorem cal_shut (T : Tx w K mg A) : Cal P w K mg base 1 "shut" (spShut K) [] := by
  refine calOf T.f_shut sc_shut (fun _ _ _ _ _ _ us hl => match us, hl with | [_], _ => rfl) Sp1.len fun f cdv A outer s H vs Q E hr h => ?_
  obtain ⟨_, rfl, p, l, hp, lp, q⟩ := h
  refine ⟨_, (pss_one (ps_ret (pe_ifExp (pt_cmpR (op_neD hr.units) (pv 0) (pe_tup pa_nil) (nomark _)) (pe_op op_catA (pe_slice sl_tupA (pv 0) po_none (po_some (pe_un un_neg pe_int))) (pe_tup (pa_cons (pe_tup (pa_cons (pe_ix ix_tup (pe_ix ix_tup (pv 0) (pe_un un_neg pe_int) (fun _ _ => rfl)) pe_int (fun _ _ => rfl)) (pa_cons pe_bl pa_nil))) pa_nil))) (pv 0)))), ?_⟩
  walk_at "go"
  intro p0 f0
  generalize g0 : upd _ _ _ = H0
  have ⟨s0, e0⟩ := nwT g0 f0
  have hp0 := hp.tk (Same.tk (K := K) s0)
  refine r_neNil hp0 (e0 K) ?_
  walk_at "go"
  refine ndifT (by simp) ?_
  obtain ⟨a, xs, rfl, ha, hxs⟩ := hp0
  obtain ⟨ys, v, rfl, hys, hv⟩ := pUnsnoc hxs
  obtain ⟨av, vp, rfl, hav, ap, zs, rfl, hap, hzs⟩ := hv
  walk_at "go"
  refine r_cutLast ha fun pc H1 s1 e1 => ?_
  walk_at "go"
  refine r_ixT (sqS ha s1) (atI_last _ _) ?_
  walk_at "go"
  refine r_ixT (sqS hav s1) at0 ?_
  walk_at "go"
  intro p2 f2
  generalize g2 : upd _ _ _ = H2
  have ⟨s2, e2⟩ := nwT g2 f2
  walk_at "go"
  intro p3 f3
  generalize g3 : upd _ _ _ = H3
  have ⟨s3, e3⟩ := nwT g3 f3
  have l1 := pLen hys
  refine r_catT (sqS e1 (s2.trans s3)) (e3 K) (by simp) (by have := sz1000; simp only [List.length_singleton]; omega) fun p6 H6 s6 e6 => ?_
  have sh := s1.trans (s2.trans (s3.trans s6))
  refine q _ _ (s0.trans sh) ⟨p6, _, rfl, e6, pApp (pImp (fun _ _ z => z.tk (Same.tk sh)) hys) (.cons ⟨p2, _, rfl, sqS (e2 K) (s3.trans s6), ap, _, rfl, sqS hap sh, ?_⟩ .nil)⟩
  exact pImp (fun _ _ z => z.tk (Same.tk sh)) hzs
abbrev spEndOf (K : PySem.W.Frag) : Sp := Sp1 fun a H Q => ∃ (p : Path) (ps : List Pnt) (x : Pnt), PathAt K H a (p ++ [(ps ++ [x], false)]) ∧ ∀ v H', Same H H' → Pn K H' v x → Q v H'
theorem sc_end_of : FnScope ["path", "points", "is_closed"] ["path"] (defScope s_end_of) := ⟨rfl, rfl, rfl, by decide +kernel, rfl, by decide +kernel, by decide +kernel⟩
theorem cal_end_of (T : Tx w K mg A) : Cal P w K mg base 1 "end_of" (spEndOf K) [] := by
  refine calOf T.f_end_of sc_end_of (fun _ _ _ _ _ _ us hl => match us, hl with | [_], _ => rfl) Sp1.len fun f cdv A outer s H vs Q E hr h => ?_
  obtain ⟨_, rfl, p, ps, x, hp, q⟩ := h
  refine ⟨_, (pss_cons (ps_if (pt_cmpR (op_eqD hr.units) (pv 0) (pe_tup pa_nil) (nomark _))
    (pss_one ps_never)
    pss_nil)
    (pss_cons (ps_asg (pe_ix ix_tup (pv 0) (pe_un un_neg pe_int) (fun _ _ => rfl)) (pg_tup rfl (pgs_cons (pg_name (i := 1) sc_end_of.nd rfl (.inl rfl)) (pgs_cons (pg_name (i := 2) sc_end_of.nd rfl (.inl rfl)) pgs_nil))))
    (pss_one (ps_ret (pe_ifExp (pt_val (pv 2)) (pe_ix ix_tup (pv 1) pe_int (fun _ _ => rfl)) (pe_ix ix_tup (pv 1) (pe_un un_neg pe_int) (fun _ _ => rfl))))))), ?_⟩
  walk_at "go"
  intro p0 f0
  generalize g0 : upd _ _ _ = H0
  have ⟨s0, e0⟩ := nwT g0 f0
  have hp0 := hp.tk (Same.tk (K := K) s0)
  refine r_eqNil hp0 (e0 K) ?_
  walk_at "go"
  refine difF (by simp) ?_
  obtain ⟨a, xs, rfl, ha, hxs⟩ := hp0
  obtain ⟨ys, v, rfl, hys, hv⟩ := pUnsnoc hxs
  obtain ⟨av, vp, rfl, hav, ap, zs, rfl, hap, hzs⟩ := hv
  obtain ⟨ws, u, rfl, hws, hu⟩ := pUnsnoc hzs
  walk_at "go"
  refine r_ixT ha (atI_last _ _) ?_
  walk_at "go"
  refine iteF ?_
  walk_at "go"
  refine r_ixT hap (atI_last _ _) ?_
  exact q _ _ s0 hu
end
section
local macro_rules | `(tactic| walk_at "fld") => `(tactic| (refine fkT (w := ?w) (K := ?K) (mg := ?mg) (A := ?A) ?t ?e ?h; (case t => assumption); (case e => exact rfl); (case h => first | with_reducible exact g_Look_matrix (by assumption) | with_reducible exact g_Look_path (by assumption) | with_reducible exact g_Look_ink (by assumption) | with_reducible exact g_Look_width (by assumption) | with_reducible exact g_Look_clips (by assumption) | with_reducible exact g_Look_font (by assumption) | with_reducible exact g_World_operands (by assumption) | with_reducible exact g_World_rooms (by assumption) | with_reducible exact g_World_scopes (by assumption) | with_reducible exact g_World_look (by assumption) | with_reducible exact g_World_kept (by assumption) | with_reducible exact g_World_sheets (by assumption) | with_reducible exact g_World_inkings (by assumption) | with_reducible exact g_World_saves (by assumption) | with_reducible exact g_World_many_saves (by assumption) | with_reducible exact g_Items_body (by assumption) | with_reducible exact g_Items_at (by assumption) | with_reducible exact g_Reader_text (by assumption) | with_reducible exact g_Reader_at (by assumption) | with_reducible exact g_Reader_row (by assumption) | with_reducible exact g_Reader_column (by assumption) | with_reducible exact g_Reader_deep (by assumption) | with_reducible exact g_Machine_wide (by assumption) | with_reducible exact g_Machine_high (by assumption) | with_reducible exact g_Machine_most (by assumption) | with_reducible exact g_Machine_world (by assumption) | with_reducible exact g_Machine_frames (by assumption) | with_reducible exact g_Machine_left (by assumption) | with_reducible exact g_Machine_told (by assumption) | with_reducible exact g_Machine_is_running (by assumption) | with_reducible exact g_Machine_ahead (by assumption) | with_reducible exact g_Machine_past (by assumption) | with_reducible exact g_Machine_later (by assumption))))
/-- as many steps as go by themselves -/
local macro_rules | `(tactic| walk_at "g1") => `(tactic| (first
  | with_reducible refine r_seq ?_ | with_reducible refine r_set ?_ | with_reducible refine r_asg ?_ | with_reducible refine r_sl ?_ | with_reducible refine r_np ?_ | with_reducible refine r_pt ?_ | with_reducible refine r_gn ?_ | with_reducible refine r_gc ?_ | with_reducible refine r_g0 ?_ | ((with_reducible refine r_gt (xs := ?xs) ?h ?g ?_); (case h => assumption); (case g => exact rfl)) | with_reducible refine r_ret ?_ | with_reducible refine r_if ?_ | with_reducible refine r_test ?_ | with_reducible refine r_B ?_ | with_reducible refine r_and ?_ | with_reducible refine r_or ?_ | with_reducible refine r_not ?_
  | with_reducible refine r_andV ?_ | with_reducible refine r_orV ?_ | with_reducible refine r_notV ?_ | with_reducible refine r_ifx ?_ | with_reducible refine r_op ?_ | with_reducible refine r_un ?_ | with_reducible refine r_U ?_ | with_reducible refine r_c ?_ | with_reducible refine r_I0 ?_ | with_reducible refine r_drop ?_ | with_reducible refine r_next ?_
  | ((with_reducible refine r_var (v := ?v) ?h ?_); (case h => exact rfl)) | with_reducible refine r_bl ?_ | with_reducible refine r_nil ?_ | with_reducible refine r_cons ?_ | with_reducible refine r_cb ?_ | with_reducible refine r_call ?_ | with_reducible refine r_spk ?_ | with_reducible refine r_sp1 ?_ | with_reducible refine r_sp2 ?_ | with_reducible refine r_sp3 ?_ | with_reducible refine r_sp4 ?_ | with_reducible refine r_sp5 ?_
  | with_reducible refine r_tup ?_ | with_reducible refine r_lst ?_ | with_reducible refine r_par ?_ | with_reducible refine r_par2 ?_ 
  | ((with_reducible refine r_eq ?h ?_); (case h => exact rfl)) | ((with_reducible refine r_ne ?h ?_); (case h => exact rfl))
  | ((with_reducible refine r_ixT (xs := ?xs) (v := ?v) ?h ?g ?_); (case h => assumption); (case g => first | exact at0 | exact at1))
  | ((with_reducible refine r_fl (i := ?i) (nm := ?nm) (C := ?C) (dx := ?dx) (vs := ?vs) (v := ?v) ?ok ?e ?hv ?_); (case e => assumption); (case ok => walk_at "fld"); (case hv => rfl)) | with_reducible refine r_for ?_ | with_reducible refine r_il ?_ | with_reducible refine r_it ?_ | with_reducible refine r_iz ?_ | with_reducible refine r_ir1 ?_ | with_reducible refine r_ir2 ?_ | with_reducible refine r_lc ?_ | with_reducible refine r_sFld ?_ | with_reducible refine r_ck ?_ | with_reducible refine r_fld ?_ | with_reducible refine ⟨_, rfl, ?_⟩ | with_reducible refine ⟨_, _, rfl, .inr (by with_unfolding_all assumption), ?_⟩ | with_reducible refine ⟨_, _, rfl, .inl (seqL (by assumption)), ?_⟩ | with_reducible refine ⟨_, _, rfl, rfl, ?_⟩ | with_reducible refine ⟨_, _, rfl, ?_⟩ | with_reducible refine ⟨rfl, ?_⟩ | with_reducible refine r_sz ?_))
local macro_rules | `(tactic| walk_at "go") => `(tactic| (repeat walk_at "g1"))
variable {P : Program} {w : World} {K : PySem.W.Frag} {mg : Str → Option Value} {A : Ad} {base : Heap}
/-! Own rules: calls with a keyword, calls of a held def. -/
/-- a def that is called with positional values and keywords ks -/
structure CalK (P : Program) (w : World) (K : PySem.W.Frag) (mg : Str → Option Value) (base : Heap) (k : Nat) (x : Str) (n : Nat) (ks : List Str) (sp : Sp) : Prop where
  ex : ∃ (f : Addr) (fd : FuncData) (ps : List Str), FnOk P w K mg base C8.CX0 k f fd ps sp ∧ mg x = some (.ref f) ∧ PySem.W.keepIn K (.ref f) = true ∧ KBn K fd ps n ks (fun us ws => us ++ ws) (fun us ws => us ++ ws)
theorem vals_app : ∀ {vs zs : List V} {us ws : List Value}, Vals vs us → Vals zs ws → Vals (vs ++ zs) (us ++ ws)
  | _, _, _, _, .nil, h => h
  | _, _, _, _, .cons h t, h2 => .cons h (vals_app t h2)
theorem calKOf {g x : Str} {st : Stmt} {N ps : List Str} {k n : Nat} {ks : List Str} {sp : Sp} (G : GFn K mg g x st) (S : FnScope N ps (defScope st))
    (hb : ∀ (kV doc pm : Value) (an : Option Addr) (cdv ct : Value) (us ws : List Value), us.length = n → ws.length = ks.length → bindArgs (PySem.W.fnOf x x (defArgs st) (defBody st) (defScope st) .none kV doc pm an cdv ct) ⟨us, ks.zip ws⟩ = pure (ps.zip (us ++ ws)))
    (len : ∀ vs H Q E, sp vs H Q E → vs.length = ps.length) (hw : BodyF P w K mg base x st N k sp) : CalK P w K mg base (k + 1) g n ks sp := by
  obtain ⟨f, fd, gl, F⟩ := G
  refine ⟨f, fd, ps, F.ok S len fun cdv A outer s H vs Q E hr h => ?_, gl, F.kp, ?_, vals_app⟩
  · obtain ⟨t, a, b⟩ := hw f cdv A outer s H vs Q E hr h
    exact ⟨t, a.nox, b⟩
  · intro s us ws _ l1 l2
    obtain ⟨oc, od, dV, kV, doc, pm, an, cdv, ct, osl, rfl, lk, hcd, hD, hK⟩ := F.ex
    rcases hD with ⟨_, rfl⟩ | ⟨e, _⟩
    · exact .of_eq (hb kV doc pm an cdv ct us ws l1 l2)
    · exact absurd rfl e
section
variable {X : Cx} {k j n i : Nat} {x : Str} {ks : List Str} {sp : Sp} {p pos : Pos} {e : Expr} {es : List Expr} {kws : List Keyword} {t tk : TA}
theorem pe_ck (c : CalK X.prog X.w X.K X.mg X.base k x n ks sp) (hr : Room j X.A) (hk : k ≤ j) (hg : Gl X x) (ha : PA X (e :: es) t) (hkw : PK X kws tk) (hall : (backToKw pos (keywordEach kws X.env)).all (·.1.isSome) = true := by rfl) (hks : (backToKw pos (keywordEach kws X.env)).filterMap (·.1) = ks := by rfl)
    (hdb : (x == ("__debug__" : Str)) = false := by decide) (he : starEach (e :: es) X.env = (false, eval e X.env) :: starEach es X.env := by rfl)
    (hpl : ((backTo pos (starEach (e :: es) X.env)).any (·.1) || (backToKw pos (keywordEach kws X.env)).any (·.1.isNone)) = false := by rfl) :
    PE X (.Call (.Name x p) (e :: es) kws pos) (tCallN n ks.length sp (fun us ws => us ++ ws) C8.E0 t tk) := by
  obtain ⟨f, fd, ps, F, gl, kp, hb⟩ := c.ex
  exact pe_callN F (hr.mono hk) hg gl kp hb C8.pass0 ha hkw hall hks hdb he hpl
/-- the i-th slot holds a def that is known -/
def tCallHd (P : Program) (w : World) (K : PySem.W.Frag) (mg : Str → Option Value) (base : Heap) (k i : Nat) (t : TA) : TE := fun σ H Q => ∃ f sp, σ[i]? = some (some (.ref f)) ∧ Held P w K mg base k f sp ∧ t σ H fun vs H1 => sp vs H1 Q (fun _ _ _ => False)
theorem pe_ch (hr : Room j X.A) (hk : k ≤ j) (hN : X.N[i]? = some x) (hv : Vis X.env.scope x) (ha : PA X (e :: es) t)
    (hdb : (x == ("__debug__" : Str)) = false := by decide) (hcd : (x == ("__classdict__" : Str)) = false := by decide)
    (he : starEach (e :: es) X.env = (false, eval e X.env) :: starEach es X.env := by rfl) (hpl : (backTo pos (starEach es X.env)).any (·.1) = false := by rfl) : PE X (.Call (.Name x p) (e :: es) [] pos) (tCallHd X.prog X.w X.K X.mg X.base k i t) := by
  refine ⟨fun pins s σ H Q I h => ?_⟩
  obtain ⟨f, sp, hs, ⟨fd, ps, F, hk2, hb⟩, ht⟩ := h
  refine (pe_callL (i := i) (f := f) (sp := sp) (dvs := []) (E := fun _ _ _ => False) F (hr.mono hk) hN hv hk2 hb .nil (fun _ _ _ _ _ _ _ z => z.elim) ha hdb hcd he hpl).run pins s σ H Q I ⟨hs, ?_⟩
  have e0 : (fun (vs : List V) (H1 : Hp) => sp (vs ++ []) H1 Q (fun _ _ _ => False)) = fun vs H1 => sp vs H1 Q (fun _ _ _ => False) := by
    funext vs H1
    rw [List.append_nil]
  show t σ H (fun vs H1 => sp (vs ++ []) H1 Q (fun _ _ _ => False))
  rw [e0]
  exact ht
end
/-- a def by its address, from its name's promise -/
theorem heldOf {g : Str} {k : Nat} {sp : Sp} {f : Addr} (c : Cal P w K mg base k g sp []) (hf : mg g = some (.ref f)) : Held P w K mg base k f sp := by
  obtain ⟨f', fd, ps, ds, F, gl, kp, b, v⟩ := c.ex
  rw [gl] at hf
  cases hf
  cases v
  exact ⟨fd, ps, F, kp, b⟩
theorem r_ck {n m : Nat} {sp : Sp} {gV : List V → List V → List V} {E : XK} {t tk : TA} {σ : L2.St} {H : Hp} {Q : VK} (h : t σ H fun vs H1 => tk σ H1 fun zs H2 => vs.length = n ∧ zs.length = m ∧ sp (gV vs zs) H2 Q E) : tCallN n m sp gV E t tk σ H Q := h
theorem r_spk {F : V → V → Hp → VK → Prop} {E : XK} {a b : V} {H : Hp} {Q : VK} (q : F a b H Q) : Sp2 F ([a] ++ [b]) H Q E := ⟨a, b, rfl, q⟩
theorem r_mkU {C : Addr} {sp : Sp} {dvs : List V} {E : XK} {t : TA} {σ : L2.St} {H : Hp} {Q : VK} (h : t σ H fun vs H1 => ∀ x dx, H1 x = none → H1 dx = none → dx ≠ x →
  sp (.ref x :: (vs ++ dvs)) (upd (upd H1 dx (.own x)) x (.ins C dx [])) (fun v H2 => v = .non ∧ Q (.ref x) H2) E) : tMake C sp dvs E t σ H Q := h
theorem r_mt0 {C : Addr} {m : Str} {sp : Sp} {dvs : List V} {E : XK} {ta : TE} {t : TA} {σ : L2.St} {H : Hp} {Q : VK} (h : ta σ H fun x H1 => ∃ a dx fs, x = .ref a ∧ H1 a = some (.ins C dx fs) ∧ fs.lookup m = none ∧
  t σ H1 fun vs H2 => sp (x :: (vs ++ dvs)) H2 Q E) : tMeth C m sp dvs E ta t σ H Q := h
theorem r_gf {K : PySem.W.Frag} {to : TE} {f : Str} {y : V} {σ : L2.St} {H : Hp} {Q : L2.St → Hp → Prop} (h : to σ H fun x H1 => ∃ a C dx fs, x = .ref a ∧ H1 a = some (.ins C dx fs) ∧ Cls K C ∧ NoAttr K C f ∧ fs.length < 1000 ∧ Q σ (upd H1 a (.ins C dx (putF f y fs)))) : gFld K to f y σ H Q := h
theorem r_gl {K : PySem.W.Frag} {p : Addr} {xs : List V} {t : TGs} {m : Nat} {σ : L2.St} {H : Hp} {B2 : L2.St → Hp → Prop} (e : H p = some (.lst xs)) (l : xs.length = m) (h : t xs σ H B2) : gUnl K m t (.ref p) σ H B2 := ⟨p, xs, rfl, seqL e, l, h⟩
theorem r_bm {K : PySem.W.Frag} {T : String} {r : V → List V → Hp → VK → Prop} {to : TE} {t : TA} {σ : L2.St} {H : Hp} {Q : VK} (h : to σ H fun x H1 => tyV K T x H1 ∧ t σ H1 fun xs H2 => r x xs H2 Q) : tBM K T r to t σ H Q := h
theorem r_bm0 {K : PySem.W.Frag} {T : String} {r : V → List V → Hp → VK → Prop} {to : TE} {σ : L2.St} {H : Hp} {Q : VK} (h : to σ H fun x H1 => tyV K T x H1 ∧ r x [] H1 Q) : tBM0 K T r to σ H Q := h
theorem r_ty {K : PySem.W.Frag} {H : Hp} {p : Addr} {xs : List V} {R : Prop} (e : H p = some (.lst xs)) (q : R) : tyV K "list" (.ref p) H ∧ R := ⟨.inl ⟨rfl, _, seqL e⟩, q⟩
theorem r_app {H : Hp} {l : Addr} {xs : List V} {y : V} {Q : VK} (e : H l = some (.lst xs)) (hz : xs.length < sizeLine) (q : Q .non (upd H l (.lst (xs ++ [y])))) : rAppend (.ref l) [y] H Q := ⟨l, xs, y, rfl, rfl, e, hz, q⟩
theorem r_pop {H : Hp} {l : Addr} {xs : List V} {y : V} {Q : VK} (e : H l = some (.lst (xs ++ [y]))) (q : Q y (upd H l (.lst xs))) : rPop (.ref l) [] H Q := ⟨l, _, y, rfl, rfl, e, by simp, by simpa using q⟩
theorem r_ch {r r' : R2} {ta tb tc : TE} {σ : L2.St} {H : Hp} {Q : VK} (h : ta σ H fun x H1 => tb σ H1 fun y H2 => r x y H2 fun z H3 => ∃ k, z = .bl k ∧ if k = true then tc σ H3 fun w H4 => r' y w H4 Q else Q (.bl false) H3) : tChain r r' ta tb tc σ H Q := h
theorem r_sm1 {F : V → Hp → VK → Prop} {E : XK} {a : V} {H : Hp} {Q : VK} (q : F a H Q) : Sp1 F (a :: ([] ++ [])) H Q E := ⟨a, rfl, q⟩
theorem r_sm2 {F : V → V → Hp → VK → Prop} {E : XK} {a b : V} {H : Hp} {Q : VK} (q : F a b H Q) : Sp2 F (a :: ([b] ++ [])) H Q E := ⟨a, b, rfl, q⟩
theorem r_sm3 {F : V → V → V → Hp → VK → Prop} {E : XK} {a b c : V} {H : Hp} {Q : VK} (q : F a b c H Q) : Sp3 F (a :: ([b, c] ++ [])) H Q E := ⟨a, b, c, rfl, q⟩
end
section
local macro_rules | `(tactic| walk_at "fld") => `(tactic| (refine fkT (w := ?w) (K := ?K) (mg := ?mg) (A := ?A) ?t ?e ?h; (case t => assumption); (case e => exact rfl); (case h => first | with_reducible exact g_Look_matrix (by assumption) | with_reducible exact g_Look_path (by assumption) | with_reducible exact g_Look_ink (by assumption) | with_reducible exact g_Look_width (by assumption) | with_reducible exact g_Look_clips (by assumption) | with_reducible exact g_Look_font (by assumption) | with_reducible exact g_World_operands (by assumption) | with_reducible exact g_World_rooms (by assumption) | with_reducible exact g_World_scopes (by assumption) | with_reducible exact g_World_look (by assumption) | with_reducible exact g_World_kept (by assumption) | with_reducible exact g_World_sheets (by assumption) | with_reducible exact g_World_inkings (by assumption) | with_reducible exact g_World_saves (by assumption) | with_reducible exact g_World_many_saves (by assumption) | with_reducible exact g_Items_body (by assumption) | with_reducible exact g_Items_at (by assumption) | with_reducible exact g_Reader_text (by assumption) | with_reducible exact g_Reader_at (by assumption) | with_reducible exact g_Reader_row (by assumption) | with_reducible exact g_Reader_column (by assumption) | with_reducible exact g_Reader_deep (by assumption) | with_reducible exact g_Machine_wide (by assumption) | with_reducible exact g_Machine_high (by assumption) | with_reducible exact g_Machine_most (by assumption) | with_reducible exact g_Machine_world (by assumption) | with_reducible exact g_Machine_frames (by assumption) | with_reducible exact g_Machine_left (by assumption) | with_reducible exact g_Machine_told (by assumption) | with_reducible exact g_Machine_is_running (by assumption) | with_reducible exact g_Machine_ahead (by assumption) | with_reducible exact g_Machine_past (by assumption) | with_reducible exact g_Machine_later (by assumption))))
/-- as many steps as go by themselves -/
local macro_rules | `(tactic| walk_at "g1") => `(tactic| (first
  | with_reducible refine r_seq ?_ | with_reducible refine r_set ?_ | with_reducible refine r_asg ?_ | with_reducible refine r_sl ?_ | with_reducible refine r_np ?_ | with_reducible refine r_pt ?_ | with_reducible refine r_gn ?_ | with_reducible refine r_gc ?_ | with_reducible refine r_g0 ?_ | ((with_reducible refine r_gt (xs := ?xs) ?h ?g ?_); (case h => assumption); (case g => exact rfl)) | with_reducible refine r_ret ?_ | with_reducible refine r_if ?_ | with_reducible refine r_test ?_ | with_reducible refine r_B ?_ | with_reducible refine r_and ?_ | with_reducible refine r_or ?_ | with_reducible refine r_not ?_
  | with_reducible refine r_andV ?_ | with_reducible refine r_orV ?_ | with_reducible refine r_notV ?_ | with_reducible refine r_ifx ?_ | with_reducible refine r_op ?_ | with_reducible refine r_un ?_ | with_reducible refine r_U ?_ | with_reducible refine r_c ?_ | with_reducible refine r_I0 ?_ | with_reducible refine r_drop ?_ | with_reducible refine r_next ?_
  | ((with_reducible refine r_var (v := ?v) ?h ?_); (case h => exact rfl)) | with_reducible refine r_bl ?_ | with_reducible refine r_nil ?_ | with_reducible refine r_cons ?_ | with_reducible refine r_cb ?_ | with_reducible refine r_call ?_ | with_reducible refine r_spk ?_ | with_reducible refine r_sp1 ?_ | with_reducible refine r_sp2 ?_ | with_reducible refine r_sp3 ?_ | with_reducible refine r_sp4 ?_ | with_reducible refine r_sp5 ?_
  | with_reducible refine r_tup ?_ | with_reducible refine r_lst ?_ | with_reducible refine r_par ?_ | with_reducible refine r_par2 ?_ 
  | ((with_reducible refine r_eq ?h ?_); (case h => exact rfl)) | ((with_reducible refine r_ne ?h ?_); (case h => exact rfl))
  | ((with_reducible refine r_ixT (xs := ?xs) (v := ?v) ?h ?g ?_); (case h => assumption); (case g => first | exact at0 | exact at1))
  | ((with_reducible refine r_fl (i := ?i) (nm := ?nm) (C := ?C) (dx := ?dx) (vs := ?vs) (v := ?v) ?ok ?e ?hv ?_); (case e => assumption); (case ok => walk_at "fld"); (case hv => rfl)) | with_reducible refine r_for ?_ | with_reducible refine r_il ?_ | with_reducible refine r_it ?_ | with_reducible refine r_iz ?_ | with_reducible refine r_ir1 ?_ | with_reducible refine r_ir2 ?_ | with_reducible refine r_lc ?_ | with_reducible refine r_sFld ?_ | with_reducible refine r_ck ?_ | with_reducible refine r_fld ?_ | with_reducible refine ⟨_, rfl, ?_⟩ | with_reducible refine ⟨_, _, rfl, .inr (by with_unfolding_all assumption), ?_⟩ | with_reducible refine ⟨_, _, rfl, .inl (seqL (by assumption)), ?_⟩ | with_reducible refine ⟨_, _, rfl, rfl, ?_⟩ | with_reducible refine ⟨_, _, rfl, ?_⟩ | with_reducible refine ⟨rfl, ?_⟩ | with_reducible refine r_sz ?_))
local macro_rules | `(tactic| walk_at "go") => `(tactic| (repeat walk_at "g1"))
variable {P : Program} {w : World} {K : PySem.W.Frag} {mg : Str → Option Value} {A : Ad} {base : Heap}
/-! The state of a page's world: what stands where. -/
/-- a field of a class's instances: it stands at place i of nm -/
structure FldOk (K : PySem.W.Frag) (f : Str) (C : Addr) (nm : List Str) (i : Nat) : Prop where
  c : Cls K C
  n : NoAttr K C f
  nd : nm.Nodup
  ix : nm[i]? = some f
theorem r_fl {K : PySem.W.Frag} {H : Hp} {f : Str} {p C dx : Addr} {nm : List Str} {vs : List V} {i : Nat} {v : V} {R : V → Prop} (ok : FldOk K f C nm i) (e : H p = some (.ins C dx (nm.zip vs))) (hv : vs[i]? = some v) (q : R v) :
    ∃ a C dx fs v, V.ref p = .ref a ∧ H a = some (.ins C dx fs) ∧ Cls K C ∧ NoAttr K C f ∧ fs.lookup f = some v ∧ R v := ⟨p, C, dx, _, v, rfl, e, ok.c, ok.n, lk ok.nd ok.ix hv, q⟩
/-- a store: the heap behind it -/
theorem r_sf {K : PySem.W.Frag} {H : Hp} {f : Str} {p C dx : Addr} {nm : List Str} {vs : List V} {i : Nat} {y : V} {R : Hp → Prop} (ok : FldOk K f C nm i) (e : H p = some (.ins C dx (nm.zip vs))) (q : R (upd H p (.ins C dx (nm.zip (vs.set i y))))) (hl : nm.length < 1000 := by exact Nat.le_of_ble_eq_true rfl) (hi : i < vs.length := by exact Nat.le_of_ble_eq_true rfl) :
    ∃ a C dx fs, V.ref p = .ref a ∧ H a = some (.ins C dx fs) ∧ Cls K C ∧ NoAttr K C f ∧ fs.length < 1000 ∧ R (upd H a (.ins C dx (putF f y fs))) :=
  ⟨p, C, dx, _, rfl, e, ok.c, ok.n, Nat.lt_of_le_of_lt (zlen nm vs) hl, by rw [pt y ok.nd ok.ix hi]; exact q⟩
theorem r_sn {K : PySem.W.Frag} {H : Hp} {f : Str} {p C dx : Addr} {nm : List Str} {vs : List V} {y : V} {R : Hp → Prop} (e : H p = some (.ins C dx (nm.zip vs))) (ok : FldOk K f C nm vs.length) (q : R (upd H p (.ins C dx (nm.zip (vs ++ [y]))))) (hl : nm.length < 1000 := by exact Nat.le_of_ble_eq_true rfl) :
    ∃ a C dx fs, V.ref p = .ref a ∧ H a = some (.ins C dx fs) ∧ Cls K C ∧ NoAttr K C f ∧ fs.length < 1000 ∧ R (upd H a (.ins C dx (putF f y fs))) :=
  ⟨p, C, dx, _, rfl, e, ok.c, ok.n, Nat.lt_of_le_of_lt (zlen nm vs) hl, by rw [ptNew y ok.nd ok.ix]; exact q⟩
theorem r_sg {K : PySem.W.Frag} {H : Hp} {f : Str} {p C dx : Addr} {nm : List Str} {vs : List V} {i n : Nat} {y : V} {σ : L2.St} {Q : L2.St → Hp → Prop} (ok : FldOk K f C nm i) (e : H p = some (.ins C dx (nm.zip vs))) (q : Q σ (upd H p (.ins C dx (nm.zip (vs.set i y))))) (hs : σ[n]? = some (some (.ref p)) := by rfl) (hl : nm.length < 1000 := by exact Nat.le_of_ble_eq_true rfl) (hi : i < vs.length := by exact Nat.le_of_ble_eq_true rfl) : gFld K (tVar n) f y σ H Q :=
  ⟨_, hs, r_sf (R := Q σ) ok e q hl hi⟩
theorem r_sFld {K : PySem.W.Frag} {ta tv : TE} {f : Str} {D : Ends} {σ : L2.St} {H : Hp} (h : tv σ H fun y H1 => ta σ H1 fun x H2 => ∃ a C dx fs, x = .ref a ∧ H2 a = some (.ins C dx fs) ∧ Cls K C ∧ NoAttr K C f ∧ fs.length < 1000 ∧ D.nx σ (upd H2 a (.ins C dx (putF f y fs)))) : sFld K ta tv f D σ H := h
theorem nwI {H : Hp} {p : Addr} {o : HO} {H1 : Hp} (e : upd H p o = H1) : H1 p = some o ∧ (∀ b, b ≠ p → H1 b = H b) := by
  subst e
  exact ⟨upd_same, fun b n => upd_ne n⟩
def lNm : List Str := ["matrix", "path", "ink", "width", "clips", "font"]
theorem nd_lNm : lNm.Nodup := by decide +kernel
theorem g_Look_matrix (T : Tx w K mg A) : FldOk K "matrix" A.Look lNm 0 := ⟨T.c_Look, T.a_Look_matrix, nd_lNm, rfl⟩
theorem g_Look_path (T : Tx w K mg A) : FldOk K "path" A.Look lNm 1 := ⟨T.c_Look, T.a_Look_path, nd_lNm, rfl⟩
theorem g_Look_ink (T : Tx w K mg A) : FldOk K "ink" A.Look lNm 2 := ⟨T.c_Look, T.a_Look_ink, nd_lNm, rfl⟩
theorem g_Look_width (T : Tx w K mg A) : FldOk K "width" A.Look lNm 3 := ⟨T.c_Look, T.a_Look_width, nd_lNm, rfl⟩
theorem g_Look_clips (T : Tx w K mg A) : FldOk K "clips" A.Look lNm 4 := ⟨T.c_Look, T.a_Look_clips, nd_lNm, rfl⟩
theorem g_Look_font (T : Tx w K mg A) : FldOk K "font" A.Look lNm 5 := ⟨T.c_Look, T.a_Look_font, nd_lNm, rfl⟩
def wNm : List Str := ["operands", "rooms", "scopes", "look", "kept", "sheets", "inkings", "saves", "many_saves"]
theorem nd_wNm : wNm.Nodup := by decide +kernel
theorem g_World_operands (T : Tx w K mg A) : FldOk K "operands" A.World wNm 0 := ⟨T.c_World, T.a_World_operands, nd_wNm, rfl⟩
theorem g_World_rooms (T : Tx w K mg A) : FldOk K "rooms" A.World wNm 1 := ⟨T.c_World, T.a_World_rooms, nd_wNm, rfl⟩
theorem g_World_scopes (T : Tx w K mg A) : FldOk K "scopes" A.World wNm 2 := ⟨T.c_World, T.a_World_scopes, nd_wNm, rfl⟩
theorem g_World_look (T : Tx w K mg A) : FldOk K "look" A.World wNm 3 := ⟨T.c_World, T.a_World_look, nd_wNm, rfl⟩
theorem g_World_kept (T : Tx w K mg A) : FldOk K "kept" A.World wNm 4 := ⟨T.c_World, T.a_World_kept, nd_wNm, rfl⟩
theorem g_World_sheets (T : Tx w K mg A) : FldOk K "sheets" A.World wNm 5 := ⟨T.c_World, T.a_World_sheets, nd_wNm, rfl⟩
theorem g_World_inkings (T : Tx w K mg A) : FldOk K "inkings" A.World wNm 6 := ⟨T.c_World, T.a_World_inkings, nd_wNm, rfl⟩
theorem g_World_saves (T : Tx w K mg A) : FldOk K "saves" A.World wNm 7 := ⟨T.c_World, T.a_World_saves, nd_wNm, rfl⟩
theorem g_World_many_saves (T : Tx w K mg A) : FldOk K "many_saves" A.World wNm 8 := ⟨T.c_World, T.a_World_many_saves, nd_wNm, rfl⟩
def iNm : List Str := ["body", "at"]
theorem nd_iNm : iNm.Nodup := by decide +kernel
theorem g_Items_body (T : Tx w K mg A) : FldOk K "body" A.Items iNm 0 := ⟨T.c_Items, T.a_Items_body, nd_iNm, rfl⟩
theorem g_Items_at (T : Tx w K mg A) : FldOk K "at" A.Items iNm 1 := ⟨T.c_Items, T.a_Items_at, nd_iNm, rfl⟩
def rNm : List Str := ["text", "at", "row", "column", "deep"]
theorem nd_rNm : rNm.Nodup := by decide +kernel
theorem g_Reader_text (T : Tx w K mg A) : FldOk K "text" A.Reader rNm 0 := ⟨T.c_Reader, T.a_Reader_text, nd_rNm, rfl⟩
theorem g_Reader_at (T : Tx w K mg A) : FldOk K "at" A.Reader rNm 1 := ⟨T.c_Reader, T.a_Reader_at, nd_rNm, rfl⟩
theorem g_Reader_row (T : Tx w K mg A) : FldOk K "row" A.Reader rNm 2 := ⟨T.c_Reader, T.a_Reader_row, nd_rNm, rfl⟩
theorem g_Reader_column (T : Tx w K mg A) : FldOk K "column" A.Reader rNm 3 := ⟨T.c_Reader, T.a_Reader_column, nd_rNm, rfl⟩
theorem g_Reader_deep (T : Tx w K mg A) : FldOk K "deep" A.Reader rNm 4 := ⟨T.c_Reader, T.a_Reader_deep, nd_rNm, rfl⟩
def mNm : List Str := ["wide", "high", "most", "world", "frames", "left", "told", "is_running", "ahead", "past", "later"]
theorem nd_mNm : mNm.Nodup := by decide +kernel
theorem g_Machine_wide (T : Tx w K mg A) : FldOk K "wide" A.Machine mNm 0 := ⟨T.c_Machine, T.a_Machine_wide, nd_mNm, rfl⟩
theorem g_Machine_high (T : Tx w K mg A) : FldOk K "high" A.Machine mNm 1 := ⟨T.c_Machine, T.a_Machine_high, nd_mNm, rfl⟩
theorem g_Machine_most (T : Tx w K mg A) : FldOk K "most" A.Machine mNm 2 := ⟨T.c_Machine, T.a_Machine_most, nd_mNm, rfl⟩
theorem g_Machine_world (T : Tx w K mg A) : FldOk K "world" A.Machine mNm 3 := ⟨T.c_Machine, T.a_Machine_world, nd_mNm, rfl⟩
theorem g_Machine_frames (T : Tx w K mg A) : FldOk K "frames" A.Machine mNm 4 := ⟨T.c_Machine, T.a_Machine_frames, nd_mNm, rfl⟩
theorem g_Machine_left (T : Tx w K mg A) : FldOk K "left" A.Machine mNm 5 := ⟨T.c_Machine, T.a_Machine_left, nd_mNm, rfl⟩
theorem g_Machine_told (T : Tx w K mg A) : FldOk K "told" A.Machine mNm 6 := ⟨T.c_Machine, T.a_Machine_told, nd_mNm, rfl⟩
theorem g_Machine_is_running (T : Tx w K mg A) : FldOk K "is_running" A.Machine mNm 7 := ⟨T.c_Machine, T.a_Machine_is_running, nd_mNm, rfl⟩
theorem g_Machine_ahead (T : Tx w K mg A) : FldOk K "ahead" A.Machine mNm 8 := ⟨T.c_Machine, T.a_Machine_ahead, nd_mNm, rfl⟩
theorem g_Machine_past (T : Tx w K mg A) : FldOk K "past" A.Machine mNm 9 := ⟨T.c_Machine, T.a_Machine_past, nd_mNm, rfl⟩
theorem g_Machine_later (T : Tx w K mg A) : FldOk K "later" A.Machine mNm 10 := ⟨T.c_Machine, T.a_Machine_later, nd_mNm, rfl⟩
theorem fkT {K' : PySem.W.Frag} {f : Str} {C : Addr} {nm : List Str} {i : Nat} (T : Tx w K mg A) (e : K' = K) (h : FldOk K f C nm i) : FldOk K' f C nm i := e ▸ h
structure Lk where
  path : Path
  ink : Int
  clips : List (Path × Bool)
inductive Dd where
  | erase
  | fill (path : Path) (odd : Bool) (ink : Int) (clips : List (Path × Bool))
structure Ws where
  ops : List Num
  look : Lk
  kept : List Lk
  inks : List Dd
def ruleV (b : Bool) : V := if b then .str "odd" else .str "whole"
section
variable (K : PySem.W.Frag) (A : Ad) (H : Hp)
def ClipAt (v : V) (c : Path × Bool) : Prop := ∃ a x, v = .ref a ∧ SqT K H a [x, ruleV c.2] ∧ PathAt K H x c.1
def ClipsAt (v : V) (cs : List (Path × Bool)) : Prop := TupOf (ClipAt K) K H v cs
def LookAt (l : Addr) (L : Lk) : Prop := ∃ dx m vp vw vc vf, H l = some (.ins A.Look dx (lNm.zip [.ref m, vp, .int L.ink, vw, vc, vf])) ∧ IsSame K m ∧ PathAt K H vp L.path ∧ ClipsAt K H vc L.clips
def OpAt (v : V) (n : Num) : Prop := ∃ a x, v = .ref a ∧ SqT K H a [.str "number", x] ∧ Nm K H x n
def DdAt (v : V) : Dd → Prop
  | .erase => ∃ a, v = .ref a ∧ SqT K H a [.str "erase"]
  | .fill p o i c => ∃ a x y, v = .ref a ∧ SqT K H a [.str "fill", x, ruleV o, .int i, y] ∧ PathAt K H x p ∧ ClipsAt K H y c
end
theorem ClipAt.tk {K : PySem.W.Frag} {H H' : Hp} {v : V} {p : Path × Bool} (h : ClipAt K H v p) (e : Tk K H H') : ClipAt K H' v p := by
  obtain ⟨a, x, rfl, q, r⟩ := h
  exact ⟨a, x, rfl, e _ _ q, r.tk e⟩
theorem ClipsAt.tk {K : PySem.W.Frag} {H H' : Hp} {v : V} {p : List (Path × Bool)} (h : ClipsAt K H v p) (e : Tk K H H') : ClipsAt K H' v p := TupOf.tk h e fun _ _ q => q.tk e
theorem OpAt.tk {K : PySem.W.Frag} {H H' : Hp} {v : V} {n : Num} (h : OpAt K H v n) (e : Tk K H H') : OpAt K H' v n := by
  obtain ⟨a, x, rfl, q, r⟩ := h
  exact ⟨a, x, rfl, e _ _ q, r.tk e⟩
theorem DdAt.tk {K : PySem.W.Frag} {H H' : Hp} {v : V} {d : Dd} (h : DdAt K H v d) (e : Tk K H H') : DdAt K H' v d := by
  cases d with
  | erase =>
    obtain ⟨a, rfl, q⟩ := h
    exact ⟨a, rfl, e _ _ q⟩
  | fill p o i c =>
    obtain ⟨a, x, y, rfl, q, r, s⟩ := h
    exact ⟨a, x, y, rfl, e _ _ q, r.tk e, s.tk e⟩
theorem LookAt.tk {K : PySem.W.Frag} {A : Ad} {H H' : Hp} {l : Addr} {L : Lk} (h : LookAt K A H l L) (e : Tk K H H') (s : ∀ o, H l = some o → H' l = some o) : LookAt K A H' l L := by
  obtain ⟨dx, m, vp, vw, vc, vf, h1, h2, h3, h4⟩ := h
  exact ⟨dx, m, vp, vw, vc, vf, s _ h1, h2, h3.tk e, h4.tk e⟩
/-- the addresses of a world's own objects -/
structure Wa where
  w : Addr
  o : Addr
  k : Addr
  ik : Addr
  l : Addr
  ls : List Addr
def Wa.own (a : Wa) : List Addr := [a.w, a.o, a.k, a.ik, a.l] ++ a.ls
structure WAt (K : PySem.W.Frag) (A : Ad) (H : Hp) (a : Wa) (W : Ws) : Prop where
  w : ∃ dx r s sh sv ms, H a.w = some (.ins A.World dx (wNm.zip [.ref a.o, r, s, .ref a.l, .ref a.k, sh, .ref a.ik, sv, ms]))
  o : ∃ xs, H a.o = some (.lst xs) ∧ Paired (OpAt K H) xs W.ops
  k : H a.k = some (.lst (a.ls.map .ref))
  ls : Paired (LookAt K A H) a.ls W.kept
  ik : ∃ xs, H a.ik = some (.lst xs) ∧ Paired (DdAt K H) xs W.inks
  l : LookAt K A H a.l W.look
  nd : a.own.Nodup
/-- what a call may change -/
structure Stp (K : PySem.W.Frag) (H H' : Hp) (o o' : List Addr) : Prop where
  but : But o H H'
  own : ∀ b ∈ o', b ∈ o ∨ H b = none
  tk : Tk K H H'
theorem Stp.refl {K : PySem.W.Frag} {H H' : Hp} {o : List Addr} (e : Same H H') : Stp K H H' o o := ⟨But.of e, fun _ h => .inl h, Same.tk e⟩
theorem Stp.trans {K : PySem.W.Frag} {H H1 H2 : Hp} {o o1 o2 : List Addr} (a : Stp K H H1 o o1) (b : Stp K H1 H2 o1 o2) : Stp K H H2 o o2 := by
  refine ⟨fun c x n h => b.but c x (fun z => ?_) (a.but c x n h), fun c h => ?_, a.tk.trans b.tk⟩
  · rcases a.own c z with q | q
    · exact n q
    · rw [h] at q
      cases q
  · rcases b.own c h with q | q
    · exact a.own c q
    · by_cases n : c ∈ o
      · exact .inl n
      · right
        cases e : H c with
        | none => rfl
        | some x =>
          rw [a.but c x n e] at q
          cases q
/-- the same addresses, the same objects there -/
theorem WAt.keep {H H' : Hp} {a : Wa} {W : Ws} (h : WAt K A H a W) (e : Tk K H H') (s : ∀ b ∈ a.own, ∀ o, H b = some o → H' b = some o) : WAt K A H' a W := by
  obtain ⟨⟨dx, r, sc, sh, sv, ms, h1⟩, ⟨xo, h2, h3⟩, h4, h5, ⟨xi, h6, h7⟩, h8, h9⟩ := h
  refine ⟨⟨dx, r, sc, sh, sv, ms, s _ (by simp [Wa.own]) _ h1⟩, ⟨xo, s _ (by simp [Wa.own]) _ h2, pImp (fun _ _ z => z.tk e) h3⟩, s _ (by simp [Wa.own]) _ h4, ?_, ⟨xi, s _ (by simp [Wa.own]) _ h6, pImp (fun _ _ z => z.tk e) h7⟩, h8.tk e (s _ (by simp [Wa.own])), h9⟩
  have g : ∀ {ls : List Addr} {ks : List Lk}, (∀ b ∈ ls, b ∈ a.ls) → Paired (LookAt K A H) ls ks → Paired (LookAt K A H') ls ks := by
    intro ls ks m q
    induction q with
    | nil => exact .nil
    | cons x t ih => exact .cons (x.tk e (s _ (List.mem_append_right _ (m _ List.mem_cons_self)))) (ih fun b hb => m b (List.mem_cons_of_mem _ hb))
  exact g (fun _ z => z) h5
theorem WAt.same {H H' : Hp} {a : Wa} {W : Ws} (h : WAt K A H a W) (e : Same H H') : WAt K A H' a W := h.keep (Same.tk e) fun _ _ _ q => e _ _ q
theorem WAt.mem {H : Hp} {a : Wa} {W : Ws} (h : WAt K A H a W) : ∀ b ∈ a.own, ∃ o, H b = some o ∧ (∀ xs, o ≠ .tup xs) ∧ ∀ ob u, o ≠ .frz ob u := by
  obtain ⟨⟨dx, r, sc, sh, sv, ms, h1⟩, ⟨xo, h2, h3⟩, h4, h5, ⟨xi, h6, h7⟩, ⟨_, _, _, _, _, _, h8, _⟩, h9⟩ := h
  intro b hb
  rcases List.mem_append.mp hb with m | m
  · have m' : b = a.w ∨ b = a.o ∨ b = a.k ∨ b = a.ik ∨ b = a.l := by simpa using m
    rcases m' with rfl | rfl | rfl | rfl | rfl
    · exact ⟨_, h1, fun _ z => (nomatch z), fun _ _ z => (nomatch z)⟩
    · exact ⟨_, h2, fun _ z => (nomatch z), fun _ _ z => (nomatch z)⟩
    · exact ⟨_, h4, fun _ z => (nomatch z), fun _ _ z => (nomatch z)⟩
    · exact ⟨_, h6, fun _ z => (nomatch z), fun _ _ z => (nomatch z)⟩
    · exact ⟨_, h8, fun _ z => (nomatch z), fun _ _ z => (nomatch z)⟩
  · have g : ∀ {ls : List Addr} {ks : List Lk}, Paired (LookAt K A H) ls ks → b ∈ ls → ∃ o, H b = some o ∧ (∀ xs, o ≠ .tup xs) ∧ ∀ ob u, o ≠ .frz ob u := by
      intro ls ks q
      induction q with
      | nil => exact fun z => absurd z (by simp)
      | cons x t ih =>
        intro z
        rcases List.mem_cons.mp z with rfl | z
        · obtain ⟨_, _, _, _, _, _, h8, _⟩ := x
          exact ⟨_, h8, fun _ z => (nomatch z), fun _ _ z => (nomatch z)⟩
        · exact ih z
    exact g h5 m
end
section
local macro_rules | `(tactic| walk_at "fld") => `(tactic| (refine fkT (w := ?w) (K := ?K) (mg := ?mg) (A := ?A) ?t ?e ?h; (case t => assumption); (case e => exact rfl); (case h => first | with_reducible exact g_Look_matrix (by assumption) | with_reducible exact g_Look_path (by assumption) | with_reducible exact g_Look_ink (by assumption) | with_reducible exact g_Look_width (by assumption) | with_reducible exact g_Look_clips (by assumption) | with_reducible exact g_Look_font (by assumption) | with_reducible exact g_World_operands (by assumption) | with_reducible exact g_World_rooms (by assumption) | with_reducible exact g_World_scopes (by assumption) | with_reducible exact g_World_look (by assumption) | with_reducible exact g_World_kept (by assumption) | with_reducible exact g_World_sheets (by assumption) | with_reducible exact g_World_inkings (by assumption) | with_reducible exact g_World_saves (by assumption) | with_reducible exact g_World_many_saves (by assumption) | with_reducible exact g_Items_body (by assumption) | with_reducible exact g_Items_at (by assumption) | with_reducible exact g_Reader_text (by assumption) | with_reducible exact g_Reader_at (by assumption) | with_reducible exact g_Reader_row (by assumption) | with_reducible exact g_Reader_column (by assumption) | with_reducible exact g_Reader_deep (by assumption) | with_reducible exact g_Machine_wide (by assumption) | with_reducible exact g_Machine_high (by assumption) | with_reducible exact g_Machine_most (by assumption) | with_reducible exact g_Machine_world (by assumption) | with_reducible exact g_Machine_frames (by assumption) | with_reducible exact g_Machine_left (by assumption) | with_reducible exact g_Machine_told (by assumption) | with_reducible exact g_Machine_is_running (by assumption) | with_reducible exact g_Machine_ahead (by assumption) | with_reducible exact g_Machine_past (by assumption) | with_reducible exact g_Machine_later (by assumption))))
/-- as many steps as go by themselves -/
local macro_rules | `(tactic| walk_at "g1") => `(tactic| (first
  | with_reducible refine r_seq ?_ | with_reducible refine r_set ?_ | with_reducible refine r_asg ?_ | with_reducible refine r_sl ?_ | with_reducible refine r_np ?_ | with_reducible refine r_pt ?_ | with_reducible refine r_gn ?_ | with_reducible refine r_gc ?_ | with_reducible refine r_g0 ?_ | ((with_reducible refine r_gt (xs := ?xs) ?h ?g ?_); (case h => assumption); (case g => exact rfl)) | with_reducible refine r_ret ?_ | with_reducible refine r_if ?_ | with_reducible refine r_test ?_ | with_reducible refine r_B ?_ | with_reducible refine r_and ?_ | with_reducible refine r_or ?_ | with_reducible refine r_not ?_
  | with_reducible refine r_andV ?_ | with_reducible refine r_orV ?_ | with_reducible refine r_notV ?_ | with_reducible refine r_ifx ?_ | with_reducible refine r_op ?_ | with_reducible refine r_un ?_ | with_reducible refine r_U ?_ | with_reducible refine r_c ?_ | with_reducible refine r_I0 ?_ | with_reducible refine r_drop ?_ | with_reducible refine r_next ?_
  | ((with_reducible refine r_var (v := ?v) ?h ?_); (case h => exact rfl)) | with_reducible refine r_bl ?_ | with_reducible refine r_nil ?_ | with_reducible refine r_cons ?_ | with_reducible refine r_cb ?_ | with_reducible refine r_call ?_ | with_reducible refine r_spk ?_ | with_reducible refine r_sp1 ?_ | with_reducible refine r_sp2 ?_ | with_reducible refine r_sp3 ?_ | with_reducible refine r_sp4 ?_ | with_reducible refine r_sp5 ?_
  | with_reducible refine r_tup ?_ | with_reducible refine r_lst ?_ | with_reducible refine r_par ?_ | with_reducible refine r_par2 ?_ 
  | ((with_reducible refine r_eq ?h ?_); (case h => exact rfl)) | ((with_reducible refine r_ne ?h ?_); (case h => exact rfl))
  | ((with_reducible refine r_ixT (xs := ?xs) (v := ?v) ?h ?g ?_); (case h => assumption); (case g => first | exact at0 | exact at1))
  | ((with_reducible refine r_fl (i := ?i) (nm := ?nm) (C := ?C) (dx := ?dx) (vs := ?vs) (v := ?v) ?ok ?e ?hv ?_); (case e => assumption); (case ok => walk_at "fld"); (case hv => rfl)) | with_reducible refine r_for ?_ | with_reducible refine r_il ?_ | with_reducible refine r_it ?_ | with_reducible refine r_iz ?_ | with_reducible refine r_ir1 ?_ | with_reducible refine r_ir2 ?_ | with_reducible refine r_lc ?_ | with_reducible refine r_sFld ?_ | with_reducible refine r_ck ?_ | with_reducible refine r_fld ?_ | with_reducible refine ⟨_, rfl, ?_⟩ | with_reducible refine ⟨_, _, rfl, .inr (by with_unfolding_all assumption), ?_⟩ | with_reducible refine ⟨_, _, rfl, .inl (seqL (by assumption)), ?_⟩ | with_reducible refine ⟨_, _, rfl, rfl, ?_⟩ | with_reducible refine ⟨_, _, rfl, ?_⟩ | with_reducible refine ⟨rfl, ?_⟩ | with_reducible refine r_sz ?_))
local macro_rules | `(tactic| walk_at "go") => `(tactic| (repeat walk_at "g1"))
variable {P : Program} {w : World} {K : PySem.W.Frag} {mg : Str → Option Value} {A : Ad} {base : Heap}
/-! Changes of the world's own objects. -/
structure Ne5 (a : Wa) : Prop where
  wo : a.w ≠ a.o
  wk : a.w ≠ a.k
  wi : a.w ≠ a.ik
  wl : a.w ≠ a.l
  ok : a.o ≠ a.k
  oi : a.o ≠ a.ik
  ol : a.o ≠ a.l
  ki : a.k ≠ a.ik
  kl : a.k ≠ a.l
  il : a.ik ≠ a.l
  w : ∀ b ∈ a.ls, b ≠ a.w
  o : ∀ b ∈ a.ls, b ≠ a.o
  k : ∀ b ∈ a.ls, b ≠ a.k
  i : ∀ b ∈ a.ls, b ≠ a.ik
  l : ∀ b ∈ a.ls, b ≠ a.l
  nd : a.ls.Nodup
theorem ne5 {a : Wa} (h : a.own.Nodup) : Ne5 a := by
  obtain ⟨w, o, k, ik, l, ls⟩ := a
  simp only [Wa.own, List.cons_append, List.nil_append, List.nodup_cons, List.mem_cons, not_or] at h
  obtain ⟨⟨h1, h2, h3, h4, h5⟩, ⟨h6, h7, h8, h9⟩, ⟨h10, h11, h12⟩, ⟨h13, h14⟩, h15, h16⟩ := h
  exact ⟨h1, h2, h3, h4, h6, h7, h8, h10, h11, h13, fun b m z => h5 ((show b = w from z) ▸ m), fun b m z => h9 ((show b = o from z) ▸ m), fun b m z => h12 ((show b = k from z) ▸ m), fun b m z => h14 ((show b = ik from z) ▸ m), fun b m z => h15 ((show b = l from z) ▸ m), h16⟩
theorem of_ne5 {a : Wa} (h : Ne5 a) : a.own.Nodup := by
  obtain ⟨w, o, k, ik, l, ls⟩ := a
  obtain ⟨h1, h2, h3, h4, h6, h7, h8, h10, h11, h13, q1, q2, q3, q4, q5, h16⟩ := h
  simp only [Wa.own, List.cons_append, List.nil_append, List.nodup_cons, List.mem_cons, not_or]
  exact ⟨⟨h1, h2, h3, h4, fun m => q1 _ m rfl⟩, ⟨h6, h7, h8, fun m => q2 _ m rfl⟩, ⟨h10, h11, fun m => q3 _ m rfl⟩, ⟨h13, fun m => q4 _ m rfl⟩, fun m => q5 _ m rfl, h16⟩
theorem looks_keep {H H' : Hp} {ls : List Addr} {ks : List Lk} (q : Paired (LookAt K A H) ls ks) (e : Tk K H H') (s : ∀ b ∈ ls, ∀ o, H b = some o → H' b = some o) : Paired (LookAt K A H') ls ks := by
  induction q with
  | nil => exact .nil
  | cons x t ih => exact .cons (x.tk e (s _ List.mem_cons_self)) (ih fun b hb => s b (List.mem_cons_of_mem _ hb))
theorem tk_at {H H1 H' : Hp} {p : Addr} {o o' : HO} (e : Same H H1) (h : H p = some o) (n1 : ∀ xs, o ≠ .tup xs) (n2 : ∀ ob u, o ≠ .frz ob u) (g : upd H1 p o' = H') : Tk K H H' := by
  subst g
  refine (Same.tk e).trans (Tk.upd (fun xs z => ?_) fun ob u z => ?_)
  · rw [e _ _ h] at z
    cases z
    exact n1 _ rfl
  · rw [e _ _ h] at z
    cases z
    exact n2 _ _ rfl
/-- world.operands = .. -/
theorem set_ops {H H1 H' : Hp} {a : Wa} {W : Ws} {q dx : Addr} {r sc sh sv ms : V} {xs : List V} {ns : List Num} (h : WAt K A H a W) (s : Same H H1) (fq : H q = none) (eq : H1 q = some (.lst xs)) (pr : Paired (OpAt K H1) xs ns)
    (ew : H a.w = some (.ins A.World dx (wNm.zip [.ref a.o, r, sc, .ref a.l, .ref a.k, sh, .ref a.ik, sv, ms])))
    (g : upd H1 a.w (.ins A.World dx (wNm.zip [.ref q, r, sc, .ref a.l, .ref a.k, sh, .ref a.ik, sv, ms])) = H') : WAt K A H' { a with o := q } { W with ops := ns } ∧ Stp K H H' a.own ({ a with o := q } : Wa).own := by
  have nq : ∀ b ∈ a.own, b ≠ q := fun b m z => by
    obtain ⟨o, e, _⟩ := h.mem b m
    rw [z, fq] at e
    cases e
  have N := ne5 h.nd
  have tk : Tk K H H' := tk_at s ew (fun _ z => nomatch z) (fun _ _ z => nomatch z) g
  have tk1 : Tk K H1 H' := tk_at (Same.refl _) (s _ _ ew) (fun _ z => nomatch z) (fun _ _ z => nomatch z) g
  have kp : ∀ b o, b ≠ a.w → H b = some o → H' b = some o := fun b o n e => by
    rw [← g, upd_ne n]
    exact s _ _ e
  obtain ⟨_, ⟨xo, h2, h3⟩, h4, h5, ⟨xi, h6, h7⟩, h8, h9⟩ := h
  refine ⟨⟨⟨dx, r, sc, sh, sv, ms, by rw [← g]; exact upd_same⟩, ⟨xs, ?_, pImp (fun _ _ z => z.tk tk1) pr⟩, kp _ _ N.wk.symm h4, looks_keep h5 tk fun b m o e => kp b o (N.w b m) e, ⟨xi, kp _ _ N.wi.symm h6, pImp (fun _ _ z => z.tk tk) h7⟩, h8.tk tk fun o e => kp _ o N.wl.symm e, ?_⟩, ⟨fun b x n e => kp b x (fun z => n (by rw [z]; simp [Wa.own])) e, fun b m => ?_, tk⟩⟩
  · rw [← g, upd_ne (nq a.w (by simp [Wa.own])).symm]
    exact eq
  · refine of_ne5 ⟨nq _ (by simp [Wa.own]), N.wk, N.wi, N.wl, (nq a.k (by simp [Wa.own])).symm, (nq a.ik (by simp [Wa.own])).symm, (nq a.l (by simp [Wa.own])).symm, N.ki, N.kl, N.il, N.w, fun b m => nq b (List.mem_append_right _ m), N.k, N.i, N.l, N.nd⟩
  · have m' : b = a.w ∨ b = q ∨ b = a.k ∨ b = a.ik ∨ b = a.l ∨ b ∈ a.ls := by simpa [Wa.own] using m
    rcases m' with rfl | rfl | rfl | rfl | rfl | m'
    · exact .inl (by simp [Wa.own])
    · exact .inr fq
    · exact .inl (by simp [Wa.own])
    · exact .inl (by simp [Wa.own])
    · exact .inl (by simp [Wa.own])
    · exact .inl (List.mem_append_right _ m')
/-- world.operands.append(v) -/
theorem push_op {H H' : Hp} {a : Wa} {W : Ws} {xs : List V} {v : V} {n : Num} (h : WAt K A H a W) (e : H a.o = some (.lst xs)) (hv : OpAt K H v n) (g : upd H a.o (.lst (xs ++ [v])) = H') : WAt K A H' a { W with ops := W.ops ++ [n] } ∧ Stp K H H' a.own a.own := by
  have N := ne5 h.nd
  have tk : Tk K H H' := tk_at (Same.refl _) e (fun _ z => nomatch z) (fun _ _ z => nomatch z) g
  have kp : ∀ b o, b ≠ a.o → H b = some o → H' b = some o := fun b o n e => by
    rw [← g, upd_ne n]
    exact e
  obtain ⟨⟨dx, r, sc, sh, sv, ms, h1⟩, ⟨xo, h2, h3⟩, h4, h5, ⟨xi, h6, h7⟩, h8, h9⟩ := h
  rw [e] at h2
  cases h2
  refine ⟨⟨⟨dx, r, sc, sh, sv, ms, kp _ _ N.wo h1⟩, ⟨_, by rw [← g]; exact upd_same, pApp (pImp (fun _ _ z => z.tk tk) h3) (.cons (hv.tk tk) .nil)⟩, kp _ _ N.ok.symm h4, looks_keep h5 tk fun b m o e => kp b o (N.o b m) e, ⟨xi, kp _ _ N.oi.symm h6, pImp (fun _ _ z => z.tk tk) h7⟩, h8.tk tk fun o e => kp _ o N.ol.symm e, h9⟩, ⟨fun b x n e => kp b x (fun z => n (by rw [z]; simp [Wa.own])) e, fun b m => .inl m, tk⟩⟩
/-- a field of the look -/
theorem set_look {H H1 H' : Hp} {a : Wa} {W : Ws} {L : Lk} {o : HO} (h : WAt K A H a W) (s : Same H H1) (g : upd H1 a.l o = H') (hl : Tk K H1 H' → LookAt K A H' a.l L) : WAt K A H' a { W with look := L } ∧ Stp K H H' a.own a.own := by
  have N := ne5 h.nd
  have kp : ∀ b o, b ≠ a.l → H b = some o → H' b = some o := fun b o n e => by
    rw [← g, upd_ne n]
    exact s _ _ e
  obtain ⟨⟨dx, r, sc, sh, sv, ms, h1⟩, ⟨xo, h2, h3⟩, h4, h5, ⟨xi, h6, h7⟩, ⟨_, _, _, _, _, _, h8, _⟩, h9⟩ := h
  have tk : Tk K H H' := tk_at s h8 (fun _ z => nomatch z) (fun _ _ z => nomatch z) g
  have tk1 : Tk K H1 H' := tk_at (Same.refl _) (s _ _ h8) (fun _ z => nomatch z) (fun _ _ z => nomatch z) g
  exact ⟨⟨⟨dx, r, sc, sh, sv, ms, kp _ _ N.wl h1⟩, ⟨_, kp _ _ N.ol h2, pImp (fun _ _ z => z.tk tk) h3⟩, kp _ _ N.kl h4, looks_keep h5 tk fun b m o e => kp b o (N.l b m) e, ⟨xi, kp _ _ N.il h6, pImp (fun _ _ z => z.tk tk) h7⟩, hl tk1, h9⟩, ⟨fun b x n e => kp b x (fun z => n (by rw [z]; simp [Wa.own])) e, fun b m => .inl m, tk⟩⟩
/-- world.inkings.append(v) -/
theorem push_ink {H H' : Hp} {a : Wa} {W : Ws} {xs : List V} {v : V} {n : Dd} (h : WAt K A H a W) (e : H a.ik = some (.lst xs)) (hv : DdAt K H v n) (g : upd H a.ik (.lst (xs ++ [v])) = H') : WAt K A H' a { W with inks := W.inks ++ [n] } ∧ Stp K H H' a.own a.own := by
  have N := ne5 h.nd
  have tk : Tk K H H' := tk_at (Same.refl _) e (fun _ z => nomatch z) (fun _ _ z => nomatch z) g
  have kp : ∀ b o, b ≠ a.ik → H b = some o → H' b = some o := fun b o n e => by
    rw [← g, upd_ne n]
    exact e
  obtain ⟨⟨dx, r, sc, sh, sv, ms, h1⟩, ⟨xo, h2, h3⟩, h4, h5, ⟨xi, h6, h7⟩, h8, h9⟩ := h
  rw [e] at h6
  cases h6
  exact ⟨⟨⟨dx, r, sc, sh, sv, ms, kp _ _ N.wi h1⟩, ⟨_, kp _ _ N.oi h2, pImp (fun _ _ z => z.tk tk) h3⟩, kp _ _ N.ki h4, looks_keep h5 tk fun b m o e => kp b o (N.i b m) e, ⟨_, by rw [← g]; exact upd_same, pApp (pImp (fun _ _ z => z.tk tk) h7) (.cons (hv.tk tk) .nil)⟩, h8.tk tk fun o e => kp _ o N.il.symm e, h9⟩, ⟨fun b x n e => kp b x (fun z => n (by rw [z]; simp [Wa.own])) e, fun b m => .inl m, tk⟩⟩
/-- world.kept.append(look.twin()) -/
theorem push_kept {H H1 H' : Hp} {a : Wa} {W : Ws} {q : Addr} {L : Lk} (h : WAt K A H a W) (s : Same H H1) (fq : H q = none) (hl : LookAt K A H1 q L) (g : upd H1 a.k (.lst (a.ls.map .ref ++ [.ref q])) = H') :
    WAt K A H' { a with ls := a.ls ++ [q] } { W with kept := W.kept ++ [L] } ∧ Stp K H H' a.own ({ a with ls := a.ls ++ [q] } : Wa).own := by
  have nq : ∀ b ∈ a.own, q ≠ b := fun b m z => by
    obtain ⟨o, e, _⟩ := h.mem b m
    rw [← z, fq] at e
    cases e
  have N := ne5 h.nd
  have tk : Tk K H H' := tk_at s h.k (fun _ z => nomatch z) (fun _ _ z => nomatch z) g
  have tk1 : Tk K H1 H' := tk_at (Same.refl _) (s _ _ h.k) (fun _ z => nomatch z) (fun _ _ z => nomatch z) g
  have kp : ∀ b o, b ≠ a.k → H b = some o → H' b = some o := fun b o n e => by
    rw [← g, upd_ne n]
    exact s _ _ e
  have qk : q ≠ a.k := nq a.k (by simp [Wa.own])
  obtain ⟨⟨dx, r, sc, sh, sv, ms, h1⟩, ⟨xo, h2, h3⟩, h4, h5, ⟨xi, h6, h7⟩, h8, h9⟩ := h
  refine ⟨⟨⟨dx, r, sc, sh, sv, ms, kp _ _ N.wk h1⟩, ⟨_, kp _ _ N.ok h2, pImp (fun _ _ z => z.tk tk) h3⟩, ?_, pApp (looks_keep h5 tk fun b m o e => kp b o (N.k b m) e) (.cons (hl.tk tk1 fun o e => ?_) .nil), ⟨xi, kp _ _ N.ki.symm h6, pImp (fun _ _ z => z.tk tk) h7⟩, h8.tk tk fun o e => kp _ o N.kl.symm e, ?_⟩, ⟨fun b x n e => kp b x (fun z => n (by rw [z]; simp [Wa.own])) e, fun b m => ?_, tk⟩⟩
  · rw [← g]
    show upd H1 a.k _ a.k = some (.lst ((a.ls ++ [q]).map .ref))
    rw [upd_same, List.map_append]
    rfl
  · rw [← g, upd_ne qk]
    exact e
  · have sp : ∀ {b c : Addr}, b ∈ a.ls ++ [q] → (b ∈ a.ls → b ≠ c) → q ≠ c → b ≠ c := fun m h1 h2 => by
      rcases List.mem_append.mp m with m | m
      · exact h1 m
      · rw [List.mem_singleton.mp m]
        exact h2
    refine of_ne5 ⟨N.wo, N.wk, N.wi, N.wl, N.ok, N.oi, N.ol, N.ki, N.kl, N.il, fun b m => sp m (N.w b) (nq _ (by simp [Wa.own])), fun b m => sp m (N.o b) (nq _ (by simp [Wa.own])), fun b m => sp m (N.k b) qk, fun b m => sp m (N.i b) (nq _ (by simp [Wa.own])), fun b m => sp m (N.l b) (nq _ (by simp [Wa.own])), ?_⟩
    exact List.nodup_append.mpr ⟨N.nd, by simp, fun b m c m2 z => nq b (List.mem_append_right _ m) ((List.mem_singleton.mp m2) ▸ z.symm)⟩
  · have m' : b ∈ a.own ∨ b = q := by
      have m2 : b ∈ [a.w, a.o, a.k, a.ik, a.l] ++ (a.ls ++ [q]) := m
      rw [← List.append_assoc] at m2
      rcases List.mem_append.mp m2 with z | z
      · exact .inl z
      · exact .inr (List.mem_singleton.mp z)
    rcases m' with z | rfl
    · exact .inl z
    · exact .inr fq
/-- world.look = world.kept.pop() -/
theorem pop_kept {H H1 H' : Hp} {a : Wa} {W : Ws} {q dx : Addr} {r sc sh sv ms : V} {ls : List Addr} {L : Lk} {ks : List Lk} (h : WAt K A H a W) (hl : a.ls = ls ++ [q]) (hk : W.kept = ks ++ [L])
    (ew : H a.w = some (.ins A.World dx (wNm.zip [.ref a.o, r, sc, .ref a.l, .ref a.k, sh, .ref a.ik, sv, ms]))) (g1 : upd H a.k (.lst (ls.map .ref)) = H1)
    (g : upd H1 a.w (.ins A.World dx (wNm.zip [.ref a.o, r, sc, .ref q, .ref a.k, sh, .ref a.ik, sv, ms])) = H') :
    WAt K A H' { a with ls := ls, l := q } { W with kept := ks, look := L } ∧ Stp K H H' a.own ({ a with ls := ls, l := q } : Wa).own := by
  have N := ne5 h.nd
  have tk1 : Tk K H H1 := tk_at (Same.refl _) h.k (fun _ z => nomatch z) (fun _ _ z => nomatch z) g1
  have ew1 : H1 a.w = some (.ins A.World dx (wNm.zip [.ref a.o, r, sc, .ref a.l, .ref a.k, sh, .ref a.ik, sv, ms])) := by
    rw [← g1, upd_ne N.wk]
    exact ew
  have tk2 : Tk K H1 H' := tk_at (Same.refl _) ew1 (fun _ z => nomatch z) (fun _ _ z => nomatch z) g
  have tk := tk1.trans tk2
  have kp : ∀ b o, b ≠ a.k → b ≠ a.w → H b = some o → H' b = some o := fun b o n n2 e => by
    rw [← g, upd_ne n2, ← g1, upd_ne n]
    exact e
  have mq : q ∈ a.ls := by rw [hl]; simp
  have ml : ∀ b ∈ ls, b ∈ a.ls := fun b m => by rw [hl]; simp [m]
  obtain ⟨_, ⟨xo, h2, h3⟩, h4, h5, ⟨xi, h6, h7⟩, h8, h9⟩ := h
  rw [hl, hk] at h5
  obtain ⟨ls', q', e1, p1, p2⟩ := pUnsnoc h5
  obtain ⟨rfl, e2⟩ := List.append_inj' e1 rfl
  cases e2
  refine ⟨⟨⟨dx, r, sc, sh, sv, ms, by rw [← g]; exact upd_same⟩, ⟨_, kp _ _ N.ok N.wo.symm h2, pImp (fun _ _ z => z.tk tk) h3⟩, ?_, looks_keep p1 tk fun b m o e => kp b o (N.k b (ml b m)) (N.w b (ml b m)) e, ⟨xi, kp _ _ N.ki.symm N.wi.symm h6, pImp (fun _ _ z => z.tk tk) h7⟩, p2.tk tk fun o e => kp _ o (N.k _ mq) (N.w _ mq) e, ?_⟩, ⟨fun b x n e => kp b x (fun z => n (by rw [z]; simp [Wa.own])) (fun z => n (by rw [z]; simp [Wa.own])) e, fun b m => ?_, tk⟩⟩
  · rw [← g, upd_ne N.wk.symm, ← g1]
    exact upd_same
  · have nd := N.nd
    rw [hl] at nd
    obtain ⟨n1, n2, n3⟩ := List.nodup_append.mp nd
    exact of_ne5 ⟨N.wo, N.wk, N.wi, (N.w _ mq).symm, N.ok, N.oi, (N.o _ mq).symm, N.ki, (N.k _ mq).symm, (N.i _ mq).symm, fun b m => N.w b (ml b m), fun b m => N.o b (ml b m), fun b m => N.k b (ml b m), fun b m => N.i b (ml b m), fun b m => n3 b m q (by simp), n1⟩
  · have m' : b = a.w ∨ b = a.o ∨ b = a.k ∨ b = a.ik ∨ b = q ∨ b ∈ ls := by simpa [Wa.own] using m
    rcases m' with rfl | rfl | rfl | rfl | rfl | m'
    · exact .inl (by simp [Wa.own])
    · exact .inl (by simp [Wa.own])
    · exact .inl (by simp [Wa.own])
    · exact .inl (by simp [Wa.own])
    · exact .inl (List.mem_append_right _ mq)
    · exact .inl (List.mem_append_right _ (ml b m'))
end
section
local macro_rules | `(tactic| walk_at "fld") => `(tactic| (refine fkT (w := ?w) (K := ?K) (mg := ?mg) (A := ?A) ?t ?e ?h; (case t => assumption); (case e => exact rfl); (case h => first | with_reducible exact g_Look_matrix (by assumption) | with_reducible exact g_Look_path (by assumption) | with_reducible exact g_Look_ink (by assumption) | with_reducible exact g_Look_width (by assumption) | with_reducible exact g_Look_clips (by assumption) | with_reducible exact g_Look_font (by assumption) | with_reducible exact g_World_operands (by assumption) | with_reducible exact g_World_rooms (by assumption) | with_reducible exact g_World_scopes (by assumption) | with_reducible exact g_World_look (by assumption) | with_reducible exact g_World_kept (by assumption) | with_reducible exact g_World_sheets (by assumption) | with_reducible exact g_World_inkings (by assumption) | with_reducible exact g_World_saves (by assumption) | with_reducible exact g_World_many_saves (by assumption) | with_reducible exact g_Items_body (by assumption) | with_reducible exact g_Items_at (by assumption) | with_reducible exact g_Reader_text (by assumption) | with_reducible exact g_Reader_at (by assumption) | with_reducible exact g_Reader_row (by assumption) | with_reducible exact g_Reader_column (by assumption) | with_reducible exact g_Reader_deep (by assumption) | with_reducible exact g_Machine_wide (by assumption) | with_reducible exact g_Machine_high (by assumption) | with_reducible exact g_Machine_most (by assumption) | with_reducible exact g_Machine_world (by assumption) | with_reducible exact g_Machine_frames (by assumption) | with_reducible exact g_Machine_left (by assumption) | with_reducible exact g_Machine_told (by assumption) | with_reducible exact g_Machine_is_running (by assumption) | with_reducible exact g_Machine_ahead (by assumption) | with_reducible exact g_Machine_past (by assumption) | with_reducible exact g_Machine_later (by assumption))))
/-- as many steps as go by themselves -/
local macro_rules | `(tactic| walk_at "g1") => `(tactic| (first
  | with_reducible refine r_seq ?_ | with_reducible refine r_set ?_ | with_reducible refine r_asg ?_ | with_reducible refine r_sl ?_ | with_reducible refine r_np ?_ | with_reducible refine r_pt ?_ | with_reducible refine r_gn ?_ | with_reducible refine r_gc ?_ | with_reducible refine r_g0 ?_ | ((with_reducible refine r_gt (xs := ?xs) ?h ?g ?_); (case h => assumption); (case g => exact rfl)) | with_reducible refine r_ret ?_ | with_reducible refine r_if ?_ | with_reducible refine r_test ?_ | with_reducible refine r_B ?_ | with_reducible refine r_and ?_ | with_reducible refine r_or ?_ | with_reducible refine r_not ?_
  | with_reducible refine r_andV ?_ | with_reducible refine r_orV ?_ | with_reducible refine r_notV ?_ | with_reducible refine r_ifx ?_ | with_reducible refine r_op ?_ | with_reducible refine r_un ?_ | with_reducible refine r_U ?_ | with_reducible refine r_c ?_ | with_reducible refine r_I0 ?_ | with_reducible refine r_drop ?_ | with_reducible refine r_next ?_
  | ((with_reducible refine r_var (v := ?v) ?h ?_); (case h => exact rfl)) | with_reducible refine r_bl ?_ | with_reducible refine r_nil ?_ | with_reducible refine r_cons ?_ | with_reducible refine r_cb ?_ | with_reducible refine r_call ?_ | ((with_reducible refine r_gl (xs := ?xs) ?h ?g ?_); (case h => assumption); (case g => exact rfl)) | with_reducible refine r_sm1 ?_ | with_reducible refine r_sm2 ?_ | with_reducible refine r_sm3 ?_ | with_reducible refine r_ch ?_ | with_reducible refine r_bm ?_ | with_reducible refine r_bm0 ?_ | ((with_reducible refine r_ty (xs := ?xs) ?e ?_); (case e => assumption)) | with_reducible refine r_mkU ?_ | with_reducible refine r_mt0 ?_ | with_reducible refine r_yes ?_ | with_reducible refine iteT ?_ | with_reducible refine iteF ?_ | with_reducible refine r_spk ?_ | with_reducible refine r_sp1 ?_ | with_reducible refine r_sp2 ?_ | with_reducible refine r_sp3 ?_ | with_reducible refine r_sp4 ?_ | with_reducible refine r_sp5 ?_
  | with_reducible refine r_tup ?_ | with_reducible refine r_lst ?_ | with_reducible refine r_par ?_ | with_reducible refine r_par2 ?_ 
  | ((with_reducible refine r_eq ?h ?_); (case h => exact rfl)) | ((with_reducible refine r_ne ?h ?_); (case h => exact rfl))
  | ((with_reducible refine r_ixT (xs := ?xs) (v := ?v) ?h ?g ?_); (case h => assumption); (case g => first | exact at0 | exact at1))
  | ((with_reducible refine r_fl (i := ?i) (nm := ?nm) (C := ?C) (dx := ?dx) (vs := ?vs) (v := ?v) ?ok ?e ?hv ?_); (case e => assumption); (case ok => walk_at "fld"); (case hv => rfl)) | with_reducible refine r_for ?_ | with_reducible refine r_il ?_ | with_reducible refine r_it ?_ | with_reducible refine r_iz ?_ | with_reducible refine r_ir1 ?_ | with_reducible refine r_ir2 ?_ | with_reducible refine r_lc ?_ | with_reducible refine r_sFld ?_ | with_reducible refine r_ck ?_ | with_reducible refine r_fld ?_ | with_reducible refine ⟨_, rfl, ?_⟩ | with_reducible refine ⟨_, _, rfl, .inr (by with_unfolding_all assumption), ?_⟩ | with_reducible refine ⟨_, _, rfl, .inl (seqL (by assumption)), ?_⟩ | with_reducible refine ⟨_, _, rfl, rfl, ?_⟩ | with_reducible refine ⟨_, _, rfl, ?_⟩ | with_reducible refine ⟨rfl, ?_⟩ | with_reducible refine r_sz ?_))
local macro_rules | `(tactic| walk_at "go") => `(tactic| (repeat walk_at "g1"))
variable {P : Program} {w : World} {K : PySem.W.Frag} {mg : Str → Option Value} {A : Ad} {base : Heap}
/-! need, need_kinds, taken, whole_of. -/
theorem pOf {α β : Type} {F : α → β → Prop} : ∀ {l₁ : List α} {l₂ : List β}, l₁.length = l₂.length → (∀ (j : Nat) (x : α) (y : β), l₁[j]? = some x → l₂[j]? = some y → F x y) → Paired F l₁ l₂
  | [], [], _, _ => .nil
  | [], _ :: _, h, _ => by simp at h
  | _ :: _, [], h, _ => by simp at h
  | _ :: _, _ :: _, h, f => .cons (f 0 _ _ rfl rfl) (pOf (Nat.succ.inj h) fun j x y h1 h2 => f (j + 1) x y h1 h2)
/-- a comprehension that keeps every item -/
theorem lc_all {J : It} {n : Nat} {G : Hp → Prop} {Y : Nat → Hp → V → Hp → Prop} (w : Walk J n G Y) {g : TG} {tt : TT} {te : TE} {vs : List Nat} {σ : L2.St} {H1 : Hp} {D : Addr} {Qd : Hp → Prop} (f : H1 D = none) (hn : n ≤ sizeLine) (R : Nat → V → Hp → Prop)
    (hR : ∀ i v H H', But [D] H H' → Tk K H H' → R i v H → R i v H') (hG : ∀ H, Same H1 H → G H)
    (hs : ∀ i x H H' (N : V → Hp → Prop) (M : Hp → Prop), i < n → Same H1 H → Y i H x H' → (∀ y H4, Same H H4 → R i y H4 → N y H4) → g x (wipe σ vs) H' fun σ2 H2 => wipe σ2 vs = wipe σ vs ∧ tt σ2 H2 fun b H3 => if b = true then te σ2 H3 N else M H3)
    (hd : ∀ H acc, Same H1 H → H D = some (.lst acc) → acc.length = n → (∀ j v, acc[j]? = some v → R j v H) → Qd H) :
    ∃ W : Nat → Nat → Hp → Prop, (∃ m, W 0 m (upd H1 D (.lst []))) ∧ ∀ i m H, W i m H →
      (J.stop i H ∧ Qd H) ∨ (J.go i H ∧ ∃ Nx : Hp → Prop, (∀ H', Nx H' → ∃ m', m' < m ∧ W (i + 1) m' H') ∧ ∀ x H', J.yld i H x H' → g x (wipe σ vs) H' fun σ2 H2 => wipe σ2 vs = wipe σ vs ∧ tt σ2 H2 fun b H3 =>
        if b = true then te σ2 H3 fun y H4 => ∃ acc, H4 D = some (.lst acc) ∧ acc.length < sizeLine ∧ Nx (upd H4 D (.lst (acc ++ [y]))) else Nx H3) := by
  refine lc_it w (fun i H => Same H1 H ∧ ∃ acc, H D = some (.lst acc) ∧ acc.length = i ∧ ∀ j v, acc[j]? = some v → R j v H) ⟨same_new f, [], upd_same, rfl, fun j v z => by simp at z⟩ (fun i H _ z => hG H z.1) ?_ ?_
  · rintro i x H H' hi ⟨sh, acc, e, l, r⟩ y
    refine hs i x H H' _ _ hi sh y fun z H4 s4 rz => ⟨acc, s4 _ _ e, by omega, ?_, acc ++ [z], upd_same, by simp [l], fun j v hj => ?_⟩
    · intro b o q
      rw [upd_ne (ne_of_none q f)]
      exact s4 _ _ (sh _ _ q)
    · have e4 := s4 _ _ e
      have bt : But [D] H4 (upd H4 D (.lst (acc ++ [z]))) := But.upd List.mem_cons_self
      have tk : Tk K H4 (upd H4 D (.lst (acc ++ [z]))) := Tk.lst e4
      rw [List.getElem?_append] at hj
      split at hj
      · exact hR _ _ _ _ bt tk (hR _ _ _ _ (But.of s4) (Same.tk s4) (r j v hj))
      · rename_i hjl
        have e0 : j - acc.length = 0 := by
          cases q : j - acc.length with
          | zero => rfl
          | succ m =>
            rw [q] at hj
            simp at hj
        rw [e0] at hj
        cases hj
        have ej : j = i := by omega
        rw [ej]
        exact hR _ _ _ _ bt tk rz
  · rintro H ⟨sh, acc, e, l, r⟩
    exact hd H acc sh e l r
abbrev spNeed (A : Ad) : Sp := Sp2 fun a b H Q => ∃ (p o dx : Addr) (vs xs : List V) (n : Int), a = .ref p ∧ b = .int n ∧ H p = some (.ins A.World dx (wNm.zip (.ref o :: vs))) ∧ H o = some (.lst xs) ∧ n ≤ xs.length ∧ Q .non H
theorem sc_need : FnScope ["world", "many"] ["world", "many"] (defScope s_need) := ⟨rfl, rfl, rfl, by decide +kernel, rfl, by decide +kernel, by decide +kernel⟩
theorem cal_need (T : Tx w K mg A) : Cal P w K mg base 1 "need" (spNeed A) [] := by
  refine calOf T.f_need sc_need (fun _ _ _ _ _ _ us hl => match us, hl with | [_, _], _ => rfl) Sp2.len fun f cdv Ar outer s H vs Q E hr h => ?_
  obtain ⟨_, _, rfl, p, o, dx, vs, xs, n, rfl, rfl, e, eo, hn, q⟩ := h
  refine ⟨_, (pss_one (ps_if (pt_cmpR op_lt (pe_callB call_len_seq rfl T.n_len PySem.boot_len (pa_cons (pe_fld (pv 0) rfl) pa_nil)) (pv 1) (nomark _))
    pss_never
    pss_nil)), ?_⟩
  walk_at "go"
  refine difF (by omega) ?_
  walk_at "go"
  exact q
def Kinds (ks : List V) : Prop := ∀ k ∈ ks, k = .str "number"
abbrev spTakenIn (K : PySem.W.Frag) (A : Ad) (R : Wa → Ws → Addr → Addr → List V → Hp → VK → Prop) : Sp := Sp2 fun a b H Q => ∃ (wa : Wa) (W : Ws) (l : Addr) (ks : List V), a = .ref wa.w ∧ b = .ref l ∧ WAt K A H wa W ∧ H l = some (.lst ks) ∧ Kinds ks ∧ ks.length = W.ops.length ∧ ks.length ≤ 1000 ∧ R wa W wa.w l ks H Q
abbrev spNeedKinds (K : PySem.W.Frag) (A : Ad) : Sp := spTakenIn K A fun _ _ _ _ _ H Q => ∀ H', Same H H' → Q .non H'
theorem sc_need_kinds : FnScope ["world", "kinds", "value", "kind"] ["world", "kinds"] (defScope s_need_kinds) := ⟨rfl, rfl, rfl, by decide +kernel, rfl, by decide +kernel, by decide +kernel⟩
theorem r_cutAll {K : PySem.W.Frag} {H : Hp} {l : Addr} {xs : List V} {Q : VK} (e : H l = some (.lst xs)) (q : ∀ p H', Same H H' → H p = none → H' p = some (.lst xs) → Q (.ref p) H') : rSlL K (.ref l) (some 0) none H Q := by
  refine ⟨l, xs, rfl, .inl (.inl e), fun p f => ?_⟩
  have e1 : cutV xs (some 0) none = xs := by
    unfold cutV
    have h0 : HT.sIx xs.length 0 (some 0) = 0 := by
      have := HT.sIx_nat xs.length 0 0
      simpa using this
    rw [h0, HT.sIx_none]
    simp
  rw [e1]
  exact q _ _ (same_new f) f upd_same
theorem r_cutNone {K : PySem.W.Frag} {H : Hp} {l : Addr} {xs : List V} {Q : VK} (e : H l = some (.lst xs)) (q : ∀ p H', Same H H' → H p = none → H' p = some (.lst []) → Q (.ref p) H') : rSlL K (.ref l) none (some 0) H Q := by
  refine ⟨l, xs, rfl, .inl (.inl e), fun p f => ?_⟩
  have e1 : cutV xs none (some 0) = [] := by
    unfold cutV
    have h0 : HT.sIx xs.length xs.length (some 0) = 0 := by
      have := HT.sIx_nat xs.length xs.length 0
      simpa using this
    rw [h0, HT.sIx_none]
    simp
  rw [e1]
  exact q _ _ (same_new f) f upd_same
theorem cal_need_kinds (T : Tx w K mg A) : CalK P w K mg base 2 "need_kinds" 1 ["kinds"] (spNeedKinds K A) := by
  refine calKOf T.f_need_kinds sc_need_kinds (fun _ _ _ _ _ _ us ws h1 h2 => match us, ws, h1, h2 with | [_], [_], _, _ => rfl) Sp2.len fun f cdv Ar outer s H vs Q E hr h => ?_
  obtain ⟨_, _, rfl, wa, W, l, ks, rfl, rfl, hw, hl, hk, hlen, h1000, q⟩ := h
  refine ⟨_, (pss_cons (ps_expr (pe_c (cal_need T) hr (by decide) rfl (pa_cons (pv 0) (pa_cons (pe_callB call_len_seq rfl T.n_len PySem.boot_len (pa_cons (pv 1) pa_nil)) pa_nil))))
    (pss_one (ps_for PassesOwn.never rfl (pi_zip rfl T.n_zip (pa_cons (pe_slice sl_list (pe_fld (pv 0) rfl) (po_some (pe_op op_sub (pe_callB call_len_seq rfl T.n_len PySem.boot_len (pa_cons (pe_fld (pv 0) rfl) pa_nil)) (pe_callB call_len_seq rfl T.n_len PySem.boot_len (pa_cons (pv 1) pa_nil)))) po_none) (pa_cons (pv 1) pa_nil))) (pg_tup rfl (pgs_cons (pg_name (i := 2) sc_need_kinds.nd rfl (.inl rfl)) (pgs_cons (pg_name (i := 3) sc_need_kinds.nd rfl (.inl rfl)) pgs_nil)))
    (pss_one (ps_if (PW.pt (pw_and (pt_cmpR op_ne (pv 3) pe_str (nomark _)) (pw_and1 (pt_cmpR op_ne (pe_ix ix_tup (pv 2) pe_int (fun _ _ => rfl)) (pv 3) (nomark _)))))
    pss_never
    pss_nil))))), ?_⟩
  obtain ⟨dx, r, sc, shv, sv, ms, ew⟩ := hw.w
  obtain ⟨xo, eo, po⟩ := hw.o
  have lo := pLen po
  walk_at "go"
  refine ⟨_, _, _, _, _, _, rfl, rfl, ew, eo, by omega, ?_⟩
  walk_at "go"

  have e0 : ((xo.length : Int) - (ks.length : Int)) = 0 := by omega
  rw [e0]
  refine r_cutAll eo fun p H1 s1 f1 e1 => ?_
  walk_at "go"
  refine ⟨_, _, _, _, rfl, seqL e1, seqL (s1 _ _ hl), ?_⟩
  refine for_it (walk_zip (xs := xo) (ys := ks) (n := ks.length) (by omega)) (fun i σ H' => ∃ s2 s3, σ = [some (.ref wa.w), some (.ref l), s2, s3] ∧ Same H1 H') ⟨_, _, rfl, Same.refl _⟩ (fun i σ H' _ ⟨_, _, _, sh⟩ => ⟨sh.seq (seqL e1), sh.seq (seqL (s1 _ _ hl))⟩) ?_ ?_
  · rintro i x σ H2 H3 hi ⟨s2, s3, rfl, sh⟩ ⟨t, x, y, rfl, ft, rfl, hx, hy⟩
    generalize g2 : upd _ _ _ = H3
    have ⟨sh2, e2⟩ := nwT g2 ft
    refine r_gt (e2 K) rfl ?_
    have ey : y = .str "number" := hk y (List.mem_of_getElem? hy)
    subst ey
    have io : i < W.ops.length := by omega
    obtain ⟨a, u, rfl, ha, hu⟩ := pAt po hx (List.getElem?_eq_getElem io)
    walk_at "go"
    refine ndifT (by decide +kernel) ?_
    walk_at "go"
    refine r_ixT (sqS ha (s1.trans (sh.trans sh2))) at0 ?_
    walk_at "go"
    refine ndifF rfl ?_
    walk_at "go"
    exact sh.trans sh2
  · rintro σ H2 ⟨s2, s3, rfl, sh⟩
    walk_at "go"
    exact q _ (s1.trans sh)
abbrev spTaken (K : PySem.W.Frag) (A : Ad) : Sp := spTakenIn K A fun wa W _ _ _ H Q => ∀ p xs o' H', Stp K H H' wa.own ({ wa with o := o' } : Wa).own → WAt K A H' { wa with o := o' } { W with ops := [] } → H p = none → H' p = some (.lst xs) → Paired (Nm K H') xs W.ops → Q (.ref p) H'
theorem sc_taken : FnScope ["world", "kinds", "start", "found", "value", "kind"] ["world", "kinds"] (defScope s_taken) := ⟨rfl, rfl, rfl, by decide +kernel, rfl, by decide +kernel, by decide +kernel⟩
theorem cal_taken (T : Tx w K mg A) : CalK P w K mg base 3 "taken" 1 ["kinds"] (spTaken K A) := by
  refine calKOf T.f_taken sc_taken (fun _ _ _ _ _ _ us ws h1 h2 => match us, ws, h1, h2 with | [_], [_], _, _ => rfl) Sp2.len fun f cdv Ar outer s H vs Q E hr h => ?_
  obtain ⟨_, _, rfl, wa, W, l, ks, rfl, rfl, hw, hl, hk, hlen, h1000, q⟩ := h
  refine ⟨_, (pss_cons (ps_expr (pe_ck (cal_need_kinds T) hr (by decide) rfl (pa_cons (pv 0) pa_nil) (pk_cons (pv 1) pk_nil)))
    (pss_cons (ps_set (i := 2) sc_taken.nd rfl (.inl rfl) (pe_op op_sub (pe_callB call_len_seq rfl T.n_len PySem.boot_len (pa_cons (pe_fld (pv 0) rfl) pa_nil)) (pe_callB call_len_seq rfl T.n_len PySem.boot_len (pa_cons (pv 1) pa_nil))))
    (pss_cons (ps_setLc (i := 3) (own := [("value", 4), ("kind", 5)]) (g := (gTup K 2 (gCons (gName 4) (gCons (gName 5) gNil)))) (tt := tYes) rfl sc_taken.nd rfl rfl (sw_true rfl rfl rfl (by decide +kernel)) (pi_zip rfl T.n_zip (pa_cons (pe_slice sl_list (pe_fld (pv 0) rfl) (po_some (pv 2)) po_none) (pa_cons (pv 1) pa_nil))) (blkOk_by (N := ["world", "kinds", "start", "found", "value", "kind"]) (sc := defScope s_taken) (by decide +kernel)) (fun _ _ _ _ _ => (pg_tup rfl (pgs_cons (pg_name (i := 4) sc_taken.nd rfl (.inl rfl)) (pgs_cons (pg_name (i := 5) sc_taken.nd rfl (.inl rfl)) pgs_nil)))) (fun _ _ _ _ _ => pts_nil) (fun _ _ _ _ _ => (pe_ifExp (pt_cmpR op_ne (pv 5) pe_str (nomark _)) (pe_ix (r := rIxT K) ix_tup (pv 4) pe_int (fun _ _ => rfl)) (pv 4))))
    (pss_cons (ps_fld (pv 0) (pe_slice sl_list (pe_fld (pv 0) rfl) po_none (po_some (pv 2))) rfl)
    (pss_one (ps_ret (pv 3))))))), ?_⟩
  obtain ⟨dx, r, sc, shv, sv, ms, ew⟩ := hw.w
  obtain ⟨xo, eo, po⟩ := hw.o
  have lo := pLen po
  walk_at "go"
  refine ⟨wa, W, l, ks, rfl, rfl, hw, hl, hk, hlen, h1000, fun H0 s0 => ?_⟩
  have ew0 := s0 _ _ ew
  have eo0 := s0 _ _ eo
  have hl0 := s0 _ _ hl
  walk_at "go"
  have e0 : ((xo.length : Int) - (ks.length : Int)) = 0 := by omega
  rw [e0]
  refine r_cutAll eo0 fun p H1 s1 f1 e1 => ?_
  walk_at "go"
  refine ⟨_, _, _, _, rfl, seqL e1, seqL (s1 _ _ hl0), ?_⟩
  intro D fD
  refine lc_all (K := K) (walk_zip (xs := xo) (ys := ks) (n := ks.length) (by omega)) fD (by have := sz1000; omega) (fun i v H' => ∀ n, W.ops[i]? = some n → Nm K H' v n) (fun i v H H' _ tk h n e => (h n e).tk tk) (fun H' sh => ⟨sh.seq (seqL e1), sh.seq (seqL (s1 _ _ hl0))⟩) ?_ ?_
  · rintro i x H2 H3 N M hi sh ⟨t, x, y, rfl, ft, rfl, hx, hy⟩ hN
    generalize g2 : upd _ _ _ = H3
    have ⟨sh2, e2⟩ := nwT g2 ft
    refine r_gt (e2 K) rfl ?_
    have ey : y = .str "number" := hk y (List.mem_of_getElem? hy)
    subst ey
    have io : i < W.ops.length := by omega
    obtain ⟨a, u, rfl, ha, hu⟩ := pAt po hx (List.getElem?_eq_getElem io)
    walk_at "go"
    refine ndifT (by decide +kernel) ?_
    walk_at "go"
    refine r_ixT (sqS ha (s0.trans (s1.trans (sh.trans sh2)))) at1 ?_
    exact hN _ _ sh2 fun n e => by
      rw [List.getElem?_eq_getElem io] at e
      cases e
      exact hu.same (s0.trans (s1.trans (sh.trans sh2)))
  · intro H2 acc sh ea la ra
    have s2 := s0.trans (s1.trans sh)
    have ew2 := s2 _ _ ew
    have eo2 := s2 _ _ eo
    walk_at "go"
    refine r_cutNone eo2 fun p3 H3' s3 f3 e3 => ?_
    have ew3 := s3 _ _ ew2
    walk_at "go"
    refine r_sf (g_World_operands T) ew3 ?_
    generalize g4 : upd _ _ _ = H4
    have s13 := s2.trans s3
    obtain ⟨w4, t4⟩ := set_ops (xs := []) (ns := []) hw s13 (s2.free f3) e3 .nil ew g4
    walk_at "go"
    have nD : D ≠ wa.w := fun z => by
      rw [← z] at ew
      have := s1 _ _ (s0 _ _ ew)
      rw [fD] at this
      cases this
    refine q D acc p3 H4 t4 w4 ((s0.trans s1).free fD) ?_ ?_
    · rw [← g4, upd_ne nD]
      exact s3 _ _ ea
    · have tk4 : Tk K H3' H4 := tk_at (Same.refl _) ew3 (fun _ z => nomatch z) (fun _ _ z => nomatch z) g4
      exact pOf (by omega) fun j x y hx hy => (ra j x hx y hy).tk ((Same.tk s3).trans tk4)
theorem sc_whole_of : FnScope ["one"] ["one"] (defScope s_whole_of) := ⟨rfl, rfl, rfl, by decide +kernel, rfl, by decide +kernel, by decide +kernel⟩
abbrev spWhole (K : PySem.W.Frag) : Sp := Sp1 fun a H Q => ∃ i : Int, Nm K H a (i, 1) ∧ Q (.int i) H
theorem cal_whole_of (T : Tx w K mg A) : Cal P w K mg base 1 "whole_of" (spWhole K) [] := by
  refine calOf T.f_whole_of sc_whole_of (fun _ _ _ _ _ _ us hl => match us, hl with | [_], _ => rfl) Sp1.len fun f cdv Ar outer s H vs Q E hr h => ?_
  obtain ⟨_, rfl, i, ⟨a, rfl, ha⟩, q⟩ := h
  refine ⟨_, (pss_cons (ps_if (pt_cmpR op_ne (pe_ix ix_tup (pv 0) pe_int (fun _ _ => rfl)) pe_int (nomark _))
    pss_never
    pss_nil)
    (pss_one (ps_ret (pe_ix ix_tup (pv 0) pe_int (fun _ _ => rfl))))), ?_⟩
  walk_at "go"
  refine ndifF rfl ?_
  walk_at "go"
  exact q
end
section
local macro_rules | `(tactic| walk_at "fld") => `(tactic| (refine fkT (w := ?w) (K := ?K) (mg := ?mg) (A := ?A) ?t ?e ?h; (case t => assumption); (case e => exact rfl); (case h => first | with_reducible exact g_Look_matrix (by assumption) | with_reducible exact g_Look_path (by assumption) | with_reducible exact g_Look_ink (by assumption) | with_reducible exact g_Look_width (by assumption) | with_reducible exact g_Look_clips (by assumption) | with_reducible exact g_Look_font (by assumption) | with_reducible exact g_World_operands (by assumption) | with_reducible exact g_World_rooms (by assumption) | with_reducible exact g_World_scopes (by assumption) | with_reducible exact g_World_look (by assumption) | with_reducible exact g_World_kept (by assumption) | with_reducible exact g_World_sheets (by assumption) | with_reducible exact g_World_inkings (by assumption) | with_reducible exact g_World_saves (by assumption) | with_reducible exact g_World_many_saves (by assumption) | with_reducible exact g_Items_body (by assumption) | with_reducible exact g_Items_at (by assumption) | with_reducible exact g_Reader_text (by assumption) | with_reducible exact g_Reader_at (by assumption) | with_reducible exact g_Reader_row (by assumption) | with_reducible exact g_Reader_column (by assumption) | with_reducible exact g_Reader_deep (by assumption) | with_reducible exact g_Machine_wide (by assumption) | with_reducible exact g_Machine_high (by assumption) | with_reducible exact g_Machine_most (by assumption) | with_reducible exact g_Machine_world (by assumption) | with_reducible exact g_Machine_frames (by assumption) | with_reducible exact g_Machine_left (by assumption) | with_reducible exact g_Machine_told (by assumption) | with_reducible exact g_Machine_is_running (by assumption) | with_reducible exact g_Machine_ahead (by assumption) | with_reducible exact g_Machine_past (by assumption) | with_reducible exact g_Machine_later (by assumption))))
/-- as many steps as go by themselves -/
local macro_rules | `(tactic| walk_at "g1") => `(tactic| (first
  | with_reducible refine r_seq ?_ | with_reducible refine r_set ?_ | with_reducible refine r_asg ?_ | with_reducible refine r_sl ?_ | with_reducible refine r_np ?_ | with_reducible refine r_pt ?_ | with_reducible refine r_gn ?_ | with_reducible refine r_gc ?_ | with_reducible refine r_g0 ?_ | ((with_reducible refine r_gt (xs := ?xs) ?h ?g ?_); (case h => assumption); (case g => exact rfl)) | with_reducible refine r_ret ?_ | with_reducible refine r_if ?_ | with_reducible refine r_test ?_ | with_reducible refine r_B ?_ | with_reducible refine r_and ?_ | with_reducible refine r_or ?_ | with_reducible refine r_not ?_
  | with_reducible refine r_andV ?_ | with_reducible refine r_orV ?_ | with_reducible refine r_notV ?_ | with_reducible refine r_ifx ?_ | with_reducible refine r_op ?_ | with_reducible refine r_un ?_ | with_reducible refine r_U ?_ | with_reducible refine r_c ?_ | with_reducible refine r_I0 ?_ | with_reducible refine r_drop ?_ | with_reducible refine r_next ?_
  | ((with_reducible refine r_var (v := ?v) ?h ?_); (case h => exact rfl)) | with_reducible refine r_bl ?_ | with_reducible refine r_nil ?_ | with_reducible refine r_cons ?_ | with_reducible refine r_cb ?_ | with_reducible refine r_call ?_ | ((with_reducible refine r_gl (xs := ?xs) ?h ?g ?_); (case h => assumption); (case g => exact rfl)) | with_reducible refine r_sm1 ?_ | with_reducible refine r_sm2 ?_ | with_reducible refine r_sm3 ?_ | with_reducible refine r_ch ?_ | with_reducible refine r_bm ?_ | with_reducible refine r_bm0 ?_ | ((with_reducible refine r_ty (xs := ?xs) ?e ?_); (case e => assumption)) | with_reducible refine r_mkU ?_ | with_reducible refine r_mt0 ?_ | with_reducible refine r_yes ?_ | with_reducible refine iteT ?_ | with_reducible refine iteF ?_ | with_reducible refine r_spk ?_ | with_reducible refine r_sp1 ?_ | with_reducible refine r_sp2 ?_ | with_reducible refine r_sp3 ?_ | with_reducible refine r_sp4 ?_ | with_reducible refine r_sp5 ?_
  | with_reducible refine r_tup ?_ | with_reducible refine r_lst ?_ | with_reducible refine r_par ?_ | with_reducible refine r_par2 ?_ 
  | ((with_reducible refine r_eq ?h ?_); (case h => exact rfl)) | ((with_reducible refine r_ne ?h ?_); (case h => exact rfl))
  | ((with_reducible refine r_ixT (xs := ?xs) (v := ?v) ?h ?g ?_); (case h => assumption); (case g => first | exact at0 | exact at1))
  | ((with_reducible refine r_fl (i := ?i) (nm := ?nm) (C := ?C) (dx := ?dx) (vs := ?vs) (v := ?v) ?ok ?e ?hv ?_); (case e => assumption); (case ok => walk_at "fld"); (case hv => rfl)) | with_reducible refine r_for ?_ | with_reducible refine r_il ?_ | with_reducible refine r_it ?_ | with_reducible refine r_iz ?_ | with_reducible refine r_ir1 ?_ | with_reducible refine r_ir2 ?_ | with_reducible refine r_lc ?_ | with_reducible refine r_sFld ?_ | with_reducible refine r_ck ?_ | with_reducible refine r_fld ?_ | with_reducible refine ⟨_, rfl, ?_⟩ | with_reducible refine ⟨_, _, rfl, .inr (by with_unfolding_all assumption), ?_⟩ | with_reducible refine ⟨_, _, rfl, .inl (seqL (by assumption)), ?_⟩ | with_reducible refine ⟨_, _, rfl, rfl, ?_⟩ | with_reducible refine ⟨_, _, rfl, ?_⟩ | with_reducible refine ⟨rfl, ?_⟩ | with_reducible refine r_sz ?_))
local macro_rules | `(tactic| walk_at "go") => `(tactic| (repeat walk_at "g1"))
variable {P : Program} {w : World} {K : PySem.W.Frag} {mg : Str → Option Value} {A : Ad} {base : Heap}
/-! Look: __init__, twin; list != []. -/
theorem op_neL {X : Cx} (hu : X.A.units < cLine) : OpR X (compareOp .NotEq) (fun x y H Q => ∃ a b xs, x = .ref a ∧ y = .ref b ∧ H a = some (.lst xs) ∧ H b = some (.lst []) ∧ Q (.bl (!decide (xs = []))) H) := by
  intro pins s σ H x y v u Q I rx ry h
  obtain ⟨a, b, xs, rfl, rfl, ha, hb, q⟩ := h
  cases rx
  cases ry
  obtain ⟨its, rv, pl, _⟩ := I.list (seqL ha)
  obtain ⟨its2, rv2, pl2, _⟩ := I.list (seqL hb)
  cases rv2
  have fin : ∀ k, k = (!decide (xs = [])) → EP X pins σ Q (.bool k) s := fun k e => by
    subst e
    exact ⟨.bl _, H, I, rfl, q⟩
  cases rv with
  | nil => exact SeqAt.RcNeAt.lists (e := fun _ => true) pl.isList pl2.isList rfl hu (fun j h1 => by simp at h1) _ _ _ _ (fin _ (by simp))
  | cons _ _ => exact SeqAt.RcNeAt.lists_lengths pl.isList pl2.isList (by simp) hu _ _ _ _ (fin _ (by simp))
theorem nwM {H H2 : Hp} {x dx C : Addr} (g : upd (upd H dx (.own x)) x (.ins C dx []) = H2) (fx : H x = none) (fd : H dx = none) : Same H H2 ∧ H2 x = some (.ins C dx []) := by
  subst g
  refine ⟨fun b o e => ?_, upd_same⟩
  rw [upd_ne (ne_of_none e fx), upd_ne (ne_of_none e fd)]
  exact e
/-- the method of an instance whose fields are nm's -/
theorem r_mtI {H : Hp} {p C dx : Addr} {m : Str} {nm : List Str} {vs : List V} {R : Prop} (e : H p = some (.ins C dx (nm.zip vs))) (hm : m ∉ nm) (q : R) : ∃ a dx fs, V.ref p = .ref a ∧ H a = some (.ins C dx fs) ∧ fs.lookup m = none ∧ R := ⟨p, dx, _, rfl, e, lkn hm, q⟩
/-- all but the object at p stay -/
def Bu (p : Addr) (H H' : Hp) : Prop := ∀ b o, b ≠ p → H b = some o → H' b = some o
theorem Bu.refl {p : Addr} (H : Hp) : Bu p H H := fun _ _ _ h => h
theorem Bu.trans {p : Addr} {H H1 H2 : Hp} (a : Bu p H H1) (b : Bu p H1 H2) : Bu p H H2 := fun c o n h => b c o n (a c o n h)
theorem Bu.same {p : Addr} {H H' : Hp} (h : Same H H') : Bu p H H' := fun c o _ e => h c o e
theorem Bu.upd {p : Addr} {H H1 : Hp} {o : HO} (g : L2.upd H p o = H1) : Bu p H H1 := fun b x n e => by
  rw [← g, upd_ne n]
  exact e
/-- a new object's stores leave all others -/
theorem Bu.new {p : Addr} {H0 H H' : Hp} (s : Same H0 H) (f : H0 p = none) (b : Bu p H H') : Same H0 H' := fun c o e => b c o (ne_of_none e f) (s _ _ e)
theorem Bu.tk {K : PySem.W.Frag} {p : Addr} {H H' : Hp} {C dx : Addr} {fs : List (Str × V)} (b : Bu p H H') (e : H p = some (.ins C dx fs)) : Tk K H H' := by
  rintro a xs ((h | ⟨o, h⟩) | h)
  · have ne : a ≠ p := fun z => by rw [z, e] at h; cases h
    exact .inl (.inl (b _ _ ne h))
  · have ne : a ≠ p := fun z => by rw [z, e] at h; cases h
    exact .inl (.inr ⟨o, b _ _ ne h⟩)
  · exact .inr h
theorem Tx.isSame (T : Tx w K mg A) : ∃ a, mg "SAME" = some (.ref a) ∧ IsSame K a := by
  obtain ⟨a, o, z, h1, h2⟩ := T.same
  exact ⟨a, h1, o, z, h2⟩
abbrev spLookInit (K : PySem.W.Frag) (A : Ad) : Sp := Sp1 fun a H Q => ∃ x dx, a = .ref x ∧ H x = some (.ins A.Look dx []) ∧ ∀ H', Bu x H H' → LookAt K A H' x ⟨[], 1, []⟩ → Q .non H'
theorem sc_Look_init : FnScope ["self"] ["self"] (defScope s_Look_init) := ⟨rfl, rfl, rfl, by decide +kernel, rfl, by decide +kernel, by decide +kernel⟩
theorem nilT {K : PySem.W.Frag} {H : Hp} {p : Addr} {α : Type} {R : Hp → V → α → Prop} (e : SqT K H p []) : TupOf R K H (.ref p) [] := ⟨p, [], rfl, e, .nil⟩
theorem mak_Look (T : Tx w K mg A) : Mak P w K mg base 1 "Look" A.Look (spLookInit K A) [] := by
  refine makOf T.gc_Look T.i_Look sc_Look_init (fun _ _ _ _ _ _ us hl => match us, hl with | [_], _ => rfl) Sp1.len fun f cdv Ar outer s H vs Q E hr h => ?_
  obtain ⟨_, rfl, x, dx, rfl, e, q⟩ := h
  obtain ⟨m, gm, hm⟩ := T.isSame
  refine ⟨_, (pss_cons (ps_fld (pv 0) (pe_gc (v := .ref m) rfl ⟨_, gm, rfl⟩) rfl)
    (pss_cons (ps_fld (pv 0) (pe_tup pa_nil) rfl)
    (pss_cons (ps_fld (pv 0) pe_int rfl)
    (pss_cons (ps_fld (pv 0) (pe_tup (pa_cons pe_int (pa_cons pe_int pa_nil))) rfl)
    (pss_cons (ps_fld (pv 0) (pe_tup pa_nil) rfl)
    (pss_one (ps_fld (pv 0) pe_non rfl))))))), ?_⟩
  walk_at "go"
  refine r_sn (nm := lNm) (vs := []) e (g_Look_matrix T) ?_
  generalize g1 : upd _ _ _ = H1
  have b1 := Bu.upd g1
  have e1 := (nwI g1).1
  walk_at "go"
  intro p2 f2
  generalize g2 : upd _ _ _ = H2
  have ⟨s2, tp⟩ := nwT g2 f2
  have b2 := b1.trans (Bu.same s2)
  have e2 := s2 _ _ e1
  walk_at "go"
  refine r_sn (nm := lNm) e2 (g_Look_path T) ?_
  generalize g3 : upd _ _ _ = H3
  have b3 := b2.trans (Bu.upd g3)
  have e3 := (nwI g3).1
  walk_at "go"
  refine r_sn (nm := lNm) e3 (g_Look_ink T) ?_
  generalize g4 : upd _ _ _ = H4
  have b4 := b3.trans (Bu.upd g4)
  have e4 := (nwI g4).1
  walk_at "go"
  intro p5 f5
  generalize g5 : upd _ _ _ = H5
  have ⟨s5, tw⟩ := nwT g5 f5
  have b5 := b4.trans (Bu.same s5)
  have e5 := s5 _ _ e4
  walk_at "go"
  refine r_sn (nm := lNm) e5 (g_Look_width T) ?_
  generalize g6 : upd _ _ _ = H6
  have b6 := b5.trans (Bu.upd g6)
  have e6 := (nwI g6).1
  walk_at "go"
  intro p7 f7
  generalize g7 : upd _ _ _ = H7
  have ⟨s7, tc⟩ := nwT g7 f7
  have b7 := b6.trans (Bu.same s7)
  have e7 := s7 _ _ e6
  walk_at "go"
  refine r_sn (nm := lNm) e7 (g_Look_clips T) ?_
  generalize g8 : upd _ _ _ = H8
  have b8 := b7.trans (Bu.upd g8)
  have e8 := (nwI g8).1
  walk_at "go"
  refine r_sn (nm := lNm) e8 (g_Look_font T) ?_
  generalize g9 : upd _ _ _ = H9
  have b9 := b8.trans (Bu.upd g9)
  have e9 := (nwI g9).1
  walk_at "go"
  have bp : Bu x H2 H9 := (Bu.upd g3).trans ((Bu.upd g4).trans ((Bu.same s5).trans ((Bu.upd g6).trans ((Bu.same s7).trans ((Bu.upd g8).trans (Bu.upd g9))))))
  have bc : Bu x H7 H9 := (Bu.upd g8).trans (Bu.upd g9)
  exact q H9 b9 ⟨dx, m, _, _, _, _, e9, hm, (nilT (tp K)).tk (bp.tk e2) fun _ _ z => z.tk (bp.tk e2), (nilT (tc K)).tk (bc.tk e7) fun _ _ z => z.tk (bc.tk e7)⟩
abbrev spLookTwin (K : PySem.W.Frag) (A : Ad) : Sp := Sp1 fun a H Q => ∃ l L, a = .ref l ∧ LookAt K A H l L ∧ ∀ q H', Same H H' → H q = none → LookAt K A H' q L → Q (.ref q) H'
theorem sc_Look_twin : FnScope ["self", "found"] ["self"] (defScope s_Look_twin) := ⟨rfl, rfl, rfl, by decide +kernel, rfl, by decide +kernel, by decide +kernel⟩
theorem met_Look_twin (T : Tx w K mg A) : Met P w K mg base 3 A.Look "twin" (spLookTwin K A) [] := by
  refine metOf T.c_Look T.m_Look_twin sc_Look_twin (fun _ _ _ _ _ _ us hl => match us, hl with | [_], _ => rfl) Sp1.len fun f cdv Ar outer s H vs Q E hr h => ?_
  obtain ⟨_, rfl, l, L, rfl, ⟨ldx, m, vp, vw, vc, vf, el, hm, hp, hc⟩, q⟩ := h
  refine ⟨_, (pss_cons (ps_set (i := 1) sc_Look_twin.nd rfl (.inl rfl) (pe_mk0 (mak_Look T) hr (by decide) rfl))
    (pss_cons (ps_asg (pe_tup (pa_cons (pe_fld (pv 0) rfl) (pa_cons (pe_fld (pv 0) rfl) (pa_cons (pe_fld (pv 0) rfl) pa_nil)))) (pg_tup rfl (pgs_cons (pg_fld (pv 1)) (pgs_cons (pg_fld (pv 1)) (pgs_cons (pg_fld (pv 1)) pgs_nil)))))
    (pss_cons (ps_asg (pe_tup (pa_cons (pe_fld (pv 0) rfl) (pa_cons (pe_fld (pv 0) rfl) (pa_cons (pe_fld (pv 0) rfl) pa_nil)))) (pg_tup rfl (pgs_cons (pg_fld (pv 1)) (pgs_cons (pg_fld (pv 1)) (pgs_cons (pg_fld (pv 1)) pgs_nil)))))
    (pss_one (ps_ret (pv 1)))))), ?_⟩
  walk_at "go"
  intro x dx fx fd ne
  generalize g0 : upd _ _ _ = H0
  have ⟨s0, e0⟩ := nwM g0 fx fd
  refine ⟨_, rfl, x, dx, rfl, e0, fun H1 b1 hl1 => ⟨rfl, ?_⟩⟩
  have s1 : Same H H1 := Bu.new s0 fx b1
  obtain ⟨dx1, m1, p1, w1, c1, f1, e1, _⟩ := hl1
  have el1 := s1 _ _ el
  have nl : l ≠ x := ne_of_none el fx
  walk_at "go"
  intro t2 k2
  generalize g2 : upd _ _ _ = H2
  have ⟨s2, tt2⟩ := nwT g2 k2
  have e2 := s2 _ _ e1
  have el2 := s2 _ _ el1
  have tq := tt2 K
  walk_at "go"
  refine r_sg (g_Look_matrix T) e2 ?_
  generalize g3 : upd _ _ _ = H3
  have b3 := Bu.upd g3
  have e3 := (nwI g3).1
  have el3 := b3 _ _ nl el2
  walk_at "go"
  refine r_sg (g_Look_path T) e3 ?_
  generalize g4 : upd _ _ _ = H4
  have b4 := Bu.upd g4
  have e4 := (nwI g4).1
  have el4 := b4 _ _ nl el3
  walk_at "go"
  refine r_sg (g_Look_ink T) e4 ?_
  generalize g5 : upd _ _ _ = H5
  have b5 := Bu.upd g5
  have e5 := (nwI g5).1
  have el5 := b5 _ _ nl el4
  walk_at "go"
  intro t6 k6
  generalize g6 : upd _ _ _ = H6
  have ⟨s6, tt6⟩ := nwT g6 k6
  have e6 := s6 _ _ e5
  have el6 := s6 _ _ el5
  have tq6 := tt6 K
  walk_at "go"
  refine r_sg (g_Look_width T) e6 ?_
  generalize g7 : upd _ _ _ = H7
  have b7 := Bu.upd g7
  have e7 := (nwI g7).1
  have el7 := b7 _ _ nl el6
  walk_at "go"
  refine r_sg (g_Look_clips T) e7 ?_
  generalize g8 : upd _ _ _ = H8
  have b8 := Bu.upd g8
  have e8 := (nwI g8).1
  have el8 := b8 _ _ nl el7
  walk_at "go"
  refine r_sg (g_Look_font T) e8 ?_
  generalize g9 : upd _ _ _ = H9
  have b9 := Bu.upd g9
  have e9 := (nwI g9).1
  have el9 := b9 _ _ nl el8
  walk_at "go"
  have bx : Bu x H1 H9 := (Bu.same s2).trans (b3.trans (b4.trans (b5.trans ((Bu.same s6).trans (b7.trans (b8.trans b9))))))
  have sh : Same H H9 := Bu.new s1 fx bx
  exact q x H9 sh fx ⟨dx1, m, vp, vw, vc, vf, e9, hm, hp.tk (Same.tk sh), hc.tk (Same.tk sh)⟩
end
section
local macro_rules | `(tactic| walk_at "fld") => `(tactic| (refine fkT (w := ?w) (K := ?K) (mg := ?mg) (A := ?A) ?t ?e ?h; (case t => assumption); (case e => exact rfl); (case h => first | with_reducible exact g_Look_matrix (by assumption) | with_reducible exact g_Look_path (by assumption) | with_reducible exact g_Look_ink (by assumption) | with_reducible exact g_Look_width (by assumption) | with_reducible exact g_Look_clips (by assumption) | with_reducible exact g_Look_font (by assumption) | with_reducible exact g_World_operands (by assumption) | with_reducible exact g_World_rooms (by assumption) | with_reducible exact g_World_scopes (by assumption) | with_reducible exact g_World_look (by assumption) | with_reducible exact g_World_kept (by assumption) | with_reducible exact g_World_sheets (by assumption) | with_reducible exact g_World_inkings (by assumption) | with_reducible exact g_World_saves (by assumption) | with_reducible exact g_World_many_saves (by assumption) | with_reducible exact g_Items_body (by assumption) | with_reducible exact g_Items_at (by assumption) | with_reducible exact g_Reader_text (by assumption) | with_reducible exact g_Reader_at (by assumption) | with_reducible exact g_Reader_row (by assumption) | with_reducible exact g_Reader_column (by assumption) | with_reducible exact g_Reader_deep (by assumption) | with_reducible exact g_Machine_wide (by assumption) | with_reducible exact g_Machine_high (by assumption) | with_reducible exact g_Machine_most (by assumption) | with_reducible exact g_Machine_world (by assumption) | with_reducible exact g_Machine_frames (by assumption) | with_reducible exact g_Machine_left (by assumption) | with_reducible exact g_Machine_told (by assumption) | with_reducible exact g_Machine_is_running (by assumption) | with_reducible exact g_Machine_ahead (by assumption) | with_reducible exact g_Machine_past (by assumption) | with_reducible exact g_Machine_later (by assumption))))
/-- as many steps as go by themselves -/
local macro_rules | `(tactic| walk_at "g1") => `(tactic| (first
  | with_reducible refine r_seq ?_ | with_reducible refine r_set ?_ | with_reducible refine r_asg ?_ | with_reducible refine r_sl ?_ | with_reducible refine r_np ?_ | with_reducible refine r_pt ?_ | with_reducible refine r_gn ?_ | with_reducible refine r_gc ?_ | with_reducible refine r_g0 ?_ | ((with_reducible refine r_gt (xs := ?xs) ?h ?g ?_); (case h => assumption); (case g => exact rfl)) | with_reducible refine r_ret ?_ | with_reducible refine r_if ?_ | with_reducible refine r_test ?_ | with_reducible refine r_B ?_ | with_reducible refine r_and ?_ | with_reducible refine r_or ?_ | with_reducible refine r_not ?_
  | with_reducible refine r_andV ?_ | with_reducible refine r_orV ?_ | with_reducible refine r_notV ?_ | with_reducible refine r_ifx ?_ | with_reducible refine r_op ?_ | with_reducible refine r_un ?_ | with_reducible refine r_U ?_ | with_reducible refine r_c ?_ | with_reducible refine r_I0 ?_ | with_reducible refine r_drop ?_ | with_reducible refine r_next ?_
  | ((with_reducible refine r_var (v := ?v) ?h ?_); (case h => exact rfl)) | with_reducible refine r_bl ?_ | with_reducible refine r_nil ?_ | with_reducible refine r_cons ?_ | with_reducible refine r_cb ?_ | with_reducible refine r_call ?_ | ((with_reducible refine r_gl (xs := ?xs) ?h ?g ?_); (case h => assumption); (case g => exact rfl)) | with_reducible refine r_sm1 ?_ | with_reducible refine r_sm2 ?_ | with_reducible refine r_sm3 ?_ | with_reducible refine r_ch ?_ | with_reducible refine r_bm ?_ | with_reducible refine r_bm0 ?_ | ((with_reducible refine r_ty (xs := ?xs) ?e ?_); (case e => assumption)) | with_reducible refine r_mkU ?_ | with_reducible refine r_mt0 ?_ | with_reducible refine r_yes ?_ | with_reducible refine iteT ?_ | with_reducible refine iteF ?_ | with_reducible refine r_spk ?_ | with_reducible refine r_sp1 ?_ | with_reducible refine r_sp2 ?_ | with_reducible refine r_sp3 ?_ | with_reducible refine r_sp4 ?_ | with_reducible refine r_sp5 ?_
  | with_reducible refine r_tup ?_ | with_reducible refine r_lst ?_ | with_reducible refine r_par ?_ | with_reducible refine r_par2 ?_ 
  | ((with_reducible refine r_eq ?h ?_); (case h => exact rfl)) | ((with_reducible refine r_ne ?h ?_); (case h => exact rfl))
  | ((with_reducible refine r_ixT (xs := ?xs) (v := ?v) ?h ?g ?_); (case h => assumption); (case g => first | exact at0 | exact at1))
  | ((with_reducible refine r_fl (i := ?i) (nm := ?nm) (C := ?C) (dx := ?dx) (vs := ?vs) (v := ?v) ?ok ?e ?hv ?_); (case e => assumption); (case ok => walk_at "fld"); (case hv => rfl)) | with_reducible refine r_for ?_ | with_reducible refine r_il ?_ | with_reducible refine r_it ?_ | with_reducible refine r_iz ?_ | with_reducible refine r_ir1 ?_ | with_reducible refine r_ir2 ?_ | with_reducible refine r_lc ?_ | with_reducible refine r_sFld ?_ | with_reducible refine r_ck ?_ | with_reducible refine r_fld ?_ | with_reducible refine ⟨_, rfl, ?_⟩ | with_reducible refine ⟨_, _, rfl, .inr (by with_unfolding_all assumption), ?_⟩ | with_reducible refine ⟨_, _, rfl, .inl (seqL (by assumption)), ?_⟩ | with_reducible refine ⟨_, _, rfl, rfl, ?_⟩ | with_reducible refine ⟨_, _, rfl, ?_⟩ | with_reducible refine ⟨rfl, ?_⟩ | with_reducible refine r_sz ?_))
local macro_rules | `(tactic| walk_at "go") => `(tactic| (repeat walk_at "g1"))
variable {P : Program} {w : World} {K : PySem.W.Frag} {mg : Str → Option Value} {A : Ad} {base : Heap}
/-! need_here, placed, the operators on the path. -/
abbrev spNeedHere (K : PySem.W.Frag) (A : Ad) : Sp := Sp1 fun a H Q => ∃ wa W p ps x, a = .ref wa.w ∧ WAt K A H wa W ∧ W.look.path = p ++ [(ps ++ [x], false)] ∧ ∀ v H', Same H H' → Q v H'
theorem sc_need_here : FnScope ["world", "found"] ["world"] (defScope s_need_here) := ⟨rfl, rfl, rfl, by decide +kernel, rfl, by decide +kernel, by decide +kernel⟩
theorem Pn.ne {K : PySem.W.Frag} {H : Hp} {v : V} {n : Pnt} (h : Pn K H v n) : ¬ v = .non := by
  obtain ⟨a, x, y, rfl, _⟩ := h
  exact fun z => by cases z
theorem cal_need_here (T : Tx w K mg A) : Cal P w K mg base 2 "need_here" (spNeedHere K A) [] := by
  refine calOf T.f_need_here sc_need_here (fun _ _ _ _ _ _ us hl => match us, hl with | [_], _ => rfl) Sp1.len fun f cdv Ar outer s H vs Q E hr h => ?_
  obtain ⟨_, rfl, wa, W, p, ps, x, rfl, hw, ep, q⟩ := h
  refine ⟨_, (pss_cons (ps_set (i := 1) sc_need_here.nd rfl (.inl rfl) (pe_c (cal_end_of T) hr (by decide) rfl (pa_cons (pe_fld (pe_fld (pv 0) rfl) rfl) pa_nil)))
    (pss_cons (ps_if (pt_cmpR op_isN (pv 1) pe_non (nomark _))
    pss_never
    pss_nil)
    (pss_one (ps_ret (pv 1))))), ?_⟩
  obtain ⟨dx, r, sc, shv, sv, ms, ew⟩ := hw.w
  obtain ⟨ldx, m, vp, vw, vc, vf, el, hm, hp, hc⟩ := hw.l
  walk_at "go"
  refine ⟨p, ps, x, by rw [← ep]; exact hp, fun v H1 s1 hv => ?_⟩
  walk_at "go"
  refine difF hv.ne ?_
  walk_at "go"
  exact q _ _ s1
abbrev spPlaced (K : PySem.W.Frag) (A : Ad) : Sp := Sp3 fun a b c H Q => ∃ wa W x y, a = .ref wa.w ∧ WAt K A H wa W ∧ Nm K H b x ∧ Nm K H c y ∧ Lw x ∧ Lw y ∧ ∀ v H', Same H H' → Pn K H' v (x, y) → Q v H'
theorem sc_placed : FnScope ["world", "x", "y"] ["world", "x", "y"] (defScope s_placed) := ⟨rfl, rfl, rfl, by decide +kernel, rfl, by decide +kernel, by decide +kernel⟩
theorem cal_placed (T : Tx w K mg A) : Cal P w K mg base 6 "placed" (spPlaced K A) [] := by
  refine calOf T.f_placed sc_placed (fun _ _ _ _ _ _ us hl => match us, hl with | [_, _, _], _ => rfl) Sp3.len fun f cdv Ar outer s H vs Q E hr h => ?_
  obtain ⟨_, b, c, rfl, wa, W, x, y, rfl, hw, hx, hy, lx, ly, q⟩ := h
  refine ⟨_, (pss_one (ps_ret (pe_c (cal_need_room T) hr (by decide) rfl (pa_cons (pe_c (cal_moved T) hr (by decide) rfl (pa_cons (pe_fld (pe_fld (pv 0) rfl) rfl) (pa_cons (pv 1) (pa_cons (pv 2) pa_nil)))) pa_nil)))), ?_⟩
  obtain ⟨dx, r, sc, shv, sv, ms, ew⟩ := hw.w
  obtain ⟨ldx, m, vp, vw, vc, vf, el, hm, hp, hc⟩ := hw.l
  walk_at "go"
  refine ⟨m, x, y, rfl, hm, hx, hy, lx, ly, fun v H1 s1 hv => ?_⟩
  walk_at "go"
  exact ⟨hv.ne, q _ _ s1 hv⟩
/-- an operator: machine.world from W to W' -/
abbrev spOp (K : PySem.W.Frag) (A : Ad) (F : Ws → Ws → Prop) : Sp := Sp1 fun m H Q => ∃ M mdx v0 v1 v2 vr wa W W', m = .ref M ∧ H M = some (.ins A.Machine mdx (mNm.zip (v0 :: v1 :: v2 :: .ref wa.w :: vr))) ∧ M ∉ wa.own ∧ WAt K A H wa W ∧ F W W' ∧
  ∀ wa' H', wa'.w = wa.w → Stp K H H' wa.own wa'.own → WAt K A H' wa' W' → Q .non H'
def Ws.setPath (W : Ws) (p : Path) : Ws := { W with look := { W.look with path := p } }
/-- the look's path is stored anew -/
theorem path_set {H H1 H' : Hp} {a : Wa} {W : Ws} {dx m : Addr} {vp vw vc vf v : V} {p : Path} (h : WAt K A H a W) (s : Same H H1) (hm : IsSame K m) (hv : PathAt K H1 v p) (hc : ClipsAt K H vc W.look.clips)
    (g : upd H1 a.l (.ins A.Look dx (lNm.zip ([V.ref m, vp, .int W.look.ink, vw, vc, vf].set 1 v))) = H') : WAt K A H' a (W.setPath p) ∧ Stp K H H' a.own a.own := by
  refine set_look h s g fun tk => ⟨dx, m, v, vw, vc, vf, by rw [← g]; exact upd_same, hm, hv.tk tk, (hc.tk (Same.tk s)).tk tk⟩
def rNewpath (W W' : Ws) : Prop := W' = W.setPath []
theorem sc_do_newpath : FnScope ["machine"] ["machine"] (defScope s_do_newpath) := ⟨rfl, rfl, rfl, by decide +kernel, rfl, by decide +kernel, by decide +kernel⟩
theorem cal_do_newpath (T : Tx w K mg A) : Cal P w K mg base 1 "do_newpath" (spOp K A rNewpath) [] := by
  refine calOf T.f_do_newpath sc_do_newpath (fun _ _ _ _ _ _ us hl => match us, hl with | [_], _ => rfl) Sp1.len fun f cdv Ar outer s H vs Q E hr h => ?_
  obtain ⟨_, rfl, M, mdx, v0, v1, v2, vr, wa, W, W', rfl, em, nm, hw, hF, q⟩ := h
  refine ⟨_, (pss_one (ps_fld (pe_fld (pe_fld (pv 0) rfl) rfl) (pe_tup pa_nil) rfl)), ?_⟩
  obtain ⟨dx, r, sc, shv, sv, ms, ew⟩ := hw.w
  obtain ⟨ldx, m, vp, vw, vc, vf, el, hm, hp, hc⟩ := hw.l
  walk_at "go"
  intro p1 f1
  generalize g1 : upd _ _ _ = H1
  have ⟨s1, e1⟩ := nwT g1 f1
  have em1 := s1 _ _ em
  have ew1 := s1 _ _ ew
  have el1 := s1 _ _ el
  walk_at "go"
  refine r_sf (g_Look_path T) el1 ?_
  generalize g2 : upd _ _ _ = H2
  obtain ⟨w2, t2⟩ := path_set hw s1 hm (nilT (e1 K)) hc g2
  walk_at "go"
  rw [hF] at q
  exact q _ _ rfl t2 w2
end
section
local macro_rules | `(tactic| walk_at "fld") => `(tactic| (refine fkT (w := ?w) (K := ?K) (mg := ?mg) (A := ?A) ?t ?e ?h; (case t => assumption); (case e => exact rfl); (case h => first | with_reducible exact g_Look_matrix (by assumption) | with_reducible exact g_Look_path (by assumption) | with_reducible exact g_Look_ink (by assumption) | with_reducible exact g_Look_width (by assumption) | with_reducible exact g_Look_clips (by assumption) | with_reducible exact g_Look_font (by assumption) | with_reducible exact g_World_operands (by assumption) | with_reducible exact g_World_rooms (by assumption) | with_reducible exact g_World_scopes (by assumption) | with_reducible exact g_World_look (by assumption) | with_reducible exact g_World_kept (by assumption) | with_reducible exact g_World_sheets (by assumption) | with_reducible exact g_World_inkings (by assumption) | with_reducible exact g_World_saves (by assumption) | with_reducible exact g_World_many_saves (by assumption) | with_reducible exact g_Items_body (by assumption) | with_reducible exact g_Items_at (by assumption) | with_reducible exact g_Reader_text (by assumption) | with_reducible exact g_Reader_at (by assumption) | with_reducible exact g_Reader_row (by assumption) | with_reducible exact g_Reader_column (by assumption) | with_reducible exact g_Reader_deep (by assumption) | with_reducible exact g_Machine_wide (by assumption) | with_reducible exact g_Machine_high (by assumption) | with_reducible exact g_Machine_most (by assumption) | with_reducible exact g_Machine_world (by assumption) | with_reducible exact g_Machine_frames (by assumption) | with_reducible exact g_Machine_left (by assumption) | with_reducible exact g_Machine_told (by assumption) | with_reducible exact g_Machine_is_running (by assumption) | with_reducible exact g_Machine_ahead (by assumption) | with_reducible exact g_Machine_past (by assumption) | with_reducible exact g_Machine_later (by assumption))))
/-- as many steps as go by themselves -/
local macro_rules | `(tactic| walk_at "g1") => `(tactic| (first
  | with_reducible refine r_seq ?_ | with_reducible refine r_set ?_ | with_reducible refine r_asg ?_ | with_reducible refine r_sl ?_ | with_reducible refine r_np ?_ | with_reducible refine r_pt ?_ | with_reducible refine r_gn ?_ | with_reducible refine r_gc ?_ | with_reducible refine r_g0 ?_ | ((with_reducible refine r_gt (xs := ?xs) ?h ?g ?_); (case h => assumption); (case g => exact rfl)) | with_reducible refine r_ret ?_ | with_reducible refine r_if ?_ | with_reducible refine r_test ?_ | with_reducible refine r_B ?_ | with_reducible refine r_and ?_ | with_reducible refine r_or ?_ | with_reducible refine r_not ?_
  | with_reducible refine r_andV ?_ | with_reducible refine r_orV ?_ | with_reducible refine r_notV ?_ | with_reducible refine r_ifx ?_ | with_reducible refine r_op ?_ | with_reducible refine r_un ?_ | with_reducible refine r_U ?_ | with_reducible refine r_c ?_ | with_reducible refine r_I0 ?_ | with_reducible refine r_drop ?_ | with_reducible refine r_next ?_
  | ((with_reducible refine r_var (v := ?v) ?h ?_); (case h => exact rfl)) | with_reducible refine r_bl ?_ | with_reducible refine r_nil ?_ | with_reducible refine r_cons ?_ | with_reducible refine r_cb ?_ | with_reducible refine r_call ?_ | ((with_reducible refine r_gl (xs := ?xs) ?h ?g ?_); (case h => assumption); (case g => exact rfl)) | with_reducible refine r_sm1 ?_ | with_reducible refine r_sm2 ?_ | with_reducible refine r_sm3 ?_ | with_reducible refine r_ch ?_ | with_reducible refine r_bm ?_ | with_reducible refine r_bm0 ?_ | ((with_reducible refine r_ty (xs := ?xs) ?e ?_); (case e => assumption)) | with_reducible refine r_mkU ?_ | with_reducible refine r_mt0 ?_ | with_reducible refine r_yes ?_ | with_reducible refine iteT ?_ | with_reducible refine iteF ?_ | with_reducible refine r_spk ?_ | with_reducible refine r_sp1 ?_ | with_reducible refine r_sp2 ?_ | with_reducible refine r_sp3 ?_ | with_reducible refine r_sp4 ?_ | with_reducible refine r_sp5 ?_
  | with_reducible refine r_tup ?_ | with_reducible refine r_lst ?_ | with_reducible refine r_par ?_ | with_reducible refine r_par2 ?_ 
  | ((with_reducible refine r_eq ?h ?_); (case h => exact rfl)) | ((with_reducible refine r_ne ?h ?_); (case h => exact rfl))
  | ((with_reducible refine r_ixT (xs := ?xs) (v := ?v) ?h ?g ?_); (case h => assumption); (case g => first | exact at0 | exact at1))
  | ((with_reducible refine r_fl (i := ?i) (nm := ?nm) (C := ?C) (dx := ?dx) (vs := ?vs) (v := ?v) ?ok ?e ?hv ?_); (case e => assumption); (case ok => walk_at "fld"); (case hv => rfl)) | with_reducible refine r_for ?_ | with_reducible refine r_il ?_ | with_reducible refine r_it ?_ | with_reducible refine r_iz ?_ | with_reducible refine r_ir1 ?_ | with_reducible refine r_ir2 ?_ | with_reducible refine r_lc ?_ | with_reducible refine r_sFld ?_ | with_reducible refine r_ck ?_ | with_reducible refine r_fld ?_ | with_reducible refine ⟨_, rfl, ?_⟩ | with_reducible refine ⟨_, _, rfl, .inr (by with_unfolding_all assumption), ?_⟩ | with_reducible refine ⟨_, _, rfl, .inl (seqL (by assumption)), ?_⟩ | with_reducible refine ⟨_, _, rfl, rfl, ?_⟩ | with_reducible refine ⟨_, _, rfl, ?_⟩ | with_reducible refine ⟨rfl, ?_⟩ | with_reducible refine r_sz ?_))
local macro_rules | `(tactic| walk_at "go") => `(tactic| (repeat walk_at "g1"))
variable {P : Program} {w : World} {K : PySem.W.Frag} {mg : Str → Option Value} {A : Ad} {base : Heap}
/-! moveto, lineto, closepath. -/
theorem kinds2 : Kinds [.str "number", .str "number"] := fun k h => by
  rcases List.mem_cons.mp h with h | h
  · exact h
  · exact List.mem_singleton.mp h
def rMoveto (W W' : Ws) : Prop := ∃ x y, W.ops = [x, y] ∧ Lw x ∧ Lw y ∧ Fl W.look.path ∧ W.look.path.length < 999 ∧ W' = { W with ops := [] }.setPath (W.look.path ++ [([(x, y)], false)])
theorem sc_do_moveto : FnScope ["machine", "world", "x", "y"] ["machine"] (defScope s_do_moveto) := ⟨rfl, rfl, rfl, by decide +kernel, rfl, by decide +kernel, by decide +kernel⟩
theorem cal_do_moveto (T : Tx w K mg A) : Cal P w K mg base 7 "do_moveto" (spOp K A rMoveto) [] := by
  refine calOf T.f_do_moveto sc_do_moveto (fun _ _ _ _ _ _ us hl => match us, hl with | [_], _ => rfl) Sp1.len fun f cdv Ar outer s H vs Q E hr h => ?_
  obtain ⟨_, rfl, M, mdx, v0, v1, v2, vr, wa, W, W', rfl, em, nm, hw, ⟨x, y, ho, lx, ly, fl, lp, rfl⟩, q⟩ := h
  refine ⟨_, (pss_cons (ps_set (i := 1) sc_do_moveto.nd rfl (.inl rfl) (pe_fld (pv 0) rfl))
    (pss_cons (ps_asg (pe_ck (cal_taken T) hr (by decide) rfl (pa_cons (pv 1) pa_nil) (pk_cons (pe_lst (pa_cons pe_str (pa_cons pe_str pa_nil))) pk_nil)) (pg_unl rfl (pgs_cons (pg_name (i := 2) sc_do_moveto.nd rfl (.inl rfl)) (pgs_cons (pg_name (i := 3) sc_do_moveto.nd rfl (.inl rfl)) pgs_nil))))
    (pss_one (ps_fld (pe_fld (pv 1) rfl) (pe_c (cal_begun T) hr (by decide) rfl (pa_cons (pe_fld (pe_fld (pv 1) rfl) rfl) (pa_cons (pe_c (cal_placed T) hr (by decide) rfl (pa_cons (pv 1) (pa_cons (pv 2) (pa_cons (pv 3) pa_nil)))) pa_nil))) rfl)))), ?_⟩
  walk_at "go"
  intro p1 f1
  generalize g1 : upd _ _ _ = H1
  have ⟨s1, e1⟩ := nw g1 f1
  walk_at "go"
  refine ⟨wa, W, p1, _, rfl, rfl, hw.same s1, e1, kinds2, by rw [ho]; rfl, by decide, fun p2 xs o2 H2 t2 w2 f2 e2 n2 => ?_⟩
  rw [ho] at n2
  cases n2 with | cons hx n2 => ?_
  cases n2 with | cons hy n2 => ?_
  cases n2
  have t12 : Stp K H H2 wa.own _ := (Stp.refl s1).trans t2
  have em2 := t12.but _ _ nm em
  obtain ⟨dx, r, sc, shv, sv, ms, ew⟩ := w2.w
  obtain ⟨ldx, m, vp, vw, vc, vf, el, hm, hp, hc⟩ := w2.l
  walk_at "go"
  refine ⟨{ wa with o := o2 }, _, x, y, rfl, w2, hx, hy, lx, ly, fun v3 H3 s3 hv3 => ?_⟩
  walk_at "go"
  refine ⟨W.look.path, (x, y), hp.tk (Same.tk s3), hv3, fl, lp, fun v4 H4 s4 hv4 => ?_⟩
  have s24 := s3.trans s4
  have ew4 := s24 _ _ ew
  have el4 := s24 _ _ el
  walk_at "go"
  refine r_sf (g_Look_path T) el4 ?_
  generalize g5 : upd _ _ _ = H5
  obtain ⟨w5, t5⟩ := path_set w2 s24 hm hv4 hc g5
  walk_at "go"
  exact q { wa with o := o2 } _ rfl (t12.trans t5) w5
def rLineto (W W' : Ws) : Prop := ∃ x y p ps e, W.ops = [x, y] ∧ Lw x ∧ Lw y ∧ W.look.path = p ++ [(ps ++ [e], false)] ∧ p.length < 999 ∧ ps.length < 900 ∧ W' = { W with ops := [] }.setPath (p ++ [(ps ++ [e] ++ [(x, y)], false)])
theorem sc_do_lineto : FnScope ["machine", "world", "x", "y"] ["machine"] (defScope s_do_lineto) := ⟨rfl, rfl, rfl, by decide +kernel, rfl, by decide +kernel, by decide +kernel⟩
theorem cal_do_lineto (T : Tx w K mg A) : Cal P w K mg base 7 "do_lineto" (spOp K A rLineto) [] := by
  refine calOf T.f_do_lineto sc_do_lineto (fun _ _ _ _ _ _ us hl => match us, hl with | [_], _ => rfl) Sp1.len fun f cdv Ar outer s H vs Q E hr h => ?_
  obtain ⟨_, rfl, M, mdx, v0, v1, v2, vr, wa, W, W', rfl, em, nm, hw, ⟨x, y, pp, ps, ee, ho, lx, ly, ep, lp, lps, rfl⟩, q⟩ := h
  refine ⟨_, (pss_cons (ps_set (i := 1) sc_do_lineto.nd rfl (.inl rfl) (pe_fld (pv 0) rfl))
    (pss_cons (ps_asg (pe_ck (cal_taken T) hr (by decide) rfl (pa_cons (pv 1) pa_nil) (pk_cons (pe_lst (pa_cons pe_str (pa_cons pe_str pa_nil))) pk_nil)) (pg_unl rfl (pgs_cons (pg_name (i := 2) sc_do_lineto.nd rfl (.inl rfl)) (pgs_cons (pg_name (i := 3) sc_do_lineto.nd rfl (.inl rfl)) pgs_nil))))
    (pss_cons (ps_expr (pe_c (cal_need_here T) hr (by decide) rfl (pa_cons (pv 1) pa_nil)))
    (pss_one (ps_fld (pe_fld (pv 1) rfl) (pe_c (cal_lined T) hr (by decide) rfl (pa_cons (pe_fld (pe_fld (pv 1) rfl) rfl) (pa_cons (pe_c (cal_placed T) hr (by decide) rfl (pa_cons (pv 1) (pa_cons (pv 2) (pa_cons (pv 3) pa_nil)))) pa_nil))) rfl))))), ?_⟩
  walk_at "go"
  intro p1 f1
  generalize g1 : upd _ _ _ = H1
  have ⟨s1, e1⟩ := nw g1 f1
  walk_at "go"
  refine ⟨wa, W, p1, _, rfl, rfl, hw.same s1, e1, kinds2, by rw [ho]; rfl, by decide, fun p2 xs o2 H2 t2 w2 f2 e2 n2 => ?_⟩
  rw [ho] at n2
  cases n2 with | cons hx n2 => ?_
  cases n2 with | cons hy n2 => ?_
  cases n2
  have t12 : Stp K H H2 wa.own _ := (Stp.refl s1).trans t2
  have em2 := t12.but _ _ nm em
  walk_at "go"
  refine ⟨{ wa with o := o2 }, _, pp, ps, ee, rfl, w2, ep, fun v3 H3 s3 => ?_⟩
  have w3 := w2.same s3
  obtain ⟨dx, r, sc, shv, sv, ms, ew⟩ := w3.w
  obtain ⟨ldx, m, vp, vw, vc, vf, el, hm, hp, hc⟩ := w3.l
  walk_at "go"
  refine ⟨{ wa with o := o2 }, _, x, y, rfl, w3, hx.same s3, hy.same s3, lx, ly, fun v4 H4 s4 hv4 => ?_⟩
  walk_at "go"
  refine ⟨pp, ps ++ [ee], (x, y), by rw [← ep]; exact hp.tk (Same.tk s4), hv4, lp, by simp; omega, fun v5 H5 s5 hv5 => ?_⟩
  have s35 := s4.trans s5
  have ew5 := s35 _ _ ew
  have el5 := s35 _ _ el
  walk_at "go"
  refine r_sf (g_Look_path T) el5 ?_
  generalize g6 : upd _ _ _ = H6
  obtain ⟨w6, t6⟩ := path_set w3 s35 hm hv5 hc g6
  walk_at "go"
  exact q { wa with o := o2 } _ rfl (t12.trans ((Stp.refl s3).trans t6)) w6
def rClose (W W' : Ws) : Prop := ∃ p l, W.look.path = p ++ [l] ∧ p.length < 999 ∧ W' = W.setPath (p ++ [(l.1, true)])
theorem sc_do_closepath : FnScope ["machine"] ["machine"] (defScope s_do_closepath) := ⟨rfl, rfl, rfl, by decide +kernel, rfl, by decide +kernel, by decide +kernel⟩
theorem cal_do_closepath (T : Tx w K mg A) : Cal P w K mg base 2 "do_closepath" (spOp K A rClose) [] := by
  refine calOf T.f_do_closepath sc_do_closepath (fun _ _ _ _ _ _ us hl => match us, hl with | [_], _ => rfl) Sp1.len fun f cdv Ar outer s H vs Q E hr h => ?_
  obtain ⟨_, rfl, M, mdx, v0, v1, v2, vr, wa, W, W', rfl, em, nm, hw, ⟨pp, l, ep, lp, rfl⟩, q⟩ := h
  refine ⟨_, (pss_one (ps_fld (pe_fld (pe_fld (pv 0) rfl) rfl) (pe_c (cal_shut T) hr (by decide) rfl (pa_cons (pe_fld (pe_fld (pe_fld (pv 0) rfl) rfl) rfl) pa_nil)) rfl)), ?_⟩
  obtain ⟨dx, r, sc, shv, sv, ms, ew⟩ := hw.w
  obtain ⟨ldx, m, vp, vw, vc, vf, el, hm, hp, hc⟩ := hw.l
  walk_at "go"
  refine ⟨pp, l, by rw [← ep]; exact hp, lp, fun v1 H1 s1 hv1 => ?_⟩
  have em1 := s1 _ _ em
  have ew1 := s1 _ _ ew
  have el1 := s1 _ _ el
  walk_at "go"
  refine r_sf (g_Look_path T) el1 ?_
  generalize g2 : upd _ _ _ = H2
  obtain ⟨w2, t2⟩ := path_set hw s1 hm hv1 hc g2
  walk_at "go"
  exact q _ _ rfl t2 w2
end
section
local macro_rules | `(tactic| walk_at "fld") => `(tactic| (refine fkT (w := ?w) (K := ?K) (mg := ?mg) (A := ?A) ?t ?e ?h; (case t => assumption); (case e => exact rfl); (case h => first | with_reducible exact g_Look_matrix (by assumption) | with_reducible exact g_Look_path (by assumption) | with_reducible exact g_Look_ink (by assumption) | with_reducible exact g_Look_width (by assumption) | with_reducible exact g_Look_clips (by assumption) | with_reducible exact g_Look_font (by assumption) | with_reducible exact g_World_operands (by assumption) | with_reducible exact g_World_rooms (by assumption) | with_reducible exact g_World_scopes (by assumption) | with_reducible exact g_World_look (by assumption) | with_reducible exact g_World_kept (by assumption) | with_reducible exact g_World_sheets (by assumption) | with_reducible exact g_World_inkings (by assumption) | with_reducible exact g_World_saves (by assumption) | with_reducible exact g_World_many_saves (by assumption) | with_reducible exact g_Items_body (by assumption) | with_reducible exact g_Items_at (by assumption) | with_reducible exact g_Reader_text (by assumption) | with_reducible exact g_Reader_at (by assumption) | with_reducible exact g_Reader_row (by assumption) | with_reducible exact g_Reader_column (by assumption) | with_reducible exact g_Reader_deep (by assumption) | with_reducible exact g_Machine_wide (by assumption) | with_reducible exact g_Machine_high (by assumption) | with_reducible exact g_Machine_most (by assumption) | with_reducible exact g_Machine_world (by assumption) | with_reducible exact g_Machine_frames (by assumption) | with_reducible exact g_Machine_left (by assumption) | with_reducible exact g_Machine_told (by assumption) | with_reducible exact g_Machine_is_running (by assumption) | with_reducible exact g_Machine_ahead (by assumption) | with_reducible exact g_Machine_past (by assumption) | with_reducible exact g_Machine_later (by assumption))))
/-- as many steps as go by themselves -/
local macro_rules | `(tactic| walk_at "g1") => `(tactic| (first
  | with_reducible refine r_seq ?_ | with_reducible refine r_set ?_ | with_reducible refine r_asg ?_ | with_reducible refine r_sl ?_ | with_reducible refine r_np ?_ | with_reducible refine r_pt ?_ | with_reducible refine r_gn ?_ | with_reducible refine r_gc ?_ | with_reducible refine r_g0 ?_ | ((with_reducible refine r_gt (xs := ?xs) ?h ?g ?_); (case h => assumption); (case g => exact rfl)) | with_reducible refine r_ret ?_ | with_reducible refine r_if ?_ | with_reducible refine r_test ?_ | with_reducible refine r_B ?_ | with_reducible refine r_and ?_ | with_reducible refine r_or ?_ | with_reducible refine r_not ?_
  | with_reducible refine r_andV ?_ | with_reducible refine r_orV ?_ | with_reducible refine r_notV ?_ | with_reducible refine r_ifx ?_ | with_reducible refine r_op ?_ | with_reducible refine r_un ?_ | with_reducible refine r_U ?_ | with_reducible refine r_c ?_ | with_reducible refine r_I0 ?_ | with_reducible refine r_drop ?_ | with_reducible refine r_next ?_
  | ((with_reducible refine r_var (v := ?v) ?h ?_); (case h => exact rfl)) | with_reducible refine r_bl ?_ | with_reducible refine r_nil ?_ | with_reducible refine r_cons ?_ | with_reducible refine r_cb ?_ | with_reducible refine r_call ?_ | ((with_reducible refine r_gl (xs := ?xs) ?h ?g ?_); (case h => assumption); (case g => exact rfl)) | with_reducible refine r_sm1 ?_ | with_reducible refine r_sm2 ?_ | with_reducible refine r_sm3 ?_ | with_reducible refine r_ch ?_ | with_reducible refine r_bm ?_ | with_reducible refine r_bm0 ?_ | ((with_reducible refine r_ty (xs := ?xs) ?e ?_); (case e => assumption)) | with_reducible refine r_mkU ?_ | with_reducible refine r_mt0 ?_ | with_reducible refine r_yes ?_ | with_reducible refine iteT ?_ | with_reducible refine iteF ?_ | with_reducible refine r_spk ?_ | with_reducible refine r_sp1 ?_ | with_reducible refine r_sp2 ?_ | with_reducible refine r_sp3 ?_ | with_reducible refine r_sp4 ?_ | with_reducible refine r_sp5 ?_
  | with_reducible refine r_tup ?_ | with_reducible refine r_lst ?_ | with_reducible refine r_par ?_ | with_reducible refine r_par2 ?_ 
  | ((with_reducible refine r_eq ?h ?_); (case h => exact rfl)) | ((with_reducible refine r_ne ?h ?_); (case h => exact rfl))
  | ((with_reducible refine r_ixT (xs := ?xs) (v := ?v) ?h ?g ?_); (case h => assumption); (case g => first | exact at0 | exact at1))
  | ((with_reducible refine r_fl (i := ?i) (nm := ?nm) (C := ?C) (dx := ?dx) (vs := ?vs) (v := ?v) ?ok ?e ?hv ?_); (case e => assumption); (case ok => walk_at "fld"); (case hv => rfl)) | with_reducible refine r_for ?_ | with_reducible refine r_il ?_ | with_reducible refine r_it ?_ | with_reducible refine r_iz ?_ | with_reducible refine r_ir1 ?_ | with_reducible refine r_ir2 ?_ | with_reducible refine r_lc ?_ | with_reducible refine r_sFld ?_ | with_reducible refine r_ck ?_ | with_reducible refine r_fld ?_ | with_reducible refine ⟨_, rfl, ?_⟩ | with_reducible refine ⟨_, _, rfl, .inr (by with_unfolding_all assumption), ?_⟩ | with_reducible refine ⟨_, _, rfl, .inl (seqL (by assumption)), ?_⟩ | with_reducible refine ⟨_, _, rfl, rfl, ?_⟩ | with_reducible refine ⟨_, _, rfl, ?_⟩ | with_reducible refine ⟨rfl, ?_⟩ | with_reducible refine r_sz ?_))
local macro_rules | `(tactic| walk_at "go") => `(tactic| (repeat walk_at "g1"))
variable {P : Program} {w : World} {K : PySem.W.Frag} {mg : Str → Option Value} {A : Ad} {base : Heap}
/-! setink, fill, clip, gsave, grestore, erase. -/
def rSetink (W W' : Ws) : Prop := ∃ i : Int, W.ops = [(i, 1)] ∧ 0 ≤ i ∧ i ≤ 15 ∧ W' = { W with ops := [], look := { W.look with ink := i } }
theorem sc_do_setink : FnScope ["machine", "ink"] ["machine"] (defScope s_do_setink) := ⟨rfl, rfl, rfl, by decide +kernel, rfl, by decide +kernel, by decide +kernel⟩
theorem kinds1 : Kinds [.str "number"] := fun k h => List.mem_singleton.mp h
theorem cal_do_setink (T : Tx w K mg A) : Cal P w K mg base 4 "do_setink" (spOp K A rSetink) [] := by
  refine calOf T.f_do_setink sc_do_setink (fun _ _ _ _ _ _ us hl => match us, hl with | [_], _ => rfl) Sp1.len fun f cdv Ar outer s H vs Q E hr h => ?_
  obtain ⟨_, rfl, M, mdx, v0, v1, v2, vr, wa, W, W', rfl, em, nm, hw, ⟨i, ho, h0, h15, rfl⟩, q⟩ := h
  refine ⟨_, (pss_cons (ps_set (i := 1) sc_do_setink.nd rfl (.inl rfl) (pe_c (cal_whole_of T) hr (by decide) rfl (pa_cons (pe_ix ix_list (pe_ck (cal_taken T) hr (by decide) rfl (pa_cons (pe_fld (pv 0) rfl) pa_nil) (pk_cons (pe_lst (pa_cons pe_str pa_nil)) pk_nil)) pe_int (fun _ _ => rfl)) pa_nil)))
    (pss_cons (ps_if (pt_not (pt_chain op_le op_le pe_int (pv 1) (pe_gc rfl T.v_MOST_INK)))
    pss_never
    pss_nil)
    (pss_one (ps_fld (pe_fld (pe_fld (pv 0) rfl) rfl) (pv 1) rfl)))), ?_⟩
  walk_at "go"
  intro p1 f1
  generalize g1 : upd _ _ _ = H1
  have ⟨s1, e1⟩ := nw g1 f1
  walk_at "go"
  refine ⟨wa, W, p1, _, rfl, rfl, hw.same s1, e1, kinds1, by rw [ho]; rfl, by decide, fun p2 xs o2 H2 t2 w2 f2 e2 n2 => ?_⟩
  rw [ho] at n2
  cases n2 with | cons hx n2 => ?_
  cases n2
  have t12 : Stp K H H2 wa.own _ := (Stp.refl s1).trans t2
  have em2 := t12.but _ _ nm em
  obtain ⟨dx, r, sc, shv, sv, ms, ew⟩ := w2.w
  obtain ⟨ldx, m, vp, vw, vc, vf, el, hm, hp, hc⟩ := w2.l
  walk_at "go"
  refine r_ixL (seqL e2) at0 ?_
  walk_at "go"
  refine ⟨i, hx, ?_⟩
  walk_at "go"
  refine difT h0 ?_
  walk_at "go"
  rw [decide_eq_true h15]
  refine iteF ?_
  walk_at "go"
  refine r_sf (g_Look_ink T) el ?_
  generalize g5 : upd _ _ _ = H5
  obtain ⟨w5, t5⟩ := set_look (L := { W.look with ink := i }) w2 (Same.refl _) g5 fun tk => ⟨ldx, m, vp, vw, vc, vf, by rw [← g5]; exact upd_same, hm, hp.tk tk, hc.tk tk⟩
  walk_at "go"
  exact q { wa with o := o2 } _ rfl (t12.trans t5) w5
/-! fill -/
def rFill (o : Bool) (W W' : Ws) : Prop := W.inks.length < 999 ∧ W' = { W with inks := W.inks ++ if W.look.path = [] then [] else [Dd.fill W.look.path o W.look.ink W.look.clips] }.setPath []
abbrev spInkPath (K : PySem.W.Frag) (A : Ad) : Sp := Sp3 fun a b c H Q => ∃ wa W W' o, a = .ref wa.w ∧ b = .str "fill" ∧ c = ruleV o ∧ WAt K A H wa W ∧ rFill o W W' ∧ ∀ H', Stp K H H' wa.own wa.own → WAt K A H' wa W' → Q .non H'
theorem sc_ink_path : FnScope ["world", "kind", "how", "look"] ["world", "kind", "how"] (defScope s_ink_path) := ⟨rfl, rfl, rfl, by decide +kernel, rfl, by decide +kernel, by decide +kernel⟩
theorem cal_ink_path (T : Tx w K mg A) : Cal P w K mg base 1 "ink_path" (spInkPath K A) [] := by
  refine calOf T.f_ink_path sc_ink_path (fun _ _ _ _ _ _ us hl => match us, hl with | [_, _, _], _ => rfl) Sp3.len fun f cdv Ar outer s H vs Q E hr h => ?_
  obtain ⟨_, _, _, rfl, wa, W, W', o, rfl, rfl, rfl, hw, ⟨lk, rfl⟩, q⟩ := h
  refine ⟨_, (pss_cons (ps_set (i := 3) sc_ink_path.nd rfl (.inl rfl) (pe_fld (pv 0) rfl))
    (pss_cons (ps_if (pt_cmpR (op_neD hr.units) (pe_fld (pv 3) rfl) (pe_tup pa_nil) (nomark _))
    (pss_one (ps_expr (pe_bm PySem.F.plainAttrs_list PySem.F.slot_list_append PySem.F.type_list_append mt_append (pe_fld (pv 0) rfl) (pa_cons (pe_tup (pa_cons (pv 1) (pa_cons (pe_fld (pv 3) rfl) (pa_cons (pv 2) (pa_cons (pe_fld (pv 3) rfl) (pa_cons (pe_fld (pv 3) rfl) pa_nil)))))) pa_nil))))
    pss_nil)
    (pss_one (ps_fld (pv 3) (pe_tup pa_nil) rfl)))), ?_⟩
  obtain ⟨dx, r, sc, shv, sv, ms, ew⟩ := hw.w
  obtain ⟨ldx, m, vp, vw, vc, vf, el, hm, hp, hc⟩ := hw.l
  obtain ⟨xi, ei, pi⟩ := hw.ik
  have li := pLen pi
  walk_at "go"
  intro p0 f0
  generalize g0 : upd _ _ _ = H0
  have ⟨s0, e0⟩ := nwT g0 f0
  refine r_neNil (hp.tk (Same.tk s0)) (e0 K) ?_
  walk_at "go"
  have fin : ∀ {W1 : Ws} {H1 : Hp}, W1.look = W.look → Stp K H H1 wa.own wa.own → WAt K A H1 wa W1 → (∀ H', Stp K H H' wa.own wa.own → WAt K A H' wa (W1.setPath []) → Q .non H') →
      sFld K (tVar 3) (tTup tNil) "path" { nx := fun _ H' => Q .non H', rt := Q } [some (.ref wa.w), some (.str "fill"), some (ruleV o), some (.ref wa.l)] H1 := by
    intro W1 H1 eW t1 w1 q1
    obtain ⟨ldx, m, vp, vw, vc, vf, el, hm, hp, hc⟩ := w1.l
    walk_at "go"
    intro p2 f2
    generalize g2 : upd _ _ _ = H2
    have ⟨s2, e2⟩ := nwT g2 f2
    have el2 := s2 _ _ el
    walk_at "go"
    refine r_sf (g_Look_path T) el2 ?_
    generalize g3 : upd _ _ _ = H3
    obtain ⟨w3, t3⟩ := path_set w1 s2 hm (nilT (e2 K)) hc g3
    exact q1 _ (t1.trans t3) w3
  refine ite2 (fun hne => ?_) fun he => ?_
  · have hne' : ¬ W.look.path = [] := fun z => by rw [z] at hne; simp at hne
    rw [if_neg hne'] at q
    have el0 := s0 _ _ el
    have ew0 := s0 _ _ ew
    have ei0 := s0 _ _ ei
    walk_at "go"
    intro p1 f1
    generalize g1 : upd _ _ _ = H1
    have ⟨s1, e1⟩ := nwT g1 f1
    have s01 := s0.trans s1
    have ei1 := s1 _ _ ei0
    walk_at "go"
    refine r_app ei1 (by have := sz1000; omega) ?_
    generalize g2 : upd _ _ _ = H2
    obtain ⟨w2, t2⟩ := push_ink (n := .fill W.look.path o W.look.ink W.look.clips) (hw.same s01) ei1 ⟨p1, vp, vc, rfl, e1 K, hp.tk (Same.tk s01), hc.tk (Same.tk s01)⟩ g2
    exact fin (W1 := { W with inks := W.inks ++ [Dd.fill W.look.path o W.look.ink W.look.clips] }) rfl ((Stp.refl s01).trans t2) w2 q
  · have he' : W.look.path = [] := by
      rcases path_cases W.look.path with z | ⟨u, l, z⟩
      · exact z
      · exact absurd (by simp [z]) he
    rw [if_pos he', List.append_nil] at q
    exact fin rfl (Stp.refl s0) (hw.same s0) q
theorem sc_do_fill : FnScope ["machine"] ["machine"] (defScope s_do_fill) := ⟨rfl, rfl, rfl, by decide +kernel, rfl, by decide +kernel, by decide +kernel⟩
theorem cal_do_fill (T : Tx w K mg A) : Cal P w K mg base 2 "do_fill" (spOp K A (rFill false)) [] := by
  refine calOf T.f_do_fill sc_do_fill (fun _ _ _ _ _ _ us hl => match us, hl with | [_], _ => rfl) Sp1.len fun f cdv Ar outer s H vs Q E hr h => ?_
  obtain ⟨_, rfl, M, mdx, v0, v1, v2, vr, wa, W, W', rfl, em, nm, hw, hF, q⟩ := h
  refine ⟨_, (pss_one (ps_expr (pe_c (cal_ink_path T) hr (by decide) rfl (pa_cons (pe_fld (pv 0) rfl) (pa_cons pe_str (pa_cons pe_str pa_nil)))))), ?_⟩
  walk_at "go"
  refine ⟨wa, W, W', false, rfl, rfl, rfl, hw, hF, fun H' t w => ?_⟩
  walk_at "go"
  exact q _ _ rfl t w
theorem sc_do_eofill : FnScope ["machine"] ["machine"] (defScope s_do_eofill) := ⟨rfl, rfl, rfl, by decide +kernel, rfl, by decide +kernel, by decide +kernel⟩
theorem cal_do_eofill (T : Tx w K mg A) : Cal P w K mg base 2 "do_eofill" (spOp K A (rFill true)) [] := by
  refine calOf T.f_do_eofill sc_do_eofill (fun _ _ _ _ _ _ us hl => match us, hl with | [_], _ => rfl) Sp1.len fun f cdv Ar outer s H vs Q E hr h => ?_
  obtain ⟨_, rfl, M, mdx, v0, v1, v2, vr, wa, W, W', rfl, em, nm, hw, hF, q⟩ := h
  refine ⟨_, (pss_one (ps_expr (pe_c (cal_ink_path T) hr (by decide) rfl (pa_cons (pe_fld (pv 0) rfl) (pa_cons pe_str (pa_cons pe_str pa_nil)))))), ?_⟩
  walk_at "go"
  refine ⟨wa, W, W', true, rfl, rfl, rfl, hw, hF, fun H' t w => ?_⟩
  walk_at "go"
  exact q _ _ rfl t w
end
section
local macro_rules | `(tactic| walk_at "fld") => `(tactic| (refine fkT (w := ?w) (K := ?K) (mg := ?mg) (A := ?A) ?t ?e ?h; (case t => assumption); (case e => exact rfl); (case h => first | with_reducible exact g_Look_matrix (by assumption) | with_reducible exact g_Look_path (by assumption) | with_reducible exact g_Look_ink (by assumption) | with_reducible exact g_Look_width (by assumption) | with_reducible exact g_Look_clips (by assumption) | with_reducible exact g_Look_font (by assumption) | with_reducible exact g_World_operands (by assumption) | with_reducible exact g_World_rooms (by assumption) | with_reducible exact g_World_scopes (by assumption) | with_reducible exact g_World_look (by assumption) | with_reducible exact g_World_kept (by assumption) | with_reducible exact g_World_sheets (by assumption) | with_reducible exact g_World_inkings (by assumption) | with_reducible exact g_World_saves (by assumption) | with_reducible exact g_World_many_saves (by assumption) | with_reducible exact g_Items_body (by assumption) | with_reducible exact g_Items_at (by assumption) | with_reducible exact g_Reader_text (by assumption) | with_reducible exact g_Reader_at (by assumption) | with_reducible exact g_Reader_row (by assumption) | with_reducible exact g_Reader_column (by assumption) | with_reducible exact g_Reader_deep (by assumption) | with_reducible exact g_Machine_wide (by assumption) | with_reducible exact g_Machine_high (by assumption) | with_reducible exact g_Machine_most (by assumption) | with_reducible exact g_Machine_world (by assumption) | with_reducible exact g_Machine_frames (by assumption) | with_reducible exact g_Machine_left (by assumption) | with_reducible exact g_Machine_told (by assumption) | with_reducible exact g_Machine_is_running (by assumption) | with_reducible exact g_Machine_ahead (by assumption) | with_reducible exact g_Machine_past (by assumption) | with_reducible exact g_Machine_later (by assumption))))
/-- as many steps as go by themselves -/
local macro_rules | `(tactic| walk_at "g1") => `(tactic| (first
  | with_reducible refine r_seq ?_ | with_reducible refine r_set ?_ | with_reducible refine r_asg ?_ | with_reducible refine r_sl ?_ | with_reducible refine r_np ?_ | with_reducible refine r_pt ?_ | with_reducible refine r_gn ?_ | with_reducible refine r_gc ?_ | with_reducible refine r_g0 ?_ | ((with_reducible refine r_gt (xs := ?xs) ?h ?g ?_); (case h => assumption); (case g => exact rfl)) | with_reducible refine r_ret ?_ | with_reducible refine r_if ?_ | with_reducible refine r_test ?_ | with_reducible refine r_B ?_ | with_reducible refine r_and ?_ | with_reducible refine r_or ?_ | with_reducible refine r_not ?_
  | with_reducible refine r_andV ?_ | with_reducible refine r_orV ?_ | with_reducible refine r_notV ?_ | with_reducible refine r_ifx ?_ | with_reducible refine r_op ?_ | with_reducible refine r_un ?_ | with_reducible refine r_U ?_ | with_reducible refine r_c ?_ | with_reducible refine r_I0 ?_ | with_reducible refine r_drop ?_ | with_reducible refine r_next ?_
  | ((with_reducible refine r_var (v := ?v) ?h ?_); (case h => exact rfl)) | with_reducible refine r_bl ?_ | with_reducible refine r_nil ?_ | with_reducible refine r_cons ?_ | with_reducible refine r_cb ?_ | with_reducible refine r_call ?_ | ((with_reducible refine r_gl (xs := ?xs) ?h ?g ?_); (case h => assumption); (case g => exact rfl)) | with_reducible refine r_sm1 ?_ | with_reducible refine r_sm2 ?_ | with_reducible refine r_sm3 ?_ | with_reducible refine r_ch ?_ | with_reducible refine r_bm ?_ | with_reducible refine r_bm0 ?_ | ((with_reducible refine r_ty (xs := ?xs) ?e ?_); (case e => assumption)) | with_reducible refine r_mkU ?_ | with_reducible refine r_mt0 ?_ | with_reducible refine r_yes ?_ | with_reducible refine iteT ?_ | with_reducible refine iteF ?_ | with_reducible refine r_spk ?_ | with_reducible refine r_sp1 ?_ | with_reducible refine r_sp2 ?_ | with_reducible refine r_sp3 ?_ | with_reducible refine r_sp4 ?_ | with_reducible refine r_sp5 ?_
  | with_reducible refine r_tup ?_ | with_reducible refine r_lst ?_ | with_reducible refine r_par ?_ | with_reducible refine r_par2 ?_ 
  | ((with_reducible refine r_eq ?h ?_); (case h => exact rfl)) | ((with_reducible refine r_ne ?h ?_); (case h => exact rfl))
  | ((with_reducible refine r_ixT (xs := ?xs) (v := ?v) ?h ?g ?_); (case h => assumption); (case g => first | exact at0 | exact at1))
  | ((with_reducible refine r_fl (i := ?i) (nm := ?nm) (C := ?C) (dx := ?dx) (vs := ?vs) (v := ?v) ?ok ?e ?hv ?_); (case e => assumption); (case ok => walk_at "fld"); (case hv => rfl)) | with_reducible refine r_for ?_ | with_reducible refine r_il ?_ | with_reducible refine r_it ?_ | with_reducible refine r_iz ?_ | with_reducible refine r_ir1 ?_ | with_reducible refine r_ir2 ?_ | with_reducible refine r_lc ?_ | with_reducible refine r_sFld ?_ | with_reducible refine r_ck ?_ | with_reducible refine r_fld ?_ | with_reducible refine ⟨_, rfl, ?_⟩ | with_reducible refine ⟨_, _, rfl, .inr (by with_unfolding_all assumption), ?_⟩ | with_reducible refine ⟨_, _, rfl, .inl (seqL (by assumption)), ?_⟩ | with_reducible refine ⟨_, _, rfl, rfl, ?_⟩ | with_reducible refine ⟨_, _, rfl, ?_⟩ | with_reducible refine ⟨rfl, ?_⟩ | with_reducible refine r_sz ?_))
local macro_rules | `(tactic| walk_at "go") => `(tactic| (repeat walk_at "g1"))
variable {P : Program} {w : World} {K : PySem.W.Frag} {mg : Str → Option Value} {A : Ad} {base : Heap}
/-! clip, gsave, grestore, erase. -/
def rClip (o : Bool) (W W' : Ws) : Prop := W.look.clips.length < 999 ∧ W' = { W with look := { W.look with clips := W.look.clips ++ [(W.look.path, o)] } }
theorem sc_do_clip : FnScope ["machine", "look"] ["machine"] (defScope s_do_clip) := ⟨rfl, rfl, rfl, by decide +kernel, rfl, by decide +kernel, by decide +kernel⟩
theorem cal_do_clip (T : Tx w K mg A) : Cal P w K mg base 1 "do_clip" (spOp K A (rClip false)) [] := by
  refine calOf T.f_do_clip sc_do_clip (fun _ _ _ _ _ _ us hl => match us, hl with | [_], _ => rfl) Sp1.len fun f cdv Ar outer s H vs Q E hr h => ?_
  obtain ⟨_, rfl, M, mdx, v0, v1, v2, vr, wa, W, W', rfl, em, nm, hw, ⟨lc, rfl⟩, q⟩ := h
  refine ⟨_, (pss_cons (ps_set (i := 1) sc_do_clip.nd rfl (.inl rfl) (pe_fld (pe_fld (pv 0) rfl) rfl))
    (pss_one (ps_fld (pv 1) (pe_op op_catA (pe_fld (pv 1) rfl) (pe_tup (pa_cons (pe_tup (pa_cons (pe_fld (pv 1) rfl) (pa_cons pe_str pa_nil))) pa_nil))) rfl))), ?_⟩
  obtain ⟨dx, r, sc, shv, sv, ms, ew⟩ := hw.w
  obtain ⟨ldx, m, vp, vw, vc, vf, el, hm, hp, hc⟩ := hw.l
  walk_at "go"
  intro p1 f1
  generalize g1 : upd _ _ _ = H1
  have ⟨s1, e1⟩ := nwT g1 f1
  walk_at "go"
  intro p2 f2
  generalize g2 : upd _ _ _ = H2
  have ⟨s2, e2⟩ := nwT g2 f2
  have s12 := s1.trans s2
  obtain ⟨ca, cx, rfl, hca, hcx⟩ := hc
  have l1 := pLen hcx
  refine r_catT (sqS hca s12) (e2 K) (by simp) (by have := sz1000; simp only [List.length_singleton]; omega) fun p3 H3 s3 e3 => ?_
  have s13 := s12.trans s3
  have el3 := s13 _ _ el
  walk_at "go"
  refine r_sf (g_Look_clips T) el3 ?_
  generalize g4 : upd _ _ _ = H4
  obtain ⟨w4, t4⟩ := set_look (L := { W.look with clips := W.look.clips ++ [(W.look.path, false)] }) hw s13 g4 fun tk => ⟨ldx, m, vp, vw, .ref p3, vf, by rw [← g4]; exact upd_same, hm, (hp.tk (Same.tk s13)).tk tk, p3, _, rfl, tk _ _ e3, pApp (pImp (fun _ _ z => (z.tk (Same.tk s13)).tk tk) hcx) (.cons ⟨p1, vp, rfl, tk _ _ (sqS (e1 K) (s2.trans s3)), (hp.tk (Same.tk s13)).tk tk⟩ .nil)⟩
  walk_at "go"
  exact q _ _ rfl t4 w4
theorem sc_do_eoclip : FnScope ["machine", "look"] ["machine"] (defScope s_do_eoclip) := ⟨rfl, rfl, rfl, by decide +kernel, rfl, by decide +kernel, by decide +kernel⟩
theorem cal_do_eoclip (T : Tx w K mg A) : Cal P w K mg base 1 "do_eoclip" (spOp K A (rClip true)) [] := by
  refine calOf T.f_do_eoclip sc_do_eoclip (fun _ _ _ _ _ _ us hl => match us, hl with | [_], _ => rfl) Sp1.len fun f cdv Ar outer s H vs Q E hr h => ?_
  obtain ⟨_, rfl, M, mdx, v0, v1, v2, vr, wa, W, W', rfl, em, nm, hw, ⟨lc, rfl⟩, q⟩ := h
  refine ⟨_, (pss_cons (ps_set (i := 1) sc_do_eoclip.nd rfl (.inl rfl) (pe_fld (pe_fld (pv 0) rfl) rfl))
    (pss_one (ps_fld (pv 1) (pe_op op_catA (pe_fld (pv 1) rfl) (pe_tup (pa_cons (pe_tup (pa_cons (pe_fld (pv 1) rfl) (pa_cons pe_str pa_nil))) pa_nil))) rfl))), ?_⟩
  obtain ⟨dx, r, sc, shv, sv, ms, ew⟩ := hw.w
  obtain ⟨ldx, m, vp, vw, vc, vf, el, hm, hp, hc⟩ := hw.l
  walk_at "go"
  intro p1 f1
  generalize g1 : upd _ _ _ = H1
  have ⟨s1, e1⟩ := nwT g1 f1
  walk_at "go"
  intro p2 f2
  generalize g2 : upd _ _ _ = H2
  have ⟨s2, e2⟩ := nwT g2 f2
  have s12 := s1.trans s2
  obtain ⟨ca, cx, rfl, hca, hcx⟩ := hc
  have l1 := pLen hcx
  refine r_catT (sqS hca s12) (e2 K) (by simp) (by have := sz1000; simp only [List.length_singleton]; omega) fun p3 H3 s3 e3 => ?_
  have s13 := s12.trans s3
  have el3 := s13 _ _ el
  walk_at "go"
  refine r_sf (g_Look_clips T) el3 ?_
  generalize g4 : upd _ _ _ = H4
  obtain ⟨w4, t4⟩ := set_look (L := { W.look with clips := W.look.clips ++ [(W.look.path, true)] }) hw s13 g4 fun tk => ⟨ldx, m, vp, vw, .ref p3, vf, by rw [← g4]; exact upd_same, hm, (hp.tk (Same.tk s13)).tk tk, p3, _, rfl, tk _ _ e3, pApp (pImp (fun _ _ z => (z.tk (Same.tk s13)).tk tk) hcx) (.cons ⟨p1, vp, rfl, tk _ _ (sqS (e1 K) (s2.trans s3)), (hp.tk (Same.tk s13)).tk tk⟩ .nil)⟩
  walk_at "go"
  exact q _ _ rfl t4 w4
def rInitclip (W W' : Ws) : Prop := W' = { W with look := { W.look with clips := [] } }
theorem sc_do_initclip : FnScope ["machine"] ["machine"] (defScope s_do_initclip) := ⟨rfl, rfl, rfl, by decide +kernel, rfl, by decide +kernel, by decide +kernel⟩
theorem cal_do_initclip (T : Tx w K mg A) : Cal P w K mg base 1 "do_initclip" (spOp K A rInitclip) [] := by
  refine calOf T.f_do_initclip sc_do_initclip (fun _ _ _ _ _ _ us hl => match us, hl with | [_], _ => rfl) Sp1.len fun f cdv Ar outer s H vs Q E hr h => ?_
  obtain ⟨_, rfl, M, mdx, v0, v1, v2, vr, wa, W, W', rfl, em, nm, hw, hF, q⟩ := h
  refine ⟨_, (pss_one (ps_fld (pe_fld (pe_fld (pv 0) rfl) rfl) (pe_tup pa_nil) rfl)), ?_⟩
  obtain ⟨dx, r, sc, shv, sv, ms, ew⟩ := hw.w
  obtain ⟨ldx, m, vp, vw, vc, vf, el, hm, hp, hc⟩ := hw.l
  walk_at "go"
  intro p1 f1
  generalize g1 : upd _ _ _ = H1
  have ⟨s1, e1⟩ := nwT g1 f1
  have em1 := s1 _ _ em
  have ew1 := s1 _ _ ew
  have el1 := s1 _ _ el
  walk_at "go"
  refine r_sf (g_Look_clips T) el1 ?_
  generalize g4 : upd _ _ _ = H4
  obtain ⟨w4, t4⟩ := set_look (L := { W.look with clips := [] }) hw s1 g4 fun tk => ⟨ldx, m, vp, vw, .ref p1, vf, by rw [← g4]; exact upd_same, hm, (hp.tk (Same.tk s1)).tk tk, nilT (tk _ _ (e1 K))⟩
  walk_at "go"
  rw [hF] at q
  exact q _ _ rfl t4 w4
def rGsave (W W' : Ws) : Prop := W.kept.length < 999 ∧ W' = { W with kept := W.kept ++ [W.look] }
theorem sc_do_gsave : FnScope ["machine"] ["machine"] (defScope s_do_gsave) := ⟨rfl, rfl, rfl, by decide +kernel, rfl, by decide +kernel, by decide +kernel⟩
theorem cal_do_gsave (T : Tx w K mg A) : Cal P w K mg base 4 "do_gsave" (spOp K A rGsave) [] := by
  refine calOf T.f_do_gsave sc_do_gsave (fun _ _ _ _ _ _ us hl => match us, hl with | [_], _ => rfl) Sp1.len fun f cdv Ar outer s H vs Q E hr h => ?_
  obtain ⟨_, rfl, M, mdx, v0, v1, v2, vr, wa, W, W', rfl, em, nm, hw, ⟨lk, rfl⟩, q⟩ := h
  refine ⟨_, (pss_one (ps_expr (pe_bm PySem.F.plainAttrs_list PySem.F.slot_list_append PySem.F.type_list_append mt_append (pe_fld (pe_fld (pv 0) rfl) rfl) (pa_cons (pe_mt0 (met_Look_twin T) hr (by decide) (pe_fld (pe_fld (pv 0) rfl) rfl)) pa_nil)))), ?_⟩
  obtain ⟨dx, r, sc, shv, sv, ms, ew⟩ := hw.w
  obtain ⟨ldx, m, vp, vw, vc, vf, el, hm, hp, hc⟩ := hw.l
  have ek := hw.k
  have ll := pLen hw.ls
  walk_at "go"
  refine r_mtI el (by decide +kernel) ?_
  walk_at "go"
  refine ⟨wa.l, W.look, rfl, hw.l, fun x H1 s1 fx hx => ?_⟩
  have ek1 := s1 _ _ ek
  walk_at "go"
  refine r_app ek1 (by have := sz1000; rw [List.length_map]; omega) ?_
  generalize g2 : upd _ _ _ = H2
  obtain ⟨w2, t2⟩ := push_kept hw s1 fx hx g2
  walk_at "go"
  exact q { wa with ls := wa.ls ++ [x] } _ rfl t2 w2
def rGrestore (W W' : Ws) : Prop := ∃ ks L, W.kept = ks ++ [L] ∧ W' = { W with kept := ks, look := L }
theorem sc_do_grestore : FnScope ["machine"] ["machine"] (defScope s_do_grestore) := ⟨rfl, rfl, rfl, by decide +kernel, rfl, by decide +kernel, by decide +kernel⟩
theorem cal_do_grestore (T : Tx w K mg A) : Cal P w K mg base 1 "do_grestore" (spOp K A rGrestore) [] := by
  refine calOf T.f_do_grestore sc_do_grestore (fun _ _ _ _ _ _ us hl => match us, hl with | [_], _ => rfl) Sp1.len fun f cdv Ar outer s H vs Q E hr h => ?_
  obtain ⟨_, rfl, M, mdx, v0, v1, v2, vr, wa, W, W', rfl, em, nm, hw, ⟨ks, L, ek, rfl⟩, q⟩ := h
  refine ⟨_, (pss_one (ps_if (pt_cmpR (op_neL hr.units0) (pe_fld (pe_fld (pv 0) rfl) rfl) (pe_lst pa_nil) (nomark _))
    (pss_one (ps_fld (pe_fld (pv 0) rfl) (pe_bm0 PySem.F.plainAttrs_list PySem.F.slot_list_pop PySem.F.type_list_pop mt_pop (pe_fld (pe_fld (pv 0) rfl) rfl)) rfl))
    pss_nil)), ?_⟩
  obtain ⟨dx, r, sc, shv, sv, ms, ew⟩ := hw.w
  obtain ⟨wl, q0, hl, pl, hq⟩ := pUnsnoc (ek ▸ hw.ls)
  have ekk := hw.k
  rw [hl, List.map_append] at ekk
  walk_at "go"
  intro p1 f1
  generalize g1 : upd _ _ _ = H1
  have ⟨s1, e1⟩ := nw g1 f1
  have em1 := s1 _ _ em
  have ew1 := s1 _ _ ew
  have ek1 := s1 _ _ ekk
  have hw1 := hw.same s1
  walk_at "go"
  refine ⟨wa.k, p1, _, rfl, rfl, ek1, e1, ?_⟩
  walk_at "go"
  refine ndifT (by simp) ?_
  walk_at "go"
  refine r_pop ek1 ?_
  generalize g2 : upd _ _ _ = H2
  have N := ne5 hw.nd
  have ew2 := (show H2 wa.w = H1 wa.w by rw [← g2, upd_ne N.wk]).trans ew1
  have em2 := (show H2 M = H1 M by rw [← g2, upd_ne (fun z => nm (by rw [z]; simp [Wa.own]))]).trans em1
  walk_at "go"
  refine r_sf (g_World_look T) ew2 ?_
  generalize g3 : upd _ _ _ = H3
  obtain ⟨w3, t3⟩ := pop_kept hw1 hl ek ew1 g2 g3
  walk_at "go"
  exact q { wa with ls := wl, l := q0 } _ rfl ((Stp.refl s1).trans t3) w3
def rErase (W W' : Ws) : Prop := W.inks.length < 999 ∧ W' = { W with inks := W.inks ++ [Dd.erase] }
theorem sc_do_erase : FnScope ["machine"] ["machine"] (defScope s_do_erase) := ⟨rfl, rfl, rfl, by decide +kernel, rfl, by decide +kernel, by decide +kernel⟩
theorem cal_do_erase (T : Tx w K mg A) : Cal P w K mg base 1 "do_erase" (spOp K A rErase) [] := by
  refine calOf T.f_do_erase sc_do_erase (fun _ _ _ _ _ _ us hl => match us, hl with | [_], _ => rfl) Sp1.len fun f cdv Ar outer s H vs Q E hr h => ?_
  obtain ⟨_, rfl, M, mdx, v0, v1, v2, vr, wa, W, W', rfl, em, nm, hw, ⟨lk, rfl⟩, q⟩ := h
  refine ⟨_, (pss_one (ps_expr (pe_bm PySem.F.plainAttrs_list PySem.F.slot_list_append PySem.F.type_list_append mt_append (pe_fld (pe_fld (pv 0) rfl) rfl) (pa_cons (pe_tup (pa_cons pe_str pa_nil)) pa_nil)))), ?_⟩
  obtain ⟨dx, r, sc, shv, sv, ms, ew⟩ := hw.w
  obtain ⟨xi, ei, pi⟩ := hw.ik
  have li := pLen pi
  walk_at "go"
  intro p1 f1
  generalize g1 : upd _ _ _ = H1
  have ⟨s1, e1⟩ := nwT g1 f1
  have ei1 := s1 _ _ ei
  walk_at "go"
  refine r_app ei1 (by have := sz1000; omega) ?_
  generalize g2 : upd _ _ _ = H2
  obtain ⟨w2, t2⟩ := push_ink (n := .erase) (hw.same s1) ei1 ⟨p1, rfl, e1 K⟩ g2
  walk_at "go"
  exact q _ _ rfl ((Stp.refl s1).trans t2) w2
end
section
local macro_rules | `(tactic| walk_at "fld") => `(tactic| (refine fkT (w := ?w) (K := ?K) (mg := ?mg) (A := ?A) ?t ?e ?h; (case t => assumption); (case e => exact rfl); (case h => first | with_reducible exact g_Look_matrix (by assumption) | with_reducible exact g_Look_path (by assumption) | with_reducible exact g_Look_ink (by assumption) | with_reducible exact g_Look_width (by assumption) | with_reducible exact g_Look_clips (by assumption) | with_reducible exact g_Look_font (by assumption) | with_reducible exact g_World_operands (by assumption) | with_reducible exact g_World_rooms (by assumption) | with_reducible exact g_World_scopes (by assumption) | with_reducible exact g_World_look (by assumption) | with_reducible exact g_World_kept (by assumption) | with_reducible exact g_World_sheets (by assumption) | with_reducible exact g_World_inkings (by assumption) | with_reducible exact g_World_saves (by assumption) | with_reducible exact g_World_many_saves (by assumption) | with_reducible exact g_Items_body (by assumption) | with_reducible exact g_Items_at (by assumption) | with_reducible exact g_Reader_text (by assumption) | with_reducible exact g_Reader_at (by assumption) | with_reducible exact g_Reader_row (by assumption) | with_reducible exact g_Reader_column (by assumption) | with_reducible exact g_Reader_deep (by assumption) | with_reducible exact g_Machine_wide (by assumption) | with_reducible exact g_Machine_high (by assumption) | with_reducible exact g_Machine_most (by assumption) | with_reducible exact g_Machine_world (by assumption) | with_reducible exact g_Machine_frames (by assumption) | with_reducible exact g_Machine_left (by assumption) | with_reducible exact g_Machine_told (by assumption) | with_reducible exact g_Machine_is_running (by assumption) | with_reducible exact g_Machine_ahead (by assumption) | with_reducible exact g_Machine_past (by assumption) | with_reducible exact g_Machine_later (by assumption))))
/-- as many steps as go by themselves -/
local macro_rules | `(tactic| walk_at "g1") => `(tactic| (first
  | with_reducible refine r_seq ?_ | with_reducible refine r_set ?_ | with_reducible refine r_asg ?_ | with_reducible refine r_sl ?_ | with_reducible refine r_np ?_ | with_reducible refine r_pt ?_ | with_reducible refine r_gn ?_ | with_reducible refine r_gc ?_ | with_reducible refine r_g0 ?_ | ((with_reducible refine r_gt (xs := ?xs) ?h ?g ?_); (case h => assumption); (case g => exact rfl)) | with_reducible refine r_ret ?_ | with_reducible refine r_if ?_ | with_reducible refine r_test ?_ | with_reducible refine r_B ?_ | with_reducible refine r_and ?_ | with_reducible refine r_or ?_ | with_reducible refine r_not ?_
  | with_reducible refine r_andV ?_ | with_reducible refine r_orV ?_ | with_reducible refine r_notV ?_ | with_reducible refine r_ifx ?_ | with_reducible refine r_op ?_ | with_reducible refine r_un ?_ | with_reducible refine r_U ?_ | with_reducible refine r_c ?_ | with_reducible refine r_I0 ?_ | with_reducible refine r_drop ?_ | with_reducible refine r_next ?_
  | ((with_reducible refine r_var (v := ?v) ?h ?_); (case h => exact rfl)) | with_reducible refine r_bl ?_ | with_reducible refine r_nil ?_ | with_reducible refine r_cons ?_ | with_reducible refine r_cb ?_ | with_reducible refine r_call ?_ | ((with_reducible refine r_gl (xs := ?xs) ?h ?g ?_); (case h => assumption); (case g => exact rfl)) | with_reducible refine r_sm1 ?_ | with_reducible refine r_sm2 ?_ | with_reducible refine r_sm3 ?_ | with_reducible refine r_ch ?_ | with_reducible refine r_bm ?_ | with_reducible refine r_bm0 ?_ | ((with_reducible refine r_ty (xs := ?xs) ?e ?_); (case e => assumption)) | with_reducible refine r_mkU ?_ | with_reducible refine r_mt0 ?_ | with_reducible refine r_yes ?_ | with_reducible refine iteT ?_ | with_reducible refine iteF ?_ | with_reducible refine r_spk ?_ | with_reducible refine r_sp1 ?_ | with_reducible refine r_sp2 ?_ | with_reducible refine r_sp3 ?_ | with_reducible refine r_sp4 ?_ | with_reducible refine r_sp5 ?_
  | with_reducible refine r_tup ?_ | with_reducible refine r_lst ?_ | with_reducible refine r_par ?_ | with_reducible refine r_par2 ?_ 
  | ((with_reducible refine r_eq ?h ?_); (case h => exact rfl)) | ((with_reducible refine r_ne ?h ?_); (case h => exact rfl))
  | ((with_reducible refine r_ixT (xs := ?xs) (v := ?v) ?h ?g ?_); (case h => assumption); (case g => first | exact at0 | exact at1))
  | ((with_reducible refine r_fl (i := ?i) (nm := ?nm) (C := ?C) (dx := ?dx) (vs := ?vs) (v := ?v) ?ok ?e ?hv ?_); (case e => assumption); (case ok => walk_at "fld"); (case hv => rfl)) | with_reducible refine r_for ?_ | with_reducible refine r_il ?_ | with_reducible refine r_it ?_ | with_reducible refine r_iz ?_ | with_reducible refine r_ir1 ?_ | with_reducible refine r_ir2 ?_ | with_reducible refine r_lc ?_ | with_reducible refine r_sFld ?_ | with_reducible refine r_ck ?_ | with_reducible refine r_fld ?_ | with_reducible refine ⟨_, rfl, ?_⟩ | with_reducible refine ⟨_, _, rfl, .inr (by with_unfolding_all assumption), ?_⟩ | with_reducible refine ⟨_, _, rfl, .inl (seqL (by assumption)), ?_⟩ | with_reducible refine ⟨_, _, rfl, rfl, ?_⟩ | with_reducible refine ⟨_, _, rfl, ?_⟩ | with_reducible refine ⟨rfl, ?_⟩ | with_reducible refine r_sz ?_))
local macro_rules | `(tactic| walk_at "go") => `(tactic| (repeat walk_at "g1"))
variable {P : Program} {w : World} {K : PySem.W.Frag} {mg : Str → Option Value} {A : Ad} {base : Heap}
/-! rect, of the whole page. -/
def rectC : List Pnt := [((0, 1), (0, 1)), ((6, 1), (0, 1)), ((6, 1), (5, 1)), ((0, 1), (5, 1))]
def rRect (W W' : Ws) : Prop := W.ops = [(0, 1), (0, 1), (6, 1), (5, 1)] ∧ W.look.path = [] ∧ W' = { W with ops := [] }.setPath [(rectC, true)]
theorem kinds4 : Kinds [.str "number", .str "number", .str "number", .str "number"] := fun k h => by
  rcases List.mem_cons.mp h with h | h
  · exact h
  · rcases List.mem_cons.mp h with h | h
    · exact h
    · exact kinds2 k h
theorem lw5 : Lw (5, 1) := ⟨by decide, by decide, by decide, by decide⟩
theorem lw6 : Lw (6, 1) := ⟨by decide, by decide, by decide, by decide⟩
theorem sc_do_rect : FnScope ["machine", "world", "x", "y", "wide", "high", "right", "low", "corners", "one", "other", "path", "corner"] ["machine"] (defScope s_do_rect) := ⟨rfl, rfl, rfl, by decide +kernel, rfl, by decide +kernel, by decide +kernel⟩
theorem r_cutTail {K : PySem.W.Frag} {H : Hp} {l : Addr} {x : V} {xs : List V} {Q : VK} (e : H l = some (.lst (x :: xs))) (q : ∀ p H', Same H H' → H p = none → H' p = some (.lst xs) → Q (.ref p) H') : rSlL K (.ref l) (some 1) none H Q := by
  refine ⟨l, _, rfl, seqL e, fun p f => ?_⟩
  have e1 : cutV (x :: xs) (some 1) none = xs := by
    unfold cutV
    have h0 : HT.sIx (x :: xs).length 0 (some 1) = 1 := by
      have := HT.sIx_nat (x :: xs).length 0 1
      simpa using this
    rw [h0, HT.sIx_none]
    simp
  rw [e1]
  exact q _ _ (same_new f) f upd_same
theorem cal_do_rect (T : Tx w K mg A) : Cal P w K mg base 7 "do_rect" (spOp K A rRect) [] := by
  refine calOf T.f_do_rect sc_do_rect (fun _ _ _ _ _ _ us hl => match us, hl with | [_], _ => rfl) Sp1.len fun f cdv Ar outer s H vs Q E hr h => ?_
  obtain ⟨_, rfl, M, mdx, v0, v1, v2, vr, wa, W, W', rfl, em, nm, hw, ⟨ho, hpe, rfl⟩, q⟩ := h
  refine ⟨_, (pss_cons (ps_set (i := 1) sc_do_rect.nd rfl (.inr rfl) (pe_fld (pv 0) rfl))
    (pss_cons (ps_asg (pe_ck (cal_taken T) hr (by decide) rfl (pa_cons (pv 1) pa_nil) (pk_cons (pe_lst (pa_cons pe_str (pa_cons pe_str (pa_cons pe_str (pa_cons pe_str pa_nil))))) pk_nil)) (pg_unl rfl (pgs_cons (pg_name (i := 2) sc_do_rect.nd rfl (.inl rfl)) (pgs_cons (pg_name (i := 3) sc_do_rect.nd rfl (.inl rfl)) (pgs_cons (pg_name (i := 4) sc_do_rect.nd rfl (.inl rfl)) (pgs_cons (pg_name (i := 5) sc_do_rect.nd rfl (.inl rfl)) pgs_nil))))))
    (pss_cons (ps_par (i := 6) (j := 7) rfl sc_do_rect.nd rfl rfl (by decide) rfl rfl (pa_cons (pe_c (cal_need_room T) hr (by decide) rfl (pa_cons (pe_c (cal_plus T) hr (by decide) rfl (pa_cons (pv 2) (pa_cons (pv 4) pa_nil))) pa_nil)) (pa_cons (pe_c (cal_need_room T) hr (by decide) rfl (pa_cons (pe_c (cal_plus T) hr (by decide) rfl (pa_cons (pv 3) (pa_cons (pv 5) pa_nil))) pa_nil)) pa_nil)) (by rfl))
    (pss_cons (ps_setLc (i := 8) (own := [("one", 9), ("other", 10)]) (g := (gTup K 2 (gCons (gName 9) (gCons (gName 10) gNil)))) (tt := tYes) rfl sc_do_rect.nd rfl rfl (sw_true rfl rfl rfl (by decide +kernel)) (pi_tup (pe_tup (pa_cons (pe_tup (pa_cons (pv 2) (pa_cons (pv 3) pa_nil))) (pa_cons (pe_tup (pa_cons (pv 6) (pa_cons (pv 3) pa_nil))) (pa_cons (pe_tup (pa_cons (pv 6) (pa_cons (pv 7) pa_nil))) (pa_cons (pe_tup (pa_cons (pv 2) (pa_cons (pv 7) pa_nil))) pa_nil)))))) (blkOk_by (N := ["machine", "world", "x", "y", "wide", "high", "right", "low", "corners", "one", "other", "path", "corner"]) (sc := defScope s_do_rect) (by decide +kernel)) (fun _ _ _ _ _ => (pg_tup rfl (pgs_cons (pg_name (i := 9) sc_do_rect.nd rfl (.inl rfl)) (pgs_cons (pg_name (i := 10) sc_do_rect.nd rfl (.inl rfl)) pgs_nil)))) (fun _ _ _ _ _ => pts_nil) (fun _ _ _ _ _ => (pe_c (cal_placed T) hr (by decide) rfl (pa_cons (pv 1) (pa_cons (pv 9) (pa_cons (pv 10) pa_nil))))))
    (pss_cons (ps_set (i := 11) sc_do_rect.nd rfl (.inl rfl) (pe_c (cal_begun T) hr (by decide) rfl (pa_cons (pe_fld (pe_fld (pv 1) rfl) rfl) (pa_cons (pe_ix ix_list (pv 8) pe_int (fun _ _ => rfl)) pa_nil))))
    (pss_cons (ps_for PassesOwn.never rfl (pi_list (pe_slice sl_list (pv 8) (po_some pe_int) po_none)) (pg_name (i := 12) sc_do_rect.nd rfl (.inl rfl))
    (pss_one (ps_set (i := 11) sc_do_rect.nd rfl (.inl rfl) (pe_c (cal_lined T) hr (by decide) rfl (pa_cons (pv 11) (pa_cons (pv 12) pa_nil))))))
    (pss_one (ps_fld (pe_fld (pv 1) rfl) (pe_c (cal_shut T) hr (by decide) rfl (pa_cons (pv 11) pa_nil)) rfl)))))))), ?_⟩
  walk_at "go"
  intro p1 f1
  generalize g1 : upd _ _ _ = H1
  have ⟨s1, e1⟩ := nw g1 f1
  walk_at "go"
  refine ⟨wa, W, p1, _, rfl, rfl, hw.same s1, e1, kinds4, by rw [ho]; rfl, by decide, fun p2 xs o2 H2 t2 w2 f2 e2 n2 => ?_⟩
  rw [ho] at n2
  cases n2 with | cons hx n2 => ?_
  cases n2 with | cons hy n2 => ?_
  cases n2 with | cons hwd n2 => ?_
  cases n2 with | cons hhg n2 => ?_
  cases n2
  have t12 : Stp K H H2 wa.own _ := (Stp.refl s1).trans t2
  have em2 := t12.but _ _ nm em
  walk_at "go"
  refine ⟨(0, 1), (6, 1), hx, hwd, lw0.sm, lw6.sm, fun v3 H3 s3 hv3 => ?_⟩
  rw [zero_plus lw6] at hv3
  walk_at "go"
  refine ⟨hv3.ne, ?_⟩
  walk_at "go"
  refine ⟨(0, 1), (5, 1), hy.same s3, hhg.same s3, lw0.sm, lw5.sm, fun v4 H4 s4 hv4 => ?_⟩
  rw [zero_plus lw5] at hv4
  walk_at "go"
  refine ⟨hv4.ne, ?_⟩
  walk_at "go"
  intro p5 f5
  generalize g5 : upd _ _ _ = H5
  have ⟨s5, e5⟩ := nwT g5 f5
  walk_at "go"
  intro p6 f6
  generalize g6 : upd _ _ _ = H6
  have ⟨s6, e6⟩ := nwT g6 f6
  walk_at "go"
  intro p7 f7
  generalize g7 : upd _ _ _ = H7
  have ⟨s7, e7⟩ := nwT g7 f7
  walk_at "go"
  intro p8 f8
  generalize g8 : upd _ _ _ = H8
  have ⟨s8, e8⟩ := nwT g8 f8
  walk_at "go"
  intro p9 f9
  generalize g9 : upd _ _ _ = H9
  have ⟨s9, e9⟩ := nwT g9 f9
  walk_at "go"
  refine ⟨⟨_, e9 K⟩, fun D fD => ?_⟩
  have s59 := s6.trans (s7.trans (s8.trans s9))
  have s49 := s5.trans s59
  have s29 := s3.trans (s4.trans s49)
  have it : ∀ (i : Nat) x, [V.ref p5, .ref p6, .ref p7, .ref p8][i]? = some x → ∃ t a b n, x = .ref t ∧ SqT K H9 t [a, b] ∧ rectC[i]? = some n ∧ Nm K H9 a n.1 ∧ Nm K H9 b n.2 ∧ Lw n.1 ∧ Lw n.2 := by
    intro i x hxx
    rcases i with _ | _ | _ | _ | i
    · cases hxx
      exact ⟨p5, _, _, _, rfl, sqS (e5 K) s59, rfl, hx.same s29, hy.same s29, lw0, lw0⟩
    · cases hxx
      exact ⟨p6, _, _, _, rfl, sqS (e6 K) (s7.trans (s8.trans s9)), rfl, hv3.same (s4.trans s49), hy.same s29, lw6, lw0⟩
    · cases hxx
      exact ⟨p7, _, _, _, rfl, sqS (e7 K) (s8.trans s9), rfl, hv3.same (s4.trans s49), hv4.same s49, lw6, lw5⟩
    · cases hxx
      exact ⟨p8, _, _, _, rfl, sqS (e8 K) s9, rfl, hx.same s29, hv4.same s49, lw0, lw5⟩
    · simp at hxx
  have w9 := w2.same s29
  refine lc_all (K := K) (walk_tup (xs := [V.ref p5, .ref p6, .ref p7, .ref p8])) fD (by have := sz1000; simp; omega) (fun i v H' => ∀ n, rectC[i]? = some n → Pn K H' v n) (fun i v H H' _ tk h n e => (h n e).tk tk) (fun H' sh => sqS (e9 K) sh) ?_ ?_
  · rintro i x Ha Hb N Mx hi sh ⟨rfl, hxx⟩ hN
    obtain ⟨t, a, b, n, rfl, h1, h2, h3, h4, h5, h6⟩ := it i x hxx
    have h1' := sqS h1 sh
    walk_at "go"
    refine ⟨{ wa with o := o2 }, _, n.1, n.2, rfl, w9.same sh, h3.same sh, h4.same sh, h5, h6, fun v Hc sc hv => ?_⟩
    refine hN _ _ sc fun n' e => ?_
    rw [h2] at e
    cases e
    exact hv
  · intro Hc acc sh ea la ra
    have w10 := w9.same sh
    obtain ⟨dx, r, sc, shv, sv, ms, ew⟩ := w10.w
    obtain ⟨ldx, m, vp, vw, vc, vf, el, hm, hp, hc⟩ := w10.l
    match acc, la with
    | [c0, c1, c2, c3], _ =>
    walk_at "go"
    refine r_ixL (seqL ea) at0 ?_
    walk_at "go"
    have hp' : PathAt K Hc vp [] := by
      have z := hp
      rw [hpe] at z
      exact z
    refine ⟨[], ((0, 1), (0, 1)), hp', ra 0 c0 rfl _ rfl, fun q l e => by simp at e, by decide, fun v10 H10 s10 hv10 => ?_⟩
    have ea10 := s10 _ _ ea
    walk_at "go"
    refine r_cutTail ea10 fun p11 H11 s11 f11 e11 => ?_
    refine ⟨p11, rfl, ⟨_, seqL e11⟩, ?_⟩
    have s1c := s10.trans s11
    have rk : ∀ (i : Nat) x, [c1, c2, c3][i]? = some x → ∃ n, rectC[i + 1]? = some n ∧ Pn K Hc x n := by
      intro i x hxx
      rcases i with _ | _ | _ | i
      · cases hxx
        exact ⟨_, rfl, ra 1 _ rfl _ rfl⟩
      · cases hxx
        exact ⟨_, rfl, ra 2 _ rfl _ rfl⟩
      · cases hxx
        exact ⟨_, rfl, ra 3 _ rfl _ rfl⟩
      · simp at hxx
    refine for_it (walk_list (xs := [c1, c2, c3])) (fun i σ H' => ∃ s2 s3 s4 s5 s6 s7 s8 v z, σ = [some (.ref M), some (.ref wa.w), s2, s3, s4, s5, s6, s7, s8, none, none, some v, z] ∧ Same H11 H' ∧ PathAt K H' v [(rectC.take (i + 1), false)]) ⟨_, _, _, _, _, _, _, _, _, rfl, Same.refl _, hv10.tk (Same.tk s11)⟩ (fun i σ H' _ ⟨_, _, _, _, _, _, _, _, _, _, sh2, _⟩ => sh2.seq (seqL e11)) ?_ ?_
    · rintro i x σ Ha Hb hi ⟨s2, s3, s4, s5, s6, s7, s8, v, z, rfl, sh2, hv⟩ ⟨rfl, hxx⟩
      obtain ⟨n, en, hn⟩ := rk i x hxx
      walk_at "go"
      refine ⟨[], rectC.take (i + 1), n, hv, hn.tk (Same.tk (s1c.trans sh2)), by decide, by rw [List.length_take]; simp [rectC]; omega, fun v2 H12 s12 hv12 => ?_⟩
      walk_at "go"
      refine ⟨_, _, _, _, _, _, _, _, _, rfl, sh2.trans s12, ?_⟩
      rw [List.take_succ, en]
      exact hv12
    · rintro σ H12 ⟨s2, s3, s4, s5, s6, s7, s8, v, z, rfl, sh2, hv⟩
      have sc12 := s1c.trans sh2
      have ew12 := sc12 _ _ ew
      have el12 := sc12 _ _ el
      walk_at "go"
      refine ⟨[], (rectC, false), hv, by decide, fun v13 H13 s13 hv13 => ?_⟩
      have sc13 := sc12.trans s13
      have ew13 := sc13 _ _ ew
      have el13 := sc13 _ _ el
      walk_at "go"
      refine r_sf (g_Look_path T) el13 ?_
      generalize g14 : upd _ _ _ = H14
      obtain ⟨w14, t14⟩ := path_set w10 sc13 hm hv13 hc g14
      walk_at "go"
      exact q { wa with o := o2 } _ rfl (t12.trans ((Stp.refl (s29.trans sh)).trans t14)) w14
end
section
local macro_rules | `(tactic| walk_at "fld") => `(tactic| (refine fkT (w := ?w) (K := ?K) (mg := ?mg) (A := ?A) ?t ?e ?h; (case t => assumption); (case e => exact rfl); (case h => first | with_reducible exact g_Look_matrix (by assumption) | with_reducible exact g_Look_path (by assumption) | with_reducible exact g_Look_ink (by assumption) | with_reducible exact g_Look_width (by assumption) | with_reducible exact g_Look_clips (by assumption) | with_reducible exact g_Look_font (by assumption) | with_reducible exact g_World_operands (by assumption) | with_reducible exact g_World_rooms (by assumption) | with_reducible exact g_World_scopes (by assumption) | with_reducible exact g_World_look (by assumption) | with_reducible exact g_World_kept (by assumption) | with_reducible exact g_World_sheets (by assumption) | with_reducible exact g_World_inkings (by assumption) | with_reducible exact g_World_saves (by assumption) | with_reducible exact g_World_many_saves (by assumption) | with_reducible exact g_Items_body (by assumption) | with_reducible exact g_Items_at (by assumption) | with_reducible exact g_Reader_text (by assumption) | with_reducible exact g_Reader_at (by assumption) | with_reducible exact g_Reader_row (by assumption) | with_reducible exact g_Reader_column (by assumption) | with_reducible exact g_Reader_deep (by assumption) | with_reducible exact g_Machine_wide (by assumption) | with_reducible exact g_Machine_high (by assumption) | with_reducible exact g_Machine_most (by assumption) | with_reducible exact g_Machine_world (by assumption) | with_reducible exact g_Machine_frames (by assumption) | with_reducible exact g_Machine_left (by assumption) | with_reducible exact g_Machine_told (by assumption) | with_reducible exact g_Machine_is_running (by assumption) | with_reducible exact g_Machine_ahead (by assumption) | with_reducible exact g_Machine_past (by assumption) | with_reducible exact g_Machine_later (by assumption))))
/-- as many steps as go by themselves -/
local macro_rules | `(tactic| walk_at "g1") => `(tactic| (first
  | with_reducible refine r_seq ?_ | with_reducible refine r_set ?_ | with_reducible refine r_asg ?_ | with_reducible refine r_sl ?_ | with_reducible refine r_np ?_ | with_reducible refine r_pt ?_ | with_reducible refine r_gn ?_ | with_reducible refine r_gc ?_ | with_reducible refine r_g0 ?_ | ((with_reducible refine r_gt (xs := ?xs) ?h ?g ?_); (case h => assumption); (case g => exact rfl)) | with_reducible refine r_ret ?_ | with_reducible refine r_if ?_ | with_reducible refine r_test ?_ | with_reducible refine r_B ?_ | with_reducible refine r_and ?_ | with_reducible refine r_or ?_ | with_reducible refine r_not ?_
  | with_reducible refine r_andV ?_ | with_reducible refine r_orV ?_ | with_reducible refine r_notV ?_ | with_reducible refine r_ifx ?_ | with_reducible refine r_op ?_ | with_reducible refine r_un ?_ | with_reducible refine r_U ?_ | with_reducible refine r_c ?_ | with_reducible refine r_I0 ?_ | with_reducible refine r_drop ?_ | with_reducible refine r_next ?_
  | ((with_reducible refine r_var (v := ?v) ?h ?_); (case h => exact rfl)) | with_reducible refine r_bl ?_ | with_reducible refine r_nil ?_ | with_reducible refine r_cons ?_ | with_reducible refine r_cb ?_ | with_reducible refine r_call ?_ | ((with_reducible refine r_gl (xs := ?xs) ?h ?g ?_); (case h => assumption); (case g => exact rfl)) | with_reducible refine r_sm1 ?_ | with_reducible refine r_sm2 ?_ | with_reducible refine r_sm3 ?_ | with_reducible refine r_ch ?_ | with_reducible refine r_bm ?_ | with_reducible refine r_bm0 ?_ | ((with_reducible refine r_ty (xs := ?xs) ?e ?_); (case e => assumption)) | with_reducible refine r_mkU ?_ | with_reducible refine r_mt0 ?_ | with_reducible refine r_yes ?_ | with_reducible refine iteT ?_ | with_reducible refine iteF ?_ | with_reducible refine r_spk ?_ | with_reducible refine r_sp1 ?_ | with_reducible refine r_sp2 ?_ | with_reducible refine r_sp3 ?_ | with_reducible refine r_sp4 ?_ | with_reducible refine r_sp5 ?_
  | with_reducible refine r_tup ?_ | with_reducible refine r_lst ?_ | with_reducible refine r_par ?_ | with_reducible refine r_par2 ?_ 
  | ((with_reducible refine r_eq ?h ?_); (case h => exact rfl)) | ((with_reducible refine r_ne ?h ?_); (case h => exact rfl))
  | ((with_reducible refine r_ixT (xs := ?xs) (v := ?v) ?h ?g ?_); (case h => assumption); (case g => first | exact at0 | exact at1))
  | ((with_reducible refine r_fl (i := ?i) (nm := ?nm) (C := ?C) (dx := ?dx) (vs := ?vs) (v := ?v) ?ok ?e ?hv ?_); (case e => assumption); (case ok => walk_at "fld"); (case hv => rfl)) | with_reducible refine r_for ?_ | with_reducible refine r_il ?_ | with_reducible refine r_it ?_ | with_reducible refine r_iz ?_ | with_reducible refine r_ir1 ?_ | with_reducible refine r_ir2 ?_ | with_reducible refine r_lc ?_ | with_reducible refine r_sFld ?_ | with_reducible refine r_ck ?_ | with_reducible refine r_fld ?_ | with_reducible refine ⟨_, rfl, ?_⟩ | with_reducible refine ⟨_, _, rfl, .inr (by with_unfolding_all assumption), ?_⟩ | with_reducible refine ⟨_, _, rfl, .inl (seqL (by assumption)), ?_⟩ | with_reducible refine ⟨_, _, rfl, rfl, ?_⟩ | with_reducible refine ⟨_, _, rfl, ?_⟩ | with_reducible refine ⟨rfl, ?_⟩ | with_reducible refine r_sz ?_))
local macro_rules | `(tactic| walk_at "go") => `(tactic| (repeat walk_at "g1"))
variable {P : Program} {w : World} {K : PySem.W.Frag} {mg : Str → Option Value} {A : Ad} {base : Heap}
/-! operator, do_operator, do_item. -/
theorem calUp {k k' : Nat} {x : Str} {sp : Sp} {dvs : List V} (c : Cal P w K mg base k x sp dvs) (h : k ≤ k') : Cal P w K mg base k' x sp dvs := by
  obtain ⟨f, fd, ps, ds, F, r⟩ := c.ex
  exact ⟨f, fd, ps, ds, F.mono h, r⟩
/-- what an operator of the law's programs does -/
inductive OpS : Str → Ws → Ws → Prop
  | newpath {W W' : Ws} : rNewpath W W' → OpS "newpath" W W'
  | moveto {W W' : Ws} : rMoveto W W' → OpS "moveto" W W'
  | lineto {W W' : Ws} : rLineto W W' → OpS "lineto" W W'
  | closepath {W W' : Ws} : rClose W W' → OpS "closepath" W W'
  | rect {W W' : Ws} : rRect W W' → OpS "rect" W W'
  | setink {W W' : Ws} : rSetink W W' → OpS "setink" W W'
  | fill {W W' : Ws} : rFill false W W' → OpS "fill" W W'
  | eofill {W W' : Ws} : rFill true W W' → OpS "eofill" W W'
  | clip {W W' : Ws} : rClip false W W' → OpS "clip" W W'
  | eoclip {W W' : Ws} : rClip true W W' → OpS "eoclip" W W'
  | initclip {W W' : Ws} : rInitclip W W' → OpS "initclip" W W'
  | gsave {W W' : Ws} : rGsave W W' → OpS "gsave" W W'
  | grestore {W W' : Ws} : rGrestore W W' → OpS "grestore" W W'
  | erase {W W' : Ws} : rErase W W' → OpS "erase" W W'
theorem held_op (T : Tx w K mg A) {n : Str} {W W' : Ws} (h : OpS n W W') : ∃ p ∈ opTab, p.1 = n ∧ ∀ f, mg p.2 = some (.ref f) → ∃ R : Ws → Ws → Prop, R W W' ∧ Held P w K mg base 7 f (spOp K A R) := by
  cases h with
  | newpath h => exact ⟨("newpath", "do_newpath"), by simp [opTab], rfl, fun f e => ⟨_, h, heldOf (calUp (cal_do_newpath T) (by decide)) e⟩⟩
  | moveto h => exact ⟨("moveto", "do_moveto"), by simp [opTab], rfl, fun f e => ⟨_, h, heldOf (calUp (cal_do_moveto T) (by decide)) e⟩⟩
  | lineto h => exact ⟨("lineto", "do_lineto"), by simp [opTab], rfl, fun f e => ⟨_, h, heldOf (calUp (cal_do_lineto T) (by decide)) e⟩⟩
  | closepath h => exact ⟨("closepath", "do_closepath"), by simp [opTab], rfl, fun f e => ⟨_, h, heldOf (calUp (cal_do_closepath T) (by decide)) e⟩⟩
  | rect h => exact ⟨("rect", "do_rect"), by simp [opTab], rfl, fun f e => ⟨_, h, heldOf (calUp (cal_do_rect T) (by decide)) e⟩⟩
  | setink h => exact ⟨("setink", "do_setink"), by simp [opTab], rfl, fun f e => ⟨_, h, heldOf (calUp (cal_do_setink T) (by decide)) e⟩⟩
  | fill h => exact ⟨("fill", "do_fill"), by simp [opTab], rfl, fun f e => ⟨_, h, heldOf (calUp (cal_do_fill T) (by decide)) e⟩⟩
  | eofill h => exact ⟨("eofill", "do_eofill"), by simp [opTab], rfl, fun f e => ⟨_, h, heldOf (calUp (cal_do_eofill T) (by decide)) e⟩⟩
  | clip h => exact ⟨("clip", "do_clip"), by simp [opTab], rfl, fun f e => ⟨_, h, heldOf (calUp (cal_do_clip T) (by decide)) e⟩⟩
  | eoclip h => exact ⟨("eoclip", "do_eoclip"), by simp [opTab], rfl, fun f e => ⟨_, h, heldOf (calUp (cal_do_eoclip T) (by decide)) e⟩⟩
  | initclip h => exact ⟨("initclip", "do_initclip"), by simp [opTab], rfl, fun f e => ⟨_, h, heldOf (calUp (cal_do_initclip T) (by decide)) e⟩⟩
  | gsave h => exact ⟨("gsave", "do_gsave"), by simp [opTab], rfl, fun f e => ⟨_, h, heldOf (calUp (cal_do_gsave T) (by decide)) e⟩⟩
  | grestore h => exact ⟨("grestore", "do_grestore"), by simp [opTab], rfl, fun f e => ⟨_, h, heldOf (calUp (cal_do_grestore T) (by decide)) e⟩⟩
  | erase h => exact ⟨("erase", "do_erase"), by simp [opTab], rfl, fun f e => ⟨_, h, heldOf (calUp (cal_do_erase T) (by decide)) e⟩⟩
abbrev spOperator (mg : Str → Option Value) : Sp := Sp1 fun a H Q => ∃ p ∈ opTab, a = .str p.1 ∧ ∀ f, mg p.2 = some (.ref f) → Q (.ref f) H
theorem sc_operator : FnScope ["name"] ["name"] (defScope s_operator) := ⟨rfl, rfl, rfl, by decide +kernel, rfl, by decide +kernel, by decide +kernel⟩
theorem cal_operator (T : Tx w K mg A) : Cal P w K mg base 1 "operator" (spOperator mg) [] := by
  refine calOf T.f_operator sc_operator (fun _ _ _ _ _ _ us hl => match us, hl with | [_], _ => rfl) Sp1.len fun f cdv Ar outer s H vs Q E hr h => ?_
  obtain ⟨_, rfl, p, hp, rfl, q⟩ := h
  obtain ⟨d1, es1, n1, g1, D1, a1⟩ := T.t_stackops
  obtain ⟨d2, es2, n2, g2, D2, a2⟩ := T.t_sumops
  obtain ⟨d3, es3, n3, g3, D3, a3⟩ := T.t_flowops
  obtain ⟨d4, es4, n4, g4, D4, a4⟩ := T.t_drawops
  refine ⟨_, (pss_cons (ps_if (pt_cmpR (op_in_kd D1) (pv 0) (pe_gc (v := .ref d1) rfl ⟨_, g1, rfl⟩) rfl)
    pss_never
    pss_nil)
    (pss_cons (ps_if (pt_cmpR (op_in_kd D2) (pv 0) (pe_gc (v := .ref d2) rfl ⟨_, g2, rfl⟩) rfl)
    pss_never
    pss_nil)
    (pss_cons (ps_if (pt_cmpR (op_in_kd D3) (pv 0) (pe_gc (v := .ref d3) rfl ⟨_, g3, rfl⟩) rfl)
    pss_never
    pss_nil)
    (pss_one (ps_ret (pe_ifExp (pt_cmpR (op_in_kd D4) (pv 0) (pe_gc (v := .ref d4) rfl ⟨_, g4, rfl⟩) rfl) (pe_ix ix_kdict (pe_gc (v := .ref d4) rfl ⟨_, g4, rfl⟩) (pv 0) (fun _ _ => rfl)) pe_non)))))), ?_⟩
  obtain ⟨fa, b4, m4⟩ := a4 p hp
  walk_at "go"
  refine ⟨_, none, rfl, rfl, a1 p hp, ?_⟩
  walk_at "go"
  refine iteF ?_
  walk_at "go"
  refine ⟨_, none, rfl, rfl, a2 p hp, ?_⟩
  walk_at "go"
  refine iteF ?_
  walk_at "go"
  refine ⟨_, none, rfl, rfl, a3 p hp, ?_⟩
  walk_at "go"
  refine iteF ?_
  walk_at "go"
  refine ⟨_, _, rfl, rfl, b4, ?_⟩
  walk_at "go"
  refine iteT ?_
  walk_at "go"
  refine ⟨d4, p.1, .ref fa, rfl, rfl, ⟨es4, n4, _, D4.at_, D4.lit, b4, rfl⟩, ?_⟩
  exact q fa m4
/-- an item of a program -/
inductive Itm where
  | num (n : Num)
  | op (n : Str)
def ItmAt (K : PySem.W.Frag) (H : Hp) (v : V) : Itm → Prop
  | .num n => OpAt K H v n
  | .op n => ∃ a, v = .ref a ∧ SqT K H a [.str "do", .str n]
theorem ItmAt.tk {K : PySem.W.Frag} {H H' : Hp} {v : V} {i : Itm} (h : ItmAt K H v i) (e : Tk K H H') : ItmAt K H' v i := by
  cases i with
  | num n => exact OpAt.tk h e
  | op n =>
    obtain ⟨a, rfl, q⟩ := h
    exact ⟨a, rfl, e _ _ q⟩
inductive IStep : Itm → Ws → Ws → Prop
  | num {n : Num} {W : Ws} : W.ops.length < 999 → IStep (.num n) W { W with ops := W.ops ++ [n] }
  | op {n : Str} {W W' : Ws} : OpS n W W' → IStep (.op n) W W'
abbrev spDoOp (P : Program) (w : World) (K : PySem.W.Frag) (mg : Str → Option Value) (base : Heap) (A : Ad) : Sp := Sp3 fun m _ b H Q => ∃ M mdx v0 v1 v2 vr wa W W' f R, m = .ref M ∧ b = .ref f ∧ H M = some (.ins A.Machine mdx (mNm.zip (v0 :: v1 :: v2 :: .ref wa.w :: vr))) ∧ M ∉ wa.own ∧ WAt K A H wa W ∧
  Held P w K mg base 7 f (spOp K A R) ∧ R W W' ∧ ∀ wa' H', wa'.w = wa.w → Stp K H H' wa.own wa'.own → WAt K A H' wa' W' → Q .non H'
theorem sc_Machine_do_operator : FnScope ["self", "name", "found", "before", "e"] ["self", "name", "found"] (defScope s_Machine_do_operator) := ⟨rfl, rfl, rfl, by decide +kernel, rfl, by decide +kernel, by decide +kernel⟩
theorem met_Machine_do_operator (T : Tx w K mg A) : Met P w K mg base 8 A.Machine "do_operator" (spDoOp P w K mg base A) [] := by
  refine metOf T.c_Machine T.m_Machine_do_operator sc_Machine_do_operator (fun _ _ _ _ _ _ us hl => match us, hl with | [_, _, _], _ => rfl) Sp3.len fun f cdv Ar outer s H vs Q E hr h => ?_
  obtain ⟨_, nv, _, rfl, M, mdx, v0, v1, v2, vr, wa, W, W', fo, R, rfl, rfl, em, nm, hw, held, hR, q⟩ := h
  refine ⟨_, (pss_cons (ps_set (i := 3) sc_Machine_do_operator.nd rfl (.inl rfl) (pe_callTy call_list_of rfl T.n_list (by decide +kernel) (pa_cons (pe_fld (pe_fld (pv 0) rfl) rfl) pa_nil)))
    (pss_one (ps_try_thru0 (pss_one (ps_expr (pe_ch (k := 7) (i := 2) hr (by decide) rfl (.inl rfl) (pa_cons (pv 0) pa_nil))))))), ?_⟩
  obtain ⟨dx, r, sc, shv, sv, ms, ew⟩ := hw.w
  obtain ⟨xo, eo, po⟩ := hw.o
  walk_at "go"
  intro p1 f1
  generalize g1 : upd _ _ _ = H1
  have ⟨s1, e1⟩ := nw g1 f1
  walk_at "go"
  refine ⟨fo, spOp K A R, rfl, held, ?_⟩
  walk_at "go"
  refine ⟨_, rfl, M, mdx, v0, v1, v2, vr, wa, W, W', rfl, s1 _ _ em, nm, hw.same s1, hR, fun wa' H2 e2 t2 w2 => ?_⟩
  walk_at "go"
  exact q wa' H2 e2 ((Stp.refl s1).trans t2) w2
abbrev spDoItem (K : PySem.W.Frag) (A : Ad) : Sp := Sp2 fun m b H Q => ∃ M mdx v0 v1 v2 vr wa W W' it, m = .ref M ∧ ItmAt K H b it ∧ H M = some (.ins A.Machine mdx (mNm.zip (v0 :: v1 :: v2 :: .ref wa.w :: vr))) ∧ M ∉ wa.own ∧ WAt K A H wa W ∧
  IStep it W W' ∧ ∀ wa' H', wa'.w = wa.w → Stp K H H' wa.own wa'.own → WAt K A H' wa' W' → Q .non H'
theorem sc_Machine_do_item : FnScope ["self", "item", "kind", "what", "found", "value"] ["self", "item"] (defScope s_Machine_do_item) := ⟨rfl, rfl, rfl, by decide +kernel, rfl, by decide +kernel, by decide +kernel⟩
theorem met_Machine_do_item (T : Tx w K mg A) : Met P w K mg base 9 A.Machine "do_item" (spDoItem K A) [] := by
  refine metOf T.c_Machine T.m_Machine_do_item sc_Machine_do_item (fun _ _ _ _ _ _ us hl => match us, hl with | [_, _], _ => rfl) Sp2.len fun f cdv Ar outer s H vs Q E hr h => ?_
  obtain ⟨_, b, rfl, M, mdx, v0, v1, v2, vr, wa, W, W', it, rfl, hb, em, nm, hw, hS, q⟩ := h
  refine ⟨_, (pss_cons (ps_asg (pv 1) (pg_tup rfl (pgs_cons (pg_name (i := 2) sc_Machine_do_item.nd rfl (.inl rfl)) (pgs_cons (pg_name (i := 3) sc_Machine_do_item.nd rfl (.inl rfl)) pgs_nil))))
    (pss_cons (ps_if (pt_cmpR op_ne (pv 2) pe_str (nomark _))
    (pss_cons (ps_expr (pe_bm PySem.F.plainAttrs_list PySem.F.slot_list_append PySem.F.type_list_append mt_append (pe_fld (pe_fld (pv 0) rfl) rfl) (pa_cons (pv 1) pa_nil)))
    (pss_one (ps_ret pe_non)))
    pss_nil)
    (pss_cons (ps_set (i := 4) sc_Machine_do_item.nd rfl (.inl rfl) (pe_c (cal_operator T) hr (by decide) rfl (pa_cons (pv 3) pa_nil)))
    (pss_cons (ps_if (pt_cmpR op_notN (pv 4) pe_non (nomark _))
    (pss_cons (ps_expr (pe_mt (met_Machine_do_operator T) hr (by decide) (pv 0) (pa_cons (pv 3) (pa_cons (pv 4) pa_nil))))
    (pss_one (ps_ret pe_non)))
    pss_nil)
    pss_never)))), ?_⟩
  obtain ⟨dx, r, sc, shv, sv, ms, ew⟩ := hw.w
  obtain ⟨xo, eo, po⟩ := hw.o
  have lo := pLen po
  cases hS with
  | num hl =>
    rename_i n
    obtain ⟨a, x, rfl, ha, hx⟩ := hb
    walk_at "go"
    refine ndifT (by decide +kernel) ?_
    walk_at "go"
    refine r_app eo (by have := sz1000; omega) ?_
    generalize g1 : upd _ _ _ = H1
    obtain ⟨w1, t1⟩ := push_op hw eo ⟨a, x, rfl, ha, hx⟩ g1
    walk_at "go"
    exact q wa _ rfl t1 w1
  | op ho =>
    rename_i n
    obtain ⟨a, rfl, ha⟩ := hb
    obtain ⟨p, hp, rfl, hh⟩ := held_op (P := P) (w := w) (K := K) (base := base) (A := A) T ho
    walk_at "go"
    refine ndifF rfl ?_
    walk_at "go"
    refine ⟨p, hp, rfl, fun fa hf => ?_⟩
    obtain ⟨R, hR, held⟩ := hh fa hf
    walk_at "go"
    refine ndifT (by simp) ?_
    walk_at "go"
    refine r_mtI em (by decide +kernel) ?_
    walk_at "go"
    refine ⟨M, mdx, v0, v1, v2, vr, wa, W, W', fa, R, rfl, rfl, em, nm, hw, held, hR, fun wa' H' e2 t2 w2 => ?_⟩
    walk_at "go"
    exact q wa' H' e2 t2 w2
end
section
local macro_rules | `(tactic| walk_at "fld") => `(tactic| (refine fkT (w := ?w) (K := ?K) (mg := ?mg) (A := ?A) ?t ?e ?h; (case t => assumption); (case e => exact rfl); (case h => first | with_reducible exact g_Look_matrix (by assumption) | with_reducible exact g_Look_path (by assumption) | with_reducible exact g_Look_ink (by assumption) | with_reducible exact g_Look_width (by assumption) | with_reducible exact g_Look_clips (by assumption) | with_reducible exact g_Look_font (by assumption) | with_reducible exact g_World_operands (by assumption) | with_reducible exact g_World_rooms (by assumption) | with_reducible exact g_World_scopes (by assumption) | with_reducible exact g_World_look (by assumption) | with_reducible exact g_World_kept (by assumption) | with_reducible exact g_World_sheets (by assumption) | with_reducible exact g_World_inkings (by assumption) | with_reducible exact g_World_saves (by assumption) | with_reducible exact g_World_many_saves (by assumption) | with_reducible exact g_Items_body (by assumption) | with_reducible exact g_Items_at (by assumption) | with_reducible exact g_Reader_text (by assumption) | with_reducible exact g_Reader_at (by assumption) | with_reducible exact g_Reader_row (by assumption) | with_reducible exact g_Reader_column (by assumption) | with_reducible exact g_Reader_deep (by assumption) | with_reducible exact g_Machine_wide (by assumption) | with_reducible exact g_Machine_high (by assumption) | with_reducible exact g_Machine_most (by assumption) | with_reducible exact g_Machine_world (by assumption) | with_reducible exact g_Machine_frames (by assumption) | with_reducible exact g_Machine_left (by assumption) | with_reducible exact g_Machine_told (by assumption) | with_reducible exact g_Machine_is_running (by assumption) | with_reducible exact g_Machine_ahead (by assumption) | with_reducible exact g_Machine_past (by assumption) | with_reducible exact g_Machine_later (by assumption))))
/-- as many steps as go by themselves -/
local macro_rules | `(tactic| walk_at "g1") => `(tactic| (first
  | with_reducible refine r_seq ?_ | with_reducible refine r_set ?_ | with_reducible refine r_asg ?_ | with_reducible refine r_sl ?_ | with_reducible refine r_np ?_ | with_reducible refine r_pt ?_ | with_reducible refine r_gn ?_ | with_reducible refine r_gc ?_ | with_reducible refine r_g0 ?_ | ((with_reducible refine r_gt (xs := ?xs) ?h ?g ?_); (case h => assumption); (case g => exact rfl)) | with_reducible refine r_ret ?_ | with_reducible refine r_if ?_ | with_reducible refine r_test ?_ | with_reducible refine r_B ?_ | with_reducible refine r_and ?_ | with_reducible refine r_or ?_ | with_reducible refine r_not ?_
  | with_reducible refine r_andV ?_ | with_reducible refine r_orV ?_ | with_reducible refine r_notV ?_ | with_reducible refine r_ifx ?_ | with_reducible refine r_op ?_ | with_reducible refine r_un ?_ | with_reducible refine r_U ?_ | with_reducible refine r_c ?_ | with_reducible refine r_I0 ?_ | with_reducible refine r_drop ?_ | with_reducible refine r_next ?_
  | ((with_reducible refine r_var (v := ?v) ?h ?_); (case h => exact rfl)) | with_reducible refine r_bl ?_ | with_reducible refine r_nil ?_ | with_reducible refine r_cons ?_ | with_reducible refine r_cb ?_ | with_reducible refine r_call ?_ | ((with_reducible refine r_gl (xs := ?xs) ?h ?g ?_); (case h => assumption); (case g => exact rfl)) | with_reducible refine r_sm1 ?_ | with_reducible refine r_sm2 ?_ | with_reducible refine r_sm3 ?_ | with_reducible refine r_ch ?_ | with_reducible refine r_bm ?_ | with_reducible refine r_bm0 ?_ | ((with_reducible refine r_ty (xs := ?xs) ?e ?_); (case e => assumption)) | with_reducible refine r_mkU ?_ | with_reducible refine r_mt0 ?_ | with_reducible refine r_yes ?_ | with_reducible refine iteT ?_ | with_reducible refine iteF ?_ | with_reducible refine r_spk ?_ | with_reducible refine r_sp1 ?_ | with_reducible refine r_sp2 ?_ | with_reducible refine r_sp3 ?_ | with_reducible refine r_sp4 ?_ | with_reducible refine r_sp5 ?_
  | with_reducible refine r_tup ?_ | with_reducible refine r_lst ?_ | with_reducible refine r_par ?_ | with_reducible refine r_par2 ?_ 
  | ((with_reducible refine r_eq ?h ?_); (case h => exact rfl)) | ((with_reducible refine r_ne ?h ?_); (case h => exact rfl))
  | ((with_reducible refine r_ixT (xs := ?xs) (v := ?v) ?h ?g ?_); (case h => assumption); (case g => first | exact at0 | exact at1))
  | ((with_reducible refine r_fl (i := ?i) (nm := ?nm) (C := ?C) (dx := ?dx) (vs := ?vs) (v := ?v) ?ok ?e ?hv ?_); (case e => assumption); (case ok => walk_at "fld"); (case hv => rfl)) | with_reducible refine r_for ?_ | with_reducible refine r_il ?_ | with_reducible refine r_it ?_ | with_reducible refine r_iz ?_ | with_reducible refine r_ir1 ?_ | with_reducible refine r_ir2 ?_ | with_reducible refine r_lc ?_ | with_reducible refine r_sFld ?_ | with_reducible refine r_ck ?_ | with_reducible refine r_fld ?_ | with_reducible refine ⟨_, rfl, ?_⟩ | with_reducible refine ⟨_, _, rfl, .inr (by with_unfolding_all assumption), ?_⟩ | with_reducible refine ⟨_, _, rfl, .inl (seqL (by assumption)), ?_⟩ | with_reducible refine ⟨_, _, rfl, rfl, ?_⟩ | with_reducible refine ⟨_, _, rfl, ?_⟩ | with_reducible refine ⟨rfl, ?_⟩ | with_reducible refine r_sz ?_))
local macro_rules | `(tactic| walk_at "go") => `(tactic| (repeat walk_at "g1"))
variable {P : Program} {w : World} {K : PySem.W.Frag} {mg : Str → Option Value} {A : Ad} {base : Heap}
/-! The machine's state in a run: pay, Items, step, settle. -/
structure MA where
  M : Addr
  fr : Addr
  I : Addr
  past : Addr
  wa : Wa
def MA.own (a : MA) : List Addr := [a.M, a.fr, a.I, a.past] ++ a.wa.own
structure Ne4 (a : MA) : Prop where
  mf : a.M ≠ a.fr
  mi : a.M ≠ a.I
  mp : a.M ≠ a.past
  fi : a.fr ≠ a.I
  fp : a.fr ≠ a.past
  ip : a.I ≠ a.past
  m : a.M ∉ a.wa.own
  f : a.fr ∉ a.wa.own
  i : a.I ∉ a.wa.own
  p : a.past ∉ a.wa.own
structure RAt (K : PySem.W.Frag) (A : Ad) (H : Hp) (a : MA) (W : Ws) (its : List Itm) (n : Nat) (left : Int) (fin : Bool) : Prop where
  m : ∃ mdx ah la, H a.M = some (.ins A.Machine mdx (mNm.zip [.int 6, .int 5, .int 5000, .ref a.wa.w, .ref a.fr, .int left, .non, .bl true, ah, .ref a.past, la]))
  f : H a.fr = some (.lst (if fin then [] else [.ref a.I]))
  i : ∃ idx b xs, H a.I = some (.ins A.Items idx (iNm.zip [.ref b, .int n])) ∧ SqT K H b xs ∧ Paired (ItmAt K H) xs its
  p : ∃ xs, H a.past = some (.lst xs) ∧ xs.length < 999
  w : WAt K A H a.wa W
  ne : Ne4 a
theorem RAt.same {H H' : Hp} {a : MA} {W : Ws} {its : List Itm} {n : Nat} {left : Int} {fin : Bool} (h : RAt K A H a W its n left fin) (s : Same H H') : RAt K A H' a W its n left fin := by
  obtain ⟨⟨mdx, ah, la, h1⟩, h2, ⟨idx, b, xs, h3, h4, h5⟩, ⟨px, h6, h7⟩, h8, h9⟩ := h
  exact ⟨⟨mdx, ah, la, s _ _ h1⟩, s _ _ h2, ⟨idx, b, xs, s _ _ h3, sqS h4 s, pImp (fun _ _ z => z.tk (Same.tk s)) h5⟩, ⟨px, s _ _ h6, h7⟩, h8.same s, h9⟩
/-- the world has gone on -/
theorem r_world {H H' : Hp} {a : MA} {W W' : Ws} {its : List Itm} {n : Nat} {left : Int} {fin : Bool} {wa' : Wa} (h : RAt K A H a W its n left fin) (e : wa'.w = a.wa.w) (t : Stp K H H' a.wa.own wa'.own) (w : WAt K A H' wa' W') :
    RAt K A H' { a with wa := wa' } W' its n left fin ∧ Stp K H H' a.own ({ a with wa := wa' } : MA).own := by
  obtain ⟨⟨mdx, ah, la, h1⟩, h2, ⟨idx, b, xs, h3, h4, h5⟩, ⟨px, h6, h7⟩, h8, N⟩ := h
  have out : ∀ {c : Addr} {o : HO}, c ∉ a.wa.own → H c = some o → c ∉ wa'.own := fun {c o} n e m => by
    rcases t.own c m with z | z
    · exact n z
    · rw [e] at z
      cases z
  refine ⟨⟨⟨mdx, ah, la, ?_⟩, t.but _ _ N.f h2, ⟨idx, b, xs, t.but _ _ N.i h3, t.tk _ _ h4, pImp (fun _ _ z => z.tk t.tk) h5⟩, ⟨px, t.but _ _ N.p h6, h7⟩, w, ⟨N.mf, N.mi, N.mp, N.fi, N.fp, N.ip, out N.m h1, out N.f h2, out N.i h3, out N.p h6⟩⟩, ⟨fun c o m e => t.but c o (fun z => m (List.mem_append_right _ z)) e, fun c m => ?_, t.tk⟩⟩
  · rw [e]
    exact t.but _ _ N.m h1
  · rcases List.mem_append.mp m with z | z
    · exact .inl (List.mem_append_left _ z)
    · rcases t.own c z with q | q
      · exact .inl (List.mem_append_right _ q)
      · exact .inr q
/-- a store within the machine's own objects but the world's -/
theorem r_own {H H' : Hp} {a : MA} {p : Addr} {o o0 : HO} (hp : p ∈ [a.M, a.fr, a.I, a.past]) (e : H p = some o0) (n1 : ∀ xs, o0 ≠ .tup xs) (n2 : ∀ ob u, o0 ≠ .frz ob u) (g : upd H p o = H') : Stp K H H' a.own a.own :=
  ⟨fun b x n q => by
    rw [← g, upd_ne (fun z => n (by rw [z]; exact List.mem_append_left _ hp))]
    exact q, fun b m => .inl m, tk_at (Same.refl _) e n1 n2 g⟩
theorem set_left {H H' : Hp} {a : MA} {W : Ws} {its : List Itm} {n : Nat} {left left' : Int} {fin : Bool} {mdx : Addr} {ah la : V} (h : RAt K A H a W its n left fin)
    (em : H a.M = some (.ins A.Machine mdx (mNm.zip [.int 6, .int 5, .int 5000, .ref a.wa.w, .ref a.fr, .int left, .non, .bl true, ah, .ref a.past, la])))
    (g : upd H a.M (.ins A.Machine mdx (mNm.zip [.int 6, .int 5, .int 5000, .ref a.wa.w, .ref a.fr, .int left', .non, .bl true, ah, .ref a.past, la])) = H') : RAt K A H' a W its n left' fin ∧ Stp K H H' a.own a.own := by
  have t : Stp K H H' a.own a.own := r_own (by simp) em (fun _ z => nomatch z) (fun _ _ z => nomatch z) g
  obtain ⟨_, h2, ⟨idx, b, xs, h3, h4, h5⟩, ⟨px, h6, h7⟩, h8, N⟩ := h
  have kp : ∀ c o, c ≠ a.M → H c = some o → H' c = some o := fun c o n e => by
    rw [← g, upd_ne n]
    exact e
  exact ⟨⟨⟨mdx, ah, la, by rw [← g]; exact upd_same⟩, kp _ _ N.mf.symm h2, ⟨idx, b, xs, kp _ _ N.mi.symm h3, t.tk _ _ h4, pImp (fun _ _ z => z.tk t.tk) h5⟩, ⟨px, kp _ _ N.mp.symm h6, h7⟩, h8.keep t.tk fun c m o e => kp c o (fun z => N.m (z ▸ m)) e, N⟩, t⟩
theorem set_at {H H' : Hp} {a : MA} {W : Ws} {its : List Itm} {n n' : Nat} {left : Int} {fin : Bool} {idx b : Addr} {xs : List V} (h : RAt K A H a W its n left fin) (ei : H a.I = some (.ins A.Items idx (iNm.zip [.ref b, .int n]))) (hb : SqT K H b xs) (hx : Paired (ItmAt K H) xs its)
    (g : upd H a.I (.ins A.Items idx (iNm.zip [.ref b, .int n'])) = H') : RAt K A H' a W its n' left fin ∧ Stp K H H' a.own a.own := by
  have t : Stp K H H' a.own a.own := r_own (by simp) ei (fun _ z => nomatch z) (fun _ _ z => nomatch z) g
  obtain ⟨⟨mdx, ah, la, h1⟩, h2, _, ⟨px, h6, h7⟩, h8, N⟩ := h
  have kp : ∀ c o, c ≠ a.I → H c = some o → H' c = some o := fun c o n e => by
    rw [← g, upd_ne n]
    exact e
  exact ⟨⟨⟨mdx, ah, la, kp _ _ N.mi h1⟩, kp _ _ N.fi h2, ⟨idx, b, xs, by rw [← g]; exact upd_same, t.tk _ _ hb, pImp (fun _ _ z => z.tk t.tk) hx⟩, ⟨px, kp _ _ N.ip.symm h6, h7⟩, h8.keep t.tk fun c m o e => kp c o (fun z => N.i (z ▸ m)) e, N⟩, t⟩
theorem set_fin {H H' : Hp} {a : MA} {W : Ws} {its : List Itm} {n : Nat} {left : Int} {fin : Bool} (h : RAt K A H a W its n left fin) (g : upd H a.fr (.lst []) = H') : RAt K A H' a W its n left true ∧ Stp K H H' a.own a.own := by
  have t : Stp K H H' a.own a.own := r_own (by simp) h.f (fun _ z => nomatch z) (fun _ _ z => nomatch z) g
  obtain ⟨⟨mdx, ah, la, h1⟩, h2, ⟨idx, b, xs, h3, h4, h5⟩, ⟨px, h6, h7⟩, h8, N⟩ := h
  have kp : ∀ c o, c ≠ a.fr → H c = some o → H' c = some o := fun c o n e => by
    rw [← g, upd_ne n]
    exact e
  exact ⟨⟨⟨mdx, ah, la, kp _ _ N.mf h1⟩, by rw [← g]; exact upd_same, ⟨idx, b, xs, kp _ _ N.fi.symm h3, t.tk _ _ h4, pImp (fun _ _ z => z.tk t.tk) h5⟩, ⟨px, kp _ _ N.fp.symm h6, h7⟩, h8.keep t.tk fun c m o e => kp c o (fun z => N.f (z ▸ m)) e, N⟩, t⟩
theorem r_faS {K : PySem.W.Frag} {f : Str} {D : Ends} {σ : L2.St} {H : Hp} {n i : Nat} {p C dx : Addr} {nm : List Str} {vs : List V} {k j : Int} (ok : FldOk K f C nm i) (e : H p = some (.ins C dx (nm.zip vs))) (q : D.nx σ (upd H p (.ins C dx (nm.zip (vs.set i (.int (k - j)))))))
    (hv : vs[i]? = some (.int k) := by rfl) (hs : σ[n]? = some (some (.ref p)) := by rfl) (hl : nm.length < 1000 := by exact Nat.le_of_ble_eq_true rfl) (hi : i < vs.length := by exact Nat.le_of_ble_eq_true rfl) : sFldAug K (tVar n) (tC (.int j)) rSub f D σ H :=
  ⟨_, hs, p, C, dx, _, .int k, rfl, e, ok.c, ok.n, lk ok.nd ok.ix hv, k, j, rfl, rfl, dx, _, e, Nat.lt_of_le_of_lt (zlen nm vs) hl, by rw [pt _ ok.nd ok.ix hi]; exact q⟩
theorem r_faA {K : PySem.W.Frag} {f : Str} {D : Ends} {σ : L2.St} {H : Hp} {n i : Nat} {p C dx : Addr} {nm : List Str} {vs : List V} {k j : Int} (ok : FldOk K f C nm i) (e : H p = some (.ins C dx (nm.zip vs))) (q : D.nx σ (upd H p (.ins C dx (nm.zip (vs.set i (.int (k + j)))))))
    (hv : vs[i]? = some (.int k) := by rfl) (hs : σ[n]? = some (some (.ref p)) := by rfl) (hl : nm.length < 1000 := by exact Nat.le_of_ble_eq_true rfl) (hi : i < vs.length := by exact Nat.le_of_ble_eq_true rfl) : sFldAug K (tVar n) (tC (.int j)) rAdd f D σ H :=
  ⟨_, hs, p, C, dx, _, .int k, rfl, e, ok.c, ok.n, lk ok.nd ok.ix hv, k, j, rfl, rfl, dx, _, e, Nat.lt_of_le_of_lt (zlen nm vs) hl, by rw [pt _ ok.nd ok.ix hi]; exact q⟩
abbrev spPay (K : PySem.W.Frag) (A : Ad) : Sp := Sp1 fun m H Q => ∃ a W its n left fin, m = .ref a.M ∧ RAt K A H a W its n left fin ∧ left ≠ 0 ∧ ∀ H', Stp K H H' a.own a.own → RAt K A H' a W its n (left - 1) fin → Q .non H'
theorem sc_Machine_pay : FnScope ["self"] ["self"] (defScope s_Machine_pay) := ⟨rfl, rfl, rfl, by decide +kernel, rfl, by decide +kernel, by decide +kernel⟩
theorem met_Machine_pay (T : Tx w K mg A) : Met P w K mg base 1 A.Machine "pay" (spPay K A) [] := by
  refine metOf T.c_Machine T.m_Machine_pay sc_Machine_pay (fun _ _ _ _ _ _ us hl => match us, hl with | [_], _ => rfl) Sp1.len fun f cdv Ar outer s H vs Q E hr h => ?_
  obtain ⟨_, rfl, a, W, its, n, left, fin, rfl, hR, h0, q⟩ := h
  refine ⟨_, (pss_cons (ps_if (pt_cmpR op_eq (pe_fld (pv 0) rfl) pe_int (nomark _))
    pss_never
    pss_nil)
    (pss_one (ps_fldaug (pv 0) pe_int in_sub))), ?_⟩
  obtain ⟨mdx, ah, la, em⟩ := hR.m
  walk_at "go"
  refine difF (by simpa using h0) ?_
  walk_at "go"
  refine r_faS (g_Machine_left T) em ?_
  generalize g1 : upd _ _ _ = H1
  obtain ⟨r1, t1⟩ := set_left hR em g1
  walk_at "go"
  exact q _ t1 r1
/-! Items -/
abbrev spItemsInit (A : Ad) : Sp := Sp2 fun a b H Q => ∃ x dx, a = .ref x ∧ H x = some (.ins A.Items dx []) ∧ ∀ H', Bu x H H' → H' x = some (.ins A.Items dx (iNm.zip [b, .int 0])) → Q .non H'
theorem sc_Items_init : FnScope ["self", "items"] ["self", "items"] (defScope s_Items_init) := ⟨rfl, rfl, rfl, by decide +kernel, rfl, by decide +kernel, by decide +kernel⟩
theorem mak_Items (T : Tx w K mg A) : Mak P w K mg base 1 "Items" A.Items (spItemsInit A) [] := by
  refine makOf T.gc_Items T.i_Items sc_Items_init (fun _ _ _ _ _ _ us hl => match us, hl with | [_, _], _ => rfl) Sp2.len fun f cdv Ar outer s H vs Q E hr h => ?_
  obtain ⟨_, b, rfl, x, dx, rfl, e, q⟩ := h
  refine ⟨_, (pss_cons (ps_fld (pv 0) (pv 1) rfl)
    (pss_one (ps_fld (pv 0) pe_int rfl))), ?_⟩
  walk_at "go"
  refine r_sn (nm := iNm) (vs := []) e (g_Items_body T) ?_
  generalize g1 : upd _ _ _ = H1
  have e1 := (nwI g1).1
  walk_at "go"
  refine r_sn (nm := iNm) e1 (g_Items_at T) ?_
  generalize g2 : upd _ _ _ = H2
  have e2 := (nwI g2).1
  walk_at "go"
  exact q H2 ((Bu.upd g1).trans (Bu.upd g2)) e2
abbrev spPays (K : PySem.W.Frag) (A : Ad) : Sp := Sp1 fun a H Q => ∃ (x idx b : Addr) (n : Int) (xs : List V), a = .ref x ∧ H x = some (.ins A.Items idx (iNm.zip [.ref b, .int n])) ∧ SqT K H b xs ∧ Q (.bl (decide (n < xs.length))) H
theorem sc_Items_pays : FnScope ["self"] ["self"] (defScope s_Items_pays) := ⟨rfl, rfl, rfl, by decide +kernel, rfl, by decide +kernel, by decide +kernel⟩
theorem met_Items_pays (T : Tx w K mg A) : Met P w K mg base 1 A.Items "pays" (spPays K A) [] := by
  refine metOf T.c_Items T.m_Items_pays sc_Items_pays (fun _ _ _ _ _ _ us hl => match us, hl with | [_], _ => rfl) Sp1.len fun f cdv Ar outer s H vs Q E hr h => ?_
  obtain ⟨_, rfl, x, idx, b, n, xs, rfl, e, hb, q⟩ := h
  refine ⟨_, (pss_one (ps_ret (pe_cmpR op_lt (pe_fld (pv 0) rfl) (pe_callB call_len_seq rfl T.n_len PySem.boot_len (pa_cons (pe_fld (pv 0) rfl) pa_nil)) (nomark _)))), ?_⟩
  walk_at "go"
  exact q
/-- one turn of a run -/
inductive Turn1 (its : List Itm) : Nat → Int → Ws → Bool → Nat → Int → Ws → Prop
  | fin {l : Int} {W : Ws} : Turn1 its its.length l W true its.length l W
  | go {n : Nat} {l : Int} {W W' : Ws} {it : Itm} : its[n]? = some it → IStep it W W' → l ≠ 0 → Turn1 its n l W false (n + 1) (l - 1) W'
abbrev TurnIn (K : PySem.W.Frag) (A : Ad) (a : MA) (H : Hp) (Q : VK) : Prop := ∃ W its n left fin n' left' W', RAt K A H a W its n left false ∧ Turn1 its n left W fin n' left' W' ∧
  ∀ wa' H', wa'.w = a.wa.w → Stp K H H' a.own ({ a with wa := wa' } : MA).own → RAt K A H' { a with wa := wa' } W' its n' left' fin → Q .non H'
abbrev spItemsStep (K : PySem.W.Frag) (A : Ad) : Sp := Sp2 fun x m H Q => ∃ a : MA, TurnIn K A a H Q ∧ x = .ref a.I ∧ m = .ref a.M
theorem sc_Items_step : FnScope ["self", "machine", "item"] ["self", "machine"] (defScope s_Items_step) := ⟨rfl, rfl, rfl, by decide +kernel, rfl, by decide +kernel, by decide +kernel⟩
theorem met_Items_step (T : Tx w K mg A) : Met P w K mg base 10 A.Items "step" (spItemsStep K A) [] := by
  refine metOf T.c_Items T.m_Items_step sc_Items_step (fun _ _ _ _ _ _ us hl => match us, hl with | [_, _], _ => rfl) Sp2.len fun f cdv Ar outer s H vs Q E hr h => ?_
  obtain ⟨_, _, rfl, a, ⟨W, its, n, left, fin, n', left', W', hR, hT, q⟩, rfl, rfl⟩ := h
  refine ⟨_, (pss_cons (ps_if (pt_not (pt_val (pe_mt0 (met_Items_pays T) hr (by decide) (pv 0))))
    (pss_cons (ps_expr (pe_bm0 PySem.F.plainAttrs_list PySem.F.slot_list_pop PySem.F.type_list_pop mt_pop (pe_fld (pv 1) rfl)))
    (pss_one (ps_ret pe_non)))
    pss_nil)
    (pss_cons (ps_expr (pe_mt0 (met_Machine_pay T) hr (by decide) (pv 1)))
    (pss_cons (ps_set (i := 2) sc_Items_step.nd rfl (.inl rfl) (pe_ix ix_tup (pe_fld (pv 0) rfl) (pe_fld (pv 0) rfl) (fun _ _ => rfl)))
    (pss_cons (ps_fldaug (pv 0) pe_int in_add)
    (pss_cons (ps_expr (pe_mt (met_Machine_do_item T) hr (by decide) (pv 1) (pa_cons (pv 2) pa_nil)))
    (pss_one (ps_ret pe_non))))))), ?_⟩
  obtain ⟨mdx, ah, la, em⟩ := hR.m
  obtain ⟨idx, b, xs, ei, hb, hx⟩ := hR.i
  have lx := pLen hx
  walk_at "go"
  refine r_mtI ei (by decide +kernel) ?_
  walk_at "go"
  refine ⟨a.I, idx, b, n, xs, rfl, ei, hb, ?_⟩
  walk_at "go"
  have ef : H a.fr = some (.lst ([] ++ [.ref a.I])) := hR.f
  cases hT with
  | fin =>
    refine ndifT (by omega) ?_
    walk_at "go"
    refine r_pop ef ?_
    generalize g1 : upd _ _ _ = H1
    obtain ⟨r1, t1⟩ := set_fin hR g1
    walk_at "go"
    exact q a.wa _ rfl t1 r1
  | go hi hS hl =>
    have hn : n < its.length := by
      rcases Nat.lt_or_ge n its.length with z | z
      · exact z
      · rw [List.getElem?_eq_none z] at hi
        cases hi
    refine ndifF (by omega) ?_
    walk_at "go"
    refine r_mtI em (by decide +kernel) ?_
    walk_at "go"
    refine ⟨a, W, its, n, left, false, rfl, hR, hl, fun H1 t1 r1 => ?_⟩
    obtain ⟨idx, b, xs, ei, hb, hx⟩ := r1.i
    obtain ⟨ia, hx1⟩ : ∃ ia, xs[n]? = some ia := by
      have lx := pLen hx
      exact ⟨xs[n]'(by omega), List.getElem?_eq_getElem _⟩
    have hit := pAt hx hx1 hi
    walk_at "go"
    refine r_ixT hb (atI_nat hx1) ?_
    walk_at "go"
    refine r_faA (g_Items_at T) ei ?_
    generalize g2 : upd _ _ _ = H2
    obtain ⟨r2, t2⟩ := set_at (n' := n + 1) r1 ei hb hx g2
    obtain ⟨mdx, ah, la, em⟩ := r2.m
    walk_at "go"
    refine r_mtI em (by decide +kernel) ?_
    walk_at "go"
    refine ⟨a.M, mdx, _, _, _, _, a.wa, W, W', _, rfl, hit.tk t2.tk, em, r2.ne.m, r2.w, hS, fun wa' H3 e3 t3 w3 => ?_⟩
    obtain ⟨r3, t3'⟩ := r_world r2 e3 t3 w3
    walk_at "go"
    exact q wa' H3 e3 (t1.trans (t2.trans t3')) r3
/-! Machine.step, settle -/
abbrev spMStep (K : PySem.W.Frag) (A : Ad) : Sp := Sp1 fun m H Q => ∃ a : MA, TurnIn K A a H Q ∧ m = .ref a.M
theorem sc_Machine_step : FnScope ["self", "e"] ["self"] (defScope s_Machine_step) := ⟨rfl, rfl, rfl, by decide +kernel, rfl, by decide +kernel, by decide +kernel⟩
theorem met_Machine_step (T : Tx w K mg A) : Met P w K mg base 11 A.Machine "step" (spMStep K A) [] := by
  refine metOf T.c_Machine T.m_Machine_step sc_Machine_step (fun _ _ _ _ _ _ us hl => match us, hl with | [_], _ => rfl) Sp1.len fun f cdv Ar outer s H vs Q E hr h => ?_
  obtain ⟨_, rfl, a, ⟨W, its, n, left, fin, n', left', W', hR, hT, q⟩, rfl⟩ := h
  refine ⟨_, (pss_one (ps_try_thru0 (pss_one (ps_expr (pe_mt (met_Items_step T) hr (by decide) (pe_ix ix_list (pe_fld (pv 0) rfl) (pe_un un_neg pe_int) (fun _ _ => rfl)) (pa_cons (pv 0) pa_nil)))))), ?_⟩
  obtain ⟨mdx, ah, la, em⟩ := hR.m
  obtain ⟨idx, b, xs, ei, hb, hx⟩ := hR.i
  have ef : H a.fr = some (.lst ([] ++ [.ref a.I])) := hR.f
  walk_at "go"
  refine r_ixL (seqL ef) (atI_last _ _) ?_
  refine r_mtI ei (by decide +kernel) ?_
  walk_at "go"
  refine ⟨a, ⟨W, its, n, left, fin, n', left', W', hR, hT, fun wa' H' e t r => ?_⟩, rfl, rfl⟩
  walk_at "go"
  exact q wa' H' e t r
abbrev spSettle (K : PySem.W.Frag) (A : Ad) : Sp := Sp1 fun m H Q => ∃ (a : MA) (W : Ws) (its : List Itm) (n : Nat) (left : Int), m = .ref a.M ∧ n ≤ its.length ∧ RAt K A H a W its n left false ∧
  ∀ wa' H', wa'.w = a.wa.w → Stp K H H' a.own ({ a with wa := wa' } : MA).own → RAt K A H' { a with wa := wa' } W its n left (decide (n = its.length)) → Q .non H'
theorem sc_Machine_settle : FnScope ["self"] ["self"] (defScope s_Machine_settle) := ⟨rfl, rfl, rfl, by decide +kernel, rfl, by decide +kernel, by decide +kernel⟩
theorem met_Machine_settle (T : Tx w K mg A) : Met P w K mg base 12 A.Machine "settle" (spSettle K A) [] := by
  refine metOf T.c_Machine T.m_Machine_settle sc_Machine_settle (fun _ _ _ _ _ _ us hl => match us, hl with | [_], _ => rfl) Sp1.len fun f cdv Ar outer s H vs Q E hr h => ?_
  obtain ⟨_, rfl, a, W, its, n, left, rfl, hn, hR, q⟩ := h
  refine ⟨_, (pss_one (ps_while PassesOwn.never (PW.pt (pw_and (pt_cmpR (op_neL hr.units0) (pe_fld (pv 0) rfl) (pe_lst pa_nil) (nomark _)) (pw_and1 (pt_not (pt_val (pe_mt0 (met_Items_pays T) hr (by decide) (pe_ix ix_list (pe_fld (pv 0) rfl) (pe_un un_neg pe_int) (fun _ _ => rfl))))))))
    (pss_one (ps_expr (pe_mt0 (met_Machine_step T) hr (by decide) (pv 0)))))), ?_⟩
  walk_at "go"
  refine r_wh ⟨fun m σ H' => σ = [some (.ref a.M)] ∧ ∃ wa' fin, m = (if fin then 0 else 1) ∧ wa'.w = a.wa.w ∧ Stp K H H' a.own ({ a with wa := wa' } : MA).own ∧ RAt K A H' { a with wa := wa' } W its n left fin ∧ (fin = true → n = its.length), ⟨_, rfl, a.wa, false, rfl, rfl, Stp.refl (Same.refl _), hR, fun z => by cases z⟩, ?_⟩
  rintro m σ H1 ⟨rfl, wa', fin, rfl, e1, t1, r1, hfin⟩
  obtain ⟨mdx, ah, la, em⟩ := r1.m
  obtain ⟨idx, b, xs, ei, hb, hx⟩ := r1.i
  have lx := pLen hx
  have ef := r1.f
  walk_at "go"
  intro p2 f2
  generalize g2 : upd _ _ _ = H2
  have ⟨s2, e2⟩ := nw g2 f2
  have ef2 := s2 _ _ ef
  have r2 := r1.same s2
  walk_at "go"
  refine ⟨_, p2, _, rfl, rfl, ef2, e2, ?_⟩
  walk_at "go"
  cases fin with
  | true =>
    refine ndifF rfl ?_
    walk_at "go"
    have := hfin rfl
    rw [decide_eq_true this] at q
    exact q wa' H2 e1 (t1.trans (Stp.refl s2)) r2
  | false =>
    refine ndifT (by simp) ?_
    have em2 := s2 _ _ em
    have ei2 := s2 _ _ ei
    have ef3 : H2 ({ a with wa := wa' } : MA).fr = some (.lst ([] ++ [.ref a.I])) := ef2
    walk_at "go"
    refine r_ixL (seqL ef3) (atI_last _ _) ?_
    refine r_mtI ei2 (by decide +kernel) ?_
    walk_at "go"
    refine ⟨a.I, idx, b, n, xs, rfl, ei2, sqS hb s2, ?_⟩
    walk_at "go"
    refine ite2 (fun hc => ?_) fun hc => ?_
    · have hn2 : n = its.length := by
        have : ¬ ((n : Int) < xs.length) := fun z => by
          rw [decide_eq_true z] at hc
          exact absurd hc (by decide)
        omega
      subst hn2
      refine ⟨fun σ' H' => σ' = [some (.ref a.M)] ∧ ∃ wa', Stp K H H' a.own ({ a with wa := wa' } : MA).own ∧ RAt K A H' { a with wa := wa' } W its its.length left true ∧ wa'.w = a.wa.w, ?_, ?_⟩
      · rintro σ' H' ⟨rfl, wa2, h2, h3, h1⟩
        exact ⟨0, by decide, rfl, wa2, true, rfl, h1, h2, h3, fun _ => rfl⟩
      walk_at "go"
      refine r_mtI em2 (by decide +kernel) ?_
      walk_at "go"
      refine ⟨{ a with wa := wa' }, ⟨W, its, its.length, left, true, its.length, left, W, r2, .fin, fun wa2 H3 e3 t3 r3 => ?_⟩, rfl⟩
      walk_at "go"
      exact ⟨wa2, t1.trans ((Stp.refl s2).trans t3), r3, e3.trans e1⟩
    · have hn2 : ¬ n = its.length := fun z => hc (by
        rw [decide_eq_false (show ¬ ((n : Int) < xs.length) by omega)]
        rfl)
      rw [decide_eq_false hn2] at q
      exact q wa' H2 e1 (t1.trans (Stp.refl s2)) r2
end
section
local macro_rules | `(tactic| walk_at "fld") => `(tactic| (refine fkT (w := ?w) (K := ?K) (mg := ?mg) (A := ?A) ?t ?e ?h; (case t => assumption); (case e => exact rfl); (case h => first | with_reducible exact g_Look_matrix (by assumption) | with_reducible exact g_Look_path (by assumption) | with_reducible exact g_Look_ink (by assumption) | with_reducible exact g_Look_width (by assumption) | with_reducible exact g_Look_clips (by assumption) | with_reducible exact g_Look_font (by assumption) | with_reducible exact g_World_operands (by assumption) | with_reducible exact g_World_rooms (by assumption) | with_reducible exact g_World_scopes (by assumption) | with_reducible exact g_World_look (by assumption) | with_reducible exact g_World_kept (by assumption) | with_reducible exact g_World_sheets (by assumption) | with_reducible exact g_World_inkings (by assumption) | with_reducible exact g_World_saves (by assumption) | with_reducible exact g_World_many_saves (by assumption) | with_reducible exact g_Items_body (by assumption) | with_reducible exact g_Items_at (by assumption) | with_reducible exact g_Reader_text (by assumption) | with_reducible exact g_Reader_at (by assumption) | with_reducible exact g_Reader_row (by assumption) | with_reducible exact g_Reader_column (by assumption) | with_reducible exact g_Reader_deep (by assumption) | with_reducible exact g_Machine_wide (by assumption) | with_reducible exact g_Machine_high (by assumption) | with_reducible exact g_Machine_most (by assumption) | with_reducible exact g_Machine_world (by assumption) | with_reducible exact g_Machine_frames (by assumption) | with_reducible exact g_Machine_left (by assumption) | with_reducible exact g_Machine_told (by assumption) | with_reducible exact g_Machine_is_running (by assumption) | with_reducible exact g_Machine_ahead (by assumption) | with_reducible exact g_Machine_past (by assumption) | with_reducible exact g_Machine_later (by assumption))))
/-- as many steps as go by themselves -/
local macro_rules | `(tactic| walk_at "g1") => `(tactic| (first
  | with_reducible refine r_seq ?_ | with_reducible refine r_set ?_ | with_reducible refine r_asg ?_ | with_reducible refine r_sl ?_ | with_reducible refine r_np ?_ | with_reducible refine r_pt ?_ | with_reducible refine r_gn ?_ | with_reducible refine r_gc ?_ | with_reducible refine r_g0 ?_ | ((with_reducible refine r_gt (xs := ?xs) ?h ?g ?_); (case h => assumption); (case g => exact rfl)) | with_reducible refine r_ret ?_ | with_reducible refine r_if ?_ | with_reducible refine r_test ?_ | with_reducible refine r_B ?_ | with_reducible refine r_and ?_ | with_reducible refine r_or ?_ | with_reducible refine r_not ?_
  | with_reducible refine r_andV ?_ | with_reducible refine r_orV ?_ | with_reducible refine r_notV ?_ | with_reducible refine r_ifx ?_ | with_reducible refine r_op ?_ | with_reducible refine r_un ?_ | with_reducible refine r_U ?_ | with_reducible refine r_c ?_ | with_reducible refine r_I0 ?_ | with_reducible refine r_drop ?_ | with_reducible refine r_next ?_
  | ((with_reducible refine r_var (v := ?v) ?h ?_); (case h => exact rfl)) | with_reducible refine r_bl ?_ | with_reducible refine r_nil ?_ | with_reducible refine r_cons ?_ | with_reducible refine r_cb ?_ | with_reducible refine r_call ?_ | ((with_reducible refine r_gl (xs := ?xs) ?h ?g ?_); (case h => assumption); (case g => exact rfl)) | with_reducible refine r_sm1 ?_ | with_reducible refine r_sm2 ?_ | with_reducible refine r_sm3 ?_ | with_reducible refine r_ch ?_ | with_reducible refine r_bm ?_ | with_reducible refine r_bm0 ?_ | ((with_reducible refine r_ty (xs := ?xs) ?e ?_); (case e => assumption)) | with_reducible refine r_mkU ?_ | with_reducible refine r_mt0 ?_ | with_reducible refine r_yes ?_ | with_reducible refine iteT ?_ | with_reducible refine iteF ?_ | with_reducible refine r_spk ?_ | with_reducible refine r_sp1 ?_ | with_reducible refine r_sp2 ?_ | with_reducible refine r_sp3 ?_ | with_reducible refine r_sp4 ?_ | with_reducible refine r_sp5 ?_
  | with_reducible refine r_tup ?_ | with_reducible refine r_lst ?_ | with_reducible refine r_par ?_ | with_reducible refine r_par2 ?_ 
  | ((with_reducible refine r_eq ?h ?_); (case h => exact rfl)) | ((with_reducible refine r_ne ?h ?_); (case h => exact rfl))
  | ((with_reducible refine r_ixT (xs := ?xs) (v := ?v) ?h ?g ?_); (case h => assumption); (case g => first | exact at0 | exact at1))
  | ((with_reducible refine r_fl (i := ?i) (nm := ?nm) (C := ?C) (dx := ?dx) (vs := ?vs) (v := ?v) ?ok ?e ?hv ?_); (case e => assumption); (case ok => walk_at "fld"); (case hv => rfl)) | with_reducible refine r_for ?_ | with_reducible refine r_il ?_ | with_reducible refine r_it ?_ | with_reducible refine r_iz ?_ | with_reducible refine r_ir1 ?_ | with_reducible refine r_ir2 ?_ | with_reducible refine r_lc ?_ | with_reducible refine r_sFld ?_ | with_reducible refine r_ck ?_ | with_reducible refine r_fld ?_ | with_reducible refine ⟨_, rfl, ?_⟩ | with_reducible refine ⟨_, _, rfl, .inr (by with_unfolding_all assumption), ?_⟩ | with_reducible refine ⟨_, _, rfl, .inl (seqL (by assumption)), ?_⟩ | with_reducible refine ⟨_, _, rfl, rfl, ?_⟩ | with_reducible refine ⟨_, _, rfl, ?_⟩ | with_reducible refine ⟨rfl, ?_⟩ | with_reducible refine r_sz ?_))
local macro_rules | `(tactic| walk_at "go") => `(tactic| (repeat walk_at "g1"))
variable {P : Program} {w : World} {K : PySem.W.Frag} {mg : Str → Option Value} {A : Ad} {base : Heap}
/-! is_whole, need_steps, go. -/
theorem op_eqL {X : Cx} (hu : X.A.units < cLine) : OpR X (compareOp .Eq) (fun x y H Q => ∃ a b xs, x = .ref a ∧ y = .ref b ∧ H a = some (.lst xs) ∧ H b = some (.lst []) ∧ Q (.bl (decide (xs = []))) H) := by
  intro pins s σ H x y v u Q I rx ry h
  obtain ⟨a, b, xs, rfl, rfl, ha, hb, q⟩ := h
  cases rx
  cases ry
  obtain ⟨its, rv, pl, _⟩ := I.list (seqL ha)
  obtain ⟨its2, rv2, pl2, _⟩ := I.list (seqL hb)
  cases rv2
  have fin : ∀ k, k = (decide (xs = [])) → EP X pins σ Q (.bool k) s := fun k e => by
    subst e
    exact ⟨.bl _, H, I, rfl, q⟩
  cases rv with
  | nil => exact SeqAt.RcAt.lists (e := fun _ => true) pl.isList pl2.isList rfl hu (fun j h1 => by simp at h1) _ _ _ _ (fin _ (by simp))
  | cons _ _ => exact SeqAt.RcAt.lists_lengths pl.isList pl2.isList (by simp) hu _ _ _ _ (fin _ (by simp))
theorem sc_is_whole : FnScope ["thing"] ["thing"] (defScope s_is_whole) := ⟨rfl, rfl, rfl, by decide +kernel, rfl, by decide +kernel, by decide +kernel⟩
abbrev spIsWhole : Sp := Sp1 fun a H Q => ∃ i : Int, a = .int i ∧ Q (.bl true) H
theorem cal_is_whole (T : Tx w K mg A) : Cal P w K mg base 1 "is_whole" spIsWhole [] := by
  refine calOf T.f_is_whole sc_is_whole (fun _ _ _ _ _ _ us hl => match us, hl with | [_], _ => rfl) Sp1.len fun f cdv Ar outer s H vs Q E hr h => ?_
  obtain ⟨_, rfl, i, rfl, q⟩ := h
  refine ⟨_, (pss_one (ps_ret (pe_and (pe_callB call_isi rfl T.n_isinstance (by decide +kernel) (pa_cons (pv 0) (pa_cons (pe_bltn (v := .ty "int") rfl T.n_int (by decide +kernel) rfl) pa_nil))) (pe_one (pe_not (pe_callB call_isi rfl T.n_isinstance (by decide +kernel) (pa_cons (pv 0) (pa_cons (pe_bltn (v := .ty "bool") rfl T.n_bool (by decide +kernel) rfl) pa_nil)))))))), ?_⟩
  walk_at "go"
  refine ⟨_, _, .type "int", .type "int", true, rfl, .ty "int", .base (.int i), rfl, ?_⟩
  walk_at "go"
  refine ⟨_, _, .type "int", .type "bool", false, rfl, .ty "bool", .base (.int i), rfl, ?_⟩
  walk_at "go"
  exact q
theorem sc_need_steps : FnScope ["steps"] ["steps"] (defScope s_need_steps) := ⟨rfl, rfl, rfl, by decide +kernel, rfl, by decide +kernel, by decide +kernel⟩
abbrev spNeedSteps : Sp := Sp1 fun a H Q => ∃ i : Int, a = .int i ∧ 1 ≤ i ∧ i ≤ 20000 ∧ Q .non H
theorem cal_need_steps (T : Tx w K mg A) : Cal P w K mg base 2 "need_steps" spNeedSteps [] := by
  refine calOf T.f_need_steps sc_need_steps (fun _ _ _ _ _ _ us hl => match us, hl with | [_], _ => rfl) Sp1.len fun f cdv Ar outer s H vs Q E hr h => ?_
  obtain ⟨_, rfl, i, rfl, h1, h2, q⟩ := h
  refine ⟨_, (pss_one (ps_if (PW.pt (pw_or (pt_not (pt_val (pe_c (cal_is_whole T) hr (by decide) rfl (pa_cons (pv 0) pa_nil)))) (pw_or1 (pt_not (pt_chain op_le op_le pe_int (pv 0) (pe_gc rfl T.v_MOST_STEPS))))))
    pss_never
    pss_nil)), ?_⟩
  walk_at "go"
  refine iteF ?_
  walk_at "go"
  refine difT h1 ?_
  walk_at "go"
  rw [decide_eq_true h2]
  refine iteF ?_
  exact q
theorem kpU {H H' : Hp} {p : Addr} {o : HO} {l : List Addr} (g : upd H p o = H') (n : p ∉ l) : ∀ c ∈ l, ∀ x, H c = some x → H' c = some x := fun c m x e => by
  have ne : c ≠ p := fun z => n (by rw [← z]; exact m)
  rw [← g, upd_ne ne]
  exact e
inductive Runs : List Itm → Ws → Ws → Prop
  | nil {W : Ws} : Runs [] W W
  | cons {it : Itm} {its : List Itm} {W W1 W' : Ws} : IStep it W W1 → Runs its W1 W' → Runs (it :: its) W W'
theorem Runs.app {xs ys : List Itm} {W W1 W' : Ws} (h : Runs xs W W1) (h2 : Runs ys W1 W') : Runs (xs ++ ys) W W' := by
  induction h with
  | nil => exact h2
  | cons a b ih => exact .cons a (ih h2)
/-- a machine that has run to its end -/
structure DAt (K : PySem.W.Frag) (A : Ad) (H : Hp) (M : Addr) (wa : Wa) (W : Ws) : Prop where
  m : ∃ mdx fr left run ah past la, H M = some (.ins A.Machine mdx (mNm.zip [.int 6, .int 5, .int 5000, .ref wa.w, fr, left, .non, run, ah, past, la]))
  w : WAt K A H wa W
  n : M ∉ wa.own
abbrev spGo (K : PySem.W.Frag) (A : Ad) : Sp := Sp2 fun m b H Q => ∃ (a : MA) (W W' : Ws) (its : List Itm), m = .ref a.M ∧ b = .int 20000 ∧ RAt K A H a W its 0 5000 false ∧ its.length ≤ 5000 ∧ Runs its W W' ∧
  ∀ (wa' : Wa) H' o', Stp K H H' a.own o' → DAt K A H' a.M wa' W' → a.M ∈ o' → (∀ b ∈ wa'.own, b ∈ o') → Q (.bl true) H'
theorem sc_Machine_go : FnScope ["self", "many", "time"] ["self", "many"] (defScope s_Machine_go) := ⟨rfl, rfl, rfl, by decide +kernel, rfl, by decide +kernel, by decide +kernel⟩
/-- a method with defaults, called with all its arguments -/
theorem metOfD {C : Addr} {m qual : Str} {st : Stmt} {N ps : List Str} {k : Nat} {sp : Sp} {dvs : List V} (c : Cls K C) (G : MFnD K C m qual st dvs) (S : FnScope N ps (defScope st)) (hd : dvs ≠ [])
    (hb : ∀ (T : Addr) (kV doc pm : Value) (an : Option Addr) (cdv ct : Value) (us its : List Value), us.length = ps.length → its.length = dvs.length →
      ∃ k, bindArgs (PySem.W.fnOf m qual (defArgs st) (defBody st) (defScope st) (.ref T) kV doc pm an cdv ct) ⟨us, []⟩ = seqItems? (.ref T) >>= k ∧ k (some its.toArray) = pure (ps.zip (us ++ its.drop dvs.length)))
    (len : ∀ vs H Q E, sp vs H Q E → vs.length = ps.length) (hw : BodyF P w K mg base qual st N k sp) : Met P w K mg base (k + 1) C m sp [] := by
  obtain ⟨f, fd, me, F⟩ := G
  obtain ⟨ds, rv, bd⟩ := F.binds1 ps.length dvs.length hd (by omega) hb
  rw [List.drop_length] at rv
  exact ⟨f, fd, ps, ds, c, me, F.ok S len fun cdv A outer s H vs Q E hr h => by
    obtain ⟨t, a, b⟩ := hw f cdv A outer s H vs Q E hr h
    exact ⟨t, a.nox, b⟩, bd, rv⟩
theorem met_Machine_go (T : Tx w K mg A) : Met P w K mg base 13 A.Machine "go" (spGo K A) [] := by
  refine metOfD T.c_Machine T.m_Machine_go sc_Machine_go (by intro h; cases h) (fun _ _ _ _ _ _ _ us its hl hi => match us, its, hl, hi with | [_, _], [_], _, _ => ⟨_, rfl, rfl⟩) Sp2.len fun f cdv Ar outer s H vs Q E hr h => ?_
  obtain ⟨_, _, rfl, a, W, W', its, rfl, rfl, hR, hlen, hrun, q⟩ := h
  refine ⟨_, (pss_cons (ps_if (pt_not (pt_val (pe_fld (pv 0) rfl)))
    pss_never
    pss_nil)
    (pss_cons (ps_expr (pe_c (cal_need_steps T) hr (by decide) rfl (pa_cons (pv 1) pa_nil)))
    (pss_cons (ps_expr (pe_mt0 (met_Machine_settle T) hr (by decide) (pv 0)))
    (pss_cons (ps_for PassesOwn.never rfl (pi_range1 rfl T.n_range (pa_cons (pv 1) pa_nil)) (pg_name (i := 2) sc_Machine_go.nd rfl (.inl rfl))
    (pss_cons (ps_if (pt_cmpR (op_eqL hr.units0) (pe_fld (pv 0) rfl) (pe_lst pa_nil) (nomark _))
    (pss_one ps_break)
    pss_nil)
    (pss_cons (ps_expr (pe_mt0 (met_Machine_step T) hr (by decide) (pv 0)))
    (pss_one (ps_expr (pe_mt0 (met_Machine_settle T) hr (by decide) (pv 0)))))))
    (pss_cons (ps_if (pt_cmpR (op_eqL hr.units0) (pe_fld (pv 0) rfl) (pe_lst pa_nil) (nomark _))
    (pss_cons (ps_expr (pe_bm PySem.F.plainAttrs_list PySem.F.slot_list_append PySem.F.type_list_append mt_append (pe_fld (pv 0) rfl) (pa_cons (pe_fld (pv 0) rfl) pa_nil)))
    (pss_cons (ps_fld (pv 0) (pe_lst pa_nil) rfl)
    (pss_one (ps_fld (pv 0) pe_bl rfl))))
    pss_nil)
    (pss_one (ps_ret (pe_not (pe_fld (pv 0) rfl))))))))), ?_⟩
  obtain ⟨mdx, ah, la, em⟩ := hR.m
  walk_at "go"
  refine iteF ?_
  walk_at "go"
  refine ⟨by decide, by decide, ?_⟩
  walk_at "go"
  refine r_mtI em (by decide +kernel) ?_
  walk_at "go"
  refine ⟨a, W, its, 0, 5000, rfl, Nat.zero_le _, hR, fun wa1 H1 e1 t1 r1 => ?_⟩
  walk_at "go"
  refine ⟨by decide, by decide, ?_⟩
  have rest : ∀ (t : Option V) (wa' : Wa) (H' : Hp), Stp K H H' a.own ({ a with wa := wa' } : MA).own → RAt K A H' { a with wa := wa' } W' its its.length (5000 - its.length) true →
      tSeq (tIfS (tTest (tOp (fun x y H Q => ∃ a b xs, x = .ref a ∧ y = .ref b ∧ H a = some (.lst xs) ∧ H b = some (.lst []) ∧ Q (.bl (decide (xs = []))) H) (tFld K (tVar 0) "frames") (tLst tNil)))
        (tSeq (tDrop (tBM K "list" rAppend (tFld K (tVar 0) "past") (tCons (tFld K (tVar 0) "ahead") tNil))) (tSeq (sFld K (tVar 0) (tLst tNil) "later") (sFld K (tVar 0) (tC (.bl false)) "is_running"))) tNext)
        (tRet (tNotV (tFld K (tVar 0) "is_running"))) { nx := fun _ H' => Q .non H', rt := Q } [some (.ref a.M), some (.int 20000), t] H' := by
    intro t wa' H2 t2 r2
    obtain ⟨mdx, ah, la, em⟩ := r2.m
    have ef := r2.f
    obtain ⟨px, ep, lp⟩ := r2.p
    walk_at "go"
    intro p3 f3
    generalize g3 : upd _ _ _ = H3
    have ⟨s3, e3⟩ := nw g3 f3
    have em3 := s3 _ _ em
    have r3 := r2.same s3
    have ep3 := s3 _ _ ep
    walk_at "go"
    refine ⟨_, p3, _, rfl, rfl, s3 _ _ ef, e3, ?_⟩
    walk_at "go"
    refine difT rfl ?_
    walk_at "go"
    refine r_app ep3 (by have := sz1000; omega) ?_
    generalize g4 : upd _ _ _ = H4
    have t4 : Stp K H3 H4 _ _ := r_own (a := { a with wa := wa' }) (by simp) ep3 (fun _ z => nomatch z) (fun _ _ z => nomatch z) g4
    have em4 := (show H4 a.M = H3 a.M by rw [← g4, upd_ne r2.ne.mp]).trans em3
    have w4 : WAt K A H4 wa' W' := r3.w.keep t4.tk (kpU g4 r2.ne.p)
    walk_at "go"
    intro p5 f5
    generalize g5 : upd _ _ _ = H5
    have ⟨s5, e5⟩ := nw g5 f5
    have em5 := s5 _ _ em4
    walk_at "go"
    refine r_sf (g_Machine_later T) em5 ?_
    generalize g6 : upd _ _ _ = H6
    have em6 := (nwI g6).1
    have t6 : Stp K H5 H6 _ _ := r_own (a := { a with wa := wa' }) (by simp) em5 (fun _ z => nomatch z) (fun _ _ z => nomatch z) g6
    have w6 : WAt K A H6 wa' W' := (w4.same s5).keep t6.tk (kpU g6 r2.ne.m)
    walk_at "go"
    refine r_sf (g_Machine_is_running T) em6 ?_
    generalize g7 : upd _ _ _ = H7
    have em7 := (nwI g7).1
    have t7 : Stp K H6 H7 _ _ := r_own (a := { a with wa := wa' }) (by simp) em6 (fun _ z => nomatch z) (fun _ _ z => nomatch z) g7
    have w7 : WAt K A H7 wa' W' := w6.keep t7.tk (kpU g7 r2.ne.m)
    walk_at "go"
    exact q wa' H7 _ (t2.trans ((Stp.refl s3).trans (t4.trans ((Stp.refl s5).trans (t6.trans t7))))) ⟨⟨_, _, _, _, _, _, _, em7⟩, w7, r2.ne.m⟩ (by simp [MA.own]) fun b m => List.mem_append_right _ m
  refine for_it walk_range (fun i σ H' => i ≤ its.length ∧ ∃ t wa' Wi, σ = [some (.ref a.M), some (.int 20000), t] ∧ wa'.w = a.wa.w ∧ Stp K H H' a.own ({ a with wa := wa' } : MA).own ∧ RAt K A H' { a with wa := wa' } Wi its i (5000 - i) (decide (i = its.length)) ∧ Runs (its.drop i) Wi W')
    ⟨Nat.zero_le _, none, wa1, W, rfl, e1, t1, (by rw [show (5000 : Int) - ((0 : Nat) : Int) = 5000 from rfl]; exact r1), hrun⟩ (fun _ _ _ _ _ => trivial) ?_ ?_
  · rintro i x σ H2 H2' hi ⟨hil, t, wa2, Wi, rfl, e2, t2, r2, hr2⟩ ⟨rfl, rfl⟩
    obtain ⟨mdx, ah, la, em⟩ := r2.m
    have ef := r2.f
    walk_at "go"
    intro p3 f3
    generalize g3 : upd _ _ _ = H3
    have ⟨s3, e3⟩ := nw g3 f3
    have em3 := s3 _ _ em
    have r3 := r2.same s3
    walk_at "go"
    refine ⟨_, p3, _, rfl, rfl, s3 _ _ ef, e3, ?_⟩
    walk_at "go"
    by_cases hd : i = its.length
    · rw [decide_eq_true hd] at r3 ⊢
      refine difT rfl ?_
      subst hd
      rw [List.drop_length] at hr2
      cases hr2
      exact rest _ wa2 H3 (t2.trans (Stp.refl s3)) r3
    · rw [decide_eq_false hd] at r3 ⊢
      refine difF (by simp) ?_
      have hlt : i < its.length := by omega
      rw [List.drop_eq_getElem_cons hlt] at hr2
      cases hr2 with | cons hS hrest => ?_
      walk_at "go"
      refine r_mtI em3 (by decide +kernel) ?_
      walk_at "go"
      refine ⟨{ a with wa := wa2 }, ⟨Wi, its, i, _, false, i + 1, _, _, r3, .go (List.getElem?_eq_getElem hlt) hS (by omega), fun wa4 H4 e4 t4 r4 => ?_⟩, rfl⟩
      obtain ⟨mdx, ah, la, em4⟩ := r4.m
      walk_at "go"
      refine r_mtI em4 (by decide +kernel) ?_
      walk_at "go"
      refine ⟨{ a with wa := wa4 }, _, its, i + 1, _, rfl, hlt, r4, fun wa5 H5 e5 t5 r5 => ?_⟩
      have e6 : (5000 - (i : Int) - 1) = 5000 - ((i + 1 : Nat) : Int) := by omega
      rw [e6] at r5
      exact ⟨hlt, _, wa5, _, rfl, e5.trans (e4.trans e2), t2.trans ((Stp.refl s3).trans (t4.trans t5)), r5, hrest⟩
  · rintro σ H2 ⟨hil, _⟩
    exact absurd hil (by show ¬ 20000 ≤ its.length; omega)
end
section
local macro_rules | `(tactic| walk_at "fld") => `(tactic| (refine fkT (w := ?w) (K := ?K) (mg := ?mg) (A := ?A) ?t ?e ?h; (case t => assumption); (case e => exact rfl); (case h => first | with_reducible exact g_Look_matrix (by assumption) | with_reducible exact g_Look_path (by assumption) | with_reducible exact g_Look_ink (by assumption) | with_reducible exact g_Look_width (by assumption) | with_reducible exact g_Look_clips (by assumption) | with_reducible exact g_Look_font (by assumption) | with_reducible exact g_World_operands (by assumption) | with_reducible exact g_World_rooms (by assumption) | with_reducible exact g_World_scopes (by assumption) | with_reducible exact g_World_look (by assumption) | with_reducible exact g_World_kept (by assumption) | with_reducible exact g_World_sheets (by assumption) | with_reducible exact g_World_inkings (by assumption) | with_reducible exact g_World_saves (by assumption) | with_reducible exact g_World_many_saves (by assumption) | with_reducible exact g_Items_body (by assumption) | with_reducible exact g_Items_at (by assumption) | with_reducible exact g_Reader_text (by assumption) | with_reducible exact g_Reader_at (by assumption) | with_reducible exact g_Reader_row (by assumption) | with_reducible exact g_Reader_column (by assumption) | with_reducible exact g_Reader_deep (by assumption) | with_reducible exact g_Machine_wide (by assumption) | with_reducible exact g_Machine_high (by assumption) | with_reducible exact g_Machine_most (by assumption) | with_reducible exact g_Machine_world (by assumption) | with_reducible exact g_Machine_frames (by assumption) | with_reducible exact g_Machine_left (by assumption) | with_reducible exact g_Machine_told (by assumption) | with_reducible exact g_Machine_is_running (by assumption) | with_reducible exact g_Machine_ahead (by assumption) | with_reducible exact g_Machine_past (by assumption) | with_reducible exact g_Machine_later (by assumption))))
/-- as many steps as go by themselves -/
local macro_rules | `(tactic| walk_at "g1") => `(tactic| (first
  | with_reducible refine r_seq ?_ | with_reducible refine r_set ?_ | with_reducible refine r_asg ?_ | with_reducible refine r_sl ?_ | with_reducible refine r_np ?_ | with_reducible refine r_pt ?_ | with_reducible refine r_gn ?_ | with_reducible refine r_gc ?_ | with_reducible refine r_g0 ?_ | ((with_reducible refine r_gt (xs := ?xs) ?h ?g ?_); (case h => assumption); (case g => exact rfl)) | with_reducible refine r_ret ?_ | with_reducible refine r_if ?_ | with_reducible refine r_test ?_ | with_reducible refine r_B ?_ | with_reducible refine r_and ?_ | with_reducible refine r_or ?_ | with_reducible refine r_not ?_
  | with_reducible refine r_andV ?_ | with_reducible refine r_orV ?_ | with_reducible refine r_notV ?_ | with_reducible refine r_ifx ?_ | with_reducible refine r_op ?_ | with_reducible refine r_un ?_ | with_reducible refine r_U ?_ | with_reducible refine r_c ?_ | with_reducible refine r_I0 ?_ | with_reducible refine r_drop ?_ | with_reducible refine r_next ?_
  | ((with_reducible refine r_var (v := ?v) ?h ?_); (case h => exact rfl)) | with_reducible refine r_bl ?_ | with_reducible refine r_nil ?_ | with_reducible refine r_cons ?_ | with_reducible refine r_cb ?_ | with_reducible refine r_call ?_ | ((with_reducible refine r_gl (xs := ?xs) ?h ?g ?_); (case h => assumption); (case g => exact rfl)) | with_reducible refine r_sm1 ?_ | with_reducible refine r_sm2 ?_ | with_reducible refine r_sm3 ?_ | with_reducible refine r_ch ?_ | with_reducible refine r_bm ?_ | with_reducible refine r_bm0 ?_ | ((with_reducible refine r_ty (xs := ?xs) ?e ?_); (case e => assumption)) | with_reducible refine r_mkU ?_ | with_reducible refine r_mt0 ?_ | with_reducible refine r_yes ?_ | with_reducible refine iteT ?_ | with_reducible refine iteF ?_ | with_reducible refine r_spk ?_ | with_reducible refine r_sp1 ?_ | with_reducible refine r_sp2 ?_ | with_reducible refine r_sp3 ?_ | with_reducible refine r_sp4 ?_ | with_reducible refine r_sp5 ?_
  | with_reducible refine r_tup ?_ | with_reducible refine r_lst ?_ | with_reducible refine r_par ?_ | with_reducible refine r_par2 ?_ 
  | ((with_reducible refine r_eq ?h ?_); (case h => exact rfl)) | ((with_reducible refine r_ne ?h ?_); (case h => exact rfl))
  | ((with_reducible refine r_ixT (xs := ?xs) (v := ?v) ?h ?g ?_); (case h => assumption); (case g => first | exact at0 | exact at1))
  | ((with_reducible refine r_fl (i := ?i) (nm := ?nm) (C := ?C) (dx := ?dx) (vs := ?vs) (v := ?v) ?ok ?e ?hv ?_); (case e => assumption); (case ok => walk_at "fld"); (case hv => rfl)) | with_reducible refine r_for ?_ | with_reducible refine r_il ?_ | with_reducible refine r_it ?_ | with_reducible refine r_iz ?_ | with_reducible refine r_ir1 ?_ | with_reducible refine r_ir2 ?_ | with_reducible refine r_lc ?_ | with_reducible refine r_sFld ?_ | with_reducible refine r_ck ?_ | with_reducible refine r_fld ?_ | with_reducible refine ⟨_, rfl, ?_⟩ | with_reducible refine ⟨_, _, rfl, .inr (by with_unfolding_all assumption), ?_⟩ | with_reducible refine ⟨_, _, rfl, .inl (seqL (by assumption)), ?_⟩ | with_reducible refine ⟨_, _, rfl, rfl, ?_⟩ | with_reducible refine ⟨_, _, rfl, ?_⟩ | with_reducible refine ⟨rfl, ?_⟩ | with_reducible refine r_sz ?_))
local macro_rules | `(tactic| walk_at "go") => `(tactic| (repeat walk_at "g1"))
variable {P : Program} {w : World} {K : PySem.W.Frag} {mg : Str → Option Value} {A : Ad} {base : Heap}
/-! World: __init__, twin. -/
theorem r_dk0 {σ : L2.St} {H : Hp} {Q : VK} (h : ∀ p, H p = none → Q (.ref p) (upd H p (.dK []))) : tDNewK σ H Q := h
theorem r_disp {trs : List (TE × TE)} {σ : L2.St} {H : Hp} {Q : VK} (h : ∀ p, H p = none → tPairs trs σ (upd H p (.dK [])) fun ps H2 => H2 p = some (.dK []) ∧ ∃ kvs : List (Key × V), ps = kvs.map (fun kv => (kV kv.1, kv.2)) ∧ kvs.length ≤ 15 ∧ Q (.ref p) (upd H2 p (.dK (mergeK [] kvs)))) : tDisp trs σ H Q := h
theorem r_p0 {σ : L2.St} {H : Hp} {Q : List (V × V) → Hp → Prop} (h : Q [] H) : tPairs [] σ H Q := by
  unfold tPairs
  exact h
theorem r_pp {tk tv : TE} {r : List (TE × TE)} {σ : L2.St} {H : Hp} {Q : List (V × V) → Hp → Prop} (h : tk σ H fun x H1 => tv σ H1 fun y H2 => tPairs r σ H2 fun ps H3 => Q ((x, y) :: ps) H3) : tPairs ((tk, tv) :: r) σ H Q := by
  unfold tPairs
  exact h
/-- a new world -/
structure FW (K : PySem.W.Frag) (A : Ad) (H : Hp) (a : Wa) : Prop where
  at_ : WAt K A H a ⟨[], ⟨[], 1, []⟩, [], []⟩
  ls : a.ls = []
  f : ∃ dx r r0 sc sh sv, H a.w = some (.ins A.World dx (wNm.zip [.ref a.o, .ref r, .ref sc, .ref a.l, .ref a.k, .ref sh, .ref a.ik, .ref sv, .int 0])) ∧ H a.o = some (.lst []) ∧ H a.ik = some (.lst []) ∧ H r = some (.dK [(.inl 0, .ref r0)]) ∧ H r0 = some (.dK []) ∧ H sc = some (.lst [.int 0]) ∧ H sh = some (.lst []) ∧ H sv = some (.lst [])
abbrev spWorldInit (K : PySem.W.Frag) (A : Ad) : Sp := Sp1 fun a H Q => ∃ x dx, a = .ref x ∧ H x = some (.ins A.World dx []) ∧ ∀ wa H', wa.w = x → Bu x H H' → FW K A H' wa → (∀ b ∈ wa.own, b = x ∨ H b = none) → Q .non H'
theorem sc_World_init : FnScope ["self"] ["self"] (defScope s_World_init) := ⟨rfl, rfl, rfl, by decide +kernel, rfl, by decide +kernel, by decide +kernel⟩
theorem mak_World (T : Tx w K mg A) : Mak P w K mg base 3 "World" A.World (spWorldInit K A) [] := by
  refine makOf T.gc_World T.i_World sc_World_init (fun _ _ _ _ _ _ us hl => match us, hl with | [_], _ => rfl) Sp1.len fun f cdv Ar outer s H vs Q E hr h => ?_
  obtain ⟨_, rfl, x, dx, rfl, e, q⟩ := h
  refine ⟨_, (pss_cons (ps_fld (pv 0) (pe_lst pa_nil) rfl)
    (pss_cons (ps_fld (pv 0) (pe_disp (pps_cons pe_int pe_dnewK pps_nil) (by rfl) (by rfl) (fun z => by cases z) (by decide)) rfl)
    (pss_cons (ps_fld (pv 0) (pe_lst (pa_cons pe_int pa_nil)) rfl)
    (pss_cons (ps_fld (pv 0) (pe_mk0 (mak_Look T) hr (by decide) rfl) rfl)
    (pss_cons (ps_fld (pv 0) (pe_lst pa_nil) rfl)
    (pss_cons (ps_fld (pv 0) (pe_lst pa_nil) rfl)
    (pss_cons (ps_fld (pv 0) (pe_lst pa_nil) rfl)
    (pss_cons (ps_fld (pv 0) (pe_lst pa_nil) rfl)
    (pss_one (ps_fld (pv 0) pe_int rfl)))))))))), ?_⟩
  walk_at "go"
  intro o f1
  generalize g1 : upd _ _ _ = H1
  have ⟨s1, no⟩ := nw g1 f1
  have b1 : Bu x H H1 := Bu.same s1
  have e1 := s1 _ _ e
  walk_at "go"
  refine r_sn (nm := wNm) (vs := []) e1 (g_World_operands T) ?_
  generalize g2 : upd _ _ _ = H2
  have b2 : Bu x H H2 := b1.trans (Bu.upd g2)
  have e2 := (nwI g2).1
  walk_at "go"
  refine r_disp ?_
  intro r fr
  refine r_pp ?_
  walk_at "go"
  refine r_dk0 ?_
  intro r0 fr0
  refine r_p0 ?_
  have n0 : r0 ≠ r := fun z => by rw [z, upd_same] at fr0; cases fr0
  refine ⟨by rw [upd_ne n0.symm, upd_same], [(.inl 0, .ref r0)], rfl, Nat.le_of_ble_eq_true rfl, ?_⟩
  generalize g3 : upd _ _ _ = H3
  have fr0' : H2 r0 = none := by rw [upd_ne n0] at fr0; exact fr0
  have s3 : Same H2 H3 := fun b o e => by
    rw [← g3, upd_ne (ne_of_none e fr), upd_ne (ne_of_none e fr0'), upd_ne (ne_of_none e fr)]
    exact e
  have nr : H3 r = some (.dK [(.inl 0, .ref r0)]) := by rw [← g3]; exact upd_same
  have nr0 : H3 r0 = some (.dK []) := by rw [← g3, upd_ne n0]; exact upd_same
  have b3 : Bu x H H3 := b2.trans (Bu.same s3)
  have e3 := s3 _ _ e2
  walk_at "go"
  refine r_sn (nm := wNm) e3 (g_World_rooms T) ?_
  generalize g4 : upd _ _ _ = H4
  have b4 : Bu x H H4 := b3.trans (Bu.upd g4)
  have e4 := (nwI g4).1
  walk_at "go"
  intro sc f5
  generalize g5 : upd _ _ _ = H5
  have ⟨s5, nsc⟩ := nw g5 f5
  have b5 : Bu x H H5 := (b4.trans (Bu.same s5))
  have e5 := s5 _ _ e4
  walk_at "go"
  refine r_sn (nm := wNm) e5 (g_World_scopes T) ?_
  generalize g6 : upd _ _ _ = H6
  have b6 : Bu x H H6 := b5.trans (Bu.upd g6)
  have e6 := (nwI g6).1
  walk_at "go"
  intro l ld fl fld nel
  generalize gl : upd _ _ _ = HL
  have ⟨sL, eL⟩ := nwM gl fl fld
  refine ⟨_, rfl, l, ld, rfl, eL, fun H7 bl hl => ⟨rfl, ?_⟩⟩
  have s7 : Same H6 H7 := Bu.new sL fl bl
  have b7 : Bu x H H7 := b6.trans (Bu.same s7)
  have e7 := s7 _ _ e6
  walk_at "go"
  refine r_sn (nm := wNm) e7 (g_World_look T) ?_
  generalize g8 : upd _ _ _ = H8
  have b8 : Bu x H H8 := b7.trans (Bu.upd g8)
  have e8 := (nwI g8).1
  walk_at "go"
  intro kk f9
  generalize g9 : upd _ _ _ = H9
  have ⟨s9, nkk⟩ := nw g9 f9
  have b9 : Bu x H H9 := (b8.trans (Bu.same s9))
  have e9 := s9 _ _ e8
  walk_at "go"
  refine r_sn (nm := wNm) e9 (g_World_kept T) ?_
  generalize g10 : upd _ _ _ = H10
  have b10 : Bu x H H10 := b9.trans (Bu.upd g10)
  have e10 := (nwI g10).1
  walk_at "go"
  intro sh f11
  generalize g11 : upd _ _ _ = H11
  have ⟨s11, nsh⟩ := nw g11 f11
  have b11 : Bu x H H11 := (b10.trans (Bu.same s11))
  have e11 := s11 _ _ e10
  walk_at "go"
  refine r_sn (nm := wNm) e11 (g_World_sheets T) ?_
  generalize g12 : upd _ _ _ = H12
  have b12 : Bu x H H12 := b11.trans (Bu.upd g12)
  have e12 := (nwI g12).1
  walk_at "go"
  intro ik f13
  generalize g13 : upd _ _ _ = H13
  have ⟨s13, nik⟩ := nw g13 f13
  have b13 : Bu x H H13 := (b12.trans (Bu.same s13))
  have e13 := s13 _ _ e12
  walk_at "go"
  refine r_sn (nm := wNm) e13 (g_World_inkings T) ?_
  generalize g14 : upd _ _ _ = H14
  have b14 : Bu x H H14 := b13.trans (Bu.upd g14)
  have e14 := (nwI g14).1
  walk_at "go"
  intro sv f15
  generalize g15 : upd _ _ _ = H15
  have ⟨s15, nsv⟩ := nw g15 f15
  have b15 : Bu x H H15 := (b14.trans (Bu.same s15))
  have e15 := s15 _ _ e14
  walk_at "go"
  refine r_sn (nm := wNm) e15 (g_World_saves T) ?_
  generalize g16 : upd _ _ _ = H16
  have b16 : Bu x H H16 := b15.trans (Bu.upd g16)
  have e16 := (nwI g16).1
  walk_at "go"
  refine r_sn (nm := wNm) e16 (g_World_many_saves T) ?_
  generalize g17 : upd _ _ _ = H17
  have b17 : Bu x H H17 := b16.trans (Bu.upd g17)
  have e17 := (nwI g17).1
  walk_at "go"
  have xo : x ≠ o := ne_of_none e f1
  have xr : x ≠ r := ne_of_none e2 fr
  have xr0 : x ≠ r0 := ne_of_none e2 fr0'
  have xsc : x ≠ sc := ne_of_none e4 f5
  have xl : x ≠ l := ne_of_none e6 fl
  have xkk : x ≠ kk := ne_of_none e8 f9
  have xsh : x ≠ sh := ne_of_none e10 f11
  have xik : x ≠ ik := ne_of_none e12 f13
  have xsv : x ≠ sv := ne_of_none e14 f15
  have lk7 : ∃ u, H7 l = some u := by
    obtain ⟨_, _, _, _, _, _, z, _⟩ := hl
    exact ⟨_, z⟩
  obtain ⟨ul, lk7⟩ := lk7
  have zo := (Bu.trans (Bu.upd g2) (Bu.trans (Bu.same s3) (Bu.trans (Bu.upd g4) (Bu.trans (Bu.same s5) (Bu.trans (Bu.upd g6) (Bu.trans (Bu.same s7) (Bu.trans (Bu.upd g8) (Bu.trans (Bu.same s9) (Bu.trans (Bu.upd g10) (Bu.trans (Bu.same s11) (Bu.trans (Bu.upd g12) (Bu.trans (Bu.same s13) (Bu.trans (Bu.upd g14) (Bu.trans (Bu.same s15) (Bu.trans (Bu.upd g16) (Bu.upd g17)))))))))))))))) o _ xo.symm no
  have zr := (Bu.trans (Bu.upd g4) (Bu.trans (Bu.same s5) (Bu.trans (Bu.upd g6) (Bu.trans (Bu.same s7) (Bu.trans (Bu.upd g8) (Bu.trans (Bu.same s9) (Bu.trans (Bu.upd g10) (Bu.trans (Bu.same s11) (Bu.trans (Bu.upd g12) (Bu.trans (Bu.same s13) (Bu.trans (Bu.upd g14) (Bu.trans (Bu.same s15) (Bu.trans (Bu.upd g16) (Bu.upd g17)))))))))))))) r _ xr.symm nr
  have zr0 := (Bu.trans (Bu.upd g4) (Bu.trans (Bu.same s5) (Bu.trans (Bu.upd g6) (Bu.trans (Bu.same s7) (Bu.trans (Bu.upd g8) (Bu.trans (Bu.same s9) (Bu.trans (Bu.upd g10) (Bu.trans (Bu.same s11) (Bu.trans (Bu.upd g12) (Bu.trans (Bu.same s13) (Bu.trans (Bu.upd g14) (Bu.trans (Bu.same s15) (Bu.trans (Bu.upd g16) (Bu.upd g17)))))))))))))) r0 _ xr0.symm nr0
  have zsc := (Bu.trans (Bu.upd g6) (Bu.trans (Bu.same s7) (Bu.trans (Bu.upd g8) (Bu.trans (Bu.same s9) (Bu.trans (Bu.upd g10) (Bu.trans (Bu.same s11) (Bu.trans (Bu.upd g12) (Bu.trans (Bu.same s13) (Bu.trans (Bu.upd g14) (Bu.trans (Bu.same s15) (Bu.trans (Bu.upd g16) (Bu.upd g17)))))))))))) sc _ xsc.symm nsc
  have zkk := (Bu.trans (Bu.upd g10) (Bu.trans (Bu.same s11) (Bu.trans (Bu.upd g12) (Bu.trans (Bu.same s13) (Bu.trans (Bu.upd g14) (Bu.trans (Bu.same s15) (Bu.trans (Bu.upd g16) (Bu.upd g17)))))))) kk _ xkk.symm nkk
  have zsh := (Bu.trans (Bu.upd g12) (Bu.trans (Bu.same s13) (Bu.trans (Bu.upd g14) (Bu.trans (Bu.same s15) (Bu.trans (Bu.upd g16) (Bu.upd g17)))))) sh _ xsh.symm nsh
  have zik := (Bu.trans (Bu.upd g14) (Bu.trans (Bu.same s15) (Bu.trans (Bu.upd g16) (Bu.upd g17)))) ik _ xik.symm nik
  have zsv := (Bu.trans (Bu.upd g16) (Bu.upd g17)) sv _ xsv.symm nsv
  have zl : LookAt K A H17 l ⟨[], 1, []⟩ := hl.tk (Bu.tk (Bu.trans (Bu.upd g8) (Bu.trans (Bu.same s9) (Bu.trans (Bu.upd g10) (Bu.trans (Bu.same s11) (Bu.trans (Bu.upd g12) (Bu.trans (Bu.same s13) (Bu.trans (Bu.upd g14) (Bu.trans (Bu.same s15) (Bu.trans (Bu.upd g16) (Bu.upd g17)))))))))) e7) fun u z => (Bu.trans (Bu.upd g8) (Bu.trans (Bu.same s9) (Bu.trans (Bu.upd g10) (Bu.trans (Bu.same s11) (Bu.trans (Bu.upd g12) (Bu.trans (Bu.same s13) (Bu.trans (Bu.upd g14) (Bu.trans (Bu.same s15) (Bu.trans (Bu.upd g16) (Bu.upd g17)))))))))) l u xl.symm z
  have qokk : o ≠ kk := ne_of_none ((Bu.trans (Bu.upd g2) (Bu.trans (Bu.same s3) (Bu.trans (Bu.upd g4) (Bu.trans (Bu.same s5) (Bu.trans (Bu.upd g6) (Bu.trans (Bu.same s7) (Bu.upd g8))))))) o _ xo.symm no) f9
  have qoik : o ≠ ik := ne_of_none ((Bu.trans (Bu.upd g2) (Bu.trans (Bu.same s3) (Bu.trans (Bu.upd g4) (Bu.trans (Bu.same s5) (Bu.trans (Bu.upd g6) (Bu.trans (Bu.same s7) (Bu.trans (Bu.upd g8) (Bu.trans (Bu.same s9) (Bu.trans (Bu.upd g10) (Bu.trans (Bu.same s11) (Bu.upd g12))))))))))) o _ xo.symm no) f13
  have qol : o ≠ l := ne_of_none ((Bu.trans (Bu.upd g2) (Bu.trans (Bu.same s3) (Bu.trans (Bu.upd g4) (Bu.trans (Bu.same s5) (Bu.upd g6))))) o _ xo.symm no) fl
  have qlkk : l ≠ kk := ne_of_none ((Bu.upd g8) l _ xl.symm lk7) f9
  have qlik : l ≠ ik := ne_of_none ((Bu.trans (Bu.upd g8) (Bu.trans (Bu.same s9) (Bu.trans (Bu.upd g10) (Bu.trans (Bu.same s11) (Bu.upd g12))))) l _ xl.symm lk7) f13
  have qkkik : kk ≠ ik := ne_of_none ((Bu.trans (Bu.upd g10) (Bu.trans (Bu.same s11) (Bu.upd g12))) kk _ xkk.symm nkk) f13
  have fr' : ∀ {q : Addr} {Hj : Hp}, Bu x H Hj → Hj q = none → q ≠ x → H q = none := fun {q Hj} b f n => by
    cases h : H q with
    | none => rfl
    | some u =>
      rw [b q u n h] at f
      cases f
  refine q ⟨x, o, kk, ik, l, []⟩ H17 rfl b17 ⟨⟨⟨dx, _, _, _, _, _, e17⟩, ⟨[], zo, .nil⟩, zkk, .nil, ⟨[], zik, .nil⟩, zl, ?_⟩, rfl, dx, r, r0, sc, sh, sv, e17, zo, zik, zr, zr0, zsc, zsh, zsv⟩ ?_
  · exact of_ne5 ⟨xo, xkk, xik, xl, qokk, qoik, qol, qkkik, qlkk.symm, qlik.symm, fun _ z => absurd z (by simp), fun _ z => absurd z (by simp), fun _ z => absurd z (by simp), fun _ z => absurd z (by simp), fun _ z => absurd z (by simp), by simp⟩
  · intro b hb
    have hb' : b = x ∨ b = o ∨ b = kk ∨ b = ik ∨ b = l := by simpa [Wa.own] using hb
    rcases hb' with rfl | rfl | rfl | rfl | rfl
    · exact .inl rfl
    · exact .inr f1
    · exact .inr (fr' b8 f9 xkk.symm)
    · exact .inr (fr' b12 f13 xik.symm)
    · exact .inr (fr' b6 fl xl.symm)
end
section
local macro_rules | `(tactic| walk_at "fld") => `(tactic| (refine fkT (w := ?w) (K := ?K) (mg := ?mg) (A := ?A) ?t ?e ?h; (case t => assumption); (case e => exact rfl); (case h => first | with_reducible exact g_Look_matrix (by assumption) | with_reducible exact g_Look_path (by assumption) | with_reducible exact g_Look_ink (by assumption) | with_reducible exact g_Look_width (by assumption) | with_reducible exact g_Look_clips (by assumption) | with_reducible exact g_Look_font (by assumption) | with_reducible exact g_World_operands (by assumption) | with_reducible exact g_World_rooms (by assumption) | with_reducible exact g_World_scopes (by assumption) | with_reducible exact g_World_look (by assumption) | with_reducible exact g_World_kept (by assumption) | with_reducible exact g_World_sheets (by assumption) | with_reducible exact g_World_inkings (by assumption) | with_reducible exact g_World_saves (by assumption) | with_reducible exact g_World_many_saves (by assumption) | with_reducible exact g_Items_body (by assumption) | with_reducible exact g_Items_at (by assumption) | with_reducible exact g_Reader_text (by assumption) | with_reducible exact g_Reader_at (by assumption) | with_reducible exact g_Reader_row (by assumption) | with_reducible exact g_Reader_column (by assumption) | with_reducible exact g_Reader_deep (by assumption) | with_reducible exact g_Machine_wide (by assumption) | with_reducible exact g_Machine_high (by assumption) | with_reducible exact g_Machine_most (by assumption) | with_reducible exact g_Machine_world (by assumption) | with_reducible exact g_Machine_frames (by assumption) | with_reducible exact g_Machine_left (by assumption) | with_reducible exact g_Machine_told (by assumption) | with_reducible exact g_Machine_is_running (by assumption) | with_reducible exact g_Machine_ahead (by assumption) | with_reducible exact g_Machine_past (by assumption) | with_reducible exact g_Machine_later (by assumption))))
/-- as many steps as go by themselves -/
local macro_rules | `(tactic| walk_at "g1") => `(tactic| (first
  | with_reducible refine r_seq ?_ | with_reducible refine r_set ?_ | with_reducible refine r_asg ?_ | with_reducible refine r_sl ?_ | with_reducible refine r_np ?_ | with_reducible refine r_pt ?_ | with_reducible refine r_gn ?_ | with_reducible refine r_gc ?_ | with_reducible refine r_g0 ?_ | ((with_reducible refine r_gt (xs := ?xs) ?h ?g ?_); (case h => assumption); (case g => exact rfl)) | with_reducible refine r_ret ?_ | with_reducible refine r_if ?_ | with_reducible refine r_test ?_ | with_reducible refine r_B ?_ | with_reducible refine r_and ?_ | with_reducible refine r_or ?_ | with_reducible refine r_not ?_
  | with_reducible refine r_andV ?_ | with_reducible refine r_orV ?_ | with_reducible refine r_notV ?_ | with_reducible refine r_ifx ?_ | with_reducible refine r_op ?_ | with_reducible refine r_un ?_ | with_reducible refine r_U ?_ | with_reducible refine r_c ?_ | with_reducible refine r_I0 ?_ | with_reducible refine r_drop ?_ | with_reducible refine r_next ?_
  | ((with_reducible refine r_var (v := ?v) ?h ?_); (case h => exact rfl)) | with_reducible refine r_bl ?_ | with_reducible refine r_nil ?_ | with_reducible refine r_cons ?_ | with_reducible refine r_cb ?_ | with_reducible refine r_call ?_ | ((with_reducible refine r_gl (xs := ?xs) ?h ?g ?_); (case h => assumption); (case g => exact rfl)) | with_reducible refine r_sm1 ?_ | with_reducible refine r_sm2 ?_ | with_reducible refine r_sm3 ?_ | with_reducible refine r_ch ?_ | with_reducible refine r_bm ?_ | with_reducible refine r_bm0 ?_ | ((with_reducible refine r_ty (xs := ?xs) ?e ?_); (case e => assumption)) | with_reducible refine r_mkU ?_ | with_reducible refine r_mt0 ?_ | with_reducible refine r_yes ?_ | with_reducible refine iteT ?_ | with_reducible refine iteF ?_ | with_reducible refine r_spk ?_ | with_reducible refine r_sp1 ?_ | with_reducible refine r_sp2 ?_ | with_reducible refine r_sp3 ?_ | with_reducible refine r_sp4 ?_ | with_reducible refine r_sp5 ?_
  | with_reducible refine r_tup ?_ | with_reducible refine r_lst ?_ | with_reducible refine r_par ?_ | with_reducible refine r_par2 ?_ 
  | ((with_reducible refine r_eq ?h ?_); (case h => exact rfl)) | ((with_reducible refine r_ne ?h ?_); (case h => exact rfl))
  | ((with_reducible refine r_ixT (xs := ?xs) (v := ?v) ?h ?g ?_); (case h => assumption); (case g => first | exact at0 | exact at1))
  | ((with_reducible refine r_fl (i := ?i) (nm := ?nm) (C := ?C) (dx := ?dx) (vs := ?vs) (v := ?v) ?ok ?e ?hv ?_); (case e => assumption); (case ok => walk_at "fld"); (case hv => rfl)) | with_reducible refine r_for ?_ | with_reducible refine r_il ?_ | with_reducible refine r_it ?_ | with_reducible refine r_iz ?_ | with_reducible refine r_ir1 ?_ | with_reducible refine r_ir2 ?_ | with_reducible refine r_lc ?_ | with_reducible refine r_sFld ?_ | with_reducible refine r_ck ?_ | with_reducible refine r_fld ?_ | with_reducible refine ⟨_, rfl, ?_⟩ | with_reducible refine ⟨_, _, rfl, .inr (by with_unfolding_all assumption), ?_⟩ | with_reducible refine ⟨_, _, rfl, .inl (seqL (by assumption)), ?_⟩ | with_reducible refine ⟨_, _, rfl, rfl, ?_⟩ | with_reducible refine ⟨_, _, rfl, ?_⟩ | with_reducible refine ⟨rfl, ?_⟩ | with_reducible refine r_sz ?_))
local macro_rules | `(tactic| walk_at "go") => `(tactic| (repeat walk_at "g1"))
variable {P : Program} {w : World} {K : PySem.W.Frag} {mg : Str → Option Value} {A : Ad} {base : Heap}
/-! copied, World.twin. -/
abbrev spCopied : Sp := Sp1 fun a H Q => ∃ r r0, a = .ref r ∧ H r = some (.dK [(.inl 0, .ref r0)]) ∧ H r0 = some (.dK []) ∧ ∀ v H', Same H H' → Q v H'
theorem sc_copied : FnScope ["rooms", "at", "room"] ["rooms"] (defScope s_copied) := ⟨rfl, rfl, rfl, by decide +kernel, rfl, by decide +kernel, by decide +kernel⟩
theorem cal_copied (T : Tx w K mg A) : Cal P w K mg base 1 "copied" spCopied [] := by
  refine calOf T.f_copied sc_copied (fun _ _ _ _ _ _ us hl => match us, hl with | [_], _ => rfl) Sp1.len fun f cdv Ar outer s H vs Q E hr h => ?_
  obtain ⟨_, rfl, r, r0, rfl, hr1, hr0, q⟩ := h
  refine ⟨_, (pss_one (ps_ret (pe_lock (pe_dc (own := [("at", 1), ("room", 2)]) (g := (gTup K 2 (gCons (gName 1) (gCons (gName 2) gNil)))) (tt := tYes) rfl sc_copied.nd (pi_items (pv 0)) (blkOk_by (N := ["rooms", "at", "room"]) (sc := defScope s_copied) (by decide +kernel)) (fun _ _ _ _ _ => (pg_tup rfl (pgs_cons (pg_name (i := 1) sc_copied.nd rfl (.inl rfl)) (pgs_cons (pg_name (i := 2) sc_copied.nd rfl (.inl rfl)) pgs_nil)))) (fun _ _ _ _ _ => pts_nil) (fun _ _ _ _ _ => (pv 1)) (fun _ _ _ _ _ => (pe_ifExp (pt_val (pe_callB (r := rIsi K) call_isi rfl T.n_isinstance (by decide +kernel) (pa_cons (pv 2) (pa_cons (pe_bltn (v := .ty "dict") rfl T.n_dict (by decide +kernel) rfl) pa_nil)))) (pe_callTy call_dictD rfl T.n_dict (by decide +kernel) (pa_cons (pv 2) pa_nil)) pe_no)))))), ?_⟩
  walk_at "go"
  refine ⟨r, _, hr1, trivial, fun od => ?_⟩
  generalize g0 : upd _ _ _ = H0
  have z0 : H0 r = some (.frz od (.dK [(.inl 0, .ref r0)])) := by rw [← g0]; exact upd_same
  have nr : r0 ≠ r := fun z => by
    rw [z, hr1] at hr0
    cases hr0
  have z1 : H0 r0 = some (.dK []) := by rw [← g0, upd_ne nr]; exact hr0
  have kp : ∀ {H'}, Same H0 H' → Same H (upd H' r (.dK [(.inl 0, .ref r0)])) := fun {H'} sh b o e => by
    by_cases n : b = r
    · subst n
      rw [hr1] at e
      cases e
      exact upd_same
    · rw [upd_ne n]
      refine sh b o ?_
      rw [← g0, upd_ne n]
      exact e
  refine ⟨_, rfl, r, od, _, rfl, z0, fun D fD => ?_⟩
  refine ⟨fun i m H' => m = 1 - i ∧ i ≤ 1 ∧ Same H0 H' ∧ ∃ kvs, H' D = some (.dK kvs) ∧ kvs.length ≤ i, ⟨1, rfl, Nat.zero_le _, same_new fD, [], upd_same, Nat.le_refl _⟩, ?_⟩
  rintro i m H1 ⟨rfl, hi, sh, kvs, eD, lk⟩
  rcases i with _ | i
  · refine .inr ⟨⟨sh _ _ z0, Nat.zero_lt_one⟩, fun H' => Same H0 H' ∧ ∃ kvs, H' D = some (.dK kvs) ∧ kvs.length ≤ 1, fun H' h => ⟨0, by decide, rfl, Nat.le_refl _, h⟩, ?_⟩
    rintro x H2 ⟨t, k, v, ek, rfl, ft, rfl⟩
    cases ek
    generalize g2 : upd _ _ _ = H2
    have ⟨s2, e2⟩ := nwT g2 ft
    refine r_gt (e2 K) rfl ?_
    have z2 := s2 _ _ (sh _ _ z1)
    walk_at "go"
    refine ⟨_, _, .type "dict", .type "dict", true, rfl, .ty "dict", .base (.dK z2), rfl, ?_⟩
    walk_at "go"
    refine ⟨r0, [], rfl, .inl z2, fun p f3 => ?_⟩
    generalize g3 : upd _ _ _ = H3
    have ⟨s3, e3⟩ := nw g3 f3
    refine ⟨kvs, .inl 0, rfl, s3 _ _ (s2 _ _ eD), by have := sz1000; omega, ?_, _, upd_same, ?_⟩
    · intro b o e
      have nb : b ≠ D := ne_of_none e fD
      rw [upd_ne nb]
      exact s3 _ _ (s2 _ _ (sh _ _ e))
    · have := length_putK kvs (.inl 0) (.ref p)
      omega
  · have e1 : i = 0 := by omega
    subst e1
    refine .inl ⟨⟨sh _ _ z0, Nat.le_refl _⟩, sh _ _ z0, ?_⟩
    exact q _ _ (kp sh)
theorem sameTr {x : Addr} {H H1 H2 : Hp} (s : Same H H1) (b : Bu x H1 H2) (f : H x = none) : Same H H2 := fun c o e => b c o (ne_of_none e f) (s c o e)
abbrev spWorldTwin (K : PySem.W.Frag) (A : Ad) : Sp := Sp1 fun a H Q => ∃ wa, FW K A H wa ∧ a = .ref wa.w ∧ ∀ v H', Same H H' → Q v H'
theorem sc_World_twin : FnScope ["self", "found", "look", "save"] ["self"] (defScope s_World_twin) := ⟨rfl, rfl, rfl, by decide +kernel, rfl, by decide +kernel, by decide +kernel⟩
theorem met_World_twin (T : Tx w K mg A) : Met P w K mg base 5 A.World "twin" (spWorldTwin K A) [] := by
  refine metOf T.c_World T.m_World_twin sc_World_twin (fun _ _ _ _ _ _ us hl => match us, hl with | [_], _ => rfl) Sp1.len fun f cdv Ar outer s H vs Q E hr h => ?_
  obtain ⟨_, rfl, wa, hF, rfl, q⟩ := h
  refine ⟨_, (pss_cons (ps_set (i := 1) sc_World_twin.nd rfl (.inl rfl) (pe_mk0 (mak_World T) hr (by decide) rfl))
    (pss_cons (ps_fld (pv 1) (pe_callTy call_list_of rfl T.n_list (by decide +kernel) (pa_cons (pe_fld (pv 0) rfl) pa_nil)) rfl)
    (pss_cons (ps_fld (pv 1) (pe_c (cal_copied T) hr (by decide) rfl (pa_cons (pe_fld (pv 0) rfl) pa_nil)) rfl)
    (pss_cons (ps_fld (pv 1) (pe_callTy call_list_of rfl T.n_list (by decide +kernel) (pa_cons (pe_fld (pv 0) rfl) pa_nil)) rfl)
    (pss_cons (ps_fld (pv 1) (pe_mt0 (met_Look_twin T) hr (by decide) (pe_fld (pv 0) rfl)) rfl)
    (pss_cons (ps_fld (pv 1) (pe_lc (own := [("look", 2)]) (g := (gName 2)) (tt := tYes) rfl sc_World_twin.nd (pi_list (pe_fld (pv 0) rfl)) (blkOk_by (N := ["self", "found", "look", "save"]) (sc := defScope s_World_twin) (by decide +kernel)) (fun _ _ _ _ _ => (pg_name (i := 2) sc_World_twin.nd rfl (.inl rfl))) (fun _ _ _ _ _ => pts_nil) (fun _ _ _ _ _ => (pe_mt0 (met_Look_twin T) hr (by decide) (pv 2)))) rfl)
    (pss_cons (ps_fld (pv 1) (pe_callTy call_list_of rfl T.n_list (by decide +kernel) (pa_cons (pe_fld (pv 0) rfl) pa_nil)) rfl)
    (pss_cons (ps_fld (pv 1) (pe_callTy call_list_of rfl T.n_list (by decide +kernel) (pa_cons (pe_fld (pv 0) rfl) pa_nil)) rfl)
    (pss_cons (ps_fld (pv 1) (pe_lc (own := [("save", 3)]) (g := (gName 3)) (tt := tYes) rfl sc_World_twin.nd (pi_list (pe_fld (pv 0) rfl)) (blkOk_by (N := ["self", "found", "look", "save"]) (sc := defScope s_World_twin) (by decide +kernel)) (fun _ _ _ _ _ => (pg_name (i := 3) sc_World_twin.nd rfl (.inl rfl))) (fun _ _ _ _ _ => pts_nil) (fun _ _ _ _ _ => pe_no)) rfl)
    (pss_cons (ps_fld (pv 1) (pe_fld (pv 0) rfl) rfl)
    (pss_one (ps_ret (pv 1))))))))))))), ?_⟩
  obtain ⟨dx, r, r0, sc, sh, sv, ew, eo, eik, er, er0, esc, esh, esv⟩ := hF.f
  have ek : H wa.k = some (.lst []) := by
    have z := hF.at_.k
    rw [hF.ls] at z
    exact z
  obtain ⟨ldx, lm, lvp, lvw, lvc, lvf, el, _⟩ := hF.at_.l
  walk_at "go"
  intro x xd fx fxd nex
  generalize g0 : upd (upd _ _ _) _ _ = H0
  have ⟨s0, e0⟩ := nwM g0 fx fxd
  refine ⟨_, rfl, x, xd, rfl, e0, fun wx H1 ewx b1 hx1 _ => ⟨rfl, ?_⟩⟩
  have s1 : Same H H1 := Bu.new s0 fx b1
  obtain ⟨dx1, r1, r01, sc1, sh1, sv1, e1, _⟩ := hx1.f
  rw [ewx] at e1
  have B1 : Bu x H1 H1 := Bu.refl _
  have nw' : wa.w ≠ x := ne_of_none ew fx
  have ew1 := s1 _ _ ew
  have W1 := s1
  have ec1 := W1 _ _ eo
  walk_at "go"
  intro p2 f2
  generalize g2 : upd _ _ _ = H2
  have ⟨s2, n2⟩ := nw g2 f2
  have B2 := B1.trans (Bu.same s2)
  have e2 := s2 _ _ e1
  walk_at "go"
  refine r_sf (g_World_operands T) e2 ?_
  generalize g3 : upd _ _ _ = H3
  have B3 := B2.trans (Bu.upd g3)
  have e3 := (nwI g3).1
  have W3 := sameTr s1 B3 fx
  have ew3 := W3 _ _ ew
  walk_at "go"
  refine ⟨r, r0, rfl, W3 _ _ er, W3 _ _ er0, fun v4 H4 s4 => ?_⟩
  have B4 := B3.trans (Bu.same s4)
  have e4 := s4 _ _ e3
  walk_at "go"
  refine r_sf (g_World_rooms T) e4 ?_
  generalize g5 : upd _ _ _ = H5
  have B5 := B4.trans (Bu.upd g5)
  have e5 := (nwI g5).1
  have W5 := sameTr s1 B5 fx
  have ew5 := W5 _ _ ew
  have ec5 := W5 _ _ esc
  walk_at "go"
  intro p6 f6
  generalize g6 : upd _ _ _ = H6
  have ⟨s6, n6⟩ := nw g6 f6
  have B6 := B5.trans (Bu.same s6)
  have e6 := s6 _ _ e5
  walk_at "go"
  refine r_sf (g_World_scopes T) e6 ?_
  generalize g7 : upd _ _ _ = H7
  have B7 := B6.trans (Bu.upd g7)
  have e7 := (nwI g7).1
  have W7 := sameTr s1 B7 fx
  have ew7 := W7 _ _ ew
  have el7 := W7 _ _ el
  walk_at "go"
  refine r_mtI el7 (by decide +kernel) ?_
  walk_at "go"
  refine ⟨wa.l, _, rfl, hF.at_.l.tk (Same.tk W7) (fun o e => W7 _ _ e), fun q8 H8 s8 _ _ => ?_⟩
  have B8 := B7.trans (Bu.same s8)
  have e8 := s8 _ _ e7
  walk_at "go"
  refine r_sf (g_World_look T) e8 ?_
  generalize g9 : upd _ _ _ = H9
  have B9 := B8.trans (Bu.upd g9)
  have e9 := (nwI g9).1
  have W9 := sameTr s1 B9 fx
  have ew9 := W9 _ _ ew
  have ec9 := W9 _ _ ek
  walk_at "go"
  refine r_ll ec9 fun D9 fD9 => ?_
  refine lc_all (K := K) (walk_list (xs := [])) fD9 (Nat.zero_le _) (fun _ _ _ => True) (fun _ _ _ _ _ _ _ => trivial) (fun H' sh => sh.seq (seqL ec9)) (fun i x Ha Hb N M hi => absurd hi (Nat.not_lt_zero _)) fun H10 acc9 s10 _ _ _ => ?_
  have B10 := B9.trans (Bu.same s10)
  have e10 := s10 _ _ e9
  walk_at "go"
  refine r_sf (g_World_kept T) e10 ?_
  generalize g11 : upd _ _ _ = H11
  have B11 := B10.trans (Bu.upd g11)
  have e11 := (nwI g11).1
  have W11 := sameTr s1 B11 fx
  have ew11 := W11 _ _ ew
  have ec11 := W11 _ _ esh
  walk_at "go"
  intro p12 f12
  generalize g12 : upd _ _ _ = H12
  have ⟨s12, n12⟩ := nw g12 f12
  have B12 := B11.trans (Bu.same s12)
  have e12 := s12 _ _ e11
  walk_at "go"
  refine r_sf (g_World_sheets T) e12 ?_
  generalize g13 : upd _ _ _ = H13
  have B13 := B12.trans (Bu.upd g13)
  have e13 := (nwI g13).1
  have W13 := sameTr s1 B13 fx
  have ew13 := W13 _ _ ew
  have ec13 := W13 _ _ eik
  walk_at "go"
  intro p14 f14
  generalize g14 : upd _ _ _ = H14
  have ⟨s14, n14⟩ := nw g14 f14
  have B14 := B13.trans (Bu.same s14)
  have e14 := s14 _ _ e13
  walk_at "go"
  refine r_sf (g_World_inkings T) e14 ?_
  generalize g15 : upd _ _ _ = H15
  have B15 := B14.trans (Bu.upd g15)
  have e15 := (nwI g15).1
  have W15 := sameTr s1 B15 fx
  have ew15 := W15 _ _ ew
  have ec15 := W15 _ _ esv
  walk_at "go"
  refine r_ll ec15 fun D15 fD15 => ?_
  refine lc_all (K := K) (walk_list (xs := [])) fD15 (Nat.zero_le _) (fun _ _ _ => True) (fun _ _ _ _ _ _ _ => trivial) (fun H' sh => sh.seq (seqL ec15)) (fun i x Ha Hb N M hi => absurd hi (Nat.not_lt_zero _)) fun H16 acc15 s16 _ _ _ => ?_
  have B16 := B15.trans (Bu.same s16)
  have e16 := s16 _ _ e15
  walk_at "go"
  refine r_sf (g_World_saves T) e16 ?_
  generalize g17 : upd _ _ _ = H17
  have B17 := B16.trans (Bu.upd g17)
  have e17 := (nwI g17).1
  have W17 := sameTr s1 B17 fx
  have ew17 := W17 _ _ ew
  walk_at "go"
  refine r_sf (g_World_many_saves T) e17 ?_
  generalize g18 : upd _ _ _ = H18
  have B18 := B17.trans (Bu.upd g18)
  have e18 := (nwI g18).1
  walk_at "go"
  exact q _ _ (sameTr s1 B18 fx)
end
section
local macro_rules | `(tactic| walk_at "fld") => `(tactic| (refine fkT (w := ?w) (K := ?K) (mg := ?mg) (A := ?A) ?t ?e ?h; (case t => assumption); (case e => exact rfl); (case h => first | with_reducible exact g_Look_matrix (by assumption) | with_reducible exact g_Look_path (by assumption) | with_reducible exact g_Look_ink (by assumption) | with_reducible exact g_Look_width (by assumption) | with_reducible exact g_Look_clips (by assumption) | with_reducible exact g_Look_font (by assumption) | with_reducible exact g_World_operands (by assumption) | with_reducible exact g_World_rooms (by assumption) | with_reducible exact g_World_scopes (by assumption) | with_reducible exact g_World_look (by assumption) | with_reducible exact g_World_kept (by assumption) | with_reducible exact g_World_sheets (by assumption) | with_reducible exact g_World_inkings (by assumption) | with_reducible exact g_World_saves (by assumption) | with_reducible exact g_World_many_saves (by assumption) | with_reducible exact g_Items_body (by assumption) | with_reducible exact g_Items_at (by assumption) | with_reducible exact g_Reader_text (by assumption) | with_reducible exact g_Reader_at (by assumption) | with_reducible exact g_Reader_row (by assumption) | with_reducible exact g_Reader_column (by assumption) | with_reducible exact g_Reader_deep (by assumption) | with_reducible exact g_Machine_wide (by assumption) | with_reducible exact g_Machine_high (by assumption) | with_reducible exact g_Machine_most (by assumption) | with_reducible exact g_Machine_world (by assumption) | with_reducible exact g_Machine_frames (by assumption) | with_reducible exact g_Machine_left (by assumption) | with_reducible exact g_Machine_told (by assumption) | with_reducible exact g_Machine_is_running (by assumption) | with_reducible exact g_Machine_ahead (by assumption) | with_reducible exact g_Machine_past (by assumption) | with_reducible exact g_Machine_later (by assumption))))
/-- as many steps as go by themselves -/
local macro_rules | `(tactic| walk_at "g1") => `(tactic| (first
  | with_reducible refine r_seq ?_ | with_reducible refine r_set ?_ | with_reducible refine r_asg ?_ | with_reducible refine r_sl ?_ | with_reducible refine r_np ?_ | with_reducible refine r_pt ?_ | with_reducible refine r_gn ?_ | with_reducible refine r_gc ?_ | with_reducible refine r_g0 ?_ | ((with_reducible refine r_gt (xs := ?xs) ?h ?g ?_); (case h => assumption); (case g => exact rfl)) | with_reducible refine r_ret ?_ | with_reducible refine r_if ?_ | with_reducible refine r_test ?_ | with_reducible refine r_B ?_ | with_reducible refine r_and ?_ | with_reducible refine r_or ?_ | with_reducible refine r_not ?_
  | with_reducible refine r_andV ?_ | with_reducible refine r_orV ?_ | with_reducible refine r_notV ?_ | with_reducible refine r_ifx ?_ | with_reducible refine r_op ?_ | with_reducible refine r_un ?_ | with_reducible refine r_U ?_ | with_reducible refine r_c ?_ | with_reducible refine r_I0 ?_ | with_reducible refine r_drop ?_ | with_reducible refine r_next ?_
  | ((with_reducible refine r_var (v := ?v) ?h ?_); (case h => exact rfl)) | with_reducible refine r_bl ?_ | with_reducible refine r_nil ?_ | with_reducible refine r_cons ?_ | with_reducible refine r_cb ?_ | with_reducible refine r_call ?_ | ((with_reducible refine r_gl (xs := ?xs) ?h ?g ?_); (case h => assumption); (case g => exact rfl)) | with_reducible refine r_sm1 ?_ | with_reducible refine r_sm2 ?_ | with_reducible refine r_sm3 ?_ | with_reducible refine r_ch ?_ | with_reducible refine r_bm ?_ | with_reducible refine r_bm0 ?_ | ((with_reducible refine r_ty (xs := ?xs) ?e ?_); (case e => assumption)) | with_reducible refine r_mkU ?_ | with_reducible refine r_mt0 ?_ | with_reducible refine r_yes ?_ | with_reducible refine iteT ?_ | with_reducible refine iteF ?_ | with_reducible refine r_spk ?_ | with_reducible refine r_sp1 ?_ | with_reducible refine r_sp2 ?_ | with_reducible refine r_sp3 ?_ | with_reducible refine r_sp4 ?_ | with_reducible refine r_sp5 ?_
  | with_reducible refine r_tup ?_ | with_reducible refine r_lst ?_ | with_reducible refine r_par ?_ | with_reducible refine r_par2 ?_ 
  | ((with_reducible refine r_eq ?h ?_); (case h => exact rfl)) | ((with_reducible refine r_ne ?h ?_); (case h => exact rfl))
  | ((with_reducible refine r_ixT (xs := ?xs) (v := ?v) ?h ?g ?_); (case h => assumption); (case g => first | exact at0 | exact at1))
  | ((with_reducible refine r_fl (i := ?i) (nm := ?nm) (C := ?C) (dx := ?dx) (vs := ?vs) (v := ?v) ?ok ?e ?hv ?_); (case e => assumption); (case ok => walk_at "fld"); (case hv => rfl)) | with_reducible refine r_for ?_ | with_reducible refine r_il ?_ | with_reducible refine r_it ?_ | with_reducible refine r_iz ?_ | with_reducible refine r_ir1 ?_ | with_reducible refine r_ir2 ?_ | with_reducible refine r_lc ?_ | with_reducible refine r_sFld ?_ | with_reducible refine r_ck ?_ | with_reducible refine r_fld ?_ | with_reducible refine ⟨_, rfl, ?_⟩ | with_reducible refine ⟨_, _, rfl, .inr (by with_unfolding_all assumption), ?_⟩ | with_reducible refine ⟨_, _, rfl, .inl (seqL (by assumption)), ?_⟩ | with_reducible refine ⟨_, _, rfl, rfl, ?_⟩ | with_reducible refine ⟨_, _, rfl, ?_⟩ | with_reducible refine ⟨rfl, ?_⟩ | with_reducible refine r_sz ?_))
local macro_rules | `(tactic| walk_at "go") => `(tactic| (repeat walk_at "g1"))
variable {P : Program} {w : World} {K : PySem.W.Frag} {mg : Str → Option Value} {A : Ad} {base : Heap}
/-! Machine: __init__. -/
theorem sc_is_between : FnScope ["thing", "low", "high"] ["thing", "low", "high"] (defScope s_is_between) := ⟨rfl, rfl, rfl, by decide +kernel, rfl, by decide +kernel, by decide +kernel⟩
abbrev spBetween : Sp := Sp3 fun a b c H Q => ∃ i l h : Int, a = .int i ∧ b = .int l ∧ c = .int h ∧ l ≤ i ∧ i ≤ h ∧ Q (.bl true) H
theorem cal_is_between (T : Tx w K mg A) : Cal P w K mg base 2 "is_between" spBetween [] := by
  refine calOf T.f_is_between sc_is_between (fun _ _ _ _ _ _ us hl => match us, hl with | [_, _, _], _ => rfl) Sp3.len fun f cdv Ar outer s H vs Q E hr h => ?_
  obtain ⟨_, _, _, rfl, i, l, hh, rfl, rfl, rfl, h1, h2, q⟩ := h
  refine ⟨_, (pss_one (ps_ret (pe_and (pe_c (cal_is_whole T) hr (by decide) rfl (pa_cons (pv 0) pa_nil)) (pe_one (pe_chain op_le op_le (pv 1) (pv 0) (pv 2)))))), ?_⟩
  walk_at "go"
  refine difT h1 ?_
  walk_at "go"
  rw [decide_eq_true h2]
  exact q
theorem sc_need_size : FnScope ["wide", "high"] ["wide", "high"] (defScope s_need_size) := ⟨rfl, rfl, rfl, by decide +kernel, rfl, by decide +kernel, by decide +kernel⟩
abbrev spNeedSize : Sp := Sp2 fun a b H Q => a = .int 6 ∧ b = .int 5 ∧ Q .non H
theorem cal_need_size (T : Tx w K mg A) : Cal P w K mg base 3 "need_size" spNeedSize [] := by
  refine calOf T.f_need_size sc_need_size (fun _ _ _ _ _ _ us hl => match us, hl with | [_, _], _ => rfl) Sp2.len fun f cdv Ar outer s H vs Q E hr h => ?_
  obtain ⟨_, _, rfl, rfl, rfl, q⟩ := h
  refine ⟨_, (pss_one (ps_if (PW.pt (pw_or (pt_not (pt_val (pe_c (cal_is_between T) hr (by decide) rfl (pa_cons (pv 0) (pa_cons pe_int (pa_cons (pe_gc rfl T.v_MOST_SIDE) pa_nil)))))) (pw_or1 (pt_not (pt_val (pe_c (cal_is_between T) hr (by decide) rfl (pa_cons (pv 1) (pa_cons pe_int (pa_cons (pe_gc rfl T.v_MOST_SIDE) pa_nil)))))))))
    pss_never
    pss_nil)), ?_⟩
  walk_at "go"
  refine ⟨6, 1, 64, rfl, rfl, rfl, by decide, by decide, ?_⟩
  walk_at "go"
  refine iteF ?_
  walk_at "go"
  refine ⟨5, 1, 64, rfl, rfl, rfl, by decide, by decide, ?_⟩
  walk_at "go"
  refine iteF ?_
  exact q
/-- a new machine -/
structure NM (K : PySem.W.Frag) (A : Ad) (H : Hp) (M fr past : Addr) (wa : Wa) : Prop where
  m : ∃ mdx la, H M = some (.ins A.Machine mdx (mNm.zip [.int 6, .int 5, .int 5000, .ref wa.w, .ref fr, .int 0, .non, .bl false, .non, .ref past, la]))
  fw : FW K A H wa
  f : H fr = some (.lst [])
  p : H past = some (.lst [])
  mf : M ≠ fr
  mp : M ≠ past
  fp : fr ≠ past
  mo : M ∉ wa.own
  fo : fr ∉ wa.own
  po : past ∉ wa.own
theorem FW.keep {H H' : Hp} {a : Wa} (h : FW K A H a) (x : Addr) (nx : x ∉ a.own) (dx : Addr) (fs : List (Str × V)) (ex : H x = some (.ins A.Machine dx fs)) (b : Bu x H H') : FW K A H' a := by
  obtain ⟨h1, h2, d, r, r0, sc, sh, sv, ew, eo, ei, er, er0, esc, esh, esv⟩ := h
  have tk := Bu.tk (K := K) b ex
  have no : ∀ {c : Addr} {o : HO}, H c = some o → (∀ C dx fs, o ≠ .ins C dx fs) → H' c = some o := fun {c o} e n => b c o (fun z => by
    rw [z, ex] at e
    cases e
    exact n _ _ _ rfl) e
  refine ⟨h1.keep tk fun c m o e => b c o (fun z => nx (z ▸ m)) e, h2, d, r, r0, sc, sh, sv, b _ _ (fun z => nx (by rw [← z]; simp [Wa.own])) ew, no eo (fun _ _ _ z => nomatch z), no ei (fun _ _ _ z => nomatch z), no er (fun _ _ _ z => nomatch z), no er0 (fun _ _ _ z => nomatch z), no esc (fun _ _ _ z => nomatch z), no esh (fun _ _ _ z => nomatch z), no esv (fun _ _ _ z => nomatch z)⟩
theorem Bu.free {x p : Addr} {H H' : Hp} (b : Bu x H H') (f : H' p = none) (n : p ≠ x) : H p = none := by
  cases h : H p with
  | none => rfl
  | some u =>
    rw [b p u n h] at f
    cases f
abbrev spMachInit (K : PySem.W.Frag) (A : Ad) : Sp := Sp4 fun a b c d H Q => ∃ x dx, a = .ref x ∧ b = .int 6 ∧ c = .int 5 ∧ d = .int 5000 ∧ H x = some (.ins A.Machine dx []) ∧ ∀ fr past wa H', Bu x H H' → NM K A H' x fr past wa → (∀ b ∈ [fr, past] ++ wa.own, H b = none) → Q .non H'
theorem sc_Machine_init : FnScope ["self", "wide", "high", "steps"] ["self", "wide", "high", "steps"] (defScope s_Machine_init) := ⟨rfl, rfl, rfl, by decide +kernel, rfl, by decide +kernel, by decide +kernel⟩
theorem mak_Machine (T : Tx w K mg A) : Mak P w K mg base 5 "Machine" A.Machine (spMachInit K A) [.int 5000] := by
  obtain ⟨f, fd, M, F⟩ := T.i_Machine
  obtain ⟨ds, vd, hb⟩ := F.binds0 (ps := ["self", "wide", "high", "steps"]) 3 (by decide) rfl fun D doc pm an cdv ct us ks h1 h2 => match us, ks, h1, h2 with
    | [_, _, _], [_], _, _ => ⟨_, _, _, _, _, _, rfl, rfl, rfl⟩
  refine ⟨f, fd, _, ds, M, F.ok sc_Machine_init Sp4.len fun cdv Ar outer s H vs Q E hr h => ?_, T.gc_Machine, hb, vd⟩
  suffices hw : ∃ t, PSs (cxOf C8.CX0 P w K mg base ["self", "wide", "high", "steps"] "Machine.__init__" (defScope s_Machine_init) f cdv Ar outer s H E).nox (defBody s_Machine_init) t ∧ t { nx := fun _ H' => Q .non H', rt := Q } (L2.start ["self", "wide", "high", "steps"] vs) H by
    obtain ⟨t, a, b⟩ := hw
    exact ⟨t, a.nox, b⟩
  obtain ⟨_, _, _, _, rfl, x, dx, rfl, rfl, rfl, rfl, e0, q⟩ := h
  refine ⟨_, (pss_cons (ps_expr (pe_c (cal_need_size T) hr (by decide) rfl (pa_cons (pv 1) (pa_cons (pv 2) pa_nil))))
    (pss_cons (ps_expr (pe_c (cal_need_steps T) hr (by decide) rfl (pa_cons (pv 3) pa_nil)))
    (pss_cons (ps_fld (pv 0) (pv 1) rfl)
    (pss_cons (ps_fld (pv 0) (pv 2) rfl)
    (pss_cons (ps_fld (pv 0) (pv 3) rfl)
    (pss_cons (ps_fld (pv 0) (pe_mk0 (mak_World T) hr (by decide) rfl) rfl)
    (pss_cons (ps_fld (pv 0) (pe_lst pa_nil) rfl)
    (pss_cons (ps_fld (pv 0) pe_int rfl)
    (pss_cons (ps_fld (pv 0) pe_non rfl)
    (pss_cons (ps_fld (pv 0) pe_bl rfl)
    (pss_cons (ps_fld (pv 0) pe_non rfl)
    (pss_cons (ps_fld (pv 0) (pe_lst pa_nil) rfl)
    (pss_one (ps_fld (pv 0) (pe_lst pa_nil) rfl)))))))))))))), ?_⟩
  walk_at "go"
  refine ⟨by decide, by decide, ?_⟩
  have B0 : Bu x H H := Bu.refl _
  walk_at "go"
  refine r_sn (nm := mNm) (vs := []) e0 (g_Machine_wide T) ?_
  generalize g1 : upd _ _ _ = H1
  have B1 := B0.trans (Bu.upd g1)
  have e1 := (nwI g1).1
  walk_at "go"
  refine r_sn (nm := mNm) e1 (g_Machine_high T) ?_
  generalize g2 : upd _ _ _ = H2
  have B2 := B1.trans (Bu.upd g2)
  have e2 := (nwI g2).1
  walk_at "go"
  refine r_sn (nm := mNm) e2 (g_Machine_most T) ?_
  generalize g3 : upd _ _ _ = H3
  have B3 := B2.trans (Bu.upd g3)
  have e3 := (nwI g3).1
  walk_at "go"
  intro xw xwd fw fwd new
  generalize gw : upd (upd _ _ _) _ _ = HW
  have ⟨sw, ewx⟩ := nwM gw fw fwd
  refine ⟨_, rfl, xw, xwd, rfl, ewx, fun wa H4 ewa bw hfw how => ⟨rfl, ?_⟩⟩
  have s4 : Same H3 H4 := Bu.new sw fw bw
  have B4 := B3.trans (Bu.same s4)
  have e4 := s4 _ _ e3
  rw [← ewa]
  walk_at "go"
  refine r_sn (nm := mNm) e4 (g_Machine_world T) ?_
  generalize g5 : upd _ _ _ = H5
  have B5 := B4.trans (Bu.upd g5)
  have e5 := (nwI g5).1
  walk_at "go"
  intro fr f6
  generalize g6 : upd _ _ _ = H6
  have ⟨s6, nfr⟩ := nw g6 f6
  have B6 := B5.trans (Bu.same s6)
  have e6 := s6 _ _ e5
  walk_at "go"
  refine r_sn (nm := mNm) e6 (g_Machine_frames T) ?_
  generalize g7 : upd _ _ _ = H7
  have B7 := B6.trans (Bu.upd g7)
  have e7 := (nwI g7).1
  walk_at "go"
  refine r_sn (nm := mNm) e7 (g_Machine_left T) ?_
  generalize g8 : upd _ _ _ = H8
  have B8 := B7.trans (Bu.upd g8)
  have e8 := (nwI g8).1
  walk_at "go"
  refine r_sn (nm := mNm) e8 (g_Machine_told T) ?_
  generalize g9 : upd _ _ _ = H9
  have B9 := B8.trans (Bu.upd g9)
  have e9 := (nwI g9).1
  walk_at "go"
  refine r_sn (nm := mNm) e9 (g_Machine_is_running T) ?_
  generalize g10 : upd _ _ _ = H10
  have B10 := B9.trans (Bu.upd g10)
  have e10 := (nwI g10).1
  walk_at "go"
  refine r_sn (nm := mNm) e10 (g_Machine_ahead T) ?_
  generalize g11 : upd _ _ _ = H11
  have B11 := B10.trans (Bu.upd g11)
  have e11 := (nwI g11).1
  walk_at "go"
  intro past f12
  generalize g12 : upd _ _ _ = H12
  have ⟨s12, npast⟩ := nw g12 f12
  have B12 := B11.trans (Bu.same s12)
  have e12 := s12 _ _ e11
  walk_at "go"
  refine r_sn (nm := mNm) e12 (g_Machine_past T) ?_
  generalize g13 : upd _ _ _ = H13
  have B13 := B12.trans (Bu.upd g13)
  have e13 := (nwI g13).1
  walk_at "go"
  intro later f14
  generalize g14 : upd _ _ _ = H14
  have ⟨s14, nlater⟩ := nw g14 f14
  have B14 := B13.trans (Bu.same s14)
  have e14 := s14 _ _ e13
  walk_at "go"
  refine r_sn (nm := mNm) e14 (g_Machine_later T) ?_
  generalize g15 : upd _ _ _ = H15
  have B15 := B14.trans (Bu.upd g15)
  have e15 := (nwI g15).1
  walk_at "go"
  have xfr : fr ≠ x := (ne_of_none e5 f6).symm
  have xpa : past ≠ x := (ne_of_none e11 f12).symm
  have nw' : ∀ b ∈ wa.own, H3 b = none := fun b m => by
    rcases how b m with z | z
    · rw [z]; exact fw
    · exact sw.free z
  have wx : ∀ b ∈ wa.own, b ≠ x := fun b m => (ne_of_none e3 (nw' b m)).symm
  have lw : ∀ b ∈ wa.own, ∃ u, H4 b = some u := fun b m => by
    obtain ⟨u, z, _⟩ := hfw.at_.mem b m
    exact ⟨u, z⟩
  have mo : x ∉ wa.own := fun m => wx x m rfl
  have fo : fr ∉ wa.own := fun m => by
    obtain ⟨u, z⟩ := lw fr m
    have := (Bu.upd g5) fr u xfr z
    rw [f6] at this
    cases this
  have po : past ∉ wa.own := fun m => by
    obtain ⟨u, z⟩ := lw past m
    have := (Bu.trans (Bu.upd g5) (Bu.trans (Bu.same s6) (Bu.trans (Bu.upd g7) (Bu.trans (Bu.upd g8) (Bu.trans (Bu.upd g9) (Bu.trans (Bu.upd g10) (Bu.upd g11))))))) past u xpa z
    rw [f12] at this
    cases this
  have fp : fr ≠ past := ne_of_none ((Bu.trans (Bu.upd g7) (Bu.trans (Bu.upd g8) (Bu.trans (Bu.upd g9) (Bu.trans (Bu.upd g10) (Bu.upd g11))))) fr _ xfr nfr) f12
  refine q fr past wa H15 B15 ⟨⟨dx, _, e15⟩, hfw.keep x mo _ _ e4 (Bu.trans (Bu.upd g5) (Bu.trans (Bu.same s6) (Bu.trans (Bu.upd g7) (Bu.trans (Bu.upd g8) (Bu.trans (Bu.upd g9) (Bu.trans (Bu.upd g10) (Bu.trans (Bu.upd g11) (Bu.trans (Bu.same s12) (Bu.trans (Bu.upd g13) (Bu.trans (Bu.same s14) (Bu.upd g15))))))))))), (Bu.trans (Bu.upd g7) (Bu.trans (Bu.upd g8) (Bu.trans (Bu.upd g9) (Bu.trans (Bu.upd g10) (Bu.trans (Bu.upd g11) (Bu.trans (Bu.same s12) (Bu.trans (Bu.upd g13) (Bu.trans (Bu.same s14) (Bu.upd g15))))))))) _ _ xfr nfr, (Bu.trans (Bu.upd g13) (Bu.trans (Bu.same s14) (Bu.upd g15))) _ _ xpa npast, xfr.symm, xpa.symm, fp, mo, fo, po⟩ ?_
  intro b hb
  have hb' : b = fr ∨ b = past ∨ b ∈ wa.own := by simpa using hb
  rcases hb' with z | z | z
  · rw [z]; exact Bu.free B5 f6 xfr
  · rw [z]; exact Bu.free B11 f12 xpa
  · exact Bu.free B3 (nw' b z) (wx b z)
end
section
local macro_rules | `(tactic| walk_at "fld") => `(tactic| (refine fkT (w := ?w) (K := ?K) (mg := ?mg) (A := ?A) ?t ?e ?h; (case t => assumption); (case e => exact rfl); (case h => first | with_reducible exact g_Look_matrix (by assumption) | with_reducible exact g_Look_path (by assumption) | with_reducible exact g_Look_ink (by assumption) | with_reducible exact g_Look_width (by assumption) | with_reducible exact g_Look_clips (by assumption) | with_reducible exact g_Look_font (by assumption) | with_reducible exact g_World_operands (by assumption) | with_reducible exact g_World_rooms (by assumption) | with_reducible exact g_World_scopes (by assumption) | with_reducible exact g_World_look (by assumption) | with_reducible exact g_World_kept (by assumption) | with_reducible exact g_World_sheets (by assumption) | with_reducible exact g_World_inkings (by assumption) | with_reducible exact g_World_saves (by assumption) | with_reducible exact g_World_many_saves (by assumption) | with_reducible exact g_Items_body (by assumption) | with_reducible exact g_Items_at (by assumption) | with_reducible exact g_Reader_text (by assumption) | with_reducible exact g_Reader_at (by assumption) | with_reducible exact g_Reader_row (by assumption) | with_reducible exact g_Reader_column (by assumption) | with_reducible exact g_Reader_deep (by assumption) | with_reducible exact g_Machine_wide (by assumption) | with_reducible exact g_Machine_high (by assumption) | with_reducible exact g_Machine_most (by assumption) | with_reducible exact g_Machine_world (by assumption) | with_reducible exact g_Machine_frames (by assumption) | with_reducible exact g_Machine_left (by assumption) | with_reducible exact g_Machine_told (by assumption) | with_reducible exact g_Machine_is_running (by assumption) | with_reducible exact g_Machine_ahead (by assumption) | with_reducible exact g_Machine_past (by assumption) | with_reducible exact g_Machine_later (by assumption))))
/-- as many steps as go by themselves -/
local macro_rules | `(tactic| walk_at "g1") => `(tactic| (first
  | with_reducible refine r_seq ?_ | with_reducible refine r_set ?_ | with_reducible refine r_asg ?_ | with_reducible refine r_sl ?_ | with_reducible refine r_np ?_ | with_reducible refine r_pt ?_ | with_reducible refine r_gn ?_ | with_reducible refine r_gc ?_ | with_reducible refine r_g0 ?_ | ((with_reducible refine r_gt (xs := ?xs) ?h ?g ?_); (case h => assumption); (case g => exact rfl)) | with_reducible refine r_ret ?_ | with_reducible refine r_if ?_ | with_reducible refine r_test ?_ | with_reducible refine r_B ?_ | with_reducible refine r_and ?_ | with_reducible refine r_or ?_ | with_reducible refine r_not ?_
  | with_reducible refine r_andV ?_ | with_reducible refine r_orV ?_ | with_reducible refine r_notV ?_ | with_reducible refine r_ifx ?_ | with_reducible refine r_op ?_ | with_reducible refine r_un ?_ | with_reducible refine r_U ?_ | with_reducible refine r_c ?_ | with_reducible refine r_I0 ?_ | with_reducible refine r_drop ?_ | with_reducible refine r_next ?_
  | ((with_reducible refine r_var (v := ?v) ?h ?_); (case h => exact rfl)) | with_reducible refine r_bl ?_ | with_reducible refine r_nil ?_ | with_reducible refine r_cons ?_ | with_reducible refine r_cb ?_ | with_reducible refine r_call ?_ | ((with_reducible refine r_gl (xs := ?xs) ?h ?g ?_); (case h => assumption); (case g => exact rfl)) | with_reducible refine r_sm1 ?_ | with_reducible refine r_sm2 ?_ | with_reducible refine r_sm3 ?_ | with_reducible refine r_ch ?_ | with_reducible refine r_bm ?_ | with_reducible refine r_bm0 ?_ | ((with_reducible refine r_ty (xs := ?xs) ?e ?_); (case e => assumption)) | with_reducible refine r_mkU ?_ | with_reducible refine r_mt0 ?_ | with_reducible refine r_yes ?_ | with_reducible refine iteT ?_ | with_reducible refine iteF ?_ | with_reducible refine r_spk ?_ | with_reducible refine r_sp1 ?_ | with_reducible refine r_sp2 ?_ | with_reducible refine r_sp3 ?_ | with_reducible refine r_sp4 ?_ | with_reducible refine r_sp5 ?_
  | with_reducible refine r_tup ?_ | with_reducible refine r_lst ?_ | with_reducible refine r_par ?_ | with_reducible refine r_par2 ?_ 
  | ((with_reducible refine r_eq ?h ?_); (case h => exact rfl)) | ((with_reducible refine r_ne ?h ?_); (case h => exact rfl))
  | ((with_reducible refine r_ixT (xs := ?xs) (v := ?v) ?h ?g ?_); (case h => assumption); (case g => first | exact at0 | exact at1))
  | ((with_reducible refine r_fl (i := ?i) (nm := ?nm) (C := ?C) (dx := ?dx) (vs := ?vs) (v := ?v) ?ok ?e ?hv ?_); (case e => assumption); (case ok => walk_at "fld"); (case hv => rfl)) | with_reducible refine r_for ?_ | with_reducible refine r_il ?_ | with_reducible refine r_it ?_ | with_reducible refine r_iz ?_ | with_reducible refine r_ir1 ?_ | with_reducible refine r_ir2 ?_ | with_reducible refine r_lc ?_ | with_reducible refine r_sFld ?_ | with_reducible refine r_ck ?_ | with_reducible refine r_fld ?_ | with_reducible refine ⟨_, rfl, ?_⟩ | with_reducible refine ⟨_, _, rfl, .inr (by with_unfolding_all assumption), ?_⟩ | with_reducible refine ⟨_, _, rfl, .inl (seqL (by assumption)), ?_⟩ | with_reducible refine ⟨_, _, rfl, rfl, ?_⟩ | with_reducible refine ⟨_, _, rfl, ?_⟩ | with_reducible refine ⟨rfl, ?_⟩ | with_reducible refine r_sz ?_))
local macro_rules | `(tactic| walk_at "go") => `(tactic| (repeat walk_at "g1"))
variable {P : Program} {w : World} {K : PySem.W.Frag} {mg : Str → Option Value} {A : Ad} {base : Heap}
/-! The reader. -/
open SX (S)
/-- at place n of the text cs -/
def RdAt (A : Ad) (H : Hp) (R : Addr) (cs : List Nat) (n : Nat) : Prop := ∃ dx row col deep, H R = some (.ins A.Reader dx (rNm.zip [.str (S cs), .int n, .int row, .int col, .int deep])) ∧ n ≤ cs.length ∧ cs.length ≤ 100000
theorem RdAt.same {H H' : Hp} {R : Addr} {cs : List Nat} {n : Nat} (h : RdAt A H R cs n) (s : Same H H') : RdAt A H' R cs n := by
  obtain ⟨dx, row, col, deep, e, r⟩ := h
  exact ⟨dx, row, col, deep, s _ _ e, r⟩
theorem szBig : 100000 ≤ sizeLine := by decide
abbrev spReaderInit (A : Ad) : Sp := Sp2 fun a b H Q => ∃ x dx cs, a = .ref x ∧ b = .str (S cs) ∧ H x = some (.ins A.Reader dx []) ∧ cs.length ≤ 100000 ∧ ∀ H', Bu x H H' → RdAt A H' x cs 0 → Q .non H'
theorem sc_Reader_init : FnScope ["self", "text"] ["self", "text"] (defScope s_Reader_init) := ⟨rfl, rfl, rfl, by decide +kernel, rfl, by decide +kernel, by decide +kernel⟩
theorem mak_Reader (T : Tx w K mg A) : Mak P w K mg base 1 "Reader" A.Reader (spReaderInit A) [] := by
  refine makOf T.gc_Reader T.i_Reader sc_Reader_init (fun _ _ _ _ _ _ us hl => match us, hl with | [_, _], _ => rfl) Sp2.len fun f cdv Ar outer s H vs Q E hr h => ?_
  obtain ⟨_, _, rfl, x, dx, cs, rfl, rfl, e0, hc, q⟩ := h
  refine ⟨_, (pss_cons (ps_fld (pv 0) (pv 1) rfl)
    (pss_cons (ps_fld (pv 0) pe_int rfl)
    (pss_cons (ps_fld (pv 0) pe_int rfl)
    (pss_cons (ps_fld (pv 0) pe_int rfl)
    (pss_one (ps_fld (pv 0) pe_int rfl)))))), ?_⟩
  walk_at "go"
  refine r_sn (nm := rNm) (vs := []) e0 (g_Reader_text T) ?_
  generalize g1 : upd _ _ _ = H1
  have e1 := (nwI g1).1
  walk_at "go"
  refine r_sn (nm := rNm) e1 (g_Reader_at T) ?_
  generalize g2 : upd _ _ _ = H2
  have e2 := (nwI g2).1
  walk_at "go"
  refine r_sn (nm := rNm) e2 (g_Reader_row T) ?_
  generalize g3 : upd _ _ _ = H3
  have e3 := (nwI g3).1
  walk_at "go"
  refine r_sn (nm := rNm) e3 (g_Reader_column T) ?_
  generalize g4 : upd _ _ _ = H4
  have e4 := (nwI g4).1
  walk_at "go"
  refine r_sn (nm := rNm) e4 (g_Reader_deep T) ?_
  generalize g5 : upd _ _ _ = H5
  have e5 := (nwI g5).1
  walk_at "go"
  exact q H5 ((Bu.upd g1).trans ((Bu.upd g2).trans ((Bu.upd g3).trans ((Bu.upd g4).trans (Bu.upd g5))))) ⟨dx, 1, 1, 0, e5, Nat.zero_le _, hc⟩
theorem cut1 (cs : List Nat) (n : Nat) : cutS (S cs) (some (n : Int)) (some ((n : Int) + 1)) = S ((cs.drop n).take 1) := by
  have hl : (S cs).length = cs.length := SX.S_len cs
  have e1 : HT.sIx cs.length 0 (some (n : Int)) = min n cs.length := HT.sIx_nat _ _ _
  have e2 : HT.sIx cs.length cs.length (some ((n : Int) + 1)) = min (n + 1) cs.length := HT.sIx_nat cs.length cs.length (n + 1)
  show (⟨((cs.drop (HT.sIx (S cs).length 0 (some (n : Int)))).take (HT.sIx (S cs).length (S cs).length (some ((n : Int) + 1)) - HT.sIx (S cs).length 0 (some (n : Int)))).toArray⟩ : Str) = S ((cs.drop n).take 1)
  rw [hl, e1, e2]
  by_cases h : n < cs.length
  · rw [Nat.min_eq_left (by omega), Nat.min_eq_left (by omega), show n + 1 - n = 1 by omega]
  · rw [Nat.min_eq_right (by omega), Nat.min_eq_right (by omega), Nat.sub_self, List.drop_eq_nil_of_le (by omega : cs.length ≤ cs.length), List.drop_eq_nil_of_le (by omega : cs.length ≤ n)]
    rfl
abbrev spSee (A : Ad) : Sp := Sp1 fun a H Q => ∃ R cs n, RdAt A H R cs n ∧ a = .ref R ∧ Q (.str (S ((cs.drop n).take 1))) H
theorem sc_Reader_see : FnScope ["self"] ["self"] (defScope s_Reader_see) := ⟨rfl, rfl, rfl, by decide +kernel, rfl, by decide +kernel, by decide +kernel⟩
theorem met_Reader_see (T : Tx w K mg A) : Met P w K mg base 1 A.Reader "see" (spSee A) [] := by
  refine metOf T.c_Reader T.m_Reader_see sc_Reader_see (fun _ _ _ _ _ _ us hl => match us, hl with | [_], _ => rfl) Sp1.len fun f cdv Ar outer s H vs Q E hr h => ?_
  obtain ⟨_, rfl, R, cs, n, ⟨dx, row, col, deep, e, hn, hc⟩, rfl, q⟩ := h
  refine ⟨_, (pss_one (ps_ret (pe_slice sl_str (pe_fld (pv 0) rfl) (po_some (pe_fld (pv 0) rfl)) (po_some (pe_op op_add (pe_fld (pv 0) rfl) pe_int))))), ?_⟩
  walk_at "go"
  refine ⟨_, rfl, by have := szBig; rw [SX.S_len]; omega, ?_⟩
  rw [cut1]
  exact q
abbrev spRGo (A : Ad) : Sp := Sp1 fun a H Q => ∃ R cs n c, RdAt A H R cs n ∧ a = .ref R ∧ cs[n]? = some c ∧ c ≠ 10 ∧ ∀ H', Bu R H H' → RdAt A H' R cs (n + 1) → Q (.str (S [c])) H'
theorem see1 {cs : List Nat} {n c : Nat} (h : cs[n]? = some c) : (cs.drop n).take 1 = [c] := by
  obtain ⟨hl, e⟩ := List.getElem?_eq_some_iff.mp h
  rw [List.drop_eq_getElem_cons hl, e]
  rfl
theorem sne {l : List Nat} (h : l ≠ []) : ¬ V.str (S l) = V.str "" := fun z => by
  injection z with z
  exact h (SX.S_inj (a := l) (b := []) z)
theorem sc_Reader_go : FnScope ["self", "sign"] ["self"] (defScope s_Reader_go) := ⟨rfl, rfl, rfl, by decide +kernel, rfl, by decide +kernel, by decide +kernel⟩
theorem met_Reader_go (T : Tx w K mg A) : Met P w K mg base 2 A.Reader "go" (spRGo A) [] := by
  refine metOf T.c_Reader T.m_Reader_go sc_Reader_go (fun _ _ _ _ _ _ us hl => match us, hl with | [_], _ => rfl) Sp1.len fun f cdv Ar outer s H vs Q E hr h => ?_
  obtain ⟨_, rfl, R, cs, n, c, hR, rfl, hcn, hc10, q⟩ := h
  refine ⟨_, (pss_cons (ps_set (i := 1) sc_Reader_go.nd rfl (.inl rfl) (pe_mt0 (met_Reader_see T) hr (by decide) (pv 0)))
    (pss_cons (ps_fldaug (pv 0) pe_int in_add)
    (pss_cons (ps_if (pt_cmpR op_eq (pv 1) pe_str (nomark _))
    pss_never
    (pss_one (ps_fldaug (pv 0) pe_int in_add)))
    (pss_one (ps_ret (pv 1)))))), ?_⟩
  obtain ⟨dx, row, col, deep, e, hn, hc⟩ := id hR
  walk_at "go"
  refine r_mtI e (by decide +kernel) ?_
  walk_at "go"
  refine ⟨R, cs, n, hR, rfl, ?_⟩
  rw [see1 hcn]
  walk_at "go"
  refine r_faA (g_Reader_at T) e ?_
  generalize g1 : upd _ _ _ = H1
  have e1 := (nwI g1).1
  walk_at "go"
  refine difF (fun z => by
    injection z with z
    have z2 : [c] = [10] := SX.S_inj (a := [c]) (b := [10]) z
    cases z2
    exact hc10 rfl) ?_
  refine r_faA (g_Reader_column T) e1 ?_
  generalize g2 : upd _ _ _ = H2
  have e2 := (nwI g2).1
  walk_at "go"
  have hl : n < cs.length := (List.getElem?_eq_some_iff.mp hcn).1
  exact q H2 ((Bu.upd g1).trans (Bu.upd g2)) ⟨dx, row, _, deep, e2, hl, hc⟩
end
section
local macro_rules | `(tactic| walk_at "fld") => `(tactic| (refine fkT (w := ?w) (K := ?K) (mg := ?mg) (A := ?A) ?t ?e ?h; (case t => assumption); (case e => exact rfl); (case h => first | with_reducible exact g_Look_matrix (by assumption) | with_reducible exact g_Look_path (by assumption) | with_reducible exact g_Look_ink (by assumption) | with_reducible exact g_Look_width (by assumption) | with_reducible exact g_Look_clips (by assumption) | with_reducible exact g_Look_font (by assumption) | with_reducible exact g_World_operands (by assumption) | with_reducible exact g_World_rooms (by assumption) | with_reducible exact g_World_scopes (by assumption) | with_reducible exact g_World_look (by assumption) | with_reducible exact g_World_kept (by assumption) | with_reducible exact g_World_sheets (by assumption) | with_reducible exact g_World_inkings (by assumption) | with_reducible exact g_World_saves (by assumption) | with_reducible exact g_World_many_saves (by assumption) | with_reducible exact g_Items_body (by assumption) | with_reducible exact g_Items_at (by assumption) | with_reducible exact g_Reader_text (by assumption) | with_reducible exact g_Reader_at (by assumption) | with_reducible exact g_Reader_row (by assumption) | with_reducible exact g_Reader_column (by assumption) | with_reducible exact g_Reader_deep (by assumption) | with_reducible exact g_Machine_wide (by assumption) | with_reducible exact g_Machine_high (by assumption) | with_reducible exact g_Machine_most (by assumption) | with_reducible exact g_Machine_world (by assumption) | with_reducible exact g_Machine_frames (by assumption) | with_reducible exact g_Machine_left (by assumption) | with_reducible exact g_Machine_told (by assumption) | with_reducible exact g_Machine_is_running (by assumption) | with_reducible exact g_Machine_ahead (by assumption) | with_reducible exact g_Machine_past (by assumption) | with_reducible exact g_Machine_later (by assumption))))
/-- as many steps as go by themselves -/
local macro_rules | `(tactic| walk_at "g1") => `(tactic| (first
  | with_reducible refine r_seq ?_ | with_reducible refine r_set ?_ | with_reducible refine r_asg ?_ | with_reducible refine r_sl ?_ | with_reducible refine r_np ?_ | with_reducible refine r_pt ?_ | with_reducible refine r_gn ?_ | with_reducible refine r_gc ?_ | with_reducible refine r_g0 ?_ | ((with_reducible refine r_gt (xs := ?xs) ?h ?g ?_); (case h => assumption); (case g => exact rfl)) | with_reducible refine r_ret ?_ | with_reducible refine r_if ?_ | with_reducible refine r_test ?_ | with_reducible refine r_B ?_ | with_reducible refine r_and ?_ | with_reducible refine r_or ?_ | with_reducible refine r_not ?_
  | with_reducible refine r_andV ?_ | with_reducible refine r_orV ?_ | with_reducible refine r_notV ?_ | with_reducible refine r_ifx ?_ | with_reducible refine r_op ?_ | with_reducible refine r_un ?_ | with_reducible refine r_U ?_ | with_reducible refine r_c ?_ | with_reducible refine r_I0 ?_ | with_reducible refine r_drop ?_ | with_reducible refine r_next ?_
  | ((with_reducible refine r_var (v := ?v) ?h ?_); (case h => exact rfl)) | with_reducible refine r_bl ?_ | with_reducible refine r_nil ?_ | with_reducible refine r_cons ?_ | with_reducible refine r_cb ?_ | with_reducible refine r_call ?_ | ((with_reducible refine r_gl (xs := ?xs) ?h ?g ?_); (case h => assumption); (case g => exact rfl)) | with_reducible refine r_sm1 ?_ | with_reducible refine r_sm2 ?_ | with_reducible refine r_sm3 ?_ | with_reducible refine r_ch ?_ | with_reducible refine r_bm ?_ | with_reducible refine r_bm0 ?_ | ((with_reducible refine r_ty (xs := ?xs) ?e ?_); (case e => assumption)) | with_reducible refine r_mkU ?_ | with_reducible refine r_mt0 ?_ | with_reducible refine r_yes ?_ | with_reducible refine iteT ?_ | with_reducible refine iteF ?_ | with_reducible refine r_spk ?_ | with_reducible refine r_sp1 ?_ | with_reducible refine r_sp2 ?_ | with_reducible refine r_sp3 ?_ | with_reducible refine r_sp4 ?_ | with_reducible refine r_sp5 ?_
  | with_reducible refine r_tup ?_ | with_reducible refine r_lst ?_ | with_reducible refine r_par ?_ | with_reducible refine r_par2 ?_ 
  | ((with_reducible refine r_eq ?h ?_); (case h => exact rfl)) | ((with_reducible refine r_ne ?h ?_); (case h => exact rfl))
  | ((with_reducible refine r_ixT (xs := ?xs) (v := ?v) ?h ?g ?_); (case h => assumption); (case g => first | exact at0 | exact at1))
  | ((with_reducible refine r_fl (i := ?i) (nm := ?nm) (C := ?C) (dx := ?dx) (vs := ?vs) (v := ?v) ?ok ?e ?hv ?_); (case e => assumption); (case ok => walk_at "fld"); (case hv => rfl)) | with_reducible refine r_for ?_ | with_reducible refine r_il ?_ | with_reducible refine r_it ?_ | with_reducible refine r_iz ?_ | with_reducible refine r_ir1 ?_ | with_reducible refine r_ir2 ?_ | with_reducible refine r_lc ?_ | with_reducible refine r_sFld ?_ | with_reducible refine r_ck ?_ | with_reducible refine r_fld ?_ | with_reducible refine ⟨_, rfl, ?_⟩ | with_reducible refine ⟨_, _, rfl, .inr (by with_unfolding_all assumption), ?_⟩ | with_reducible refine ⟨_, _, rfl, .inl (seqL (by assumption)), ?_⟩ | with_reducible refine ⟨_, _, rfl, rfl, ?_⟩ | with_reducible refine ⟨_, _, rfl, ?_⟩ | with_reducible refine ⟨rfl, ?_⟩ | with_reducible refine r_sz ?_))
local macro_rules | `(tactic| walk_at "go") => `(tactic| (repeat walk_at "g1"))
variable {P : Program} {w : World} {K : PySem.W.Frag} {mg : Str → Option Value} {A : Ad} {base : Heap}
/-! skip, word. -/
open SX (S)
def wordL : List Nat := (Str.ofString "abcdefghijklmnopqrstuvwxyz0123456789-:.").cps.toList
def whiteL : List Nat := (Str.ofString " \n" ++ Str.ofString "#").cps.toList
theorem word_white : ∀ c ∈ wordL, c ∉ whiteL ∧ c ≠ 32 ∧ c ≠ 10 := by decide +kernel
theorem white32 : 32 ∈ whiteL := by decide +kernel
theorem drop_at {cs : List Nat} {n c : Nat} (h : cs[n]? = some c) : cs.drop n = c :: cs.drop (n + 1) := by
  obtain ⟨hl, e⟩ := List.getElem?_eq_some_iff.mp h
  rw [List.drop_eq_getElem_cons hl, e]
abbrev spSkip (A : Ad) : Sp := Sp1 fun a H Q => ∃ R cs n, RdAt A H R cs n ∧ a = .ref R ∧ (∀ c ∈ cs, c = 32 ∨ c ∈ wordL) ∧ ∀ H' n', Bu R H H' → RdAt A H' R cs n' → (cs.drop n).dropWhile (fun c => c == 32) = cs.drop n' → Q .non H'
theorem sc_Reader_skip : FnScope ["self"] ["self"] (defScope s_Reader_skip) := ⟨rfl, rfl, rfl, by decide +kernel, rfl, by decide +kernel, by decide +kernel⟩
theorem met_Reader_skip (T : Tx w K mg A) : Met P w K mg base 3 A.Reader "skip" (spSkip A) [] := by
  refine metOf T.c_Reader T.m_Reader_skip sc_Reader_skip (fun _ _ _ _ _ _ us hl => match us, hl with | [_], _ => rfl) Sp1.len fun f cdv Ar outer s H vs Q E hr h => ?_
  obtain ⟨_, rfl, R, cs, n, hR, rfl, hA, q⟩ := h
  refine ⟨_, (pss_one (ps_while PassesOwn.never (PW.pt (pw_and (pt_cmpR op_ne (pe_mt0 (met_Reader_see T) hr (by decide) (pv 0)) pe_str (nomark _)) (pw_and1 (pt_cmpR op_in_sign (pe_mt0 (met_Reader_see T) hr (by decide) (pv 0)) (pe_op op_add_str (pe_gc rfl T.v_WHITE) pe_str) rfl))))
    (pss_one (ps_if (pt_cmpR op_eq (pe_mt0 (met_Reader_go T) hr (by decide) (pv 0)) pe_str (nomark _))
    pss_never
    pss_nil)))), ?_⟩
  refine r_wh ⟨fun m σ H' => σ = [some (.ref R)] ∧ ∃ n', m = cs.length - n' ∧ Bu R H H' ∧ RdAt A H' R cs n' ∧ (cs.drop n).dropWhile (fun c => c == 32) = (cs.drop n').dropWhile (fun c => c == 32), ⟨_, rfl, n, rfl, Bu.refl _, hR, rfl⟩, ?_⟩
  rintro m σ H1 ⟨rfl, n1, rfl, b1, r1, d1⟩
  obtain ⟨dx, row, col, deep, e, hn, hc⟩ := id r1
  walk_at "go"
  refine r_mtI e (by decide +kernel) ?_
  walk_at "go"
  refine ⟨R, cs, n1, r1, rfl, ?_⟩
  walk_at "go"
  cases hx : cs[n1]? with
  | none =>
    have hd : cs.drop n1 = [] := List.drop_eq_nil_of_le (List.getElem?_eq_none_iff.mp hx)
    rw [hd]
    refine ndifF rfl ?_
    walk_at "go"
    refine q H1 n1 b1 r1 ?_
    rw [d1, hd]
    rfl
  | some c =>
    rw [see1 hx]
    refine ndifT (sne (by simp)) ?_
    walk_at "go"
    refine r_mtI e (by decide +kernel) ?_
    walk_at "go"
    refine ⟨R, cs, n1, r1, rfl, ?_⟩
    rw [see1 hx]
    walk_at "go"
    refine ⟨by decide, c, _, rfl, rfl, ?_⟩
    refine ⟨_, rfl, ?_⟩
    have hmem := hA c (List.mem_of_getElem? hx)
    have hl : n1 < cs.length := (List.getElem?_eq_some_iff.mp hx).1
    rcases Decidable.em (c = 32) with rfl | h32
    · refine difT white32 ?_
      refine ⟨fun σ' H' => σ' = [some (.ref R)] ∧ Bu R H H' ∧ RdAt A H' R cs (n1 + 1), ?_, ?_⟩
      · rintro σ' H' ⟨rfl, b2, r2⟩
        refine ⟨_, (by omega : cs.length - (n1 + 1) < cs.length - n1), rfl, n1 + 1, rfl, b2, r2, ?_⟩
        rw [d1, drop_at hx]
        rfl
      · walk_at "go"
        refine r_mtI e (by decide +kernel) ?_
        walk_at "go"
        refine ⟨R, cs, n1, 32, r1, rfl, hx, by decide, fun H2 b2 r2 => ?_⟩
        walk_at "go"
        refine difF (by decide +kernel) ?_
        exact ⟨rfl, b1.trans b2, r2⟩
    · have hw := hmem.resolve_left h32
      refine difF (word_white c hw).1 ?_
      refine q H1 n1 b1 r1 ?_
      rw [d1, drop_at hx, List.dropWhile_cons_of_neg (by simpa using h32)]
theorem ip_adds {X : Cx} : PIp X .Add (fun x y H Q => ∃ i j, x = .str i ∧ y = .str j ∧ i.length + j.length ≤ sizeLine ∧ Q (.str (i ++ j)) H) := by
  rintro pins s σ H x y u v Q I rx ry ⟨i, j, rfl, rfl, hz, q⟩
  obtain ⟨t, rfl⟩ := (show ∃ t, u = Value.str i t from rx)
  obtain ⟨t', rfl⟩ := (show ∃ t', v = Value.str j t' from ry)
  exact iadd_str (fun t' tk => ⟨.str (i ++ j), H, I.tok _, ⟨_, rfl⟩, q⟩) hz
def isW (c : Nat) : Bool := decide (c ∈ wordL)
abbrev spWord (A : Ad) : Sp := Sp1 fun a H Q => ∃ R cs n, RdAt A H R cs n ∧ a = .ref R ∧ ∀ H', Bu R H H' → RdAt A H' R cs (n + ((cs.drop n).takeWhile isW).length) → Q (.str (S ((cs.drop n).takeWhile isW))) H'
theorem sc_Reader_word : FnScope ["self", "found"] ["self"] (defScope s_Reader_word) := ⟨rfl, rfl, rfl, by decide +kernel, rfl, by decide +kernel, by decide +kernel⟩
theorem met_Reader_word (T : Tx w K mg A) : Met P w K mg base 3 A.Reader "word" (spWord A) [] := by
  refine metOf T.c_Reader T.m_Reader_word sc_Reader_word (fun _ _ _ _ _ _ us hl => match us, hl with | [_], _ => rfl) Sp1.len fun f cdv Ar outer s H vs Q E hr h => ?_
  obtain ⟨_, rfl, R, cs, n, hR, rfl, q⟩ := h
  refine ⟨_, (pss_cons (ps_set (i := 1) sc_Reader_word.nd rfl (.inl rfl) pe_str)
    (pss_cons (ps_while PassesOwn.never (PW.pt (pw_and (pt_cmpR op_ne (pe_mt0 (met_Reader_see T) hr (by decide) (pv 0)) pe_str (nomark _)) (pw_and1 (pt_cmpR op_in_sign (pe_mt0 (met_Reader_see T) hr (by decide) (pv 0)) (pe_gc rfl T.v_WORD) rfl))))
    (pss_one (ps_aug (i := 1) sc_Reader_word.nd rfl (.inl rfl) (pe_mt0 (met_Reader_go T) hr (by decide) (pv 0)) ip_adds)))
    (pss_one (ps_ret (pv 1))))), ?_⟩
  walk_at "go"
  refine r_wh ⟨fun m σ H' => ∃ acc, σ = [some (.ref R), some (.str (S acc))] ∧ m = cs.length - (n + acc.length) ∧ Bu R H H' ∧ RdAt A H' R cs (n + acc.length) ∧ (cs.drop n).takeWhile isW = acc ++ (cs.drop (n + acc.length)).takeWhile isW, ⟨_, [], rfl, rfl, Bu.refl _, hR, rfl⟩, ?_⟩
  rintro m σ H1 ⟨acc, rfl, rfl, b1, r1, d1⟩
  obtain ⟨dx, row, col, deep, e, hn, hc⟩ := id r1
  walk_at "go"
  refine r_mtI e (by decide +kernel) ?_
  walk_at "go"
  refine ⟨R, cs, _, r1, rfl, ?_⟩
  walk_at "go"
  cases hx : cs[n + acc.length]? with
  | none =>
    have hd : cs.drop (n + acc.length) = [] := List.drop_eq_nil_of_le (List.getElem?_eq_none_iff.mp hx)
    rw [hd] at d1 ⊢
    refine ndifF rfl ?_
    walk_at "go"
    simp only [List.takeWhile_nil, List.append_nil] at d1
    rw [d1] at q
    exact q H1 b1 r1
  | some c =>
    rw [see1 hx]
    refine ndifT (sne (by simp)) ?_
    walk_at "go"
    refine r_mtI e (by decide +kernel) ?_
    walk_at "go"
    refine ⟨R, cs, _, r1, rfl, ?_⟩
    rw [see1 hx]
    walk_at "go"
    have hl : n + acc.length < cs.length := (List.getElem?_eq_some_iff.mp hx).1
    rcases Decidable.em (c ∈ wordL) with hw | hw
    · refine difT hw ?_
      have d2 : (cs.drop n).takeWhile isW = (acc ++ [c]) ++ (cs.drop (n + (acc ++ [c]).length)).takeWhile isW := by
        rw [d1, drop_at hx, List.takeWhile_cons_of_pos (by exact decide_eq_true hw), List.append_assoc, List.length_append]
        rfl
      refine ⟨fun σ' H' => σ' = [some (.ref R), some (.str (S (acc ++ [c])))] ∧ Bu R H H' ∧ RdAt A H' R cs (n + (acc ++ [c]).length), ?_, ?_⟩
      · rintro σ' H' ⟨rfl, b2, r2⟩
        exact ⟨_, (by simp; omega : cs.length - (n + (acc ++ [c]).length) < cs.length - (n + acc.length)), acc ++ [c], rfl, rfl, b2, r2, d2⟩
      · refine r_aug rfl ?_
        walk_at "go"
        refine r_mtI e (by decide +kernel) ?_
        walk_at "go"
        refine ⟨R, cs, _, c, r1, rfl, hx, (word_white c hw).2.2, fun H2 b2 r2 => ?_⟩
        refine ⟨S acc, S [c], rfl, rfl, by have := szBig; rw [SX.S_len, SX.S_len]; simp; omega, ?_⟩
        rw [SX.S_cat]
        refine ⟨rfl, b1.trans b2, ?_⟩
        rw [List.length_append]
        exact r2
    · refine difF hw ?_
      walk_at "go"
      have d2 : (cs.drop n).takeWhile isW = acc := by
        rw [d1, drop_at hx, List.takeWhile_cons_of_neg (by simpa [isW] using hw), List.append_nil]
      rw [d2] at q
      exact q H1 b1 r1
end
section
local macro_rules | `(tactic| walk_at "fld") => `(tactic| (refine fkT (w := ?w) (K := ?K) (mg := ?mg) (A := ?A) ?t ?e ?h; (case t => assumption); (case e => exact rfl); (case h => first | with_reducible exact g_Look_matrix (by assumption) | with_reducible exact g_Look_path (by assumption) | with_reducible exact g_Look_ink (by assumption) | with_reducible exact g_Look_width (by assumption) | with_reducible exact g_Look_clips (by assumption) | with_reducible exact g_Look_font (by assumption) | with_reducible exact g_World_operands (by assumption) | with_reducible exact g_World_rooms (by assumption) | with_reducible exact g_World_scopes (by assumption) | with_reducible exact g_World_look (by assumption) | with_reducible exact g_World_kept (by assumption) | with_reducible exact g_World_sheets (by assumption) | with_reducible exact g_World_inkings (by assumption) | with_reducible exact g_World_saves (by assumption) | with_reducible exact g_World_many_saves (by assumption) | with_reducible exact g_Items_body (by assumption) | with_reducible exact g_Items_at (by assumption) | with_reducible exact g_Reader_text (by assumption) | with_reducible exact g_Reader_at (by assumption) | with_reducible exact g_Reader_row (by assumption) | with_reducible exact g_Reader_column (by assumption) | with_reducible exact g_Reader_deep (by assumption) | with_reducible exact g_Machine_wide (by assumption) | with_reducible exact g_Machine_high (by assumption) | with_reducible exact g_Machine_most (by assumption) | with_reducible exact g_Machine_world (by assumption) | with_reducible exact g_Machine_frames (by assumption) | with_reducible exact g_Machine_left (by assumption) | with_reducible exact g_Machine_told (by assumption) | with_reducible exact g_Machine_is_running (by assumption) | with_reducible exact g_Machine_ahead (by assumption) | with_reducible exact g_Machine_past (by assumption) | with_reducible exact g_Machine_later (by assumption))))
/-- as many steps as go by themselves -/
local macro_rules | `(tactic| walk_at "g1") => `(tactic| (first
  | with_reducible refine r_seq ?_ | with_reducible refine r_set ?_ | with_reducible refine r_asg ?_ | with_reducible refine r_sl ?_ | with_reducible refine r_np ?_ | with_reducible refine r_pt ?_ | with_reducible refine r_gn ?_ | with_reducible refine r_gc ?_ | with_reducible refine r_g0 ?_ | ((with_reducible refine r_gt (xs := ?xs) ?h ?g ?_); (case h => assumption); (case g => exact rfl)) | with_reducible refine r_ret ?_ | with_reducible refine r_if ?_ | with_reducible refine r_test ?_ | with_reducible refine r_B ?_ | with_reducible refine r_and ?_ | with_reducible refine r_or ?_ | with_reducible refine r_not ?_
  | with_reducible refine r_andV ?_ | with_reducible refine r_orV ?_ | with_reducible refine r_notV ?_ | with_reducible refine r_ifx ?_ | with_reducible refine r_op ?_ | with_reducible refine r_un ?_ | with_reducible refine r_U ?_ | with_reducible refine r_c ?_ | with_reducible refine r_I0 ?_ | with_reducible refine r_drop ?_ | with_reducible refine r_next ?_
  | ((with_reducible refine r_var (v := ?v) ?h ?_); (case h => exact rfl)) | with_reducible refine r_bl ?_ | with_reducible refine r_nil ?_ | with_reducible refine r_cons ?_ | with_reducible refine r_cb ?_ | with_reducible refine r_call ?_ | ((with_reducible refine r_gl (xs := ?xs) ?h ?g ?_); (case h => assumption); (case g => exact rfl)) | with_reducible refine r_sm1 ?_ | with_reducible refine r_sm2 ?_ | with_reducible refine r_sm3 ?_ | with_reducible refine r_ch ?_ | with_reducible refine r_bm ?_ | with_reducible refine r_bm0 ?_ | ((with_reducible refine r_ty (xs := ?xs) ?e ?_); (case e => assumption)) | with_reducible refine r_mkU ?_ | with_reducible refine r_mt0 ?_ | with_reducible refine r_yes ?_ | with_reducible refine iteT ?_ | with_reducible refine iteF ?_ | with_reducible refine r_spk ?_ | with_reducible refine r_sp1 ?_ | with_reducible refine r_sp2 ?_ | with_reducible refine r_sp3 ?_ | with_reducible refine r_sp4 ?_ | with_reducible refine r_sp5 ?_
  | with_reducible refine r_tup ?_ | with_reducible refine r_lst ?_ | with_reducible refine r_par ?_ | with_reducible refine r_par2 ?_ 
  | ((with_reducible refine r_eq ?h ?_); (case h => exact rfl)) | ((with_reducible refine r_ne ?h ?_); (case h => exact rfl))
  | ((with_reducible refine r_ixT (xs := ?xs) (v := ?v) ?h ?g ?_); (case h => assumption); (case g => first | exact at0 | exact at1))
  | ((with_reducible refine r_fl (i := ?i) (nm := ?nm) (C := ?C) (dx := ?dx) (vs := ?vs) (v := ?v) ?ok ?e ?hv ?_); (case e => assumption); (case ok => walk_at "fld"); (case hv => rfl)) | with_reducible refine r_for ?_ | with_reducible refine r_il ?_ | with_reducible refine r_it ?_ | with_reducible refine r_iz ?_ | with_reducible refine r_ir1 ?_ | with_reducible refine r_ir2 ?_ | with_reducible refine r_lc ?_ | with_reducible refine r_sFld ?_ | with_reducible refine r_ck ?_ | with_reducible refine r_fld ?_ | with_reducible refine ⟨_, rfl, ?_⟩ | with_reducible refine ⟨_, _, rfl, .inr (by with_unfolding_all assumption), ?_⟩ | with_reducible refine ⟨_, _, rfl, .inl (seqL (by assumption)), ?_⟩ | with_reducible refine ⟨_, _, rfl, rfl, ?_⟩ | with_reducible refine ⟨_, _, rfl, ?_⟩ | with_reducible refine ⟨rfl, ?_⟩ | with_reducible refine r_sz ?_))
local macro_rules | `(tactic| walk_at "go") => `(tactic| (repeat walk_at "g1"))
variable {P : Program} {w : World} {K : PySem.W.Frag} {mg : Str → Option Value} {A : Ad} {base : Heap}
/-! figures, is_name. -/
open SX (S)
def digL : List Nat := (Str.ofString "0123456789").cps.toList
def figsB (cs : List Nat) : Bool := decide (1 ≤ cs.length) && decide (cs.length ≤ 40) && cs.all fun c => decide (c ∈ digL)
theorem r_is {σ : L2.St} {H : Hp} {te : TE} {R : It → Hp → Prop} (h : te σ H fun v H1 => ∃ x, v = .str x ∧ R (Its x) H1) : iStr te σ H R := h
theorem accB {acc : List V} {cs : List Nat} {p : Nat → Bool} (l : acc.length = cs.length) (h : ∀ (j : Nat) (v : V), acc[j]? = some v → ∀ c : Nat, cs[j]? = some c → v = V.bl (p c)) : acc = (cs.map p).map V.bl := by
  apply List.ext_getElem?
  intro j
  by_cases hj : j < cs.length
  · have h1 : acc[j]? = some (acc[j]'(by omega)) := List.getElem?_eq_getElem _
    have h2 : cs[j]? = some cs[j] := List.getElem?_eq_getElem _
    rw [h1, h _ _ h1 _ h2]
    simp [hj]
  · rw [List.getElem?_eq_none (by omega), List.getElem?_eq_none (by simp; omega)]
abbrev spFigures : Sp := Sp1 fun a H Q => ∃ cs, a = .str (S cs) ∧ cs.length ≤ 1000 ∧ ∀ H', Same H H' → Q (.bl (figsB cs)) H'
theorem sc_figures : FnScope ["word", "sign"] ["word"] (defScope s_figures) := ⟨rfl, rfl, rfl, by decide +kernel, rfl, by decide +kernel, by decide +kernel⟩
theorem cal_figures (T : Tx w K mg A) : Cal P w K mg base 1 "figures" spFigures [] := by
  refine calOf T.f_figures sc_figures (fun _ _ _ _ _ _ us hl => match us, hl with | [_], _ => rfl) Sp1.len fun f cdv Ar outer s H vs Q E hr h => ?_
  obtain ⟨_, rfl, cs, rfl, hc, q⟩ := h
  refine ⟨_, (pss_one (ps_ret (pe_and (pe_chain op_le op_le pe_int (pe_callB call_len_str rfl T.n_len PySem.boot_len (pa_cons (pv 0) pa_nil)) pe_int) (pe_one (pe_callB (cr_all rfl) rfl T.n_all (by decide +kernel) (pa_cons (pe_lc (own := [("sign", 1)]) (g := (gName 1)) (tt := tYes) rfl sc_figures.nd (pi_str (pv 0)) (blkOk_by (N := ["word", "sign"]) (sc := defScope s_figures) (by decide +kernel)) (fun _ _ _ _ _ => (pg_name (i := 1) sc_figures.nd rfl (.inl rfl))) (fun _ _ _ _ _ => pts_nil) (fun _ _ _ _ _ => (pe_cmpR op_in_sign (pv 1) (pe_gc rfl T.v_FIGURES) rfl))) pa_nil)))))), ?_⟩
  walk_at "go"
  refine ⟨by have := sz1000; rw [SX.S_len]; omega, ?_⟩
  rw [SX.S_len]
  walk_at "go"
  refine ite2 (fun h1 => ?_) fun h1 => ?_
  · walk_at "go"
    refine ite2 (fun h2 => ?_) fun h2 => ?_
    · walk_at "go"
      refine r_is ?_
      walk_at "go"
      intro D fD
      refine lc_all (K := K) walk_str fD (by have := sz1000; show cs.toArray.size ≤ _; rw [List.size_toArray]; omega) (fun i v _ => ∀ c, cs[i]? = some c → v = .bl (decide (c ∈ digL))) (fun _ _ _ _ _ _ h => h) (fun _ _ => trivial) ?_ ?_
      · rintro i x H2 H2' N M hi sh ⟨rfl, c, hcc, rfl⟩ hN
        walk_at "go"
        refine hN _ _ (Same.refl _) fun c' e => ?_
        rw [show (S cs).cps[i]? = cs[i]? from by simp] at hcc
        rw [hcc] at e
        cases e
        rfl
      · intro H2 acc sh ea la ra
        have e1 := accB (p := fun c => decide (c ∈ digL)) (by rw [la]; exact List.size_toArray) ra
        rw [e1] at ea
        walk_at "go"
        refine ⟨D, cs.map fun c => decide (c ∈ digL), rfl, seqL ea, ?_⟩
        have e2 : figsB cs = (cs.map fun c => decide (c ∈ digL)).all id := by
          have h1' : 1 ≤ cs.length := by have := of_decide_eq_true h1; omega
          have h2' : cs.length ≤ 40 := by have := of_decide_eq_true h2; omega
          unfold figsB
          rw [decide_eq_true h1', decide_eq_true h2', List.all_map]
          rfl
        rw [← e2]
        exact q H2 sh
    · have e2 : figsB cs = false := by
        unfold figsB
        rw [decide_eq_false (show ¬ cs.length ≤ 40 from fun z => h2 (decide_eq_true (by omega)))]
        simp
      rw [e2] at q
      exact q H (Same.refl _)
  · have e2 : figsB cs = false := by
      unfold figsB
      rw [decide_eq_false (show ¬ 1 ≤ cs.length from fun z => h1 (decide_eq_true (by omega)))]
      simp
    rw [e2] at q
    walk_at "go"
    exact q H (Same.refl _)
def letL : List Nat := (Str.ofString "abcdefghijklmnopqrstuvwxyz").cps.toList
def nameL : List Nat := wordL.take 37
def nameB (cs : List Nat) : Bool := decide (1 ≤ cs.length) && decide (cs.length ≤ 12) && cs.head?.any (fun c => decide (c ∈ letL)) && cs.all fun c => decide (c ∈ nameL)
structure NameW (cs : List Nat) : Prop where
  l1 : 1 ≤ cs.length
  l2 : cs.length ≤ 12
  hd : ∃ c, cs[0]? = some c ∧ c ∈ letL
  al : ∀ c ∈ cs, c ∈ nameL
theorem cutS37 : (cutS (Str.ofString "abcdefghijklmnopqrstuvwxyz0123456789-:.") none (some 37)).cps.toList = nameL := by decide +kernel
abbrev spIsName : Sp := Sp1 fun a H Q => ∃ cs, a = .str (S cs) ∧ NameW cs ∧ ∀ H', Same H H' → Q (.bl true) H'
theorem sc_is_name : FnScope ["word", "sign"] ["word"] (defScope s_is_name) := ⟨rfl, rfl, rfl, by decide +kernel, rfl, by decide +kernel, by decide +kernel⟩
theorem cal_is_name (T : Tx w K mg A) : Cal P w K mg base 1 "is_name" spIsName [] := by
  refine calOf T.f_is_name sc_is_name (fun _ _ _ _ _ _ us hl => match us, hl with | [_], _ => rfl) Sp1.len fun f cdv Ar outer s H vs Q E hr h => ?_
  obtain ⟨_, rfl, cs, rfl, hN, q⟩ := h
  refine ⟨_, (pss_cons (ps_if (PW.pt (pw_or (pt_not (pt_val (pe_callB call_isi rfl T.n_isinstance (by decide +kernel) (pa_cons (pv 0) (pa_cons (pe_bltn (v := .ty "str") rfl T.n_str (by decide +kernel) rfl) pa_nil))))) (pw_or (pt_not (pt_chain op_le op_le pe_int (pe_callB call_len_str rfl T.n_len PySem.boot_len (pa_cons (pv 0) pa_nil)) pe_int)) (pw_or1 (pt_cmpR op_notIn_sign (pe_ix ix_str (pv 0) pe_int (fun _ _ => rfl)) (pe_gc rfl T.v_LETTERS) rfl)))))
    pss_never
    pss_nil)
    (pss_one (ps_ret (pe_callB (cr_all rfl) rfl T.n_all (by decide +kernel) (pa_cons (pe_lc (own := [("sign", 1)]) (g := (gName 1)) (tt := tYes) rfl sc_is_name.nd (pi_str (pv 0)) (blkOk_by (N := ["word", "sign"]) (sc := defScope s_is_name) (by decide +kernel)) (fun _ _ _ _ _ => (pg_name (i := 1) sc_is_name.nd rfl (.inl rfl))) (fun _ _ _ _ _ => pts_nil) (fun _ _ _ _ _ => (pe_cmpR op_in_sign (pv 1) (pe_slice sl_str (pe_gc rfl T.v_WORD) po_none (po_some pe_int)) rfl))) pa_nil))))), ?_⟩
  have hl1 := hN.l1
  have hl2 := hN.l2
  obtain ⟨c0, hc0, hlet⟩ := hN.hd
  walk_at "go"
  refine ⟨_, _, .type "str", .type "str", true, rfl, .ty "str", .base (.str _), rfl, ?_⟩
  walk_at "go"
  refine iteF ?_
  walk_at "go"
  refine ⟨by have := sz1000; rw [SX.S_len]; omega, ?_⟩
  rw [SX.S_len]
  walk_at "go"
  refine difT (by omega) ?_
  walk_at "go"
  rw [decide_eq_true (show ((cs.length : Int) ≤ 12) by omega)]
  refine iteF ?_
  walk_at "go"
  refine ⟨_, 0, c0, rfl, rfl, by have := sz1000; rw [SX.S_len]; omega, atI_nat (j := 0) hc0, ?_⟩
  walk_at "go"
  refine ndifF hlet ?_
  walk_at "go"
  refine r_is ?_
  walk_at "go"
  intro D fD
  refine lc_all (K := K) walk_str fD (by have := sz1000; show cs.toArray.size ≤ _; rw [List.size_toArray]; omega) (fun i v _ => ∀ c, cs[i]? = some c → v = .bl true) (fun _ _ _ _ _ _ h => h) (fun _ _ => trivial) ?_ ?_
  · rintro i x H2 H2' N M hi sh ⟨rfl, c, hcc, rfl⟩ hN2
    rw [show (S cs).cps[i]? = cs[i]? from by simp] at hcc
    walk_at "go"
    refine ⟨_, rfl, by decide, ?_⟩
    refine ⟨c, _, rfl, rfl, ?_⟩
    rw [cutS37, decide_eq_true (hN.al c (List.mem_of_getElem? hcc))]
    exact hN2 _ _ (Same.refl _) fun _ _ => rfl
  · intro H2 acc sh ea la ra
    have e1 := accB (p := fun _ => true) (by rw [la]; exact List.size_toArray) ra
    rw [e1] at ea
    walk_at "go"
    refine ⟨D, cs.map fun _ => true, rfl, seqL ea, ?_⟩
    have e2 : (cs.map fun _ => true).all id = true := by simp
    rw [e2]
    exact q H2 sh
end
section
local macro_rules | `(tactic| walk_at "fld") => `(tactic| (refine fkT (w := ?w) (K := ?K) (mg := ?mg) (A := ?A) ?t ?e ?h; (case t => assumption); (case e => exact rfl); (case h => first | with_reducible exact g_Look_matrix (by assumption) | with_reducible exact g_Look_path (by assumption) | with_reducible exact g_Look_ink (by assumption) | with_reducible exact g_Look_width (by assumption) | with_reducible exact g_Look_clips (by assumption) | with_reducible exact g_Look_font (by assumption) | with_reducible exact g_World_operands (by assumption) | with_reducible exact g_World_rooms (by assumption) | with_reducible exact g_World_scopes (by assumption) | with_reducible exact g_World_look (by assumption) | with_reducible exact g_World_kept (by assumption) | with_reducible exact g_World_sheets (by assumption) | with_reducible exact g_World_inkings (by assumption) | with_reducible exact g_World_saves (by assumption) | with_reducible exact g_World_many_saves (by assumption) | with_reducible exact g_Items_body (by assumption) | with_reducible exact g_Items_at (by assumption) | with_reducible exact g_Reader_text (by assumption) | with_reducible exact g_Reader_at (by assumption) | with_reducible exact g_Reader_row (by assumption) | with_reducible exact g_Reader_column (by assumption) | with_reducible exact g_Reader_deep (by assumption) | with_reducible exact g_Machine_wide (by assumption) | with_reducible exact g_Machine_high (by assumption) | with_reducible exact g_Machine_most (by assumption) | with_reducible exact g_Machine_world (by assumption) | with_reducible exact g_Machine_frames (by assumption) | with_reducible exact g_Machine_left (by assumption) | with_reducible exact g_Machine_told (by assumption) | with_reducible exact g_Machine_is_running (by assumption) | with_reducible exact g_Machine_ahead (by assumption) | with_reducible exact g_Machine_past (by assumption) | with_reducible exact g_Machine_later (by assumption))))
/-- as many steps as go by themselves -/
local macro_rules | `(tactic| walk_at "g1") => `(tactic| (first
  | with_reducible refine r_seq ?_ | with_reducible refine r_set ?_ | with_reducible refine r_asg ?_ | with_reducible refine r_sl ?_ | with_reducible refine r_np ?_ | with_reducible refine r_pt ?_ | with_reducible refine r_gn ?_ | with_reducible refine r_gc ?_ | with_reducible refine r_g0 ?_ | ((with_reducible refine r_gt (xs := ?xs) ?h ?g ?_); (case h => assumption); (case g => exact rfl)) | with_reducible refine r_ret ?_ | with_reducible refine r_if ?_ | with_reducible refine r_test ?_ | with_reducible refine r_B ?_ | with_reducible refine r_and ?_ | with_reducible refine r_or ?_ | with_reducible refine r_not ?_
  | with_reducible refine r_andV ?_ | with_reducible refine r_orV ?_ | with_reducible refine r_notV ?_ | with_reducible refine r_ifx ?_ | with_reducible refine r_op ?_ | with_reducible refine r_un ?_ | with_reducible refine r_U ?_ | with_reducible refine r_c ?_ | with_reducible refine r_I0 ?_ | with_reducible refine r_drop ?_ | with_reducible refine r_next ?_
  | ((with_reducible refine r_var (v := ?v) ?h ?_); (case h => exact rfl)) | with_reducible refine r_bl ?_ | with_reducible refine r_nil ?_ | with_reducible refine r_cons ?_ | with_reducible refine r_cb ?_ | with_reducible refine r_call ?_ | ((with_reducible refine r_gl (xs := ?xs) ?h ?g ?_); (case h => assumption); (case g => exact rfl)) | with_reducible refine r_sm1 ?_ | with_reducible refine r_sm2 ?_ | with_reducible refine r_sm3 ?_ | with_reducible refine r_ch ?_ | with_reducible refine r_bm ?_ | with_reducible refine r_bm0 ?_ | ((with_reducible refine r_ty (xs := ?xs) ?e ?_); (case e => assumption)) | with_reducible refine r_mkU ?_ | with_reducible refine r_mt0 ?_ | with_reducible refine r_yes ?_ | with_reducible refine iteT ?_ | with_reducible refine iteF ?_ | with_reducible refine r_spk ?_ | with_reducible refine r_sp1 ?_ | with_reducible refine r_sp2 ?_ | with_reducible refine r_sp3 ?_ | with_reducible refine r_sp4 ?_ | with_reducible refine r_sp5 ?_
  | with_reducible refine r_tup ?_ | with_reducible refine r_lst ?_ | with_reducible refine r_par ?_ | with_reducible refine r_par2 ?_ 
  | ((with_reducible refine r_eq ?h ?_); (case h => exact rfl)) | ((with_reducible refine r_ne ?h ?_); (case h => exact rfl))
  | ((with_reducible refine r_ixT (xs := ?xs) (v := ?v) ?h ?g ?_); (case h => assumption); (case g => first | exact at0 | exact at1))
  | ((with_reducible refine r_fl (i := ?i) (nm := ?nm) (C := ?C) (dx := ?dx) (vs := ?vs) (v := ?v) ?ok ?e ?hv ?_); (case e => assumption); (case ok => walk_at "fld"); (case hv => rfl)) | with_reducible refine r_for ?_ | with_reducible refine r_il ?_ | with_reducible refine r_it ?_ | with_reducible refine r_iz ?_ | with_reducible refine r_ir1 ?_ | with_reducible refine r_ir2 ?_ | with_reducible refine r_lc ?_ | with_reducible refine r_sFld ?_ | with_reducible refine r_ck ?_ | with_reducible refine r_fld ?_ | with_reducible refine ⟨_, rfl, ?_⟩ | with_reducible refine ⟨_, _, rfl, .inr (by with_unfolding_all assumption), ?_⟩ | with_reducible refine ⟨_, _, rfl, .inl (seqL (by assumption)), ?_⟩ | with_reducible refine ⟨_, _, rfl, rfl, ?_⟩ | with_reducible refine ⟨_, _, rfl, ?_⟩ | with_reducible refine ⟨rfl, ?_⟩ | with_reducible refine r_sz ?_))
local macro_rules | `(tactic| walk_at "go") => `(tactic| (repeat walk_at "g1"))
variable {P : Program} {w : World} {K : PySem.W.Frag} {mg : Str → Option Value} {A : Ad} {base : Heap}
/-! read_number. -/
open SX (S)
def sgnI (neg : Bool) : Int := if neg then -1 else 1
/-- the word's sign and what follows it -/
structure Sg (cs rest : List Nat) (neg : Bool) : Prop where
  t : decide (cs.take 1 = [45]) = neg
  r : rest = if neg then cs.drop 1 else cs
abbrev dv (cs : List Nat) : Int := ((NumText.digitsVal cs : Nat) : Int)
inductive NumIs : List Nat → Num → Prop
  | whole {cs rest : List Nat} {neg : Bool} : Sg cs rest neg → figsB rest = true → NumText.digitsVal rest < 10 ^ 9 → NumIs cs (nrm (sgnI neg * dv rest) 1)
  | frac {cs rest p q : List Nat} {neg : Bool} : Sg cs rest neg → figsB rest = false → TL.spl [58] 0 [] rest = [p, q] → figsB p = true → figsB q = true → 0 < NumText.digitsVal q → NumText.digitsVal p < 10 ^ 9 → NumText.digitsVal q < 10 ^ 9 → NumIs cs (nrm (sgnI neg * dv p) (dv q))
structure NotNum (cs : List Nat) : Prop where
  s : ¬ cs.take 1 = [45]
  f : figsB cs = false
  c : (TL.spl [58] 0 [] cs).length ≠ 2
  d : (TL.spl [46] 0 [] cs).length ≠ 2
theorem dig_val {cs : List Nat} (h : figsB cs = true) : intText? (S cs) = some (dv cs) ∧ cs.length ≤ 40 := by
  unfold figsB at h
  rw [Bool.and_eq_true, Bool.and_eq_true] at h
  obtain ⟨⟨h1, h2⟩, h3⟩ := h
  have g1 := of_decide_eq_true h1
  have g2 := of_decide_eq_true h2
  refine ⟨SX.int_S (List.all_eq_true.mpr fun c m => ?_) (fun z => by rw [z] at g1; simp at g1) (by omega), g2⟩
  have := of_decide_eq_true (List.all_eq_true.mp h3 c m)
  have key : ∀ c ∈ digL, (decide (48 ≤ c) && decide (c ≤ 57)) = true := by decide +kernel
  exact key c this
abbrev spReadNumber (K : PySem.W.Frag) : Sp := Sp1 fun a H Q => ∃ cs, a = .str (S cs) ∧ cs.length ≤ 1000 ∧ ((∃ n, NumIs cs n ∧ ∀ v H', Same H H' → Nm K H' v n → Q v H') ∨ (NotNum cs ∧ ∀ H', Same H H' → Q .non H'))
theorem sc_read_number : FnScope ["word", "rest", "sign", "between", "parts"] ["word"] (defScope s_read_number) := ⟨rfl, rfl, rfl, by decide +kernel, rfl, by decide +kernel, by decide +kernel⟩
theorem cutTo1 (cs : List Nat) : cutS (S cs) none (some 1) = S (cs.take 1) := by
  have hl : (S cs).length = cs.length := SX.S_len cs
  have e2 : HT.sIx cs.length cs.length (some 1) = min 1 cs.length := HT.sIx_nat cs.length cs.length 1
  show (⟨((cs.drop (HT.sIx (S cs).length 0 Option.none)).take (HT.sIx (S cs).length (S cs).length (some 1) - HT.sIx (S cs).length 0 Option.none)).toArray⟩ : Str) = S (cs.take 1)
  rw [hl, e2, HT.sIx_none, Nat.sub_zero, List.drop_zero]
  by_cases h : 1 ≤ cs.length
  · rw [Nat.min_eq_left h]
  · have : cs = [] := List.eq_nil_of_length_eq_zero (by omega)
    subst this
    rfl
theorem cutFrom1 (cs : List Nat) : cutS (S cs) (some 1) none = S (cs.drop 1) := by
  have hl : (S cs).length = cs.length := SX.S_len cs
  have e1 : HT.sIx cs.length 0 (some 1) = min 1 cs.length := HT.sIx_nat cs.length 0 1
  show (⟨((cs.drop (HT.sIx (S cs).length 0 (some 1))).take (HT.sIx (S cs).length (S cs).length Option.none - HT.sIx (S cs).length 0 (some 1))).toArray⟩ : Str) = S (cs.drop 1)
  rw [hl, e1, HT.sIx_none]
  by_cases h : 1 ≤ cs.length
  · rw [Nat.min_eq_left h, List.take_of_length_le (by rw [List.length_drop]; omega)]
  · have : cs = [] := List.eq_nil_of_length_eq_zero (by omega)
    subst this
    rfl
theorem dec45 (cs : List Nat) : decide (V.str (S (cs.take 1)) = V.str (Str.ofString "-")) = decide (cs.take 1 = [45]) := by
  by_cases h : cs.take 1 = [45]
  · rw [decide_eq_true h, h]
    exact decide_eq_true (by decide +kernel)
  · rw [decide_eq_false h, decide_eq_false]
    intro z
    injection z with z
    exact h (SX.S_inj (a := cs.take 1) (b := [45]) z)
theorem mul_sg {neg : Bool} {k : Nat} (h : k < 10 ^ 9) : CMulW (sgnI neg) (k : Int) ∧ (sgnI neg * (k : Int)).natAbs < 10 ^ 40 := by
  have h60 : ((k : Int)).natAbs < 2 ^ 60 := by omega
  refine ⟨Sm.mul (by cases neg <;> decide) h60, ?_⟩
  rw [Int.natAbs_mul]
  have : (sgnI neg).natAbs = 1 := by cases neg <;> rfl
  rw [this]
  omega
theorem r_m1 {r : V → List V → Hp → VK → Prop} {to te : TE} {σ : L2.St} {H : Hp} {Q : VK} (h : to σ H fun x H1 => (∃ a, x = .str a) ∧ te σ H1 fun y H2 => r x [y] H2 Q) : tM1 r to te σ H Q := h
theorem Sg.uniq {cs r r' : List Nat} {n n' : Bool} (a : Sg cs r n) (b : Sg cs r' n') : n = n' ∧ r = r' := by
  have e : n = n' := a.t.symm.trans b.t
  subst e
  exact ⟨rfl, a.r.trans b.r.symm⟩
theorem split_at {cs : List Nat} : Txt.split (S cs) (Str.ofString ":") = (TL.spl [58] 0 [] cs).map S := SX.split_S (b := [58]) (by decide) (by decide)
theorem split_dot {cs : List Nat} : Txt.split (S cs) (Str.ofString ".") = (TL.spl [46] 0 [] cs).map S := SX.split_S (b := [46]) (by decide) (by decide)
theorem cal_read_number (T : Tx w K mg A) : Cal P w K mg base 3 "read_number" (spReadNumber K) [] := by
  refine calOf T.f_read_number sc_read_number (fun _ _ _ _ _ _ us hl => match us, hl with | [_], _ => rfl) Sp1.len fun f cdv Ar outer s H vs Q E hr h => ?_
  obtain ⟨_, rfl, cs, rfl, hc, hQ⟩ := h
  have hz : (S cs).length ≤ sizeLine := by have := sz1000; rw [SX.S_len]; omega
  have key : ∃ rest neg, Sg cs rest neg ∧ rest.length ≤ 1000 := ⟨_, _, ⟨rfl, rfl⟩, by split <;> first | omega | (rw [List.length_drop]; omega)⟩
  obtain ⟨rest, neg, hS, hrl⟩ := key
  have tail : ∃ t, PSs (cxOf C8.CX0 P w K mg base ["word", "rest", "sign", "between", "parts"] "read_number" (defScope s_read_number) f cdv Ar outer s H E).nox ((defBody s_read_number).drop 2) t ∧
      t { nx := fun _ H' => Q .non H', rt := Q } [some (.str (S cs)), some (.str (S rest)), some (.int (sgnI neg)), none, none] H := by
    refine ⟨_, (pss_cons (ps_if (pt_val (pe_c (cal_figures T) hr (by decide) rfl (pa_cons (pv 1) pa_nil)))
    (pss_one (ps_ret (pe_c (cal_made T) hr (by decide) rfl (pa_cons (pe_op op_mulW (pv 2) (pe_callTy call_int_str rfl T.n_int (by decide +kernel) (pa_cons (pv 1) pa_nil))) (pa_cons pe_int pa_nil)))))
    pss_nil)
    (pss_cons (ps_for PassesOwn.never rfl (pi_tup (pe_tup (pa_cons pe_str (pa_cons pe_str pa_nil)))) (pg_name (i := 3) sc_read_number.nd rfl (.inl rfl))
    (pss_cons (ps_set (i := 4) sc_read_number.nd rfl (.inl rfl) (pe_split (pv 1) (pv 3)))
    (pss_one (ps_if (PW.pt (pw_and (pt_cmpR op_eq (pe_callB call_len_seq rfl T.n_len PySem.boot_len (pa_cons (pv 4) pa_nil)) pe_int (nomark _)) (pw_and (pt_val (pe_c (cal_figures T) hr (by decide) rfl (pa_cons (pe_ix ix_list (pv 4) pe_int (fun _ _ => rfl)) pa_nil))) (pw_and1 (pt_val (pe_c (cal_figures T) hr (by decide) rfl (pa_cons (pe_ix ix_list (pv 4) pe_int (fun _ _ => rfl)) pa_nil)))))))
    (pss_cons (ps_if (pt_cmpR op_eq (pv 3) pe_str (nomark _)) pss_never pss_nil)
    (pss_one (ps_ret (pe_ifExp (pt_cmpR op_gt (pe_callTy call_int_str rfl T.n_int (by decide +kernel) (pa_cons (pe_ix ix_list (pv 4) pe_int (fun _ _ => rfl)) pa_nil)) pe_int (nomark _)) (pe_c (cal_made T) hr (by decide) rfl (pa_cons (pe_op op_mulW (pv 2) (pe_callTy call_int_str rfl T.n_int (by decide +kernel) (pa_cons (pe_ix ix_list (pv 4) pe_int (fun _ _ => rfl)) pa_nil))) (pa_cons (pe_callTy call_int_str rfl T.n_int (by decide +kernel) (pa_cons (pe_ix ix_list (pv 4) pe_int (fun _ _ => rfl)) pa_nil)) pa_nil))) pe_non))))
    pss_nil))))
    (pss_one (ps_ret pe_non)))), ?_⟩
    walk_at "go"
    refine ⟨hrl, fun H1 s1 => ?_⟩
    rcases hQ with ⟨n, hN, q⟩ | ⟨hN, q⟩
    · cases hN with
      | whole hS' hf hb =>
        obtain ⟨rfl, rfl⟩ := hS.uniq hS'
        rw [hf]
        walk_at "go"
        refine ⟨_, _, rfl, (dig_val hf).1, ?_, ?_⟩
        · rw [SX.S_len]
          have := (dig_val hf).2
          omega
        walk_at "go"
        refine r_I (mul_sg hb).1 ?_
        walk_at "go"
        exact ⟨by decide, (mul_sg hb).2, by decide, fun v H2 s2 hv => q v H2 (s1.trans s2) hv⟩
      | frac hS' hf hsp hfp hfq h0 hbp hbq =>
        rename_i pl ql _
        obtain ⟨rfl, rfl⟩ := hS.uniq hS'
        rw [hf]
        walk_at "go"
        intro p2 f2
        generalize g2 : upd _ _ _ = H2
        have ⟨s2, e2⟩ := nwT g2 f2
        walk_at "go"
        refine ⟨⟨_, e2 K⟩, ?_⟩
        refine for_it (walk_tup (xs := [.str ":", .str "."])) (fun i σ H' => i = 0 ∧ σ = [some (.str (S cs)), some (.str (S rest)), some (.int (sgnI neg)), none, none] ∧ Same H2 H') ⟨rfl, rfl, Same.refl _⟩ (fun i σ H' _ ⟨_, _, sh⟩ => sqS (e2 K) sh) ?_ (fun σ H' h => absurd h.1 (by decide))
        rintro i x σ H3 H3' hi ⟨rfl, rfl, sh⟩ ⟨rfl, hx⟩
        cases hx
        walk_at "go"
        refine r_m1 ?_
        walk_at "go"
        refine ⟨⟨_, rfl⟩, ?_⟩
        walk_at "go"
        refine ⟨by have := szBig; rw [SX.S_len]; omega, ?_⟩
        rw [split_at, hsp]
        intro p4 f4
        generalize g4 : upd _ _ _ = H4
        have ⟨s4, e4⟩ := nw g4 f4
        have lp := (dig_val hfp).2
        have lq := (dig_val hfq).2
        walk_at "go"
        refine difT rfl ?_
        walk_at "go"
        refine r_ixL (seqL e4) at0 ?_
        walk_at "go"
        refine ⟨by omega, fun H5 s5 => ?_⟩
        rw [hfp]
        have e5 := s5 _ _ e4
        walk_at "go"
        refine r_ixL (seqL e5) at1 ?_
        walk_at "go"
        refine ⟨by omega, fun H6 s6 => ?_⟩
        rw [hfq]
        have e6 := s6 _ _ e5
        walk_at "go"
        refine difF (by decide +kernel) ?_
        walk_at "go"
        refine r_ixL (seqL e6) at1 ?_
        walk_at "go"
        refine ⟨_, _, rfl, (dig_val hfq).1, by rw [SX.S_len]; omega, ?_⟩
        walk_at "go"
        have hq0 : (0 : Int) < dv ql := by show (0 : Int) < ((NumText.digitsVal ql : Nat) : Int); omega
        have hq1 : (dv ql).natAbs < 10 ^ 40 := by show (((NumText.digitsVal ql : Nat) : Int)).natAbs < _; omega
        refine difT hq0 ?_
        walk_at "go"
        refine r_ixL (seqL e6) at0 ?_
        walk_at "go"
        refine ⟨_, _, rfl, (dig_val hfp).1, by rw [SX.S_len]; omega, ?_⟩
        walk_at "go"
        refine r_I (mul_sg hbp).1 ?_
        walk_at "go"
        refine r_ixL (seqL e6) at1 ?_
        walk_at "go"
        refine ⟨_, _, rfl, (dig_val hfq).1, by rw [SX.S_len]; omega, ?_⟩
        walk_at "go"
        have sh6 := s1.trans (s2.trans (sh.trans (s4.trans (s5.trans s6))))
        exact ⟨hq0, (mul_sg hbp).2, hq1, fun v H7 s7 hv => q v H7 (sh6.trans s7) hv⟩
    · have hS0 : Sg cs cs false := ⟨decide_eq_false hN.s, rfl⟩
      obtain ⟨rfl, rfl⟩ := hS0.uniq hS
      rw [hN.f]
      walk_at "go"
      intro p2 f2
      generalize g2 : upd _ _ _ = H2
      have ⟨s2, e2⟩ := nwT g2 f2
      walk_at "go"
      refine ⟨⟨_, e2 K⟩, ?_⟩
      refine for_it (walk_tup (xs := [.str ":", .str "."])) (fun i σ H' => ∃ s3 s4, σ = [some (.str (S cs)), some (.str (S cs)), some (.int (sgnI false)), s3, s4] ∧ Same H2 H') ⟨_, _, rfl, Same.refl _⟩ (fun i σ H' _ ⟨_, _, _, sh⟩ => sqS (e2 K) sh) ?_ ?_
      · rintro i x σ H3 H3' hi ⟨s3, s4, rfl, sh⟩ ⟨rfl, hx⟩
        have hx2 : ∃ b : Str, x = .str b ∧ (b.length == 0) = false ∧ ∃ ys : List (List Nat), Txt.split (S cs) b = ys.map S ∧ ys.length ≠ 2 := by
          rcases i with _ | _ | i
          · cases hx
            exact ⟨_, rfl, by decide, _, split_at, hN.c⟩
          · cases hx
            exact ⟨_, rfl, by decide, _, split_dot, hN.d⟩
          · simp at hx
        obtain ⟨b, rfl, hb, ys, hys, hy2⟩ := hx2
        walk_at "go"
        refine r_m1 ?_
        walk_at "go"
        refine ⟨⟨_, rfl⟩, ?_⟩
        walk_at "go"
        refine ⟨hb, by have := szBig; rw [SX.S_len]; omega, ?_⟩
        rw [hys]
        intro p4 f4
        generalize g4 : upd _ _ _ = H4
        have ⟨s4, e4⟩ := nw g4 f4
        walk_at "go"
        refine difF (by simp; omega) ?_
        walk_at "go"
        exact sh.trans s4
      · rintro σ H3 ⟨s3, s4, rfl, sh⟩
        walk_at "go"
        exact q _ (s1.trans (s2.trans sh))
  obtain ⟨t, ht, htl⟩ := tail
  refine ⟨_, (pss_cons (ps_set (i := 1) sc_read_number.nd rfl (.inl rfl) (pe_ifExp (pt_cmpR op_eq (pe_slice sl_str (pv 0) po_none (po_some pe_int)) pe_str (nomark _)) (pe_slice sl_str (pv 0) (po_some pe_int) po_none) (pv 0)))
    (pss_cons (ps_set (i := 2) sc_read_number.nd rfl (.inl rfl) (pe_ifExp (pt_cmpR op_eq (pe_slice sl_str (pv 0) po_none (po_some pe_int)) pe_str (nomark _)) (pe_un un_neg pe_int) pe_int)) ht)), ?_⟩
  have hS2 := hS.r
  have hS1 := hS.t
  walk_at "go"
  refine ⟨_, rfl, hz, ?_⟩
  rw [cutTo1]
  walk_at "go"
  rw [dec45, hS1]
  cases neg with
  | true =>
    walk_at "go"
    refine ⟨_, rfl, hz, ?_⟩
    rw [cutFrom1]
    walk_at "go"
    refine ⟨_, rfl, hz, ?_⟩
    rw [cutTo1]
    walk_at "go"
    rw [dec45, hS1]
    walk_at "go"
    rw [if_pos rfl] at hS2
    rw [← hS2]
    exact htl
  | false =>
    walk_at "go"
    refine ⟨_, rfl, hz, ?_⟩
    rw [cutTo1]
    walk_at "go"
    rw [dec45, hS1]
    walk_at "go"
    rw [if_neg (by decide)] at hS2
    rw [hS2] at htl
    exact htl
end
section
local macro_rules | `(tactic| walk_at "fld") => `(tactic| (refine fkT (w := ?w) (K := ?K) (mg := ?mg) (A := ?A) ?t ?e ?h; (case t => assumption); (case e => exact rfl); (case h => first | with_reducible exact g_Look_matrix (by assumption) | with_reducible exact g_Look_path (by assumption) | with_reducible exact g_Look_ink (by assumption) | with_reducible exact g_Look_width (by assumption) | with_reducible exact g_Look_clips (by assumption) | with_reducible exact g_Look_font (by assumption) | with_reducible exact g_World_operands (by assumption) | with_reducible exact g_World_rooms (by assumption) | with_reducible exact g_World_scopes (by assumption) | with_reducible exact g_World_look (by assumption) | with_reducible exact g_World_kept (by assumption) | with_reducible exact g_World_sheets (by assumption) | with_reducible exact g_World_inkings (by assumption) | with_reducible exact g_World_saves (by assumption) | with_reducible exact g_World_many_saves (by assumption) | with_reducible exact g_Items_body (by assumption) | with_reducible exact g_Items_at (by assumption) | with_reducible exact g_Reader_text (by assumption) | with_reducible exact g_Reader_at (by assumption) | with_reducible exact g_Reader_row (by assumption) | with_reducible exact g_Reader_column (by assumption) | with_reducible exact g_Reader_deep (by assumption) | with_reducible exact g_Machine_wide (by assumption) | with_reducible exact g_Machine_high (by assumption) | with_reducible exact g_Machine_most (by assumption) | with_reducible exact g_Machine_world (by assumption) | with_reducible exact g_Machine_frames (by assumption) | with_reducible exact g_Machine_left (by assumption) | with_reducible exact g_Machine_told (by assumption) | with_reducible exact g_Machine_is_running (by assumption) | with_reducible exact g_Machine_ahead (by assumption) | with_reducible exact g_Machine_past (by assumption) | with_reducible exact g_Machine_later (by assumption))))
/-- as many steps as go by themselves -/
local macro_rules | `(tactic| walk_at "g1") => `(tactic| (first
  | with_reducible refine r_seq ?_ | with_reducible refine r_set ?_ | with_reducible refine r_asg ?_ | with_reducible refine r_sl ?_ | with_reducible refine r_np ?_ | with_reducible refine r_pt ?_ | with_reducible refine r_gn ?_ | with_reducible refine r_gc ?_ | with_reducible refine r_g0 ?_ | ((with_reducible refine r_gt (xs := ?xs) ?h ?g ?_); (case h => assumption); (case g => exact rfl)) | with_reducible refine r_ret ?_ | with_reducible refine r_if ?_ | with_reducible refine r_test ?_ | with_reducible refine r_B ?_ | with_reducible refine r_and ?_ | with_reducible refine r_or ?_ | with_reducible refine r_not ?_
  | with_reducible refine r_andV ?_ | with_reducible refine r_orV ?_ | with_reducible refine r_notV ?_ | with_reducible refine r_ifx ?_ | with_reducible refine r_op ?_ | with_reducible refine r_un ?_ | with_reducible refine r_U ?_ | with_reducible refine r_c ?_ | with_reducible refine r_I0 ?_ | with_reducible refine r_drop ?_ | with_reducible refine r_next ?_
  | ((with_reducible refine r_var (v := ?v) ?h ?_); (case h => exact rfl)) | with_reducible refine r_bl ?_ | with_reducible refine r_nil ?_ | with_reducible refine r_cons ?_ | with_reducible refine r_cb ?_ | with_reducible refine r_call ?_ | ((with_reducible refine r_gl (xs := ?xs) ?h ?g ?_); (case h => assumption); (case g => exact rfl)) | with_reducible refine r_sm1 ?_ | with_reducible refine r_sm2 ?_ | with_reducible refine r_sm3 ?_ | with_reducible refine r_ch ?_ | with_reducible refine r_bm ?_ | with_reducible refine r_bm0 ?_ | ((with_reducible refine r_ty (xs := ?xs) ?e ?_); (case e => assumption)) | with_reducible refine r_mkU ?_ | with_reducible refine r_mt0 ?_ | with_reducible refine r_yes ?_ | with_reducible refine iteT ?_ | with_reducible refine iteF ?_ | with_reducible refine r_spk ?_ | with_reducible refine r_sp1 ?_ | with_reducible refine r_sp2 ?_ | with_reducible refine r_sp3 ?_ | with_reducible refine r_sp4 ?_ | with_reducible refine r_sp5 ?_
  | with_reducible refine r_tup ?_ | with_reducible refine r_lst ?_ | with_reducible refine r_par ?_ | with_reducible refine r_par2 ?_ 
  | ((with_reducible refine r_eq ?h ?_); (case h => exact rfl)) | ((with_reducible refine r_ne ?h ?_); (case h => exact rfl))
  | ((with_reducible refine r_ixT (xs := ?xs) (v := ?v) ?h ?g ?_); (case h => assumption); (case g => first | exact at0 | exact at1))
  | ((with_reducible refine r_fl (i := ?i) (nm := ?nm) (C := ?C) (dx := ?dx) (vs := ?vs) (v := ?v) ?ok ?e ?hv ?_); (case e => assumption); (case ok => walk_at "fld"); (case hv => rfl)) | with_reducible refine r_for ?_ | with_reducible refine r_il ?_ | with_reducible refine r_it ?_ | with_reducible refine r_iz ?_ | with_reducible refine r_ir1 ?_ | with_reducible refine r_ir2 ?_ | with_reducible refine r_lc ?_ | with_reducible refine r_sFld ?_ | with_reducible refine r_ck ?_ | with_reducible refine r_fld ?_ | with_reducible refine ⟨_, rfl, ?_⟩ | with_reducible refine ⟨_, _, rfl, .inr (by with_unfolding_all assumption), ?_⟩ | with_reducible refine ⟨_, _, rfl, .inl (seqL (by assumption)), ?_⟩ | with_reducible refine ⟨_, _, rfl, rfl, ?_⟩ | with_reducible refine ⟨_, _, rfl, ?_⟩ | with_reducible refine ⟨rfl, ?_⟩ | with_reducible refine r_sz ?_))
local macro_rules | `(tactic| walk_at "go") => `(tactic| (repeat walk_at "g1"))
variable {P : Program} {w : World} {K : PySem.W.Frag} {mg : Str → Option Value} {A : Ad} {base : Heap}
/-! item_of, read_item, read_items. -/
open SX (S)
/-- a word and its item -/
inductive WordIs : List Nat → Itm → Prop
  | num {cs : List Nat} {n : Num} : NumIs cs n → WordIs cs (.num n)
  | op {cs : List Nat} : NotNum cs → NameW cs → WordIs cs (.op (S cs))
abbrev spItemOf (K : PySem.W.Frag) : Sp := Sp2 fun a _ H Q => ∃ cs it, a = .str (S cs) ∧ cs.length ≤ 1000 ∧ WordIs cs it ∧ ∀ v H', Same H H' → ItmAt K H' v it → Q v H'
theorem sc_item_of : FnScope ["word", "place", "found"] ["word", "place"] (defScope s_item_of) := ⟨rfl, rfl, rfl, by decide +kernel, rfl, by decide +kernel, by decide +kernel⟩
theorem cal_item_of (T : Tx w K mg A) : Cal P w K mg base 4 "item_of" (spItemOf K) [] := by
  refine calOf T.f_item_of sc_item_of (fun _ _ _ _ _ _ us hl => match us, hl with | [_, _], _ => rfl) Sp2.len fun f cdv Ar outer s H vs Q E hr h => ?_
  obtain ⟨_, pl, rfl, cs, it, rfl, hc, hw, q⟩ := h
  refine ⟨_, (pss_cons (ps_set (i := 2) sc_item_of.nd rfl (.inl rfl) (pe_c (cal_read_number T) hr (by decide) rfl (pa_cons (pv 0) pa_nil)))
    (pss_cons (ps_if (pt_cmpR op_notN (pv 2) pe_non (nomark _))
    (pss_one (ps_ret (pe_tup (pa_cons pe_str (pa_cons (pv 2) pa_nil)))))
    pss_nil)
    (pss_cons (ps_if (pt_not (pt_val (pe_c (cal_is_name T) hr (by decide) rfl (pa_cons (pv 0) pa_nil))))
    pss_never
    pss_nil)
    (pss_one (ps_ret (pe_tup (pa_cons pe_str (pa_cons (pv 0) pa_nil)))))))), ?_⟩
  walk_at "go"
  cases hw with
  | num hn =>
    refine ⟨hc, .inl ⟨_, hn, fun v H1 s1 hv => ?_⟩⟩
    walk_at "go"
    refine ndifT hv.ne ?_
    walk_at "go"
    intro p2 f2
    generalize g2 : upd _ _ _ = H2
    have ⟨s2, e2⟩ := nwT g2 f2
    exact q _ _ (s1.trans s2) ⟨p2, v, rfl, e2 K, hv.same s2⟩
  | op hn hm =>
    refine ⟨hc, .inr ⟨hn, fun H1 s1 => ?_⟩⟩
    walk_at "go"
    refine ndifF rfl ?_
    walk_at "go"
    refine ⟨hm, fun H2 s2 => ?_⟩
    walk_at "go"
    refine iteF ?_
    walk_at "go"
    intro p3 f3
    generalize g3 : upd _ _ _ = H3
    have ⟨s3, e3⟩ := nwT g3 f3
    exact q _ _ (s1.trans (s2.trans s3)) ⟨p3, rfl, e3 K⟩
abbrev spPlace (A : Ad) : Sp := Sp1 fun a H Q => ∃ R cs n, RdAt A H R cs n ∧ a = .ref R ∧ ∀ v H', Same H H' → Q v H'
theorem sc_Reader_place : FnScope ["self"] ["self"] (defScope s_Reader_place) := ⟨rfl, rfl, rfl, by decide +kernel, rfl, by decide +kernel, by decide +kernel⟩
theorem met_Reader_place (T : Tx w K mg A) : Met P w K mg base 1 A.Reader "place" (spPlace A) [] := by
  refine metOf T.c_Reader T.m_Reader_place sc_Reader_place (fun _ _ _ _ _ _ us hl => match us, hl with | [_], _ => rfl) Sp1.len fun f cdv Ar outer s H vs Q E hr h => ?_
  obtain ⟨_, rfl, R, cs, n, ⟨dx, row, col, deep, e, hn, hc⟩, rfl, q⟩ := h
  refine ⟨_, (pss_one (ps_ret (pe_tup (pa_cons (pe_fld (pv 0) rfl) (pa_cons (pe_fld (pv 0) rfl) pa_nil))))), ?_⟩
  walk_at "go"
  intro p3 f3
  exact q _ _ (same_new f3)
end
section
local macro_rules | `(tactic| walk_at "fld") => `(tactic| (refine fkT (w := ?w) (K := ?K) (mg := ?mg) (A := ?A) ?t ?e ?h; (case t => assumption); (case e => exact rfl); (case h => first | with_reducible exact g_Look_matrix (by assumption) | with_reducible exact g_Look_path (by assumption) | with_reducible exact g_Look_ink (by assumption) | with_reducible exact g_Look_width (by assumption) | with_reducible exact g_Look_clips (by assumption) | with_reducible exact g_Look_font (by assumption) | with_reducible exact g_World_operands (by assumption) | with_reducible exact g_World_rooms (by assumption) | with_reducible exact g_World_scopes (by assumption) | with_reducible exact g_World_look (by assumption) | with_reducible exact g_World_kept (by assumption) | with_reducible exact g_World_sheets (by assumption) | with_reducible exact g_World_inkings (by assumption) | with_reducible exact g_World_saves (by assumption) | with_reducible exact g_World_many_saves (by assumption) | with_reducible exact g_Items_body (by assumption) | with_reducible exact g_Items_at (by assumption) | with_reducible exact g_Reader_text (by assumption) | with_reducible exact g_Reader_at (by assumption) | with_reducible exact g_Reader_row (by assumption) | with_reducible exact g_Reader_column (by assumption) | with_reducible exact g_Reader_deep (by assumption) | with_reducible exact g_Machine_wide (by assumption) | with_reducible exact g_Machine_high (by assumption) | with_reducible exact g_Machine_most (by assumption) | with_reducible exact g_Machine_world (by assumption) | with_reducible exact g_Machine_frames (by assumption) | with_reducible exact g_Machine_left (by assumption) | with_reducible exact g_Machine_told (by assumption) | with_reducible exact g_Machine_is_running (by assumption) | with_reducible exact g_Machine_ahead (by assumption) | with_reducible exact g_Machine_past (by assumption) | with_reducible exact g_Machine_later (by assumption))))
/-- as many steps as go by themselves -/
local macro_rules | `(tactic| walk_at "g1") => `(tactic| (first
  | with_reducible refine r_seq ?_ | with_reducible refine r_set ?_ | with_reducible refine r_asg ?_ | with_reducible refine r_sl ?_ | with_reducible refine r_np ?_ | with_reducible refine r_pt ?_ | with_reducible refine r_gn ?_ | with_reducible refine r_gc ?_ | with_reducible refine r_g0 ?_ | ((with_reducible refine r_gt (xs := ?xs) ?h ?g ?_); (case h => assumption); (case g => exact rfl)) | with_reducible refine r_ret ?_ | with_reducible refine r_if ?_ | with_reducible refine r_test ?_ | with_reducible refine r_B ?_ | with_reducible refine r_and ?_ | with_reducible refine r_or ?_ | with_reducible refine r_not ?_
  | with_reducible refine r_andV ?_ | with_reducible refine r_orV ?_ | with_reducible refine r_notV ?_ | with_reducible refine r_ifx ?_ | with_reducible refine r_op ?_ | with_reducible refine r_un ?_ | with_reducible refine r_U ?_ | with_reducible refine r_c ?_ | with_reducible refine r_I0 ?_ | with_reducible refine r_drop ?_ | with_reducible refine r_next ?_
  | ((with_reducible refine r_var (v := ?v) ?h ?_); (case h => exact rfl)) | with_reducible refine r_bl ?_ | with_reducible refine r_nil ?_ | with_reducible refine r_cons ?_ | with_reducible refine r_cb ?_ | with_reducible refine r_call ?_ | ((with_reducible refine r_gl (xs := ?xs) ?h ?g ?_); (case h => assumption); (case g => exact rfl)) | with_reducible refine r_sm1 ?_ | with_reducible refine r_sm2 ?_ | with_reducible refine r_sm3 ?_ | with_reducible refine r_ch ?_ | with_reducible refine r_bm ?_ | with_reducible refine r_bm0 ?_ | ((with_reducible refine r_ty (xs := ?xs) ?e ?_); (case e => assumption)) | with_reducible refine r_mkU ?_ | with_reducible refine r_mt0 ?_ | with_reducible refine r_yes ?_ | with_reducible refine iteT ?_ | with_reducible refine iteF ?_ | with_reducible refine r_spk ?_ | with_reducible refine r_sp1 ?_ | with_reducible refine r_sp2 ?_ | with_reducible refine r_sp3 ?_ | with_reducible refine r_sp4 ?_ | with_reducible refine r_sp5 ?_
  | with_reducible refine r_tup ?_ | with_reducible refine r_lst ?_ | with_reducible refine r_par ?_ | with_reducible refine r_par2 ?_ 
  | ((with_reducible refine r_eq ?h ?_); (case h => exact rfl)) | ((with_reducible refine r_ne ?h ?_); (case h => exact rfl))
  | ((with_reducible refine r_ixT (xs := ?xs) (v := ?v) ?h ?g ?_); (case h => assumption); (case g => first | exact at0 | exact at1))
  | ((with_reducible refine r_fl (i := ?i) (nm := ?nm) (C := ?C) (dx := ?dx) (vs := ?vs) (v := ?v) ?ok ?e ?hv ?_); (case e => assumption); (case ok => walk_at "fld"); (case hv => rfl)) | with_reducible refine r_for ?_ | with_reducible refine r_il ?_ | with_reducible refine r_it ?_ | with_reducible refine r_iz ?_ | with_reducible refine r_ir1 ?_ | with_reducible refine r_ir2 ?_ | with_reducible refine r_lc ?_ | with_reducible refine r_sFld ?_ | with_reducible refine r_ck ?_ | with_reducible refine r_fld ?_ | with_reducible refine ⟨_, rfl, ?_⟩ | with_reducible refine ⟨_, _, rfl, .inr (by with_unfolding_all assumption), ?_⟩ | with_reducible refine ⟨_, _, rfl, .inl (seqL (by assumption)), ?_⟩ | with_reducible refine ⟨_, _, rfl, rfl, ?_⟩ | with_reducible refine ⟨_, _, rfl, ?_⟩ | with_reducible refine ⟨rfl, ?_⟩ | with_reducible refine r_sz ?_))
local macro_rules | `(tactic| walk_at "go") => `(tactic| (repeat walk_at "g1"))
variable {P : Program} {w : World} {K : PySem.W.Frag} {mg : Str → Option Value} {A : Ad} {base : Heap}
/-! read_item, read_items, read_program. -/
open SX (S)
theorem word_marks : ∀ c ∈ wordL, c ∉ (Str.ofString "[]").cps.toList ∧ c ≠ 40 ∧ c ≠ 47 ∧ c ≠ 123 ∧ c ≠ 125 := by decide +kernel
theorem neq1 {c d : Nat} {z : Str} (hz : z = S [d]) (h : c ≠ d) : ¬ V.str (S [c]) = V.str z := fun e => by
  subst hz
  injection e with e
  have := SX.S_inj (a := [c]) (b := [d]) e
  cases this
  exact h rfl
abbrev spReadItem (K : PySem.W.Frag) (A : Ad) : Sp := Sp1 fun a H Q => ∃ R cs n it, RdAt A H R cs n ∧ a = .ref R ∧ (cs.drop n).takeWhile isW ≠ [] ∧ WordIs ((cs.drop n).takeWhile isW) it ∧ ((cs.drop n).takeWhile isW).length ≤ 1000 ∧
  ∀ v H', Bu R H H' → RdAt A H' R cs (n + ((cs.drop n).takeWhile isW).length) → ItmAt K H' v it → Q v H'
theorem sc_read_item : FnScope ["reader", "place", "sign", "word", "found"] ["reader"] (defScope s_read_item) := ⟨rfl, rfl, rfl, by decide +kernel, rfl, by decide +kernel, by decide +kernel⟩
theorem cal_read_item (T : Tx w K mg A) : Cal P w K mg base 5 "read_item" (spReadItem K A) [] := by
  refine calOf T.f_read_item sc_read_item (fun _ _ _ _ _ _ us hl => match us, hl with | [_], _ => rfl) Sp1.len fun f cdv Ar outer s H vs Q E hr h => ?_
  obtain ⟨_, rfl, R, cs, n, it, hR, rfl, hne, hW, hl, q⟩ := h
  refine ⟨_, (pss_cons (ps_set (i := 1) sc_read_item.nd rfl (.inl rfl) (pe_mt0 (met_Reader_place T) hr (by decide) (pv 0)))
    (pss_cons (ps_set (i := 2) sc_read_item.nd rfl (.inl rfl) (pe_mt0 (met_Reader_see T) hr (by decide) (pv 0)))
    (pss_cons (ps_if (pt_cmpR op_in_sign (pv 2) (pe_gc rfl T.v_BRACKETS) rfl)
    pss_never
    pss_nil)
    (pss_cons (ps_if (pt_cmpR op_eq (pv 2) pe_str (nomark _))
    pss_never
    pss_nil)
    (pss_cons (ps_if (pt_cmpR op_eq (pv 2) pe_str (nomark _))
    pss_never
    pss_nil)
    (pss_cons (ps_if (pt_cmpR op_eq (pv 2) pe_str (nomark _))
    pss_never
    pss_nil)
    (pss_cons (ps_if (PW.pt (pw_or (pt_cmpR op_eq (pv 2) pe_str (nomark _)) (pw_or1 (pt_cmpR op_notIn_sign (pv 2) (pe_gc rfl T.v_WORD) rfl))))
    pss_never
    pss_nil)
    (pss_one (ps_ret (pe_c (cal_item_of T) hr (by decide) rfl (pa_cons (pe_mt0 (met_Reader_word T) hr (by decide) (pv 0)) (pa_cons (pv 1) pa_nil)))))))))))), ?_⟩
  have hx : ∃ c, cs[n]? = some c ∧ c ∈ wordL := by
    cases e : cs[n]? with
    | none =>
      rw [List.drop_eq_nil_of_le (List.getElem?_eq_none_iff.mp e)] at hne
      exact absurd rfl hne
    | some c =>
      refine ⟨c, rfl, ?_⟩
      rw [drop_at e] at hne
      by_cases m : isW c = true
      · exact of_decide_eq_true m
      · rw [List.takeWhile_cons_of_neg m] at hne
        exact absurd rfl hne
  obtain ⟨c, hcn, hcw⟩ := hx
  obtain ⟨m1, m2, m3, m4, m5⟩ := word_marks c hcw
  obtain ⟨dx, row, col, deep, e, hn, hcl⟩ := id hR
  walk_at "go"
  refine r_mtI e (by decide +kernel) ?_
  walk_at "go"
  refine ⟨R, cs, n, hR, rfl, fun pv H1 s1 => ?_⟩
  have e1 := s1 _ _ e
  have r1 := hR.same s1
  walk_at "go"
  refine r_mtI e1 (by decide +kernel) ?_
  walk_at "go"
  refine ⟨R, cs, n, r1, rfl, ?_⟩
  rw [see1 hcn]
  walk_at "go"
  refine difF m1 ?_
  walk_at "go"
  refine difF (neq1 (by decide +kernel) m2) ?_
  walk_at "go"
  refine difF (neq1 (by decide +kernel) m3) ?_
  walk_at "go"
  refine difF (neq1 (by decide +kernel) m4) ?_
  walk_at "go"
  refine difF (neq1 (by decide +kernel) m5) ?_
  walk_at "go"
  refine ndifF hcw ?_
  walk_at "go"
  refine r_mtI e1 (by decide +kernel) ?_
  walk_at "go"
  refine ⟨R, cs, n, r1, rfl, fun H2 b2 r2 => ?_⟩
  walk_at "go"
  refine ⟨_, it, rfl, hl, hW, fun v H3 s3 hv => ?_⟩
  exact q v H3 ((Bu.same s1).trans (b2.trans (Bu.same s3))) (r2.same s3) hv
end
section
local macro_rules | `(tactic| walk_at "fld") => `(tactic| (refine fkT (w := ?w) (K := ?K) (mg := ?mg) (A := ?A) ?t ?e ?h; (case t => assumption); (case e => exact rfl); (case h => first | with_reducible exact g_Look_matrix (by assumption) | with_reducible exact g_Look_path (by assumption) | with_reducible exact g_Look_ink (by assumption) | with_reducible exact g_Look_width (by assumption) | with_reducible exact g_Look_clips (by assumption) | with_reducible exact g_Look_font (by assumption) | with_reducible exact g_World_operands (by assumption) | with_reducible exact g_World_rooms (by assumption) | with_reducible exact g_World_scopes (by assumption) | with_reducible exact g_World_look (by assumption) | with_reducible exact g_World_kept (by assumption) | with_reducible exact g_World_sheets (by assumption) | with_reducible exact g_World_inkings (by assumption) | with_reducible exact g_World_saves (by assumption) | with_reducible exact g_World_many_saves (by assumption) | with_reducible exact g_Items_body (by assumption) | with_reducible exact g_Items_at (by assumption) | with_reducible exact g_Reader_text (by assumption) | with_reducible exact g_Reader_at (by assumption) | with_reducible exact g_Reader_row (by assumption) | with_reducible exact g_Reader_column (by assumption) | with_reducible exact g_Reader_deep (by assumption) | with_reducible exact g_Machine_wide (by assumption) | with_reducible exact g_Machine_high (by assumption) | with_reducible exact g_Machine_most (by assumption) | with_reducible exact g_Machine_world (by assumption) | with_reducible exact g_Machine_frames (by assumption) | with_reducible exact g_Machine_left (by assumption) | with_reducible exact g_Machine_told (by assumption) | with_reducible exact g_Machine_is_running (by assumption) | with_reducible exact g_Machine_ahead (by assumption) | with_reducible exact g_Machine_past (by assumption) | with_reducible exact g_Machine_later (by assumption))))
/-- as many steps as go by themselves -/
local macro_rules | `(tactic| walk_at "g1") => `(tactic| (first
  | with_reducible refine r_seq ?_ | with_reducible refine r_set ?_ | with_reducible refine r_asg ?_ | with_reducible refine r_sl ?_ | with_reducible refine r_np ?_ | with_reducible refine r_pt ?_ | with_reducible refine r_gn ?_ | with_reducible refine r_gc ?_ | with_reducible refine r_g0 ?_ | ((with_reducible refine r_gt (xs := ?xs) ?h ?g ?_); (case h => assumption); (case g => exact rfl)) | with_reducible refine r_ret ?_ | with_reducible refine r_if ?_ | with_reducible refine r_test ?_ | with_reducible refine r_B ?_ | with_reducible refine r_and ?_ | with_reducible refine r_or ?_ | with_reducible refine r_not ?_
  | with_reducible refine r_andV ?_ | with_reducible refine r_orV ?_ | with_reducible refine r_notV ?_ | with_reducible refine r_ifx ?_ | with_reducible refine r_op ?_ | with_reducible refine r_un ?_ | with_reducible refine r_U ?_ | with_reducible refine r_c ?_ | with_reducible refine r_I0 ?_ | with_reducible refine r_drop ?_ | with_reducible refine r_next ?_
  | ((with_reducible refine r_var (v := ?v) ?h ?_); (case h => exact rfl)) | with_reducible refine r_bl ?_ | with_reducible refine r_nil ?_ | with_reducible refine r_cons ?_ | with_reducible refine r_cb ?_ | with_reducible refine r_call ?_ | ((with_reducible refine r_gl (xs := ?xs) ?h ?g ?_); (case h => assumption); (case g => exact rfl)) | with_reducible refine r_sm1 ?_ | with_reducible refine r_sm2 ?_ | with_reducible refine r_sm3 ?_ | with_reducible refine r_ch ?_ | with_reducible refine r_bm ?_ | with_reducible refine r_bm0 ?_ | ((with_reducible refine r_ty (xs := ?xs) ?e ?_); (case e => assumption)) | with_reducible refine r_mkU ?_ | with_reducible refine r_mt0 ?_ | with_reducible refine r_yes ?_ | with_reducible refine iteT ?_ | with_reducible refine iteF ?_ | with_reducible refine r_spk ?_ | with_reducible refine r_sp1 ?_ | with_reducible refine r_sp2 ?_ | with_reducible refine r_sp3 ?_ | with_reducible refine r_sp4 ?_ | with_reducible refine r_sp5 ?_
  | with_reducible refine r_tup ?_ | with_reducible refine r_lst ?_ | with_reducible refine r_par ?_ | with_reducible refine r_par2 ?_ 
  | ((with_reducible refine r_eq ?h ?_); (case h => exact rfl)) | ((with_reducible refine r_ne ?h ?_); (case h => exact rfl))
  | ((with_reducible refine r_ixT (xs := ?xs) (v := ?v) ?h ?g ?_); (case h => assumption); (case g => first | exact at0 | exact at1))
  | ((with_reducible refine r_fl (i := ?i) (nm := ?nm) (C := ?C) (dx := ?dx) (vs := ?vs) (v := ?v) ?ok ?e ?hv ?_); (case e => assumption); (case ok => walk_at "fld"); (case hv => rfl)) | with_reducible refine r_for ?_ | with_reducible refine r_il ?_ | with_reducible refine r_it ?_ | with_reducible refine r_iz ?_ | with_reducible refine r_ir1 ?_ | with_reducible refine r_ir2 ?_ | with_reducible refine r_lc ?_ | with_reducible refine r_sFld ?_ | with_reducible refine r_ck ?_ | with_reducible refine r_fld ?_ | with_reducible refine ⟨_, rfl, ?_⟩ | with_reducible refine ⟨_, _, rfl, .inr (by with_unfolding_all assumption), ?_⟩ | with_reducible refine ⟨_, _, rfl, .inl (seqL (by assumption)), ?_⟩ | with_reducible refine ⟨_, _, rfl, rfl, ?_⟩ | with_reducible refine ⟨_, _, rfl, ?_⟩ | with_reducible refine ⟨rfl, ?_⟩ | with_reducible refine r_sz ?_))
local macro_rules | `(tactic| walk_at "go") => `(tactic| (repeat walk_at "g1"))
variable {P : Program} {w : World} {K : PySem.W.Frag} {mg : Str → Option Value} {A : Ad} {base : Heap}
/-! read_items, read_program. -/
open SX (S)
/-- a text of words and blanks, and the items that it reads to -/
inductive Reads : List Nat → List Itm → Prop
  | nil : Reads [] []
  | blank {cs : List Nat} {its : List Itm} : Reads cs its → Reads (32 :: cs) its
  | word {w cs : List Nat} {it : Itm} {its : List Itm} : w ≠ [] → (∀ c ∈ w, c ∈ wordL) → WordIs w it → w.length ≤ 1000 → (cs = [] ∨ ∃ r, cs = 32 :: r) → Reads cs its → Reads (w ++ cs) (it :: its)
theorem Reads.skip {cs : List Nat} {its : List Itm} (h : Reads cs its) : Reads (cs.dropWhile fun c => c == 32) its := by
  induction h with
  | nil => exact .nil
  | blank _ ih => exact ih
  | @word w cs it its h1 h2 h3 h4 h5 h6 ih =>
    cases w with
    | nil => exact absurd rfl h1
    | cons c w =>
      have : c ≠ 32 := (word_white c (h2 c List.mem_cons_self)).2.1
      rw [List.cons_append, List.dropWhile_cons_of_neg (by simpa using this), ← List.cons_append]
      exact .word h1 h2 h3 h4 h5 h6
theorem Reads.abc {cs : List Nat} {its : List Itm} (h : Reads cs its) : ∀ c ∈ cs, c = 32 ∨ c ∈ wordL := by
  induction h with
  | nil => exact fun c m => absurd m (by simp)
  | blank _ ih =>
    intro c m
    rcases List.mem_cons.mp m with m | m
    · exact .inl m
    · exact ih c m
  | word _ h2 _ _ _ _ ih =>
    intro c m
    rcases List.mem_append.mp m with m | m
    · exact .inr (h2 c m)
    · exact ih c m
theorem Reads.len {cs : List Nat} {its : List Itm} (h : Reads cs its) : its.length ≤ cs.length := by
  induction h with
  | nil => exact Nat.le_refl _
  | blank _ ih => exact Nat.le_succ_of_le ih
  | @word w cs it its h1 _ _ _ _ _ ih =>
    have : 1 ≤ w.length := by
      cases w with
      | nil => exact absurd rfl h1
      | cons _ _ => simp
    rw [List.length_append, List.length_cons]
    omega
/-- at a sign that is no blank a word stands -/
theorem Reads.head {c : Nat} {cs : List Nat} {its : List Itm} (h : Reads (c :: cs) its) (n : c ≠ 32) : ∃ it rest, its = it :: rest ∧ (c :: cs).takeWhile isW ≠ [] ∧ WordIs ((c :: cs).takeWhile isW) it ∧ ((c :: cs).takeWhile isW).length ≤ 1000 ∧ Reads ((c :: cs).drop ((c :: cs).takeWhile isW).length) rest := by
  generalize e : c :: cs = l at h
  cases h with
  | nil => cases e
  | blank _ =>
    cases e
    exact absurd rfl n
  | @word w r it rest h1 h2 h3 h4 h5 h6 =>
    have tw : (w ++ r).takeWhile isW = w := by
      rw [List.takeWhile_append_of_pos (p := isW) (fun c m => decide_eq_true (h2 c m))]
      rcases h5 with rfl | ⟨r', rfl⟩
      · simp
      · rw [List.takeWhile_cons_of_neg (by decide +kernel), List.append_nil]
    rw [tw]
    refine ⟨it, rest, rfl, h1, h3, h4, ?_⟩
    rw [List.drop_left]
    exact h6
theorem Reads.app {a b : List Nat} {x y : List Itm} (h : Reads a x) (g : Reads b y) (hb : b = [] ∨ ∃ r, b = 32 :: r) : Reads (a ++ b) (x ++ y) := by
  induction h with
  | nil => exact g
  | blank _ ih => exact .blank ih
  | @word w cs it its h1 h2 h3 h4 h5 h6 ih =>
    rw [List.append_assoc, List.cons_append]
    refine .word h1 h2 h3 h4 ?_ ih
    rcases h5 with rfl | ⟨r, rfl⟩
    · exact hb
    · exact .inr ⟨_, rfl⟩
end
section
local macro_rules | `(tactic| walk_at "fld") => `(tactic| (refine fkT (w := ?w) (K := ?K) (mg := ?mg) (A := ?A) ?t ?e ?h; (case t => assumption); (case e => exact rfl); (case h => first | with_reducible exact g_Look_matrix (by assumption) | with_reducible exact g_Look_path (by assumption) | with_reducible exact g_Look_ink (by assumption) | with_reducible exact g_Look_width (by assumption) | with_reducible exact g_Look_clips (by assumption) | with_reducible exact g_Look_font (by assumption) | with_reducible exact g_World_operands (by assumption) | with_reducible exact g_World_rooms (by assumption) | with_reducible exact g_World_scopes (by assumption) | with_reducible exact g_World_look (by assumption) | with_reducible exact g_World_kept (by assumption) | with_reducible exact g_World_sheets (by assumption) | with_reducible exact g_World_inkings (by assumption) | with_reducible exact g_World_saves (by assumption) | with_reducible exact g_World_many_saves (by assumption) | with_reducible exact g_Items_body (by assumption) | with_reducible exact g_Items_at (by assumption) | with_reducible exact g_Reader_text (by assumption) | with_reducible exact g_Reader_at (by assumption) | with_reducible exact g_Reader_row (by assumption) | with_reducible exact g_Reader_column (by assumption) | with_reducible exact g_Reader_deep (by assumption) | with_reducible exact g_Machine_wide (by assumption) | with_reducible exact g_Machine_high (by assumption) | with_reducible exact g_Machine_most (by assumption) | with_reducible exact g_Machine_world (by assumption) | with_reducible exact g_Machine_frames (by assumption) | with_reducible exact g_Machine_left (by assumption) | with_reducible exact g_Machine_told (by assumption) | with_reducible exact g_Machine_is_running (by assumption) | with_reducible exact g_Machine_ahead (by assumption) | with_reducible exact g_Machine_past (by assumption) | with_reducible exact g_Machine_later (by assumption))))
/-- as many steps as go by themselves -/
local macro_rules | `(tactic| walk_at "g1") => `(tactic| (first
  | with_reducible refine r_seq ?_ | with_reducible refine r_set ?_ | with_reducible refine r_asg ?_ | with_reducible refine r_sl ?_ | with_reducible refine r_np ?_ | with_reducible refine r_pt ?_ | with_reducible refine r_gn ?_ | with_reducible refine r_gc ?_ | with_reducible refine r_g0 ?_ | ((with_reducible refine r_gt (xs := ?xs) ?h ?g ?_); (case h => assumption); (case g => exact rfl)) | with_reducible refine r_ret ?_ | with_reducible refine r_if ?_ | with_reducible refine r_test ?_ | with_reducible refine r_B ?_ | with_reducible refine r_and ?_ | with_reducible refine r_or ?_ | with_reducible refine r_not ?_
  | with_reducible refine r_andV ?_ | with_reducible refine r_orV ?_ | with_reducible refine r_notV ?_ | with_reducible refine r_ifx ?_ | with_reducible refine r_op ?_ | with_reducible refine r_un ?_ | with_reducible refine r_U ?_ | with_reducible refine r_c ?_ | with_reducible refine r_I0 ?_ | with_reducible refine r_drop ?_ | with_reducible refine r_next ?_
  | ((with_reducible refine r_var (v := ?v) ?h ?_); (case h => exact rfl)) | with_reducible refine r_bl ?_ | with_reducible refine r_nil ?_ | with_reducible refine r_cons ?_ | with_reducible refine r_cb ?_ | with_reducible refine r_call ?_ | ((with_reducible refine r_gl (xs := ?xs) ?h ?g ?_); (case h => assumption); (case g => exact rfl)) | with_reducible refine r_sm1 ?_ | with_reducible refine r_sm2 ?_ | with_reducible refine r_sm3 ?_ | with_reducible refine r_ch ?_ | with_reducible refine r_bm ?_ | with_reducible refine r_bm0 ?_ | ((with_reducible refine r_ty (xs := ?xs) ?e ?_); (case e => assumption)) | with_reducible refine r_mkU ?_ | with_reducible refine r_mt0 ?_ | with_reducible refine r_yes ?_ | with_reducible refine iteT ?_ | with_reducible refine iteF ?_ | with_reducible refine r_spk ?_ | with_reducible refine r_sp1 ?_ | with_reducible refine r_sp2 ?_ | with_reducible refine r_sp3 ?_ | with_reducible refine r_sp4 ?_ | with_reducible refine r_sp5 ?_
  | with_reducible refine r_tup ?_ | with_reducible refine r_lst ?_ | with_reducible refine r_par ?_ | with_reducible refine r_par2 ?_ 
  | ((with_reducible refine r_eq ?h ?_); (case h => exact rfl)) | ((with_reducible refine r_ne ?h ?_); (case h => exact rfl))
  | ((with_reducible refine r_ixT (xs := ?xs) (v := ?v) ?h ?g ?_); (case h => assumption); (case g => first | exact at0 | exact at1))
  | ((with_reducible refine r_fl (i := ?i) (nm := ?nm) (C := ?C) (dx := ?dx) (vs := ?vs) (v := ?v) ?ok ?e ?hv ?_); (case e => assumption); (case ok => walk_at "fld"); (case hv => rfl)) | with_reducible refine r_for ?_ | with_reducible refine r_il ?_ | with_reducible refine r_it ?_ | with_reducible refine r_iz ?_ | with_reducible refine r_ir1 ?_ | with_reducible refine r_ir2 ?_ | with_reducible refine r_lc ?_ | with_reducible refine r_sFld ?_ | with_reducible refine r_ck ?_ | with_reducible refine r_fld ?_ | with_reducible refine ⟨_, rfl, ?_⟩ | with_reducible refine ⟨_, _, rfl, .inr (by with_unfolding_all assumption), ?_⟩ | with_reducible refine ⟨_, _, rfl, .inl (seqL (by assumption)), ?_⟩ | with_reducible refine ⟨_, _, rfl, rfl, ?_⟩ | with_reducible refine ⟨_, _, rfl, ?_⟩ | with_reducible refine ⟨rfl, ?_⟩ | with_reducible refine r_sz ?_))
local macro_rules | `(tactic| walk_at "go") => `(tactic| (repeat walk_at "g1"))
variable {P : Program} {w : World} {K : PySem.W.Frag} {mg : Str → Option Value} {A : Ad} {base : Heap}
/-! read_items, read_program: the walks. -/
open SX (S)
theorem dw_idem (p : Nat → Bool) : ∀ l : List Nat, (l.dropWhile p).dropWhile p = l.dropWhile p
  | [] => rfl
  | c :: l => by
    by_cases h : p c = true
    · rw [List.dropWhile_cons_of_pos h]
      exact dw_idem p l
    · rw [List.dropWhile_cons_of_neg h, List.dropWhile_cons_of_neg h]
theorem dw_len (p : Nat → Bool) : ∀ l : List Nat, (l.dropWhile p).length ≤ l.length
  | [] => Nat.le_refl _
  | c :: l => by
    by_cases h : p c = true
    · rw [List.dropWhile_cons_of_pos h]
      exact Nat.le_succ_of_le (dw_len p l)
    · rw [List.dropWhile_cons_of_neg h]
      exact Nat.le_refl _
abbrev spReadItems (K : PySem.W.Frag) (A : Ad) : Sp := Sp2 fun a b H Q => ∃ R cs its, RdAt A H R cs 0 ∧ a = .ref R ∧ b = .non ∧ Reads cs its ∧ ∀ l xs H', Bu R H H' → H l = none → H' l = some (.lst xs) → Paired (ItmAt K H') xs its → Q (.ref l) H'
theorem sc_read_items : FnScope ["reader", "opened", "found"] ["reader", "opened"] (defScope s_read_items) := ⟨rfl, rfl, rfl, by decide +kernel, rfl, by decide +kernel, by decide +kernel⟩
theorem cal_read_items (T : Tx w K mg A) : Cal P w K mg base 6 "read_items" (spReadItems K A) [] := by
  refine calOf T.f_read_items sc_read_items (fun _ _ _ _ _ _ us hl => match us, hl with | [_, _], _ => rfl) Sp2.len fun f cdv Ar outer s H vs Q E hr h => ?_
  obtain ⟨_, _, rfl, R, cs, its, hR, rfl, rfl, hRd, q⟩ := h
  refine ⟨_, (pss_cons (ps_set (i := 2) sc_read_items.nd rfl (.inl rfl) (pe_lst pa_nil))
    (pss_cons (ps_expr (pe_mt0 (met_Reader_skip T) hr (by decide) (pv 0)))
    (pss_cons (ps_while PassesOwn.never (pt_cmpR op_ne (pe_mt0 (met_Reader_see T) hr (by decide) (pv 0)) pe_str (nomark _))
    (pss_cons (ps_if (PW.pt (pw_and (pt_cmpR op_eq (pe_mt0 (met_Reader_see T) hr (by decide) (pv 0)) pe_str (nomark _)) (pw_and1 (pt_cmpR op_notN (pv 1) pe_non (nomark _)))))
    pss_never
    pss_nil)
    (pss_cons (ps_expr (pe_bm PySem.F.plainAttrs_list PySem.F.slot_list_append PySem.F.type_list_append mt_append (pv 2) (pa_cons (pe_c (cal_read_item T) hr (by decide) rfl (pa_cons (pv 0) pa_nil)) pa_nil)))
    (pss_one (ps_expr (pe_mt0 (met_Reader_skip T) hr (by decide) (pv 0)))))))
    (pss_cons (ps_if (pt_cmpR op_notN (pv 1) pe_non (nomark _))
    pss_never
    pss_nil)
    (pss_one (ps_ret (pv 2))))))), ?_⟩
  have hA := hRd.abc
  obtain ⟨dx, row, col, deep, e, hn, hcl⟩ := id hR
  walk_at "go"
  intro l fl
  generalize g1 : upd _ _ _ = H1
  have ⟨s1, e1⟩ := nw g1 fl
  have er1 := s1 _ _ e
  have lR : l ≠ R := (ne_of_none e fl).symm
  walk_at "go"
  refine r_mtI er1 (by decide +kernel) ?_
  walk_at "go"
  refine ⟨R, cs, 0, hR.same s1, rfl, hA, fun H2 n2 b2 r2 d2 => ?_⟩
  walk_at "go"
  refine r_wh ⟨fun m σ H' => σ = [some (.ref R), some .non, some (.ref l)] ∧ ∃ n acc don rest, m = cs.length - n ∧ Bu R H H' ∧ RdAt A H' R cs n ∧ H' l = some (.lst acc) ∧ Paired (ItmAt K H') acc don ∧ its = don ++ rest ∧ Reads (cs.drop n) rest ∧ (cs.drop n).dropWhile (fun c => c == 32) = cs.drop n,
    ⟨_, rfl, n2, [], [], its, rfl, (Bu.same s1).trans b2, r2, b2 _ _ lR e1, .nil, rfl, ?_, ?_⟩, ?_⟩
  · rw [← d2]
    exact hRd.skip
  · rw [← d2, List.drop_zero]
    exact dw_idem _ _
  rintro m σ H3 ⟨rfl, n, acc, don, rest, rfl, b3, r3, e3, p3, hits, hrest, hdw⟩
  obtain ⟨dx3, row3, col3, deep3, er3, hn3, _⟩ := id r3
  walk_at "go"
  refine r_mtI er3 (by decide +kernel) ?_
  walk_at "go"
  refine ⟨R, cs, n, r3, rfl, ?_⟩
  walk_at "go"
  cases hx : cs[n]? with
  | none =>
    have hd : cs.drop n = [] := List.drop_eq_nil_of_le (List.getElem?_eq_none_iff.mp hx)
    rw [hd] at hrest ⊢
    have hr0 : rest = [] := List.eq_nil_of_length_eq_zero (Nat.le_zero.mp hrest.len)
    rw [hr0, List.append_nil] at hits
    refine ndifF rfl ?_
    walk_at "go"
    refine ndifF rfl ?_
    walk_at "go"
    rw [hits] at q
    exact q l acc H3 b3 fl e3 p3
  | some c =>
    have hdr := drop_at hx
    have c32 : c ≠ 32 := fun z => by
      rw [hdr, z, List.dropWhile_cons_of_pos (by decide)] at hdw
      have := dw_len (fun c => c == 32) (cs.drop (n + 1))
      rw [hdw, List.length_cons] at this
      omega
    rw [hdr] at hrest
    obtain ⟨it, rest', rfl, h1, h2, h3, h4⟩ := hrest.head c32
    rw [← hdr] at h1 h2 h3 h4
    rw [see1 hx]
    refine ndifT (sne (by simp)) ?_
    refine ⟨fun σ' H' => σ' = [some (.ref R), some .non, some (.ref l)] ∧ ∃ n' acc don rest, n < n' ∧ n' ≤ cs.length ∧ Bu R H H' ∧ RdAt A H' R cs n' ∧ H' l = some (.lst acc) ∧ Paired (ItmAt K H') acc don ∧ its = don ++ rest ∧ Reads (cs.drop n') rest ∧ (cs.drop n').dropWhile (fun c => c == 32) = cs.drop n', ?_, ?_⟩
    · rintro σ' H' ⟨rfl, n', acc', don', rest2, hlt, hle, r⟩
      exact ⟨_, (by omega : cs.length - n' < cs.length - n), rfl, n', acc', don', rest2, rfl, r⟩
    · walk_at "go"
      have hcw : c ∈ wordL := (hA c (List.mem_of_getElem? hx)).resolve_left c32
      refine r_mtI er3 (by decide +kernel) ?_
      walk_at "go"
      refine ⟨R, cs, n, r3, rfl, ?_⟩
      rw [see1 hx]
      walk_at "go"
      refine difF (neq1 (by decide +kernel) (word_marks c hcw).2.2.2.2) ?_
      walk_at "go"
      refine ⟨R, cs, n, it, r3, rfl, h1, h2, h3, fun v H4 b4 r4 hv => ?_⟩
      have e4 := b4 _ _ lR e3
      have tk4 : Tk K H3 H4 := Bu.tk b4 er3
      have hle := hRd.len
      have la := pLen p3
      walk_at "go"
      refine r_app e4 (by have := szBig; rw [hits, List.length_append, List.length_cons] at hle; omega) ?_
      generalize g5 : upd _ _ _ = H5
      have e5 : H5 l = some (.lst (acc ++ [v])) := by rw [← g5]; exact upd_same
      have tk5 : Tk K H4 H5 := by rw [← g5]; exact Tk.lst e4
      obtain ⟨dx4, row4, col4, deep4, er4, hn4, _⟩ := id r4
      have er5 := (show H5 R = H4 R by rw [← g5, upd_ne lR.symm]).trans er4
      have r5 : RdAt A H5 R cs _ := ⟨dx4, row4, col4, deep4, er5, hn4, hcl⟩
      walk_at "go"
      refine r_mtI er5 (by decide +kernel) ?_
      walk_at "go"
      refine ⟨R, cs, _, r5, rfl, hA, fun H6 n6 b6 r6 d6 => ?_⟩
      have b35 : Bu R H H5 := by
        refine fun b o nb e0 => ?_
        rw [← g5, upd_ne (ne_of_none e0 fl)]
        exact b4 _ _ nb (b3 _ _ nb e0)
      have hlen6 : n < n6 ∧ n6 ≤ cs.length := by
        obtain ⟨_, _, _, _, _, h6, _⟩ := id r6
        refine ⟨?_, h6⟩
        have w1 : 1 ≤ ((cs.drop n).takeWhile isW).length := by
          cases hh : (cs.drop n).takeWhile isW with
          | nil => exact absurd hh h1
          | cons _ _ => simp
        have d7 := congrArg List.length d6
        have d8 := dw_len (fun c => c == 32) (cs.drop (n + ((cs.drop n).takeWhile isW).length))
        rw [d7, List.length_drop, List.length_drop] at d8
        omega
      refine ⟨rfl, n6, acc ++ [v], don ++ [it], rest', hlen6.1, hlen6.2, b35.trans b6, r6, b6 _ _ lR e5, ?_, by rw [hits, List.append_assoc]; rfl, ?_, ?_⟩
      · have tk6 : Tk K H5 H6 := Bu.tk b6 er5
        exact pApp (pImp (fun _ _ z => z.tk (tk4.trans (tk5.trans tk6))) p3) (.cons (hv.tk (tk5.trans tk6)) .nil)
      · rw [← d6]
        rw [List.drop_drop] at h4
        exact h4.skip
      · rw [← d6]
        exact dw_idem _ _
end
section
local macro_rules | `(tactic| walk_at "fld") => `(tactic| (refine fkT (w := ?w) (K := ?K) (mg := ?mg) (A := ?A) ?t ?e ?h; (case t => assumption); (case e => exact rfl); (case h => first | with_reducible exact g_Look_matrix (by assumption) | with_reducible exact g_Look_path (by assumption) | with_reducible exact g_Look_ink (by assumption) | with_reducible exact g_Look_width (by assumption) | with_reducible exact g_Look_clips (by assumption) | with_reducible exact g_Look_font (by assumption) | with_reducible exact g_World_operands (by assumption) | with_reducible exact g_World_rooms (by assumption) | with_reducible exact g_World_scopes (by assumption) | with_reducible exact g_World_look (by assumption) | with_reducible exact g_World_kept (by assumption) | with_reducible exact g_World_sheets (by assumption) | with_reducible exact g_World_inkings (by assumption) | with_reducible exact g_World_saves (by assumption) | with_reducible exact g_World_many_saves (by assumption) | with_reducible exact g_Items_body (by assumption) | with_reducible exact g_Items_at (by assumption) | with_reducible exact g_Reader_text (by assumption) | with_reducible exact g_Reader_at (by assumption) | with_reducible exact g_Reader_row (by assumption) | with_reducible exact g_Reader_column (by assumption) | with_reducible exact g_Reader_deep (by assumption) | with_reducible exact g_Machine_wide (by assumption) | with_reducible exact g_Machine_high (by assumption) | with_reducible exact g_Machine_most (by assumption) | with_reducible exact g_Machine_world (by assumption) | with_reducible exact g_Machine_frames (by assumption) | with_reducible exact g_Machine_left (by assumption) | with_reducible exact g_Machine_told (by assumption) | with_reducible exact g_Machine_is_running (by assumption) | with_reducible exact g_Machine_ahead (by assumption) | with_reducible exact g_Machine_past (by assumption) | with_reducible exact g_Machine_later (by assumption))))
/-- as many steps as go by themselves -/
local macro_rules | `(tactic| walk_at "g1") => `(tactic| (first
  | with_reducible refine r_seq ?_ | with_reducible refine r_set ?_ | with_reducible refine r_asg ?_ | with_reducible refine r_sl ?_ | with_reducible refine r_np ?_ | with_reducible refine r_pt ?_ | with_reducible refine r_gn ?_ | with_reducible refine r_gc ?_ | with_reducible refine r_g0 ?_ | ((with_reducible refine r_gt (xs := ?xs) ?h ?g ?_); (case h => assumption); (case g => exact rfl)) | with_reducible refine r_ret ?_ | with_reducible refine r_if ?_ | with_reducible refine r_test ?_ | with_reducible refine r_B ?_ | with_reducible refine r_and ?_ | with_reducible refine r_or ?_ | with_reducible refine r_not ?_
  | with_reducible refine r_andV ?_ | with_reducible refine r_orV ?_ | with_reducible refine r_notV ?_ | with_reducible refine r_ifx ?_ | with_reducible refine r_op ?_ | with_reducible refine r_un ?_ | with_reducible refine r_U ?_ | with_reducible refine r_c ?_ | with_reducible refine r_I0 ?_ | with_reducible refine r_drop ?_ | with_reducible refine r_next ?_
  | ((with_reducible refine r_var (v := ?v) ?h ?_); (case h => exact rfl)) | with_reducible refine r_bl ?_ | with_reducible refine r_nil ?_ | with_reducible refine r_cons ?_ | with_reducible refine r_cb ?_ | with_reducible refine r_call ?_ | ((with_reducible refine r_gl (xs := ?xs) ?h ?g ?_); (case h => assumption); (case g => exact rfl)) | with_reducible refine r_sm1 ?_ | with_reducible refine r_sm2 ?_ | with_reducible refine r_sm3 ?_ | with_reducible refine r_ch ?_ | with_reducible refine r_bm ?_ | with_reducible refine r_bm0 ?_ | ((with_reducible refine r_ty (xs := ?xs) ?e ?_); (case e => assumption)) | with_reducible refine r_mkU ?_ | with_reducible refine r_mt0 ?_ | with_reducible refine r_yes ?_ | with_reducible refine iteT ?_ | with_reducible refine iteF ?_ | with_reducible refine r_spk ?_ | with_reducible refine r_sp1 ?_ | with_reducible refine r_sp2 ?_ | with_reducible refine r_sp3 ?_ | with_reducible refine r_sp4 ?_ | with_reducible refine r_sp5 ?_
  | with_reducible refine r_tup ?_ | with_reducible refine r_lst ?_ | with_reducible refine r_par ?_ | with_reducible refine r_par2 ?_ 
  | ((with_reducible refine r_eq ?h ?_); (case h => exact rfl)) | ((with_reducible refine r_ne ?h ?_); (case h => exact rfl))
  | ((with_reducible refine r_ixT (xs := ?xs) (v := ?v) ?h ?g ?_); (case h => assumption); (case g => first | exact at0 | exact at1))
  | ((with_reducible refine r_fl (i := ?i) (nm := ?nm) (C := ?C) (dx := ?dx) (vs := ?vs) (v := ?v) ?ok ?e ?hv ?_); (case e => assumption); (case ok => walk_at "fld"); (case hv => rfl)) | with_reducible refine r_for ?_ | with_reducible refine r_il ?_ | with_reducible refine r_it ?_ | with_reducible refine r_iz ?_ | with_reducible refine r_ir1 ?_ | with_reducible refine r_ir2 ?_ | with_reducible refine r_lc ?_ | with_reducible refine r_sFld ?_ | with_reducible refine r_ck ?_ | with_reducible refine r_fld ?_ | with_reducible refine ⟨_, rfl, ?_⟩ | with_reducible refine ⟨_, _, rfl, .inr (by with_unfolding_all assumption), ?_⟩ | with_reducible refine ⟨_, _, rfl, .inl (seqL (by assumption)), ?_⟩ | with_reducible refine ⟨_, _, rfl, rfl, ?_⟩ | with_reducible refine ⟨_, _, rfl, ?_⟩ | with_reducible refine ⟨rfl, ?_⟩ | with_reducible refine r_sz ?_))
local macro_rules | `(tactic| walk_at "go") => `(tactic| (repeat walk_at "g1"))
variable {P : Program} {w : World} {K : PySem.W.Frag} {mg : Str → Option Value} {A : Ad} {base : Heap}
/-! read_program, need_idle. -/
open SX (S)
abbrev spReadProgram (K : PySem.W.Frag) : Sp := Sp1 fun a H Q => ∃ cs its, a = .str (S cs) ∧ cs.length ≤ 100000 ∧ Reads cs its ∧ ∀ l xs H', Same H H' → H l = none → H' l = some (.lst xs) → Paired (ItmAt K H') xs its → Q (.ref l) H'
theorem sc_read_program : FnScope ["text"] ["text"] (defScope s_read_program) := ⟨rfl, rfl, rfl, by decide +kernel, rfl, by decide +kernel, by decide +kernel⟩
theorem cal_read_program (T : Tx w K mg A) : Cal P w K mg base 7 "read_program" (spReadProgram K) [] := by
  refine calOf T.f_read_program sc_read_program (fun _ _ _ _ _ _ us hl => match us, hl with | [_], _ => rfl) Sp1.len fun f cdv Ar outer s H vs Q E hr h => ?_
  obtain ⟨_, rfl, cs, its, rfl, hc, hRd, q⟩ := h
  refine ⟨_, (pss_cons (ps_if (pt_not (pt_val (pe_callB call_isi rfl T.n_isinstance (by decide +kernel) (pa_cons (pv 0) (pa_cons (pe_bltn (v := .ty "str") rfl T.n_str (by decide +kernel) rfl) pa_nil)))))
    pss_never
    pss_nil)
    (pss_one (ps_ret (pe_c (cal_read_items T) hr (by decide) rfl (pa_cons (pe_mk (mak_Reader T) hr (by decide) rfl (pa_cons (pv 0) pa_nil)) (pa_cons pe_non pa_nil)))))), ?_⟩
  walk_at "go"
  refine ⟨_, _, .type "str", .type "str", true, rfl, .ty "str", .base (.str _), rfl, ?_⟩
  walk_at "go"
  refine iteF ?_
  walk_at "go"
  intro x dx fx fd ne
  generalize g0 : upd (upd _ _ _) _ _ = H0
  have ⟨s0, e0⟩ := nwM g0 fx fd
  refine ⟨_, _, rfl, x, dx, cs, rfl, rfl, e0, hc, fun H1 b1 r1 => ⟨rfl, ?_⟩⟩
  have s1 : Same H H1 := Bu.new s0 fx b1
  walk_at "go"
  refine ⟨x, cs, its, r1, rfl, rfl, hRd, fun l xs H2 b2 fl el pl => ?_⟩
  exact q l xs H2 (Bu.new s1 fx b2) (s1.free fl) el pl
end
section
local macro_rules | `(tactic| walk_at "fld") => `(tactic| (refine fkT (w := ?w) (K := ?K) (mg := ?mg) (A := ?A) ?t ?e ?h; (case t => assumption); (case e => exact rfl); (case h => first | with_reducible exact g_Look_matrix (by assumption) | with_reducible exact g_Look_path (by assumption) | with_reducible exact g_Look_ink (by assumption) | with_reducible exact g_Look_width (by assumption) | with_reducible exact g_Look_clips (by assumption) | with_reducible exact g_Look_font (by assumption) | with_reducible exact g_World_operands (by assumption) | with_reducible exact g_World_rooms (by assumption) | with_reducible exact g_World_scopes (by assumption) | with_reducible exact g_World_look (by assumption) | with_reducible exact g_World_kept (by assumption) | with_reducible exact g_World_sheets (by assumption) | with_reducible exact g_World_inkings (by assumption) | with_reducible exact g_World_saves (by assumption) | with_reducible exact g_World_many_saves (by assumption) | with_reducible exact g_Items_body (by assumption) | with_reducible exact g_Items_at (by assumption) | with_reducible exact g_Reader_text (by assumption) | with_reducible exact g_Reader_at (by assumption) | with_reducible exact g_Reader_row (by assumption) | with_reducible exact g_Reader_column (by assumption) | with_reducible exact g_Reader_deep (by assumption) | with_reducible exact g_Machine_wide (by assumption) | with_reducible exact g_Machine_high (by assumption) | with_reducible exact g_Machine_most (by assumption) | with_reducible exact g_Machine_world (by assumption) | with_reducible exact g_Machine_frames (by assumption) | with_reducible exact g_Machine_left (by assumption) | with_reducible exact g_Machine_told (by assumption) | with_reducible exact g_Machine_is_running (by assumption) | with_reducible exact g_Machine_ahead (by assumption) | with_reducible exact g_Machine_past (by assumption) | with_reducible exact g_Machine_later (by assumption))))
/-- as many steps as go by themselves -/
local macro_rules | `(tactic| walk_at "g1") => `(tactic| (first
  | with_reducible refine r_seq ?_ | with_reducible refine r_set ?_ | with_reducible refine r_asg ?_ | with_reducible refine r_sl ?_ | with_reducible refine r_np ?_ | with_reducible refine r_pt ?_ | with_reducible refine r_gn ?_ | with_reducible refine r_gc ?_ | with_reducible refine r_g0 ?_ | ((with_reducible refine r_gt (xs := ?xs) ?h ?g ?_); (case h => assumption); (case g => exact rfl)) | with_reducible refine r_ret ?_ | with_reducible refine r_if ?_ | with_reducible refine r_test ?_ | with_reducible refine r_B ?_ | with_reducible refine r_and ?_ | with_reducible refine r_or ?_ | with_reducible refine r_not ?_
  | with_reducible refine r_andV ?_ | with_reducible refine r_orV ?_ | with_reducible refine r_notV ?_ | with_reducible refine r_ifx ?_ | with_reducible refine r_op ?_ | with_reducible refine r_un ?_ | with_reducible refine r_U ?_ | with_reducible refine r_c ?_ | with_reducible refine r_I0 ?_ | with_reducible refine r_drop ?_ | with_reducible refine r_next ?_
  | ((with_reducible refine r_var (v := ?v) ?h ?_); (case h => exact rfl)) | with_reducible refine r_bl ?_ | with_reducible refine r_nil ?_ | with_reducible refine r_cons ?_ | with_reducible refine r_cb ?_ | with_reducible refine r_call ?_ | ((with_reducible refine r_gl (xs := ?xs) ?h ?g ?_); (case h => assumption); (case g => exact rfl)) | with_reducible refine r_sm1 ?_ | with_reducible refine r_sm2 ?_ | with_reducible refine r_sm3 ?_ | with_reducible refine r_ch ?_ | with_reducible refine r_bm ?_ | with_reducible refine r_bm0 ?_ | ((with_reducible refine r_ty (xs := ?xs) ?e ?_); (case e => assumption)) | with_reducible refine r_mkU ?_ | with_reducible refine r_mt0 ?_ | with_reducible refine r_yes ?_ | with_reducible refine iteT ?_ | with_reducible refine iteF ?_ | with_reducible refine r_spk ?_ | with_reducible refine r_sp1 ?_ | with_reducible refine r_sp2 ?_ | with_reducible refine r_sp3 ?_ | with_reducible refine r_sp4 ?_ | with_reducible refine r_sp5 ?_
  | with_reducible refine r_tup ?_ | with_reducible refine r_lst ?_ | with_reducible refine r_par ?_ | with_reducible refine r_par2 ?_ 
  | ((with_reducible refine r_eq ?h ?_); (case h => exact rfl)) | ((with_reducible refine r_ne ?h ?_); (case h => exact rfl))
  | ((with_reducible refine r_ixT (xs := ?xs) (v := ?v) ?h ?g ?_); (case h => assumption); (case g => first | exact at0 | exact at1))
  | ((with_reducible refine r_fl (i := ?i) (nm := ?nm) (C := ?C) (dx := ?dx) (vs := ?vs) (v := ?v) ?ok ?e ?hv ?_); (case e => assumption); (case ok => walk_at "fld"); (case hv => rfl)) | with_reducible refine r_for ?_ | with_reducible refine r_il ?_ | with_reducible refine r_it ?_ | with_reducible refine r_iz ?_ | with_reducible refine r_ir1 ?_ | with_reducible refine r_ir2 ?_ | with_reducible refine r_lc ?_ | with_reducible refine r_sFld ?_ | with_reducible refine r_ck ?_ | with_reducible refine r_fld ?_ | with_reducible refine ⟨_, rfl, ?_⟩ | with_reducible refine ⟨_, _, rfl, .inr (by with_unfolding_all assumption), ?_⟩ | with_reducible refine ⟨_, _, rfl, .inl (seqL (by assumption)), ?_⟩ | with_reducible refine ⟨_, _, rfl, rfl, ?_⟩ | with_reducible refine ⟨_, _, rfl, ?_⟩ | with_reducible refine ⟨rfl, ?_⟩ | with_reducible refine r_sz ?_))
local macro_rules | `(tactic| walk_at "go") => `(tactic| (repeat walk_at "g1"))
variable {P : Program} {w : World} {K : PySem.W.Frag} {mg : Str → Option Value} {A : Ad} {base : Heap}
/-! need_idle, start, run. -/
open SX (S)
abbrev spIdle (A : Ad) : Sp := Sp1 fun a H Q => ∃ M mdx v0 v1 v2 v3 v4 v5 v6 vr, a = .ref M ∧ H M = some (.ins A.Machine mdx (mNm.zip (v0 :: v1 :: v2 :: v3 :: v4 :: v5 :: v6 :: .bl false :: vr))) ∧ Q .non H
theorem sc_Machine_need_idle : FnScope ["self"] ["self"] (defScope s_Machine_need_idle) := ⟨rfl, rfl, rfl, by decide +kernel, rfl, by decide +kernel, by decide +kernel⟩
theorem met_Machine_need_idle (T : Tx w K mg A) : Met P w K mg base 1 A.Machine "need_idle" (spIdle A) [] := by
  refine metOf T.c_Machine T.m_Machine_need_idle sc_Machine_need_idle (fun _ _ _ _ _ _ us hl => match us, hl with | [_], _ => rfl) Sp1.len fun f cdv Ar outer s H vs Q E hr h => ?_
  obtain ⟨_, rfl, M, mdx, v0, v1, v2, v3, v4, v5, v6, vr, rfl, e, q⟩ := h
  refine ⟨_, (pss_one (ps_if (pt_val (pe_fld (pv 0) rfl))
    pss_never
    pss_nil)), ?_⟩
  walk_at "go"
  exact q
abbrev spStart (K : PySem.W.Frag) (A : Ad) : Sp := Sp2 fun m b H Q => ∃ M fr past wa cs its, NM K A H M fr past wa ∧ m = .ref M ∧ b = .str (S cs) ∧ cs.length ≤ 100000 ∧ Reads cs its ∧
  ∀ fr' I H', Stp K H H' ([M, fr, past] ++ wa.own) (MA.mk M fr' I past wa).own → RAt K A H' (MA.mk M fr' I past wa) ⟨[], ⟨[], 1, []⟩, [], []⟩ its 0 5000 false → Q .non H'
theorem sc_Machine_start : FnScope ["self", "text", "items"] ["self", "text"] (defScope s_Machine_start) := ⟨rfl, rfl, rfl, by decide +kernel, rfl, by decide +kernel, by decide +kernel⟩
theorem met_Machine_start (T : Tx w K mg A) : Met P w K mg base 8 A.Machine "start" (spStart K A) [] := by
  refine metOf T.c_Machine T.m_Machine_start sc_Machine_start (fun _ _ _ _ _ _ us hl => match us, hl with | [_, _], _ => rfl) Sp2.len fun f cdv Ar outer s H vs Q E hr h => ?_
  obtain ⟨_, _, rfl, M, fr, past, wa, cs, its, hM, rfl, rfl, hc, hRd, q⟩ := h
  refine ⟨_, (pss_cons (ps_expr (pe_mt0 (met_Machine_need_idle T) hr (by decide) (pv 0)))
    (pss_cons (ps_set (i := 2) sc_Machine_start.nd rfl (.inl rfl) (pe_c (cal_read_program T) hr (by decide) rfl (pa_cons (pv 1) pa_nil)))
    (pss_cons (ps_fld (pv 0) (pe_mt0 (met_World_twin T) hr (by decide) (pe_fld (pv 0) rfl)) rfl)
    (pss_cons (ps_fld (pv 0) (pe_lst (pa_cons (pe_mk (mak_Items T) hr (by decide) rfl (pa_cons (pe_callTy call_tuple_of rfl T.n_tuple (by decide +kernel) (pa_cons (pv 2) pa_nil)) pa_nil)) pa_nil)) rfl)
    (pss_cons (ps_fld (pv 0) (pe_fld (pv 0) rfl) rfl)
    (pss_cons (ps_fld (pv 0) pe_non rfl)
    (pss_one (ps_fld (pv 0) pe_bl rfl)))))))), ?_⟩
  obtain ⟨mdx, la, em⟩ := hM.m
  walk_at "go"
  refine r_mtI em (by decide +kernel) ?_
  walk_at "go"
  refine ⟨_, _, _, _, _, _, _, _, _, _, rfl, em, ?_⟩
  walk_at "go"
  refine ⟨cs, its, rfl, hc, hRd, fun l xs H1 s1 fl el pl => ?_⟩
  have em1 := s1 _ _ em
  have fw1 : FW K A H1 wa := by
    obtain ⟨h1, h2, d, r, r0, sc, sh, sv, ew, eo, ei, er, er0, esc, esh, esv⟩ := hM.fw
    exact ⟨h1.same s1, h2, d, r, r0, sc, sh, sv, s1 _ _ ew, s1 _ _ eo, s1 _ _ ei, s1 _ _ er, s1 _ _ er0, s1 _ _ esc, s1 _ _ esh, s1 _ _ esv⟩
  obtain ⟨dw, rw', r0', scw, shw, svw, ew1, _⟩ := fw1.f
  walk_at "go"
  refine r_mtI ew1 (by decide +kernel) ?_
  walk_at "go"
  refine ⟨wa, fw1, rfl, fun v2 H2 s2 => ?_⟩
  have em2 := s2 _ _ em1
  walk_at "go"
  refine r_sf (g_Machine_ahead T) em2 ?_
  generalize g3 : upd _ _ _ = H3
  have em3 := (nwI g3).1
  have nl : l ≠ M := (ne_of_none em fl).symm
  have el2 := s2 _ _ el
  have el3 := (Bu.upd g3) _ _ nl el2
  walk_at "go"
  refine ⟨l, xs, rfl, .inl ⟨seqL el3, fun p4 f4 => ?_⟩⟩
  generalize g4 : upd _ _ _ = H4
  have ⟨s4, e4⟩ := nwT g4 f4
  have em4 := s4 _ _ em3
  walk_at "go"
  intro x dx fx fd ne
  generalize g5 : upd (upd _ _ _) _ _ = H5
  have ⟨s5, e5⟩ := nwM g5 fx fd
  refine ⟨_, _, rfl, x, dx, rfl, e5, fun H6 b6 e6 => ⟨rfl, ?_⟩⟩
  have s6 : Same H4 H6 := Bu.new s5 fx b6
  have em6 := s6 _ _ em4
  walk_at "go"
  intro fr7 f7
  generalize g7 : upd _ _ _ = H7
  have ⟨s7, e7⟩ := nw g7 f7
  have em7 := s7 _ _ em6
  walk_at "go"
  refine r_sf (g_Machine_frames T) em7 ?_
  generalize g8 : upd _ _ _ = H8
  have em8 := (nwI g8).1
  walk_at "go"
  refine r_sf (g_Machine_left T) em8 ?_
  generalize g9 : upd _ _ _ = H9
  have em9 := (nwI g9).1
  walk_at "go"
  refine r_sf (g_Machine_told T) em9 ?_
  generalize g10 : upd _ _ _ = H10
  have em10 := (nwI g10).1
  walk_at "go"
  refine r_sf (g_Machine_is_running T) em10 ?_
  generalize g11 : upd _ _ _ = H11
  have em11 := (nwI g11).1
  walk_at "go"
  have B4 : Bu M H H4 := (Bu.same (s1.trans s2)).trans ((Bu.upd g3).trans (Bu.same s4))
  have B6 : Bu M H H6 := B4.trans (Bu.same s6)
  have C7 : Bu M H7 H11 := (Bu.upd g8).trans ((Bu.upd g9).trans ((Bu.upd g10).trans (Bu.upd g11)))
  have BA : Bu M H H11 := B6.trans ((Bu.same s7).trans C7)
  have nx : x ≠ M := (ne_of_none em4 fx).symm
  have nf : fr7 ≠ M := (ne_of_none em6 f7).symm
  have hp4 := B4 _ _ hM.mp.symm hM.p
  have hp6 := B6 _ _ hM.mp.symm hM.p
  have wM : ∀ b ∈ wa.own, b ≠ M := fun b m z => hM.mo (z ▸ m)
  have fo : fr7 ∉ wa.own := fun m => by
    obtain ⟨u, z, _⟩ := hM.fw.at_.mem fr7 m
    have := B6 _ _ nf z
    rw [f7] at this
    cases this
  have xo : x ∉ wa.own := fun m => by
    obtain ⟨u, z, _⟩ := hM.fw.at_.mem x m
    have := B4 _ _ nx z
    rw [fx] at this
    cases this
  have tk1 : Tk K H1 H11 := (Same.tk s2).trans ((Bu.tk (Bu.upd g3) em2).trans ((Same.tk s4).trans ((Same.tk s6).trans ((Same.tk s7).trans (Bu.tk C7 em7)))))
  have tk4 : Tk K H4 H11 := (Same.tk s6).trans ((Same.tk s7).trans (Bu.tk C7 em7))
  have tk0 : Tk K H H11 := Bu.tk BA em
  refine q fr7 x H11 ⟨fun b o n z => BA b o (fun z2 => n (by rw [z2]; simp)) z, fun b m => ?_, tk0⟩ ⟨⟨mdx, v2, la, em11⟩, C7 _ _ nf e7, ⟨dx, p4, xs, C7 _ _ nx (s7 _ _ e6), tk4 _ _ (e4 K), pImp (fun _ _ z => z.tk tk1) pl⟩, ⟨[], BA _ _ hM.mp.symm hM.p, by decide⟩, hM.fw.at_.keep tk0 fun c m o z => BA c o (wM c m) z, ⟨nf.symm, nx.symm, hM.mp, (ne_of_none e6 f7).symm, (ne_of_none hp6 f7).symm, (ne_of_none hp4 fx).symm, hM.mo, fo, xo, hM.po⟩⟩
  have m' : b = M ∨ b = fr7 ∨ b = x ∨ b = past ∨ b ∈ wa.own := by simpa [MA.own] using m
  rcases m' with z | z | z | z | z
  · exact .inl (by rw [z]; simp)
  · exact .inr (by rw [z]; exact Bu.free B6 f7 nf)
  · exact .inr (by rw [z]; exact Bu.free B4 fx nx)
  · exact .inl (by rw [z]; simp)
  · exact .inl (List.mem_append_right _ z)
abbrev spRun (K : PySem.W.Frag) (A : Ad) : Sp := Sp2 fun m b H Q => ∃ M fr past wa cs its W', NM K A H M fr past wa ∧ m = .ref M ∧ b = .str (S cs) ∧ cs.length ≤ 100000 ∧ Reads cs its ∧ its.length ≤ 5000 ∧ Runs its ⟨[], ⟨[], 1, []⟩, [], []⟩ W' ∧
  ∀ (wa' : Wa) H' o', Stp K H H' ([M, fr, past] ++ wa.own) o' → DAt K A H' M wa' W' → M ∈ o' → (∀ b ∈ wa'.own, b ∈ o') → Q .non H'
theorem sc_Machine_run : FnScope ["self", "text", "is_over"] ["self", "text"] (defScope s_Machine_run) := ⟨rfl, rfl, rfl, by decide +kernel, rfl, by decide +kernel, by decide +kernel⟩
theorem met_Machine_run (T : Tx w K mg A) : Met P w K mg base 14 A.Machine "run" (spRun K A) [] := by
  refine metOf T.c_Machine T.m_Machine_run sc_Machine_run (fun _ _ _ _ _ _ us hl => match us, hl with | [_, _], _ => rfl) Sp2.len fun f cdv Ar outer s H vs Q E hr h => ?_
  obtain ⟨_, _, rfl, M, fr, past, wa, cs, its, W', hM, rfl, rfl, hc, hRd, hl, hRun, q⟩ := h
  refine ⟨_, (pss_cons (ps_expr (pe_mt (met_Machine_start T) hr (by decide) (pv 0) (pa_cons (pv 1) pa_nil)))
    (pss_cons (ps_set (i := 2) sc_Machine_run.nd rfl (.inl rfl) (pe_mt (met_Machine_go T) hr (by decide) (pv 0) (pa_cons (pe_gc rfl T.v_MOST_STEPS) pa_nil)))
    (pss_cons (ps_while PassesOwn.never (pt_not (pt_val (pv 2)))
    pss_never)
    (pss_one (ps_ret (pe_fld (pv 0) rfl)))))), ?_⟩
  obtain ⟨mdx, la, em⟩ := hM.m
  walk_at "go"
  refine r_mtI em (by decide +kernel) ?_
  walk_at "go"
  refine ⟨M, fr, past, wa, cs, its, hM, rfl, rfl, hc, hRd, fun fr' I H1 t1 r1 => ?_⟩
  obtain ⟨mdx1, ah1, la1, em1⟩ := r1.m
  walk_at "go"
  refine r_mtI em1 (by decide +kernel) ?_
  walk_at "go"
  refine ⟨MA.mk M fr' I past wa, _, W', its, rfl, rfl, r1, hl, hRun, fun wa2 H2 o2 t2 d2 m2 n2 => ?_⟩
  obtain ⟨mdx2, fr2, lf2, rn2, ah2, pa2, la2, em2⟩ := d2.m
  walk_at "go"
  refine r_wh ⟨fun m σ H' => σ = [some (.ref M), some (.str (S cs)), some (.bl true)] ∧ H' = H2, ⟨0, rfl, rfl⟩, ?_⟩
  rintro m σ H3 ⟨rfl, rfl⟩
  walk_at "go"
  refine iteF ?_
  walk_at "go"
  exact q wa2 _ o2 (t1.trans t2) d2 m2 n2
end
section
local macro_rules | `(tactic| walk_at "fld") => `(tactic| (refine fkT (w := ?w) (K := ?K) (mg := ?mg) (A := ?A) ?t ?e ?h; (case t => assumption); (case e => exact rfl); (case h => first | with_reducible exact g_Look_matrix (by assumption) | with_reducible exact g_Look_path (by assumption) | with_reducible exact g_Look_ink (by assumption) | with_reducible exact g_Look_width (by assumption) | with_reducible exact g_Look_clips (by assumption) | with_reducible exact g_Look_font (by assumption) | with_reducible exact g_World_operands (by assumption) | with_reducible exact g_World_rooms (by assumption) | with_reducible exact g_World_scopes (by assumption) | with_reducible exact g_World_look (by assumption) | with_reducible exact g_World_kept (by assumption) | with_reducible exact g_World_sheets (by assumption) | with_reducible exact g_World_inkings (by assumption) | with_reducible exact g_World_saves (by assumption) | with_reducible exact g_World_many_saves (by assumption) | with_reducible exact g_Items_body (by assumption) | with_reducible exact g_Items_at (by assumption) | with_reducible exact g_Reader_text (by assumption) | with_reducible exact g_Reader_at (by assumption) | with_reducible exact g_Reader_row (by assumption) | with_reducible exact g_Reader_column (by assumption) | with_reducible exact g_Reader_deep (by assumption) | with_reducible exact g_Machine_wide (by assumption) | with_reducible exact g_Machine_high (by assumption) | with_reducible exact g_Machine_most (by assumption) | with_reducible exact g_Machine_world (by assumption) | with_reducible exact g_Machine_frames (by assumption) | with_reducible exact g_Machine_left (by assumption) | with_reducible exact g_Machine_told (by assumption) | with_reducible exact g_Machine_is_running (by assumption) | with_reducible exact g_Machine_ahead (by assumption) | with_reducible exact g_Machine_past (by assumption) | with_reducible exact g_Machine_later (by assumption))))
/-- as many steps as go by themselves -/
local macro_rules | `(tactic| walk_at "g1") => `(tactic| (first
  | with_reducible refine r_seq ?_ | with_reducible refine r_set ?_ | with_reducible refine r_asg ?_ | with_reducible refine r_sl ?_ | with_reducible refine r_np ?_ | with_reducible refine r_pt ?_ | with_reducible refine r_gn ?_ | with_reducible refine r_gc ?_ | with_reducible refine r_g0 ?_ | ((with_reducible refine r_gt (xs := ?xs) ?h ?g ?_); (case h => assumption); (case g => exact rfl)) | with_reducible refine r_ret ?_ | with_reducible refine r_if ?_ | with_reducible refine r_test ?_ | with_reducible refine r_B ?_ | with_reducible refine r_and ?_ | with_reducible refine r_or ?_ | with_reducible refine r_not ?_
  | with_reducible refine r_andV ?_ | with_reducible refine r_orV ?_ | with_reducible refine r_notV ?_ | with_reducible refine r_ifx ?_ | with_reducible refine r_op ?_ | with_reducible refine r_un ?_ | with_reducible refine r_U ?_ | with_reducible refine r_c ?_ | with_reducible refine r_I0 ?_ | with_reducible refine r_drop ?_ | with_reducible refine r_next ?_
  | ((with_reducible refine r_var (v := ?v) ?h ?_); (case h => exact rfl)) | with_reducible refine r_bl ?_ | with_reducible refine r_nil ?_ | with_reducible refine r_cons ?_ | with_reducible refine r_cb ?_ | with_reducible refine r_call ?_ | ((with_reducible refine r_gl (xs := ?xs) ?h ?g ?_); (case h => assumption); (case g => exact rfl)) | with_reducible refine r_sm1 ?_ | with_reducible refine r_sm2 ?_ | with_reducible refine r_sm3 ?_ | with_reducible refine r_ch ?_ | with_reducible refine r_bm ?_ | with_reducible refine r_bm0 ?_ | ((with_reducible refine r_ty (xs := ?xs) ?e ?_); (case e => assumption)) | with_reducible refine r_mkU ?_ | with_reducible refine r_mt0 ?_ | with_reducible refine r_yes ?_ | with_reducible refine iteT ?_ | with_reducible refine iteF ?_ | with_reducible refine r_spk ?_ | with_reducible refine r_sp1 ?_ | with_reducible refine r_sp2 ?_ | with_reducible refine r_sp3 ?_ | with_reducible refine r_sp4 ?_ | with_reducible refine r_sp5 ?_
  | with_reducible refine r_tup ?_ | with_reducible refine r_lst ?_ | with_reducible refine r_par ?_ | with_reducible refine r_par2 ?_ 
  | ((with_reducible refine r_eq ?h ?_); (case h => exact rfl)) | ((with_reducible refine r_ne ?h ?_); (case h => exact rfl))
  | ((with_reducible refine r_ixT (xs := ?xs) (v := ?v) ?h ?g ?_); (case h => assumption); (case g => first | exact at0 | exact at1))
  | ((with_reducible refine r_fl (i := ?i) (nm := ?nm) (C := ?C) (dx := ?dx) (vs := ?vs) (v := ?v) ?ok ?e ?hv ?_); (case e => assumption); (case ok => walk_at "fld"); (case hv => rfl)) | with_reducible refine r_for ?_ | with_reducible refine r_il ?_ | with_reducible refine r_it ?_ | with_reducible refine r_iz ?_ | with_reducible refine r_ir1 ?_ | with_reducible refine r_ir2 ?_ | with_reducible refine r_lc ?_ | with_reducible refine r_sFld ?_ | with_reducible refine r_ck ?_ | with_reducible refine r_fld ?_ | with_reducible refine ⟨_, rfl, ?_⟩ | with_reducible refine ⟨_, _, rfl, .inr (by with_unfolding_all assumption), ?_⟩ | with_reducible refine ⟨_, _, rfl, .inl (seqL (by assumption)), ?_⟩ | with_reducible refine ⟨_, _, rfl, rfl, ?_⟩ | with_reducible refine ⟨_, _, rfl, ?_⟩ | with_reducible refine ⟨rfl, ?_⟩ | with_reducible refine r_sz ?_))
local macro_rules | `(tactic| walk_at "go") => `(tactic| (repeat walk_at "g1"))
variable {P : Program} {w : World} {K : PySem.W.Frag} {mg : Str → Option Value} {A : Ad} {base : Heap}
/-! apart. -/
/-- two ints as a pair: no lowest terms -/
abbrev spApart (K : PySem.W.Frag) : Sp := Sp2 fun a b H Q => ∃ x y, Nm K H a x ∧ Nm K H b y ∧ x.1.natAbs < 2 ^ 60 ∧ x.2.natAbs < 2 ^ 60 ∧ y.1.natAbs < 2 ^ 60 ∧ y.2.natAbs < 2 ^ 60 ∧ ∀ v H', Same H H' → Nm K H' v (x.1 * y.2 - y.1 * x.2, x.2 * y.2) → Q v H'
theorem sc_apart : FnScope ["one", "other"] ["one", "other"] (defScope s_apart) := ⟨rfl, rfl, rfl, by decide +kernel, rfl, by decide +kernel, by decide +kernel⟩
theorem cal_apart (T : Tx w K mg A) : Cal P w K mg base 1 "apart" (spApart K) [] := by
  refine calOf T.f_apart sc_apart (fun _ _ _ _ _ _ us hl => match us, hl with | [_, _], _ => rfl) Sp2.len fun f cdv Ar outer s H vs Q E hr h => ?_
  obtain ⟨_, _, rfl, ⟨x1, x2⟩, ⟨y1, y2⟩, ⟨a, rfl, ha⟩, ⟨b, rfl, hb⟩, h1, h2, h3, h4, q⟩ := h
  refine ⟨_, (pss_one (ps_ret (pe_tup (pa_cons (pe_op op_sub (pe_op op_mulW (pe_ix ix_tup (pv 0) pe_int (fun _ _ => rfl)) (pe_ix ix_tup (pv 1) pe_int (fun _ _ => rfl))) (pe_op op_mulW (pe_ix ix_tup (pv 1) pe_int (fun _ _ => rfl)) (pe_ix ix_tup (pv 0) pe_int (fun _ _ => rfl)))) (pa_cons (pe_op op_mulW (pe_ix ix_tup (pv 0) pe_int (fun _ _ => rfl)) (pe_ix ix_tup (pv 1) pe_int (fun _ _ => rfl))) pa_nil))))), ?_⟩
  walk_at "go"
  refine r_I (Sm.mul h1 h4) ?_
  walk_at "go"
  refine r_I (Sm.mul h3 h2) ?_
  walk_at "go"
  refine r_I (Sm.mul h2 h4) ?_
  walk_at "go"
  intro p f1
  generalize g1 : upd _ _ _ = H1
  have ⟨s1, e1⟩ := nwT g1 f1
  exact q _ _ s1 ⟨p, rfl, e1 K⟩
end
section
local macro_rules | `(tactic| walk_at "fld") => `(tactic| (refine fkT (w := ?w) (K := ?K) (mg := ?mg) (A := ?A) ?t ?e ?h; (case t => assumption); (case e => exact rfl); (case h => first | with_reducible exact g_Look_matrix (by assumption) | with_reducible exact g_Look_path (by assumption) | with_reducible exact g_Look_ink (by assumption) | with_reducible exact g_Look_width (by assumption) | with_reducible exact g_Look_clips (by assumption) | with_reducible exact g_Look_font (by assumption) | with_reducible exact g_World_operands (by assumption) | with_reducible exact g_World_rooms (by assumption) | with_reducible exact g_World_scopes (by assumption) | with_reducible exact g_World_look (by assumption) | with_reducible exact g_World_kept (by assumption) | with_reducible exact g_World_sheets (by assumption) | with_reducible exact g_World_inkings (by assumption) | with_reducible exact g_World_saves (by assumption) | with_reducible exact g_World_many_saves (by assumption) | with_reducible exact g_Items_body (by assumption) | with_reducible exact g_Items_at (by assumption) | with_reducible exact g_Reader_text (by assumption) | with_reducible exact g_Reader_at (by assumption) | with_reducible exact g_Reader_row (by assumption) | with_reducible exact g_Reader_column (by assumption) | with_reducible exact g_Reader_deep (by assumption) | with_reducible exact g_Machine_wide (by assumption) | with_reducible exact g_Machine_high (by assumption) | with_reducible exact g_Machine_most (by assumption) | with_reducible exact g_Machine_world (by assumption) | with_reducible exact g_Machine_frames (by assumption) | with_reducible exact g_Machine_left (by assumption) | with_reducible exact g_Machine_told (by assumption) | with_reducible exact g_Machine_is_running (by assumption) | with_reducible exact g_Machine_ahead (by assumption) | with_reducible exact g_Machine_past (by assumption) | with_reducible exact g_Machine_later (by assumption))))
/-- as many steps as go by themselves -/
local macro_rules | `(tactic| walk_at "g1") => `(tactic| (first
  | with_reducible refine r_seq ?_ | with_reducible refine r_set ?_ | with_reducible refine r_asg ?_ | with_reducible refine r_sl ?_ | with_reducible refine r_np ?_ | with_reducible refine r_pt ?_ | with_reducible refine r_gn ?_ | with_reducible refine r_gc ?_ | with_reducible refine r_g0 ?_ | ((with_reducible refine r_gt (xs := ?xs) ?h ?g ?_); (case h => assumption); (case g => exact rfl)) | with_reducible refine r_ret ?_ | with_reducible refine r_if ?_ | with_reducible refine r_test ?_ | with_reducible refine r_B ?_ | with_reducible refine r_and ?_ | with_reducible refine r_or ?_ | with_reducible refine r_not ?_
  | with_reducible refine r_andV ?_ | with_reducible refine r_orV ?_ | with_reducible refine r_notV ?_ | with_reducible refine r_ifx ?_ | with_reducible refine r_op ?_ | with_reducible refine r_un ?_ | with_reducible refine r_U ?_ | with_reducible refine r_c ?_ | with_reducible refine r_I0 ?_ | with_reducible refine r_drop ?_ | with_reducible refine r_next ?_
  | ((with_reducible refine r_var (v := ?v) ?h ?_); (case h => exact rfl)) | with_reducible refine r_bl ?_ | with_reducible refine r_nil ?_ | with_reducible refine r_cons ?_ | with_reducible refine r_cb ?_ | with_reducible refine r_call ?_ | ((with_reducible refine r_gl (xs := ?xs) ?h ?g ?_); (case h => assumption); (case g => exact rfl)) | with_reducible refine r_sm1 ?_ | with_reducible refine r_sm2 ?_ | with_reducible refine r_sm3 ?_ | with_reducible refine r_ch ?_ | with_reducible refine r_bm ?_ | with_reducible refine r_bm0 ?_ | ((with_reducible refine r_ty (xs := ?xs) ?e ?_); (case e => assumption)) | with_reducible refine r_mkU ?_ | with_reducible refine r_mt0 ?_ | with_reducible refine r_yes ?_ | with_reducible refine iteT ?_ | with_reducible refine iteF ?_ | with_reducible refine r_spk ?_ | with_reducible refine r_sp1 ?_ | with_reducible refine r_sp2 ?_ | with_reducible refine r_sp3 ?_ | with_reducible refine r_sp4 ?_ | with_reducible refine r_sp5 ?_
  | with_reducible refine r_tup ?_ | with_reducible refine r_lst ?_ | with_reducible refine r_par ?_ | with_reducible refine r_par2 ?_ 
  | ((with_reducible refine r_eq ?h ?_); (case h => exact rfl)) | ((with_reducible refine r_ne ?h ?_); (case h => exact rfl))
  | ((with_reducible refine r_ixT (xs := ?xs) (v := ?v) ?h ?g ?_); (case h => assumption); (case g => first | exact at0 | exact at1))
  | ((with_reducible refine r_fl (i := ?i) (nm := ?nm) (C := ?C) (dx := ?dx) (vs := ?vs) (v := ?v) ?ok ?e ?hv ?_); (case e => assumption); (case ok => walk_at "fld"); (case hv => rfl)) | with_reducible refine r_for ?_ | with_reducible refine r_il ?_ | with_reducible refine r_it ?_ | with_reducible refine r_iz ?_ | with_reducible refine r_ir1 ?_ | with_reducible refine r_ir2 ?_ | with_reducible refine r_lc ?_ | with_reducible refine r_sFld ?_ | with_reducible refine r_ck ?_ | with_reducible refine r_fld ?_ | with_reducible refine ⟨_, rfl, ?_⟩ | with_reducible refine ⟨_, _, rfl, .inr (by with_unfolding_all assumption), ?_⟩ | with_reducible refine ⟨_, _, rfl, .inl (seqL (by assumption)), ?_⟩ | with_reducible refine ⟨_, _, rfl, rfl, ?_⟩ | with_reducible refine ⟨_, _, rfl, ?_⟩ | with_reducible refine ⟨rfl, ?_⟩ | with_reducible refine r_sz ?_))
local macro_rules | `(tactic| walk_at "go") => `(tactic| (repeat walk_at "g1"))
variable {P : Program} {w : World} {K : PySem.W.Frag} {mg : Str → Option Value} {A : Ad} {base : Heap}
-- needs: P33_Page
/-! list(zip(t, u)) of tuples: the zip whose last tuple is held. -/
section
open RZ PySem.W
variable {s : Shared} {AA : Around} {E : Value → Shared → Prop}
theorem lz_item {z TI TO tl j1 j2 u1 u2 : Addr} {fl : Bool} {otl : Obj} {m1 m2 : Nat} {vs us : Array Value} {p q : Value} {Qq : Value → Shared → Prop} (D : ZipApart z TI TO j1 j2 u1 u2)
    (g0 : IsZipHeld s.heap z TI TO tl fl) (g1 : s.heap.get? tl = some otl)
    (g2 : IsPair s.heap TI (.ref j1) (.ref j2)) (g3 : s.heap.IsTupleIter j1 u1 m1)
    (g4 : s.heap.IsTupleIter j2 u2 m2) (g5 : s.heap.IsTuple u1 vs)
    (g6 : s.heap.IsTuple u2 us) (ep : vs[m1]? = some p) (eq : us[m2]? = some q)
    (k : ∀ g, IsZipHeld g z TI TO tl true → g.IsTupleIter j1 u1 (m1 + 1) → g.IsTupleIter j2 u2 (m2 + 1) →
      IsPair g s.heap.objs.size p q → g.objs.size = s.heap.objs.size + 1 →
      (∀ c o, c ≠ z → c ≠ j1 → c ≠ j2 → s.heap.get? c = some o → g.get? c = some o) →
      Qq (.ref s.heap.objs.size) { s with heap := g }) :
    wpAny (model P w) AA (Builtin.«zip.__next__» ⟨[.ref z], []⟩) (fun r s' => ∃ v, r = .done (.ret v) ∧ Qq v s') E s := by
  change wpAny (model P w) AA (field (.ref z) 2 >>= _) _ E s
  refine wpAny_bind (wpAny_field g0 rfl (x := .bool false) rfl (wpAny_bind (wpAny_field g0 rfl (x := .ref TI) rfl ?_)))
  refine wpAny_bind (wpAny_seqItems g2 rfl (wpAny_bind (wpAny_tupleHeld_zip g0 g1 fun ha za sa => ?_)))
  rw [if_neg Bool.false_ne_true]
  refine wpAny_bind ?_
  rw [← Array.forIn_toList]
  simp only [List.forIn_cons, List.forIn_nil]
  refine wpAny_bind (wpAny_bind (wpAny_holding (wpAny_bind (nextOf_tuple_item (s := { s with heap := ha }) (g3.extBut sa.extBut D.i1z) (g5.extBut sa.extBut D.l1z) ep fun hb zb sb => wpAny_pure (wpAny_pure ?_)))))
  refine wpAny_bind (wpAny_bind (wpAny_holding (wpAny_bind (nextOf_tuple_item (s := { s with heap := hb }) ((g4.extBut sa.extBut D.i2z).extBut sb.extBut D.i12.symm)
    ((g6.extBut sa.extBut D.l2z).extBut sb.extBut D.l2i1) eq fun hc zc sc => wpAny_pure (wpAny_pure (wpAny_pure ?_))))))
  refine wpAny_bind (wpAny_newTuple (hsz := Nat.le_of_ble_eq_true rfl) (wpAny_pure ⟨_, rfl, ?_⟩))
  have esz : hc.objs.size = s.heap.objs.size := (sc.1.trans sb.1).trans sa.1
  have old : ∀ c o, c ≠ z → c ≠ j1 → c ≠ j2 → s.heap.get? c = some o → hc.get? c = some o := fun c o n1 n2 n3 e => sc.extBut _ _ n3 (sb.extBut _ _ n2 (sa.extBut _ _ n1 e))
  have fin := k (hc.push { cls := .type "tuple", data := .seq #[p, q] }) (Heap.get?_push_of_some _ (sc.extBut _ _ D.i2z.symm (sb.extBut _ _ D.i1z.symm za))) ((zb.extBut sc.extBut D.i12).at fun o e => Heap.get?_push_of_some _ e) (zc.at fun o e => Heap.get?_push_of_some _ e)
    (esz ▸ Heap.get?_push_size _ rfl) (esz ▸ Heap.size_push ..) fun c o n1 n2 n3 e => Heap.get?_push_of_some _ (old c o n1 n2 n3 e)
  rw [← esz] at fin
  exact fin
theorem lz_end {z TI TO tl j1 j2 u1 u2 : Addr} {fl : Bool} {otl : Obj} {m1 m2 : Nat} {vs us : Array Value} {Qq : PySem.Fin → Shared → Prop} (hn : AA.handled = none) (D : ZipApart z TI TO j1 j2 u1 u2)
    (g0 : IsZipHeld s.heap z TI TO tl fl) (g1 : s.heap.get? tl = some otl)
    (g2 : IsPair s.heap TI (.ref j1) (.ref j2)) (g3 : s.heap.IsTupleIter j1 u1 m1)
    (g4 : s.heap.IsTupleIter j2 u2 m2) (g5 : s.heap.IsTuple u1 vs)
    (g6 : s.heap.IsTuple u2 us) (ev : vs[m1]? = none)
    (k : ∀ g e, (∀ c o, c ≠ z → c ≠ j1 → c ≠ j2 → s.heap.get? c = some o → g.get? c = some o) → (∃ o, g.get? e = some o ∧ o.cls = .type "StopIteration") → E (.ref e) { s with heap := g }) :
    wpAny (model P w) AA (Builtin.«zip.__next__» ⟨[.ref z], []⟩) Qq E s := by
  change wpAny (model P w) AA (field (.ref z) 2 >>= _) _ E s
  refine wpAny_bind (wpAny_field g0 rfl (x := .bool false) rfl (wpAny_bind (wpAny_field g0 rfl (x := .ref TI) rfl ?_)))
  refine wpAny_bind (wpAny_seqItems g2 rfl (wpAny_bind (wpAny_tupleHeld_zip g0 g1 fun ha za sa => ?_)))
  rw [if_neg Bool.false_ne_true]
  refine wpAny_bind ?_
  rw [← Array.forIn_toList]
  simp only [List.forIn_cons, List.forIn_nil]
  refine wpAny_bind (wpAny_bind (wpAny_holding (wpAny_bind (nextOf_tuple_end (s := { s with heap := ha }) hn (g3.extBut sa.extBut D.i1z) (g5.extBut sa.extBut D.l1z) ev fun hb e xb he => ?_))))
  exact k hb e (fun c o n1 n2 _ x => xb _ _ n2 (sa.extBut _ _ n1 x)) he
theorem lz_next {z TI TO tl j1 j2 u1 u2 : Addr} {fl : Bool} {otl : Obj} {m1 m2 : Nat} {vs us : Array Value} {p q : Value} {Qq : Option Value → Shared → Prop} (D : ZipApart z TI TO j1 j2 u1 u2)
    (g0 : IsZipHeld s.heap z TI TO tl fl) (g1 : s.heap.get? tl = some otl)
    (g2 : IsPair s.heap TI (.ref j1) (.ref j2)) (g3 : s.heap.IsTupleIter j1 u1 m1)
    (g4 : s.heap.IsTupleIter j2 u2 m2) (g5 : s.heap.IsTuple u1 vs)
    (g6 : s.heap.IsTuple u2 us) (ep : vs[m1]? = some p) (eq : us[m2]? = some q)
    (k : ∀ g, IsZipHeld g z TI TO tl true → g.IsTupleIter j1 u1 (m1 + 1) → g.IsTupleIter j2 u2 (m2 + 1) →
      IsPair g s.heap.objs.size p q → g.objs.size = s.heap.objs.size + 1 →
      (∀ c o, c ≠ z → c ≠ j1 → c ≠ j2 → s.heap.get? c = some o → g.get? c = some o) →
      Qq (some (.ref s.heap.objs.size)) { s with heap := g }) :
    wpAny (model P w) AA (pyNext (.ref z)) Qq E s := by
  have tz : s.TypeIs (.ref z) "zip" := ⟨_, g0, rfl⟩
  unfold pyNext
  exact wpAny_bind (wpAny_attempt (wpAny_callSpecial?_slot (name := Str.ofString "__next__") tz PySem.F.slot_zip_next
    (wpAny_call_entry PySem.F.slot_zip_next tz PySem.F.entry_zip_next
      (lz_item D g0 g1 g2 g3 g4 g5 g6 ep eq fun g a1 a2 a3 a4 a5 a6 => wpAny_pure (k g a1 a2 a3 a4 a5 a6)) (PySem.F.args_zip_next_1 _))))
theorem lz_last {z TI TO tl j1 j2 u1 u2 : Addr} {fl : Bool} {otl : Obj} {m1 m2 : Nat} {vs us : Array Value} {Qq : Option Value → Shared → Prop} (hn : AA.handled = none) (D : ZipApart z TI TO j1 j2 u1 u2)
    (g0 : IsZipHeld s.heap z TI TO tl fl) (g1 : s.heap.get? tl = some otl)
    (g2 : IsPair s.heap TI (.ref j1) (.ref j2)) (g3 : s.heap.IsTupleIter j1 u1 m1)
    (g4 : s.heap.IsTupleIter j2 u2 m2) (g5 : s.heap.IsTuple u1 vs)
    (g6 : s.heap.IsTuple u2 us) (ev : vs[m1]? = none)
    (k : ∀ g, (∀ c o, c ≠ z → c ≠ j1 → c ≠ j2 → s.heap.get? c = some o → g.get? c = some o) → Qq none { s with heap := g }) :
    wpAny (model P w) AA (pyNext (.ref z)) Qq E s := by
  have tz : s.TypeIs (.ref z) "zip" := ⟨_, g0, rfl⟩
  unfold pyNext
  refine wpAny_bind (wpAny_attempt (wpAny_callSpecial?_slot (name := Str.ofString "__next__") tz PySem.F.slot_zip_next
    (wpAny_call_entry PySem.F.slot_zip_next tz PySem.F.entry_zip_next (lz_end hn D g0 g1 g2 g3 g4 g5 g6 ev fun g e hk he => ?_) (PySem.F.args_zip_next_1 _))))
  obtain ⟨o, ho, hc⟩ := he
  refine wpAny_bind (wpAny_isInstance (T := "StopIteration") (b := true) ⟨o, ho, hc⟩ isSubtype_stop ?_)
  exact wpAny_pure (k _ hk)
/-- a zip of two tuples ahead of its n-th turn; the tuple that it gave out last is held -/
structure LzSt (h : Heap) (z TI TO j1 j2 u1 u2 L : Addr) (vs us : Array Value) (n : Nat) : Prop where
  ti : IsPair h TI (.ref j1) (.ref j2)
  t1 : h.IsTupleIter j1 u1 n
  t2 : h.IsTupleIter j2 u2 n
  l1 : h.IsTuple u1 vs
  l2 : h.IsTuple u2 us
  zz : (IsZip h z TI TO .none ∧ ∃ a b, IsPair h TO a b) ∨ ∃ tl fl otl, IsZipHeld h z TI TO tl fl ∧ h.get? tl = some otl ∧ tl ≠ z ∧ tl ≠ j1 ∧ tl ≠ j2 ∧ tl ≠ L
variable {z TI TO j1 j2 u1 u2 L : Addr} {vs us : Array Value} {n : Nat}
theorem LzSt.keep {h h' : Heap} (g : LzSt h z TI TO j1 j2 u1 u2 L vs us n) (lt : ∀ b ∈ [z, TI, TO, j1, j2, u1, u2], b ≠ L) (k : ∀ b o, b ≠ L → h.get? b = some o → h'.get? b = some o) : LzSt h' z TI TO j1 j2 u1 u2 L vs us n := by
  obtain ⟨a1, a2, a3, a4, a5, a6⟩ := g
  refine ⟨k _ _ (lt _ (by simp)) a1, a2.at fun o e => k _ o (lt _ (by simp)) e, a3.at fun o e => k _ o (lt _ (by simp)) e, ?_, ?_, ?_⟩
  · obtain ⟨o, e, r⟩ := a4
    exact ⟨o, k _ o (lt _ (by simp)) e, r⟩
  · obtain ⟨o, e, r⟩ := a5
    exact ⟨o, k _ o (lt _ (by simp)) e, r⟩
  · rcases a6 with ⟨hz, a, b, hp⟩ | ⟨tl, fl, otl, hz, ht, r1, r2, r3, r4⟩
    · exact .inl ⟨k _ _ (lt _ (by simp)) hz, a, b, k _ _ (lt _ (by simp)) hp⟩
    · exact .inr ⟨tl, fl, otl, k _ _ (lt _ (by simp)) hz, k _ _ r4 ht, r1, r2, r3, r4⟩
theorem LzSt.item {p q : Value} {Qq : Option Value → Shared → Prop} (D : ZipApart z TI TO j1 j2 u1 u2) (g : LzSt s.heap z TI TO j1 j2 u1 u2 L vs us n) (hL : L < s.heap.objs.size) (ep : vs[n]? = some p) (eq : us[n]? = some q)
    (k : ∀ g', LzSt g' z TI TO j1 j2 u1 u2 L vs us (n + 1) → IsPair g' s.heap.objs.size p q → g'.objs.size = s.heap.objs.size + 1 → (∀ c o, c ∉ [z, TO, j1, j2] → s.heap.get? c = some o → g'.get? c = some o) → Qq (some (.ref s.heap.objs.size)) { s with heap := g' }) :
    wpAny (model P w) AA (pyNext (.ref z)) Qq E s := by
  obtain ⟨a1, a2, a3, a4, a5, a6⟩ := g
  have lt : ∀ {c o}, s.heap.get? c = some o → s.heap.objs.size ≠ c := fun e => Nat.ne_of_gt (Heap.lt_size e)
  have n1 : s.heap.objs.size ≠ j1 := let ⟨_, e, _⟩ := a2; lt e
  have n2 : s.heap.objs.size ≠ j2 := let ⟨_, e, _⟩ := a3; lt e
  rcases a6 with ⟨hz, a, b, hp⟩ | ⟨tl, fl, otl, hz, ht, r1, r2, r3, r4⟩
  · refine pyNext_zipT_item D hz a1 hp a2 a3 a4 a5 ep eq fun h' b1 b2 b3 b4 b5 b6 hk => ?_
    have nz := lt hz
    refine k h' ⟨hk _ _ D.TIz D.TITO D.TIi1 D.TIi2 a1, b3, b4, ?_, ?_, .inr ⟨_, false, _, b1, b5, nz, n1, n2, Nat.ne_of_gt hL⟩⟩ b5 b6 fun c o m e => hk c o (fun x => m (by simp [x])) (fun x => m (by simp [x])) (fun x => m (by simp [x])) (fun x => m (by simp [x])) e
    · obtain ⟨o, e, r⟩ := a4
      exact ⟨o, hk _ o D.l1z D.l1TO D.l1i1 D.l1i2 e, r⟩
    · obtain ⟨o, e, r⟩ := a5
      exact ⟨o, hk _ o D.l2z D.l2TO D.l2i1 D.l2i2 e, r⟩
  · refine lz_next D hz ht a1 a2 a3 a4 a5 ep eq fun h' b1 b3 b4 b5 b6 hk => ?_
    refine k h' ⟨hk _ _ D.TIz D.TIi1 D.TIi2 a1, b3, b4, ?_, ?_, .inr ⟨tl, true, otl, b1, hk _ _ r1 r2 r3 ht, r1, r2, r3, r4⟩⟩ b5 b6 fun c o m e => hk c o (fun x => m (by simp [x])) (fun x => m (by simp [x])) (fun x => m (by simp [x])) e
    · obtain ⟨o, e, r⟩ := a4
      exact ⟨o, hk _ o D.l1z D.l1i1 D.l1i2 e, r⟩
    · obtain ⟨o, e, r⟩ := a5
      exact ⟨o, hk _ o D.l2z D.l2i1 D.l2i2 e, r⟩
theorem LzSt.done {Qq : Option Value → Shared → Prop} (hn : AA.handled = none) (D : ZipApart z TI TO j1 j2 u1 u2) (g : LzSt s.heap z TI TO j1 j2 u1 u2 L vs us n) (ev : vs[n]? = none)
    (k : ∀ g', (∀ c o, c ∉ [z, TO, j1, j2] → s.heap.get? c = some o → g'.get? c = some o) → Qq none { s with heap := g' }) :
    wpAny (model P w) AA (pyNext (.ref z)) Qq E s := by
  obtain ⟨a1, a2, a3, a4, a5, a6⟩ := g
  rcases a6 with ⟨hz, a, b, hp⟩ | ⟨tl, fl, otl, hz, ht, r1, r2, r3, r4⟩
  · exact pyNext_zipT_end hn D hz a1 hp a2 a3 a4 a5 (.inl ev) fun h' hk => k h' fun c o m e => hk c o (fun x => m (by simp [x])) (fun x => m (by simp [x])) (fun x => m (by simp [x])) (fun x => m (by simp [x])) e
  · exact lz_last hn D hz ht a1 a2 a3 a4 a5 ev fun h' hk => k h' fun c o m e => hk c o (fun x => m (by simp [x])) (fun x => m (by simp [x])) (fun x => m (by simp [x])) e
/-- the tuples that the list holds -/
structure LzG (vs us : Array Value) (lo : Addr) (h : Heap) (as : List Addr) : Prop where
  rise : as.Pairwise (· < ·)
  above : ∀ a ∈ as, lo < a
  pairs : ∀ (j : Nat) (a : Addr), as[j]? = some a → ∃ p q, vs[j]? = some p ∧ us[j]? = some q ∧ IsPair h a p q
theorem LzG.there {lo : Addr} {h : Heap} {as : List Addr} (g : LzG vs us lo h as) {a : Addr} (ha : a ∈ as) : a < h.objs.size := by
  obtain ⟨j, hj⟩ := List.mem_iff_getElem?.mp ha
  obtain ⟨_, _, _, _, e⟩ := g.pairs j a hj
  exact Heap.lt_size e
theorem lz_loop (hh : AA.handled = none) (D : ZipApart z TI TO j1 j2 u1 u2) (lt : ∀ b ∈ [z, TI, TO, j1, j2, u1, u2], b < L) (hsz : vs.size = us.size) (hn : vs.size ≤ sizeLine) (res : Value) {h₁ : Heap} {R : Result → Shared → Prop}
    (hR : ∀ h' tk acc c as, (∀ b o, b < L → b ∉ [z, TO, j1, j2] → h₁.get? b = some o → h'.get? b = some o) → h'.get? L = some { cls := .type "list", dict := none, data := .seq acc c, slots := #[] } → as.length = vs.size → LzG vs us L h' as →
      acc.toList = as.map Value.ref → R (.ok (.ret res)) { s with heap := h', toks := tk }) :
    ∀ (k i : Nat) (h : Heap) (tk c : Nat) (acc : Array Value) (as : List Addr), vs.size - i = k → i ≤ vs.size → LzSt h z TI TO j1 j2 u1 u2 L vs us i → (∀ b o, b < L → b ∉ [z, TO, j1, j2] → h₁.get? b = some o → h.get? b = some o) →
      h.get? L = some { cls := .type "list", dict := none, data := .seq acc c, slots := #[] } → acc.toList = as.map Value.ref → as.length = i → LzG vs us L h as →
      codeAny (model P w) AA (.builtin "list.extend.loop" ⟨[.ref L, .ref z, res], []⟩) R { s with heap := h, toks := tk } := by
  have Lno : L ∉ [z, TO, j1, j2] := fun m => Nat.lt_irrefl L (lt L (by
    have m' : L = z ∨ L = TO ∨ L = j1 ∨ L = j2 := by simpa using m
    rcases m' with e | e | e | e <;> simp [← e]))
  have hi2 : ∀ b, L < b → b ∉ [z, TO, j1, j2] := fun b hb m => Nat.lt_asymm hb (lt b (by
    have m' : b = z ∨ b = TO ∨ b = j1 ∨ b = j2 := by simpa using m
    rcases m' with e | e | e | e <;> simp [← e]))
  have neL : ∀ b ∈ [z, TI, TO, j1, j2, u1, u2], b ≠ L := fun b m => Nat.ne_of_lt (lt b m)
  intro k
  induction k with
  | zero =>
    intro i h tk c acc as hk hi hst hkeep hS hacc hal hG
    have hin : i = vs.size := by omega
    refine codeAny_builtin PySem.F.entry_extend_loop ?_
    rw [Around.under_plainId PySem.F.plain_extend_loop _]
    show wpAny _ AA.in1 (pyNext (.ref z) >>= _) _ _ _
    refine wpAny_bind (LzSt.done (s := { s with heap := h, toks := tk }) (AA := AA.in1) hh D hst (Array.getElem?_eq_none (by omega)) fun h' he => ?_)
    refine wpAny_pure (hR h' tk acc c as (fun b o h1 h2 e => he b o h2 (hkeep b o h1 h2 e)) (he L _ Lno hS) (by omega) ⟨hG.rise, hG.above, fun j a hj => ?_⟩ hacc)
    obtain ⟨p, q, e1, e2, e3⟩ := hG.pairs j a hj
    exact ⟨p, q, e1, e2, he a _ (hi2 a (hG.above a (List.mem_of_getElem? hj))) e3⟩
  | succ k ih =>
    intro i h tk c acc as hk hi hst hkeep hS hacc hal hG
    have hlt : i < vs.size := by omega
    have hlt2 : i < us.size := by omega
    have hsz2 : acc.size = i := by rw [← Array.length_toList, hacc, List.length_map, hal]
    have hSl : L < h.objs.size := Heap.lt_size hS
    refine codeAny_builtin PySem.F.entry_extend_loop ?_
    rw [Around.under_plainId PySem.F.plain_extend_loop _]
    show wpAny _ AA.in1 (pyNext (.ref z) >>= _) _ _ _
    refine wpAny_bind (LzSt.item (s := { s with heap := h, toks := tk }) D hst hSl (Array.getElem?_eq_getElem hlt) (Array.getElem?_eq_getElem hlt2) fun h' hst' ht hz hkp => ?_)
    dsimp only at ht hz hkp ⊢
    have hS' := hkp L _ Lno hS
    have up : ∀ b o, b ≠ L → h'.get? b = some o → (h'.update L (Obj.mapSeq (·.push (Value.ref h.objs.size)))).get? b = some o := fun b o hb e => (Heap.get?_update_other _ _ (Ne.symm hb)).trans e
    show wpAny _ AA.in1 (updateSeq L (·.push (Value.ref h.objs.size)) >>= _) _ _ _
    refine wpAny_bind ?_
    refine wpAny_updateSeq hS' rfl (wpAny_pure ⟨plainId_quiet PySem.F.plain_extend_loop _, ih (i + 1) _ tk _ (acc.push (Value.ref h.objs.size)) (as ++ [h.objs.size]) (by omega) hlt (hst'.keep neL up)
      (fun b o h1 h2 e => up b o (Nat.ne_of_lt h1) (hkp b o h2 (hkeep b o h1 h2 e))) (Heap.get?_update_self _ hS' rfl) (by rw [Array.toList_push, hacc, List.map_append]; rfl) (by rw [List.length_append, hal]; rfl) ⟨?_, ?_, ?_⟩⟩) (by rw [hsz2]; omega) (by show (acc.push (Value.ref h.objs.size)).size ≤ sizeLine + 1; rw [Array.size_push, hsz2]; omega)
    · refine List.pairwise_append.mpr ⟨hG.rise, List.pairwise_singleton _ _, fun a ha b hb => ?_⟩
      rw [List.mem_singleton.mp hb]
      exact hG.there ha
    · intro a ha
      rcases List.mem_append.mp ha with ha | ha
      · exact hG.above a ha
      · rw [List.mem_singleton.mp ha]; exact hSl
    · intro j b hj
      rcases Nat.lt_trichotomy j as.length with h1 | h1 | h1
      · rw [List.getElem?_append_left h1] at hj
        obtain ⟨p, q, e1, e2, e3⟩ := hG.pairs j b hj
        have hb := hG.above b (List.mem_of_getElem? hj)
        exact ⟨p, q, e1, e2, up b _ (Nat.ne_of_gt hb) (hkp b _ (hi2 b hb) e3)⟩
      · subst h1
        have hb : h.objs.size = b := by simpa using hj
        subst hb
        exact ⟨_, _, by rw [hal]; exact Array.getElem?_eq_getElem hlt, by rw [hal]; exact Array.getElem?_eq_getElem hlt2, up _ _ (Nat.ne_of_gt hSl) ht⟩
      · have hnone : (as ++ [h.objs.size])[j]? = none := List.getElem?_eq_none (by rw [List.length_append, List.length_singleton]; omega)
        rw [hnone] at hj; cases hj
theorem zip_no_len : typeLookup (.type "zip") "__len__" = pure none := am_miss_of_fast (by decide +kernel)
theorem zip_no_hint : typeLookup (.type "zip") "__length_hint__" = pure none := am_miss_of_fast (by decide +kernel)
theorem lz_extend {R : Result → Shared → Prop} (hh : AA.handled = none) (D : ZipApart z TI TO j1 j2 u1 u2) (lt : ∀ b ∈ [z, TI, TO, j1, j2, u1, u2], b < L) (hsz : vs.size = us.size) (hn : vs.size ≤ sizeLine) (res : Value) (c₀ : Nat)
    (hst : LzSt s.heap z TI TO j1 j2 u1 u2 L vs us 0) (hzz : IsZip s.heap z TI TO .none) (hS : s.heap.get? L = some { cls := .type "list", data := .seq #[] c₀ })
    (hR : ∀ h' tk acc c as, (∀ b o, b < L → b ∉ [z, TO, j1, j2] → s.heap.get? b = some o → h'.get? b = some o) → h'.get? L = some { cls := .type "list", dict := none, data := .seq acc c, slots := #[] } → as.length = vs.size → LzG vs us L h' as →
      acc.toList = as.map Value.ref → R (.ok (.ret res)) { s with heap := h', toks := tk }) :
    wpAny (model P w) AA.in1 (Builtin.List.listExtendWith (.ref L) (.ref z) res)
      (fun fin s' => match fin with | .done f => R (.ok f) s' | .again c' => c'.quiet = true ∧ codeAny (model P w) AA c' R s') (fun e s' => R (.error e) s') s := by
  have neL : ∀ b ∈ [z, TI, TO, j1, j2, u1, u2], b ≠ L := fun b m => Nat.ne_of_lt (lt b m)
  have tz : s.TypeIs (.ref z) "zip" := ⟨_, hzz, rfl⟩
  unfold Builtin.List.listExtendWith
  refine wpAny_bind (wpAny_typeOf (T := "zip") tz ?_)
  have h1 : Builtin.List.listSameRef (.ref L) (.ref z) = false := by simp [Builtin.List.listSameRef, (neL z (by simp)).symm]
  have h2 : (Value.type "zip" == Value.type "list") = false := by decide
  have h3 : (Value.type "zip" == Value.type "tuple") = false := by decide
  simp only [h1, h2, h3, Bool.or_false, Bool.false_eq_true, if_false]
  refine wpAny_bind (wpAny_pyIter_zip hzz ?_)
  refine wpAny_bind (wpAny_holding ?_)
  unfold Builtin.List.listLengthHint
  refine wpAny_bind (wpAny_specialOf tz zip_no_len ?_)
  show wpAny _ AA.in1 (specialOf (Value.ref z) (Str.ofString "__length_hint__") >>= _) _ _ _
  refine wpAny_bind (wpAny_specialOf tz zip_no_hint ?_)
  refine wpAny_pure ?_
  show wpAny _ AA.in1 (rule "list.extend.makes-room" >>= fun _ => Builtin.List.listTouch (.ref L) >>= fun _ =>
    again (.builtin "list.extend.loop" ⟨[.ref L, .ref z, res], []⟩)) _ _ _
  refine wpAny_bind (wpAny_rule ?_)
  refine wpAny_bind ?_
  show wpAny _ AA.in1 (updateSeq L (·.push .none) >>= fun _ => updateSeq L (·.pop)) _ _ _
  refine wpAny_bind (wpAny_updateSeq hS rfl ?_)
  have hS₂ := Heap.get?_update_self (Obj.mapSeq (·.push Value.none)) hS rfl
  refine wpAny_updateSeq (hz := by seq_fits) hS₂ rfl ?_
  have hS₃ := Heap.get?_update_self (Obj.mapSeq (·.pop)) hS₂ rfl
  have oth : ∀ b o, b ≠ L → s.heap.get? b = some o → ((s.heap.update L (Obj.mapSeq (·.push Value.none))).update L (Obj.mapSeq (·.pop))).get? b = some o :=
    fun b o hb e => (Heap.get?_update_other _ _ (Ne.symm hb)).trans ((Heap.get?_update_other _ _ (Ne.symm hb)).trans e)
  refine wpAny_pure ⟨plainId_quiet PySem.F.plain_extend_loop _, lz_loop (s := s) (h₁ := s.heap) hh D lt hsz hn res hR vs.size 0 _ s.toks _ #[] [] rfl (Nat.zero_le _) (hst.keep neL oth) (fun b o h1 _ e => oth b o (Nat.ne_of_lt h1) e) hS₃ rfl rfl ⟨List.Pairwise.nil, (fun _ ha => nomatch ha), (fun j a hj => by simp at hj)⟩⟩
theorem lz_init {R : Result → Shared → Prop} (hh : AA.handled = none) (D : ZipApart z TI TO j1 j2 u1 u2) (lt : ∀ b ∈ [z, TI, TO, j1, j2, u1, u2], b < L) (hsz : vs.size = us.size) (hn : vs.size ≤ sizeLine)
    (hst : LzSt s.heap z TI TO j1 j2 u1 u2 L vs us 0) (hzz : IsZip s.heap z TI TO .none) (hS : s.heap.get? L = some { cls := .type "list", data := .seq #[] })
    (hR : ∀ h' tk acc c as, (∀ b o, b < L → b ∉ [z, TO, j1, j2] → s.heap.get? b = some o → h'.get? b = some o) → h'.get? L = some { cls := .type "list", dict := none, data := .seq acc c, slots := #[] } → as.length = vs.size → LzG vs us L h' as →
      acc.toList = as.map Value.ref → R (.ok (.ret .none)) { s with heap := h', toks := tk }) :
    wpAny (model P w) AA.in1 (Builtin.«list.__init__» ⟨[.ref L, .ref z], []⟩)
      (fun fin s' => match fin with | .done f => R (.ok f) s' | .again c' => c'.quiet = true ∧ codeAny (model P w) AA c' R s') (fun e s' => R (.error e) s') s := by
  have neL : ∀ b ∈ [z, TI, TO, j1, j2, u1, u2], b ≠ L := fun b m => Nat.ne_of_lt (lt b m)
  show wpAny _ AA.in1 (do let old ← Builtin.List.listItems (.ref L); Builtin.List.listUpdate (.ref L) (fun _ => #[]); letGo old.toList.reverse; Builtin.List.listExtendWith (.ref L) (.ref z) .none) _ _ s
  refine wpAny_bind ?_
  unfold Builtin.List.listItems
  refine wpAny_bind (wpAny_seqItems hS rfl (wpAny_pure ?_))
  show wpAny _ AA.in1 (updateSeq L (fun _ => #[]) >>= fun _ => letGo (#[] : Array Value).toList.reverse >>= fun _ => Builtin.List.listExtendWith (.ref L) (.ref z) .none) _ _ s
  refine wpAny_bind (wpAny_updateSeq hS rfl ?_)
  have hS₂ := Heap.get?_update_self (Obj.mapSeq (fun _ => (#[] : Array Value))) hS rfl
  have oth : ∀ b o, b ≠ L → s.heap.get? b = some o → (s.heap.update L (Obj.mapSeq (fun _ => (#[] : Array Value)))).get? b = some o :=
    fun b o hb e => (Heap.get?_update_other _ _ (Ne.symm hb)).trans e
  refine wpAny_bind (wpAny_letGo ?_)
  exact lz_extend hh D lt hsz hn .none _ (hst.keep neL oth) (oth _ _ (neL z (by simp)) hzz) hS₂ fun h' tk acc c as hk hS' hl hG hacc => hR h' tk acc c as (fun b o h1 h2 e => hk b o h1 h2 (oth b o (Nat.ne_of_lt h1) e)) hS' hl hG hacc
theorem lz_call {Qq : Value → Shared → Prop} (hh : AA.handled = none) (D : ZipApart z TI TO j1 j2 u1 u2) (lt : ∀ b ∈ [z, TI, TO, j1, j2, u1, u2], b < s.heap.objs.size) (hsz : vs.size = us.size) (hn : vs.size ≤ sizeLine)
    (hst : LzSt s.heap z TI TO j1 j2 u1 u2 s.heap.objs.size vs us 0) (hzz : IsZip s.heap z TI TO .none)
    (hQ : ∀ h' tk acc c as, (∀ b o, b ∉ [z, TO, j1, j2] → s.heap.get? b = some o → h'.get? b = some o) → h'.get? s.heap.objs.size = some { cls := .type "list", dict := none, data := .seq acc c, slots := #[] } → as.length = vs.size → LzG vs us s.heap.objs.size h' as →
      acc.toList = as.map Value.ref → Qq (.ref s.heap.objs.size) { s with heap := h', toks := tk }) :
    wpAny (model P w) AA (call (.type "list") [.ref z]) Qq E s := by
  refine callType_codes (Q₁ := fun obj s₁ => obj = .ref s.heap.objs.size ∧ s₁ = { s with heap := s.heap.push { cls := .type "list", data := .seq #[] } }) PySem.F.called_list (PySem.F.typeCall_list_1 _) PySem.F.entry_list_init
    (code_list_new _ ⟨rfl, rfl⟩) fun obj s₁ h₁ => ?_
  obtain ⟨rfl, rfl⟩ := h₁
  have hS : (s.heap.push { cls := .type "list", data := .seq #[] }).get? s.heap.objs.size = some { cls := .type "list", data := .seq #[] } := Heap.get?_push_size _ rfl
  have neL : ∀ b ∈ [z, TI, TO, j1, j2, u1, u2], b ≠ s.heap.objs.size := fun b m => Nat.ne_of_lt (lt b m)
  refine ⟨⟨_, hS, rfl⟩, PySem.F.args_list_init_2 _ _, lz_init (AA := AA.in1) hh D lt hsz hn (hst.keep neL fun b o _ e => Heap.get?_push_of_some _ e) (Heap.get?_push_of_some _ hzz) hS fun h' tk acc c as hk hS' hl hG hacc => ?_⟩
  exact ⟨rfl, hQ h' tk acc c as (fun b o h1 e => hk b o (Heap.lt_size e) h1 (Heap.get?_push_of_some _ e)) hS' hl hG hacc⟩
end
end
section
local macro_rules | `(tactic| walk_at "fld") => `(tactic| (refine fkT (w := ?w) (K := ?K) (mg := ?mg) (A := ?A) ?t ?e ?h; (case t => assumption); (case e => exact rfl); (case h => first | with_reducible exact g_Look_matrix (by assumption) | with_reducible exact g_Look_path (by assumption) | with_reducible exact g_Look_ink (by assumption) | with_reducible exact g_Look_width (by assumption) | with_reducible exact g_Look_clips (by assumption) | with_reducible exact g_Look_font (by assumption) | with_reducible exact g_World_operands (by assumption) | with_reducible exact g_World_rooms (by assumption) | with_reducible exact g_World_scopes (by assumption) | with_reducible exact g_World_look (by assumption) | with_reducible exact g_World_kept (by assumption) | with_reducible exact g_World_sheets (by assumption) | with_reducible exact g_World_inkings (by assumption) | with_reducible exact g_World_saves (by assumption) | with_reducible exact g_World_many_saves (by assumption) | with_reducible exact g_Items_body (by assumption) | with_reducible exact g_Items_at (by assumption) | with_reducible exact g_Reader_text (by assumption) | with_reducible exact g_Reader_at (by assumption) | with_reducible exact g_Reader_row (by assumption) | with_reducible exact g_Reader_column (by assumption) | with_reducible exact g_Reader_deep (by assumption) | with_reducible exact g_Machine_wide (by assumption) | with_reducible exact g_Machine_high (by assumption) | with_reducible exact g_Machine_most (by assumption) | with_reducible exact g_Machine_world (by assumption) | with_reducible exact g_Machine_frames (by assumption) | with_reducible exact g_Machine_left (by assumption) | with_reducible exact g_Machine_told (by assumption) | with_reducible exact g_Machine_is_running (by assumption) | with_reducible exact g_Machine_ahead (by assumption) | with_reducible exact g_Machine_past (by assumption) | with_reducible exact g_Machine_later (by assumption))))
/-- as many steps as go by themselves -/
local macro_rules | `(tactic| walk_at "g1") => `(tactic| (first
  | with_reducible refine r_seq ?_ | with_reducible refine r_set ?_ | with_reducible refine r_asg ?_ | with_reducible refine r_sl ?_ | with_reducible refine r_np ?_ | with_reducible refine r_pt ?_ | with_reducible refine r_gn ?_ | with_reducible refine r_gc ?_ | with_reducible refine r_g0 ?_ | ((with_reducible refine r_gt (xs := ?xs) ?h ?g ?_); (case h => assumption); (case g => exact rfl)) | with_reducible refine r_ret ?_ | with_reducible refine r_if ?_ | with_reducible refine r_test ?_ | with_reducible refine r_B ?_ | with_reducible refine r_and ?_ | with_reducible refine r_or ?_ | with_reducible refine r_not ?_
  | with_reducible refine r_andV ?_ | with_reducible refine r_orV ?_ | with_reducible refine r_notV ?_ | with_reducible refine r_ifx ?_ | with_reducible refine r_op ?_ | with_reducible refine r_un ?_ | with_reducible refine r_U ?_ | with_reducible refine r_c ?_ | with_reducible refine r_I0 ?_ | with_reducible refine r_drop ?_ | with_reducible refine r_next ?_
  | ((with_reducible refine r_var (v := ?v) ?h ?_); (case h => exact rfl)) | with_reducible refine r_bl ?_ | with_reducible refine r_nil ?_ | with_reducible refine r_cons ?_ | with_reducible refine r_cb ?_ | with_reducible refine r_call ?_ | ((with_reducible refine r_gl (xs := ?xs) ?h ?g ?_); (case h => assumption); (case g => exact rfl)) | with_reducible refine r_sm1 ?_ | with_reducible refine r_sm2 ?_ | with_reducible refine r_sm3 ?_ | with_reducible refine r_ch ?_ | with_reducible refine r_bm ?_ | with_reducible refine r_bm0 ?_ | ((with_reducible refine r_ty (xs := ?xs) ?e ?_); (case e => assumption)) | with_reducible refine r_mkU ?_ | with_reducible refine r_mt0 ?_ | with_reducible refine r_yes ?_ | with_reducible refine iteT ?_ | with_reducible refine iteF ?_ | with_reducible refine r_spk ?_ | with_reducible refine r_sp1 ?_ | with_reducible refine r_sp2 ?_ | with_reducible refine r_sp3 ?_ | with_reducible refine r_sp4 ?_ | with_reducible refine r_sp5 ?_
  | with_reducible refine r_tup ?_ | with_reducible refine r_lst ?_ | with_reducible refine r_par ?_ | with_reducible refine r_par2 ?_ 
  | ((with_reducible refine r_eq ?h ?_); (case h => exact rfl)) | ((with_reducible refine r_ne ?h ?_); (case h => exact rfl))
  | ((with_reducible refine r_ixT (xs := ?xs) (v := ?v) ?h ?g ?_); (case h => assumption); (case g => first | exact at0 | exact at1))
  | ((with_reducible refine r_fl (i := ?i) (nm := ?nm) (C := ?C) (dx := ?dx) (vs := ?vs) (v := ?v) ?ok ?e ?hv ?_); (case e => assumption); (case ok => walk_at "fld"); (case hv => rfl)) | with_reducible refine r_for ?_ | with_reducible refine r_il ?_ | with_reducible refine r_it ?_ | with_reducible refine r_iz ?_ | with_reducible refine r_ir1 ?_ | with_reducible refine r_ir2 ?_ | with_reducible refine r_lc ?_ | with_reducible refine r_sFld ?_ | with_reducible refine r_ck ?_ | with_reducible refine r_fld ?_ | with_reducible refine ⟨_, rfl, ?_⟩ | with_reducible refine ⟨_, _, rfl, .inr (by with_unfolding_all assumption), ?_⟩ | with_reducible refine ⟨_, _, rfl, .inl (seqL (by assumption)), ?_⟩ | with_reducible refine ⟨_, _, rfl, rfl, ?_⟩ | with_reducible refine ⟨_, _, rfl, ?_⟩ | with_reducible refine ⟨rfl, ?_⟩ | with_reducible refine r_sz ?_))
local macro_rules | `(tactic| walk_at "go") => `(tactic| (repeat walk_at "g1"))
variable {P : Program} {w : World} {K : PySem.W.Frag} {mg : Str → Option Value} {A : Ad} {base : Heap}
/-! list(zip(t, u)) as a rule: a new list of new pairs. -/
/-- the tuples tracked at their addresses -/
def putP : Hp → List Addr → List (V × V) → Hp
  | H, a :: as, p :: ps => putP (upd H a (.tup [p.1, p.2])) as ps
  | H, _, _ => H
theorem putP_off {b : Addr} : ∀ (as : List Addr) (ps : List (V × V)) (H : Hp), b ∉ as → putP H as ps b = H b
  | [], _, _, _ => rfl
  | _ :: _, [], _, _ => rfl
  | a :: as, p :: ps, H, h => by
    show putP (upd H a (.tup [p.1, p.2])) as ps b = H b
    rw [putP_off as ps _ (fun z => h (List.mem_cons_of_mem _ z)), upd_ne (fun z => h (by rw [z]; exact List.mem_cons_self))]
theorem putP_at : ∀ (as : List Addr) (ps : List (V × V)) (H : Hp), as.length = ps.length → as.Nodup → Paired (fun (t : Addr) (p : V × V) => putP H as ps t = some (.tup [p.1, p.2])) as ps
  | [], [], _, _, _ => .nil
  | [], _ :: _, _, h, _ => by cases h
  | _ :: _, [], _, h, _ => by cases h
  | a :: as, p :: ps, H, h, hn => by
    have hn' := List.nodup_cons.mp hn
    have ih := putP_at as ps (upd H a (.tup [p.1, p.2])) (Nat.succ.inj h) hn'.2
    refine .cons ?_ ih
    show putP (upd H a (.tup [p.1, p.2])) as ps a = some (.tup [p.1, p.2])
    rw [putP_off as ps _ hn'.1, upd_same]
theorem valsR : ∀ as : List Addr, Vals (as.map V.ref) (as.map Value.ref)
  | [] => .nil
  | _ :: as => .cons rfl (valsR as)
theorem pIx {α β : Type} {F : α → β → Prop} : ∀ {xs : List α} {ys : List β}, Paired F xs ys → ∀ {x : α}, x ∈ xs → ∃ (j : Nat) (y : β), xs[j]? = some x ∧ ys[j]? = some y ∧ F x y
  | _, _, .cons h t, x, hx => by
    rcases List.mem_cons.mp hx with e | hx
    · rw [e]
      exact ⟨0, _, rfl, rfl, h⟩
    · obtain ⟨j, y, e1, e2, e3⟩ := pIx t hx
      exact ⟨j + 1, y, e1, e2, e3⟩
def tListZip (K : PySem.W.Frag) (ta : TA) : TE := fun σ H Q => ta σ H fun vs H1 => ∃ a b xs ys, vs = [.ref a, .ref b] ∧ SqT K H1 a xs ∧ SqT K H1 b ys ∧ xs.length = ys.length ∧ xs.length ≤ sizeLine ∧
  ∀ l ts H', Same H1 H' → H1 l = none → H' l = some (.lst (ts.map V.ref)) → Paired (fun (t : Addr) (q : V × V) => H' t = some (.tup [q.1, q.2])) ts (xs.zip ys) → Q (.ref l) H'
theorem lz_laid {X : Cx} {pins : List (Addr × Obj)} {σ : L2.St} {H : Hp} {s : Shared} {h' : Heap} {tk : Nat} {xs ys : List V} {us vs : List Value} {acc : Array Value} {c : Nat} {as : List Addr} {lo : Addr} (I : Inv X pins σ H s) (hz : xs.length ≤ sizeLine) (rx : Vals xs us) (ry : Vals ys vs) (hlo : s.heap.objs.size ≤ lo)
    (hk : ∀ b o, s.heap.get? b = some o → h'.get? b = some o) (hS : h'.get? lo = some { cls := .type "list", dict := none, data := .seq acc c, slots := #[] }) (hxy : xs.length = ys.length) (hl : as.length = us.length) (hG : LzG us.toArray vs.toArray lo h' as) (hacc : acc.toList = as.map Value.ref) :
    ∃ H' : Hp, Same H H' ∧ H lo = none ∧ H' lo = some (.lst (as.map V.ref)) ∧ Paired (fun (t : Addr) (q : V × V) => H' t = some (.tup [q.1, q.2])) as (xs.zip ys) ∧ Inv X pins σ H' { s with heap := h', toks := tk } := by
  have lk : xs.length = us.length := rx.length
  have hSn : lo ∉ as := fun z => Nat.lt_irrefl _ (hG.above _ z)
  have nd : as.Nodup := List.Pairwise.imp (fun {a b} (h : a < b) => Nat.ne_of_lt h) hG.rise
  have new : ∀ t ∈ as, H t = none := fun t ht => I.hok.fresh (Nat.le_trans hlo (Nat.le_of_lt (hG.above t ht)))
  have newS : H lo = none := I.hok.fresh hlo
  have lz : as.length = (xs.zip ys).length := by rw [List.length_zip]; omega
  have atP := putP_at as (xs.zip ys) (upd H lo (.lst (as.map V.ref))) lz nd
  have off : ∀ b, b ∉ as → b ≠ lo → putP (upd H lo (.lst (as.map V.ref))) as (xs.zip ys) b = H b := fun b h1 h2 => by rw [putP_off as _ _ h1, upd_ne h2]
  have low : ∀ b o, s.heap.get? b = some o → b ∉ as ∧ b ≠ lo := fun b o e => ⟨fun z => absurd (Nat.lt_of_lt_of_le (Heap.lt_size e) hlo) (Nat.not_lt.mpr (Nat.le_of_lt (hG.above b z))), Nat.ne_of_lt (Nat.lt_of_lt_of_le (Heap.lt_size e) hlo)⟩
  have kp : ∀ b u, H b = some u → (putP (upd H lo (.lst (as.map V.ref))) as (xs.zip ys)) b = some u := fun b u e => by
    rw [off b (fun z => by rw [new b z] at e; cases e) (fun z => by rw [z, newS] at e; cases e)]
    exact e
  have eS : putP (upd H lo (.lst (as.map V.ref))) as (xs.zip ys) lo = some (.lst (as.map V.ref)) := by rw [putP_off as _ _ hSn, upd_same]
  refine ⟨putP (upd H lo (.lst (as.map V.ref))) as (xs.zip ys), kp, newS, eS, atP, ?_⟩
  refine I.call' (ch := []) rfl ⟨fun b o q _ _ _ => hk b o q, fun b o q _ _ _ => ⟨o.slots, hk b o q⟩, fun b o q n _ => ?_, fun b o q _ => ⟨o, hk b o q⟩, fun b xs q => kp b _ q, fun b o u q => kp b _ q, fun b ps q => ⟨#[], by rw [kp b _ q]; simp⟩⟩ (fun b u q => ?_) I.bare fun b z => by simp at z
  · obtain ⟨z1, z2⟩ := low b o q
    rw [off b z1 z2]
    exact n
  · by_cases hb : b ∈ as
    · obtain ⟨j, pk, e1, e2, e3⟩ := pIx atP hb
      rw [e3] at q
      cases q
      obtain ⟨p', q', f1, f2, f3⟩ := hG.pairs j b e1
      obtain ⟨g1, g2⟩ := List.getElem?_zip_eq_some.mp (show (xs.zip ys)[j]? = some (pk.1, pk.2) from e2)
      obtain ⟨u, hu, ru⟩ := rx.get g1
      obtain ⟨u2, hu2, ru2⟩ := ry.get g2
      have h1 : us[j]? = some p' := by simpa using f1
      have h2 : vs[j]? = some q' := by simpa using f2
      rw [hu] at h1
      rw [hu2] at h2
      cases h1
      cases h2
      exact ⟨by show 2 ≤ sizeLine; decide, [_, _], .cons ru (.cons ru2 .nil), ⟨_, f3, rfl, _, rfl⟩⟩
    · by_cases hb2 : b = lo
      · rw [hb2] at q ⊢
        rw [eS] at q
        cases q
        refine ⟨by rw [List.length_map]; omega, acc.toList, c, by rw [hacc]; exact valsR as, ?_⟩
        rw [Array.toArray_toList]
        exact hS
      · rw [off b hb hb2] at q
        exact (I.hok b u q).stay (fun d v _ y => hk d v y) (fun d y => kp d _ y) fun d xs y => kp d _ y
theorem pe_listZip {X : Cx} {e e2 : Expr} {ta : TA} {p p2 cpos pos : Pos} (hg : Gl X "list") (hm : X.mg "list" = none) (hg2 : Gl X "zip") (hm2 : X.mg "zip" = none) (ha : PA X [e, e2] ta) (hc : X.calm = true := by rfl)
    (hs : starEach [e, e2] X.env = (false, eval e X.env) :: starEach [e2] X.env := by rfl) (hpl : (backTo cpos (starEach [e2] X.env)).any (·.1) = false := by rfl)
    (na : starEach [.Call (.Name "zip" p2) [e, e2] [] cpos] X.env = (false, eval (.Call (.Name "zip" p2) [e, e2] [] cpos) X.env) :: starEach [] X.env := by rfl) :
    PE X (.Call (.Name "list" p) [.Call (.Name "zip" p2) [e, e2] [] cpos] [] pos) (tListZip X.K ta) := by
  refine ⟨fun pins s σ H Q I h => ?_⟩
  refine Call_ (ld_blt I hg hm (show bootBuiltins "list" = some (.type "list") by decide +kernel) ?_)
  refine PyProof.Rows.callWith_type1 (PyProof.Rows.args_cons ?_ na) na rfl
  refine Call_ (ld_blt I hg2 hm2 PyProof.Rows.boot_zip (PyProof.Rows.callWith_type1 (thn (ha.run cpos pins s σ H _ I h) fun ws s1 ⟨vs, H1, I1, r1, q1⟩ => ?_) hs hpl))
  obtain ⟨a, b, xs, ys, ex, hqx, hqy, hxy, hz, q⟩ := q1
  subst ex
  cases r1 with
  | cons r rr =>
    cases rr with
    | cons r' rr =>
      cases rr
      cases r
      cases r'
      obtain ⟨its, rv, p1, _⟩ := I1.tuple hqx
      obtain ⟨its2, rv2, p2, _⟩ := I1.tuple hqy
      obtain ⟨o1, ho1, _⟩ := id p1
      obtain ⟨o2, ho2, _⟩ := id p2
      have l1 := rv.length
      have l2 := rv2.length
      have D := PySem.W.ktu_apart s1.heap.objs.size a b (Heap.lt_size ho1) (Heap.lt_size ho2)
      refine RZ.call_zipT (show s1.heap.IsTuple a its.toArray from p1) (show s1.heap.IsTuple b its2.toArray from p2) fun h' hz' hTI hTO h1 h2 hsz hk => ?_
      refine PyProof.Rows.args_nil ?_
      have t1 : h'.IsTuple a its.toArray := by
        obtain ⟨o, e, r⟩ := (show s1.heap.IsTuple a its.toArray from p1)
        exact ⟨o, hk _ o e, r⟩
      have t2 : h'.IsTuple b its2.toArray := by
        obtain ⟨o, e, r⟩ := (show s1.heap.IsTuple b its2.toArray from p2)
        exact ⟨o, hk _ o e, r⟩
      have za := Heap.lt_size ho1
      have zb := Heap.lt_size ho2
      refine lz_call (s := { s1 with heap := h' }) (I.ok.hd hc) D (fun c m => ?_) (by simp; omega) (by simp; omega) ⟨hTI, h1, h2, t1, t2, .inl ⟨hz', _, _, hTO⟩⟩ hz' fun g tk acc c as hk2 hS hl hG hacc => ?_
      · show c < h'.objs.size
        rw [hsz]
        have m' : c = s1.heap.objs.size + 4 ∨ c = s1.heap.objs.size + 2 ∨ c = s1.heap.objs.size + 3 ∨ c = s1.heap.objs.size ∨ c = s1.heap.objs.size + 1 ∨ c = a ∨ c = b := by simpa using m
        have z0 : ∀ k : Nat, k < 5 → s1.heap.objs.size + k < s1.heap.objs.size + 5 := fun k h => Nat.add_lt_add_left h _
        rcases m' with e | e | e | e | e | e | e <;> rw [e]
        · exact z0 4 (by decide)
        · exact z0 2 (by decide)
        · exact z0 3 (by decide)
        · exact z0 0 (by decide)
        · exact z0 1 (by decide)
        · exact Nat.lt_of_lt_of_le za (Nat.le_add_right _ _)
        · exact Nat.lt_of_lt_of_le zb (Nat.le_add_right _ _)
      · have kk : ∀ c o, s1.heap.get? c = some o → g.get? c = some o := fun c o e => hk2 c o (fun m => by
          have := Heap.lt_size e
          have m' : c = s1.heap.objs.size + 4 ∨ c = s1.heap.objs.size + 3 ∨ c = s1.heap.objs.size ∨ c = s1.heap.objs.size + 1 := by simpa using m
          have z0 : ∀ k : Nat, ¬ s1.heap.objs.size + k < s1.heap.objs.size := fun k h => absurd h (Nat.not_lt.mpr (Nat.le_add_right _ _))
          rcases m' with e2 | e2 | e2 | e2 <;> rw [e2] at this
          · exact z0 4 this
          · exact z0 3 this
          · exact z0 0 this
          · exact z0 1 this) (hk c o e)
        obtain ⟨H', k1, k2, k3, k4, J⟩ := lz_laid (tk := tk) (lo := h'.objs.size) I1 hz rv rv2 (by rw [hsz]; omega) kk hS hxy (by simpa using hl) hG hacc
        exact ⟨.ref _, H', J, rfl, q _ as H' k1 k2 k3 k4⟩
end
section
local macro_rules | `(tactic| walk_at "fld") => `(tactic| (refine fkT (w := ?w) (K := ?K) (mg := ?mg) (A := ?A) ?t ?e ?h; (case t => assumption); (case e => exact rfl); (case h => first | with_reducible exact g_Look_matrix (by assumption) | with_reducible exact g_Look_path (by assumption) | with_reducible exact g_Look_ink (by assumption) | with_reducible exact g_Look_width (by assumption) | with_reducible exact g_Look_clips (by assumption) | with_reducible exact g_Look_font (by assumption) | with_reducible exact g_World_operands (by assumption) | with_reducible exact g_World_rooms (by assumption) | with_reducible exact g_World_scopes (by assumption) | with_reducible exact g_World_look (by assumption) | with_reducible exact g_World_kept (by assumption) | with_reducible exact g_World_sheets (by assumption) | with_reducible exact g_World_inkings (by assumption) | with_reducible exact g_World_saves (by assumption) | with_reducible exact g_World_many_saves (by assumption) | with_reducible exact g_Items_body (by assumption) | with_reducible exact g_Items_at (by assumption) | with_reducible exact g_Reader_text (by assumption) | with_reducible exact g_Reader_at (by assumption) | with_reducible exact g_Reader_row (by assumption) | with_reducible exact g_Reader_column (by assumption) | with_reducible exact g_Reader_deep (by assumption) | with_reducible exact g_Machine_wide (by assumption) | with_reducible exact g_Machine_high (by assumption) | with_reducible exact g_Machine_most (by assumption) | with_reducible exact g_Machine_world (by assumption) | with_reducible exact g_Machine_frames (by assumption) | with_reducible exact g_Machine_left (by assumption) | with_reducible exact g_Machine_told (by assumption) | with_reducible exact g_Machine_is_running (by assumption) | with_reducible exact g_Machine_ahead (by assumption) | with_reducible exact g_Machine_past (by assumption) | with_reducible exact g_Machine_later (by assumption))))
/-- as many steps as go by themselves -/
local macro_rules | `(tactic| walk_at "g1") => `(tactic| (first
  | with_reducible refine r_seq ?_ | with_reducible refine r_set ?_ | with_reducible refine r_asg ?_ | with_reducible refine r_sl ?_ | with_reducible refine r_np ?_ | with_reducible refine r_pt ?_ | with_reducible refine r_gn ?_ | with_reducible refine r_gc ?_ | with_reducible refine r_g0 ?_ | ((with_reducible refine r_gt (xs := ?xs) ?h ?g ?_); (case h => assumption); (case g => exact rfl)) | with_reducible refine r_ret ?_ | with_reducible refine r_if ?_ | with_reducible refine r_test ?_ | with_reducible refine r_B ?_ | with_reducible refine r_and ?_ | with_reducible refine r_or ?_ | with_reducible refine r_not ?_
  | with_reducible refine r_andV ?_ | with_reducible refine r_orV ?_ | with_reducible refine r_notV ?_ | with_reducible refine r_ifx ?_ | with_reducible refine r_op ?_ | with_reducible refine r_un ?_ | with_reducible refine r_U ?_ | with_reducible refine r_c ?_ | with_reducible refine r_I0 ?_ | with_reducible refine r_drop ?_ | with_reducible refine r_next ?_
  | ((with_reducible refine r_var (v := ?v) ?h ?_); (case h => exact rfl)) | with_reducible refine r_bl ?_ | with_reducible refine r_nil ?_ | with_reducible refine r_cons ?_ | with_reducible refine r_cb ?_ | with_reducible refine r_call ?_ | ((with_reducible refine r_gl (xs := ?xs) ?h ?g ?_); (case h => assumption); (case g => exact rfl)) | with_reducible refine r_sm1 ?_ | with_reducible refine r_sm2 ?_ | with_reducible refine r_sm3 ?_ | with_reducible refine r_ch ?_ | with_reducible refine r_bm ?_ | with_reducible refine r_bm0 ?_ | ((with_reducible refine r_ty (xs := ?xs) ?e ?_); (case e => assumption)) | with_reducible refine r_mkU ?_ | with_reducible refine r_mt0 ?_ | with_reducible refine r_yes ?_ | with_reducible refine iteT ?_ | with_reducible refine iteF ?_ | with_reducible refine r_spk ?_ | with_reducible refine r_sp1 ?_ | with_reducible refine r_sp2 ?_ | with_reducible refine r_sp3 ?_ | with_reducible refine r_sp4 ?_ | with_reducible refine r_sp5 ?_
  | with_reducible refine r_tup ?_ | with_reducible refine r_lst ?_ | with_reducible refine r_par ?_ | with_reducible refine r_par2 ?_ 
  | ((with_reducible refine r_eq ?h ?_); (case h => exact rfl)) | ((with_reducible refine r_ne ?h ?_); (case h => exact rfl))
  | ((with_reducible refine r_ixT (xs := ?xs) (v := ?v) ?h ?g ?_); (case h => assumption); (case g => first | exact at0 | exact at1))
  | ((with_reducible refine r_fl (i := ?i) (nm := ?nm) (C := ?C) (dx := ?dx) (vs := ?vs) (v := ?v) ?ok ?e ?hv ?_); (case e => assumption); (case ok => walk_at "fld"); (case hv => rfl)) | with_reducible refine r_for ?_ | with_reducible refine r_il ?_ | with_reducible refine r_it ?_ | with_reducible refine r_iz ?_ | with_reducible refine r_ir1 ?_ | with_reducible refine r_ir2 ?_ | with_reducible refine r_lc ?_ | with_reducible refine r_sFld ?_ | with_reducible refine r_ck ?_ | with_reducible refine r_fld ?_ | with_reducible refine ⟨_, rfl, ?_⟩ | with_reducible refine ⟨_, _, rfl, .inr (by with_unfolding_all assumption), ?_⟩ | with_reducible refine ⟨_, _, rfl, .inl (seqL (by assumption)), ?_⟩ | with_reducible refine ⟨_, _, rfl, rfl, ?_⟩ | with_reducible refine ⟨_, _, rfl, ?_⟩ | with_reducible refine ⟨rfl, ?_⟩ | with_reducible refine r_sz ?_))
local macro_rules | `(tactic| walk_at "go") => `(tactic| (repeat walk_at "g1"))
variable {P : Program} {w : World} {K : PySem.W.Frag} {mg : Str → Option Value} {A : Ad} {base : Heap}
/-! edges. -/
theorem sz2M : 2000000 ≤ sizeLine := by decide
theorem r_slT {K : PySem.W.Frag} {H : Hp} {a : Addr} {xs : List V} {lo hi : Option Int} {Q : VK} (ha : SqT K H a xs) (q : ∀ p H', Same H H' → SqT K H' p (cutV xs lo hi) → Q (.ref p) H') : rSlA K (.ref a) lo hi H Q :=
  ⟨a, xs, rfl, ha, fun e => by
    have e2 : cutV xs lo hi = xs := by
      unfold cutV
      rw [e.1, e.2]
      simp
    exact q _ _ (Same.refl _) (by rw [e2]; exact ha), fun _ p f => q _ _ (same_new f) (.inl (.inl upd_same))⟩
theorem r_catX {K : PySem.W.Frag} {H : Hp} {a b : Addr} {xs ys : List V} {Q : VK} (ha : SqT K H a xs) (hb : SqT K H b ys) (hz : xs.length + ys.length ≤ sizeLine) (q : ∀ p H', Same H H' → SqT K H' p (xs ++ ys) → Q (.ref p) H') : rCatA K (.ref a) (.ref b) H Q :=
  ⟨a, b, xs, ys, rfl, rfl, ha, hb, hz, fun e => by subst e; exact q _ _ (Same.refl _) hb, fun _ e => by subst e; exact q _ _ (Same.refl _) (by rw [List.append_nil]; exact ha), fun _ _ p f => q _ _ (same_new f) (.inl (.inl upd_same))⟩
theorem cutFromT (xs : List V) : cutV xs (some 1) none = xs.drop 1 := by
  unfold cutV
  have h0 : HT.sIx xs.length 0 (some 1) = min 1 xs.length := by
    have := HT.sIx_nat xs.length 0 1
    simpa using this
  rw [h0, HT.sIx_none]
  cases xs with
  | nil => rfl
  | cons x xs => simp
theorem cutToT (xs : List V) : cutV xs none (some 1) = xs.take 1 := by
  unfold cutV
  have h0 : HT.sIx xs.length xs.length (some 1) = min 1 xs.length := by
    have := HT.sIx_nat xs.length xs.length 1
    simpa using this
  rw [h0, HT.sIx_none]
  cases xs with
  | nil => rfl
  | cons x xs => simp
def edgesOf (ps : List Pnt) : List (Pnt × Pnt) := ps.zip (ps.drop 1 ++ ps.take 1)
def edgesP (p : Path) : List (Pnt × Pnt) := p.flatMap fun l => edgesOf l.1
def EdAt (K : PySem.W.Frag) (H : Hp) (v : V) (e : Pnt × Pnt) : Prop := ∃ a x y, v = .ref a ∧ SqT K H a [x, y] ∧ Pn K H x e.1 ∧ Pn K H y e.2
theorem EdAt.tk {K : PySem.W.Frag} {H H' : Hp} {v : V} {e : Pnt × Pnt} (h : EdAt K H v e) (t : Tk K H H') : EdAt K H' v e := by
  obtain ⟨a, x, y, rfl, q, r, s⟩ := h
  exact ⟨a, x, y, rfl, t _ _ q, r.tk t, s.tk t⟩
/-- a path of not too many points, small ones -/
structure POk (p : Path) : Prop where
  len : p.length ≤ 1000
  pts : ∀ l ∈ p, l.1.length ≤ 1000
  lw : ∀ l ∈ p, ∀ x ∈ l.1, Lw x.1 ∧ Lw x.2
theorem edgesP_len : ∀ (p : Path), (∀ l ∈ p, l.1.length ≤ 1000) → (edgesP p).length ≤ 1000 * p.length
  | [], _ => Nat.le_refl _
  | l :: p, h => by
    have ih := edgesP_len p fun l m => h l (List.mem_cons_of_mem _ m)
    have h0 := h l List.mem_cons_self
    have e1 : edgesP (l :: p) = edgesOf l.1 ++ edgesP p := by simp [edgesP]
    have e2 : (edgesOf l.1).length ≤ l.1.length := by
      unfold edgesOf
      rw [List.length_zip]
      exact Nat.min_le_left _ _
    rw [e1, List.length_append, List.length_cons]
    omega
theorem edPair {K : PySem.W.Frag} {H : Hp} : ∀ {ts : List Addr} {xs ys : List V} {ps qs : List Pnt}, Paired (fun (t : Addr) (q : V × V) => H t = some (.tup [q.1, q.2])) ts (xs.zip ys) → Paired (Pn K H) xs ps → Paired (Pn K H) ys qs → Paired (EdAt K H) (ts.map V.ref) (ps.zip qs)
  | _, _, _, _, _, h, .nil, _ => by
    rw [List.zip_nil_left] at h
    cases h
    exact .nil
  | _, _, _, _, _, h, .cons _ _, .nil => by
    rw [List.zip_nil_right] at h
    cases h
    rw [List.zip_nil_right]
    exact .nil
  | _, _, _, _, _, h, .cons a t, .cons b u => by
    rw [List.zip_cons_cons] at h
    cases h with
    | cons h0 h1 =>
      rw [List.zip_cons_cons]
      exact .cons ⟨_, _, _, rfl, .inl (.inl h0), a, b⟩ (edPair h1 t u)
theorem r_lz {K : PySem.W.Frag} {ta : TA} {σ : L2.St} {H : Hp} {Q : VK} (h : ta σ H fun vs H1 => ∃ a b xs ys, vs = [.ref a, .ref b] ∧ SqT K H1 a xs ∧ SqT K H1 b ys ∧ xs.length = ys.length ∧ xs.length ≤ sizeLine ∧
  ∀ l ts H', Same H1 H' → H1 l = none → H' l = some (.lst (ts.map V.ref)) → Paired (fun (t : Addr) (q : V × V) => H' t = some (.tup [q.1, q.2])) ts (xs.zip ys) → Q (.ref l) H') : tListZip K ta σ H Q := h
theorem edgesP_step {p : Path} {i : Nat} (h : i < p.length) : edgesP (p.take (i + 1)) = edgesP (p.take i) ++ edgesOf p[i].1 := by
  unfold edgesP
  rw [List.take_add_one, List.getElem?_eq_getElem h, List.flatMap_append, Option.toList_some, List.flatMap_singleton]
abbrev spEdges (K : PySem.W.Frag) : Sp := Sp1 fun a H Q => ∃ p : Path, PathAt K H a p ∧ POk p ∧ ∀ l xs H', Same H H' → H l = none → H' l = some (.lst xs) → Paired (EdAt K H') xs (edgesP p) → Q (.ref l) H'
theorem sc_edges : FnScope ["path", "found", "points", "is_closed"] ["path"] (defScope s_edges) := ⟨rfl, rfl, rfl, by decide +kernel, rfl, by decide +kernel, by decide +kernel⟩
theorem cal_edges (T : Tx w K mg A) : Cal P w K mg base 1 "edges" (spEdges K) [] := by
  refine calOf T.f_edges sc_edges (fun _ _ _ _ _ _ us hl => match us, hl with | [_], _ => rfl) Sp1.len fun f cdv Ar outer s H vs Q E hr h => ?_
  obtain ⟨_, rfl, p, ⟨a, xs, rfl, ha, hxs⟩, ok, q⟩ := h
  refine ⟨_, (pss_cons (ps_set (i := 1) sc_edges.nd rfl (.inl rfl) (pe_lst pa_nil))
    (pss_cons (ps_for PassesOwn.never rfl (pi_tup (pv 0)) (pg_tup rfl (pgs_cons (pg_name (i := 2) sc_edges.nd rfl (.inl rfl)) (pgs_cons (pg_name (i := 3) sc_edges.nd rfl (.inl rfl)) pgs_nil)))
    (pss_one (ps_set (i := 1) sc_edges.nd rfl (.inl rfl) (pe_op op_cat (pv 1) (pe_listZip rfl T.n_list rfl T.n_zip (pa_cons (pv 2) (pa_cons (pe_op op_catA (pe_slice sl_tupA (pv 2) (po_some pe_int) po_none) (pe_slice sl_tupA (pv 2) po_none (po_some pe_int))) pa_nil)))))))
    (pss_one (ps_ret (pv 1))))), ?_⟩
  walk_at "go"
  intro p1 f1
  generalize g1 : upd _ _ _ = H1
  have ⟨s1, e1⟩ := nw g1 f1
  walk_at "go"
  refine ⟨⟨_, sqS ha s1⟩, ?_⟩
  refine for_it (walk_tup (xs := xs)) (fun i σ H' => ∃ l acc s2 s3, σ = [some (.ref a), some (.ref l), s2, s3] ∧ Same H H' ∧ H l = none ∧ H' l = some (.lst acc) ∧ Paired (EdAt K H') acc (edgesP (p.take i))) ⟨p1, [], _, _, rfl, s1, f1, e1, .nil⟩ (fun i σ H' _ ⟨_, _, _, _, _, sh, _⟩ => sqS ha sh) ?_ ?_
  · rintro i x σ H2 H2' hi ⟨l, acc, z2, z3, rfl, sh, fl, el, pl⟩ ⟨rfl, hx⟩
    have hi' : i < p.length := by rw [← pLen hxs]; exact hi
    have hm : p[i] ∈ p := List.getElem_mem hi'
    obtain ⟨ap, vp, rfl, hap, ax, ps, rfl, hax, hps⟩ := pAt hxs hx (List.getElem?_eq_getElem hi')
    have lps := pLen hps
    have bps := ok.pts _ hm
    have z2M := sz2M
    refine r_gt (sqS hap sh) rfl ?_
    walk_at "go"
    refine r_lz ?_
    walk_at "go"
    refine r_slT (sqS hax sh) fun t1 H3 s3 e3 => ?_
    rw [cutFromT] at e3
    walk_at "go"
    refine r_slT (sqS hax (sh.trans s3)) fun t2 H4 s4 e4 => ?_
    rw [cutToT] at e4
    refine r_catX (sqS e3 s4) e4 (by rw [List.length_drop, List.length_take]; omega) fun t3 H5 s5 e5 => ?_
    walk_at "go"
    have s25 := s3.trans (s4.trans s5)
    refine ⟨ax, t3, _, _, rfl, sqS hax (sh.trans s25), e5, by rw [List.length_append, List.length_drop, List.length_take]; omega, by omega, fun l2 ts H6 s6 f6 e6 pr => ?_⟩
    have s26 := s25.trans s6
    have la : acc.length ≤ 1000 * 1000 := by
      have l1 := pLen pl
      have l2 := edgesP_len (p.take i) fun l m => ok.pts l (List.mem_of_mem_take m)
      have l3 : (p.take i).length ≤ 1000 := by
        have := ok.len
        rw [List.length_take]
        omega
      have : 1000 * (p.take i).length ≤ 1000 * 1000 := Nat.mul_le_mul_left _ l3
      omega
    have lt : ts.length ≤ 1000 := by
      have := pLen pr
      rw [List.length_zip] at this
      omega
    refine ⟨l, l2, acc, _, rfl, rfl, s26 _ _ el, e6, by rw [List.length_map]; omega, fun p7 f7 => ?_⟩
    generalize g7 : upd _ _ _ = H7
    have ⟨s7, e7⟩ := nw g7 f7
    walk_at "go"
    have s27 := s26.trans s7
    refine ⟨p7, _, _, _, rfl, sh.trans s27, (sh.trans s26).free f7, e7, ?_⟩
    rw [edgesP_step hi']
    refine pApp (pImp (fun _ _ z => z.tk (Same.tk s27)) pl) (pImp (fun _ _ (z : EdAt K H6 _ _) => z.tk (Same.tk s7)) ?_)
    have hps6 := pImp (fun _ _ z => z.tk (Same.tk (sh.trans s26))) hps
    exact edPair pr hps6 (pApp (pDrop 1 hps6) (pTake 1 hps6))
  · rintro σ H2 ⟨l, acc, z2, z3, rfl, sh, fl, el, pl⟩
    walk_at "go"
    rw [List.take_of_length_le (by rw [pLen hxs]; exact Nat.le_refl _)] at pl
    exact q l acc H2 sh fl el pl
end
section
local macro_rules | `(tactic| walk_at "fld") => `(tactic| (refine fkT (w := ?w) (K := ?K) (mg := ?mg) (A := ?A) ?t ?e ?h; (case t => assumption); (case e => exact rfl); (case h => first | with_reducible exact g_Look_matrix (by assumption) | with_reducible exact g_Look_path (by assumption) | with_reducible exact g_Look_ink (by assumption) | with_reducible exact g_Look_width (by assumption) | with_reducible exact g_Look_clips (by assumption) | with_reducible exact g_Look_font (by assumption) | with_reducible exact g_World_operands (by assumption) | with_reducible exact g_World_rooms (by assumption) | with_reducible exact g_World_scopes (by assumption) | with_reducible exact g_World_look (by assumption) | with_reducible exact g_World_kept (by assumption) | with_reducible exact g_World_sheets (by assumption) | with_reducible exact g_World_inkings (by assumption) | with_reducible exact g_World_saves (by assumption) | with_reducible exact g_World_many_saves (by assumption) | with_reducible exact g_Items_body (by assumption) | with_reducible exact g_Items_at (by assumption) | with_reducible exact g_Reader_text (by assumption) | with_reducible exact g_Reader_at (by assumption) | with_reducible exact g_Reader_row (by assumption) | with_reducible exact g_Reader_column (by assumption) | with_reducible exact g_Reader_deep (by assumption) | with_reducible exact g_Machine_wide (by assumption) | with_reducible exact g_Machine_high (by assumption) | with_reducible exact g_Machine_most (by assumption) | with_reducible exact g_Machine_world (by assumption) | with_reducible exact g_Machine_frames (by assumption) | with_reducible exact g_Machine_left (by assumption) | with_reducible exact g_Machine_told (by assumption) | with_reducible exact g_Machine_is_running (by assumption) | with_reducible exact g_Machine_ahead (by assumption) | with_reducible exact g_Machine_past (by assumption) | with_reducible exact g_Machine_later (by assumption))))
/-- as many steps as go by themselves -/
local macro_rules | `(tactic| walk_at "g1") => `(tactic| (first
  | with_reducible refine r_seq ?_ | with_reducible refine r_set ?_ | with_reducible refine r_asg ?_ | with_reducible refine r_sl ?_ | with_reducible refine r_np ?_ | with_reducible refine r_pt ?_ | with_reducible refine r_gn ?_ | with_reducible refine r_gc ?_ | with_reducible refine r_g0 ?_ | ((with_reducible refine r_gt (xs := ?xs) ?h ?g ?_); (case h => assumption); (case g => exact rfl)) | with_reducible refine r_ret ?_ | with_reducible refine r_if ?_ | with_reducible refine r_test ?_ | with_reducible refine r_B ?_ | with_reducible refine r_and ?_ | with_reducible refine r_or ?_ | with_reducible refine r_not ?_
  | with_reducible refine r_andV ?_ | with_reducible refine r_orV ?_ | with_reducible refine r_notV ?_ | with_reducible refine r_ifx ?_ | with_reducible refine r_op ?_ | with_reducible refine r_un ?_ | with_reducible refine r_U ?_ | with_reducible refine r_c ?_ | with_reducible refine r_I0 ?_ | with_reducible refine r_drop ?_ | with_reducible refine r_next ?_
  | ((with_reducible refine r_var (v := ?v) ?h ?_); (case h => exact rfl)) | with_reducible refine r_bl ?_ | with_reducible refine r_nil ?_ | with_reducible refine r_cons ?_ | with_reducible refine r_cb ?_ | with_reducible refine r_call ?_ | ((with_reducible refine r_gl (xs := ?xs) ?h ?g ?_); (case h => assumption); (case g => exact rfl)) | with_reducible refine r_sm1 ?_ | with_reducible refine r_sm2 ?_ | with_reducible refine r_sm3 ?_ | with_reducible refine r_ch ?_ | with_reducible refine r_bm ?_ | with_reducible refine r_bm0 ?_ | ((with_reducible refine r_ty (xs := ?xs) ?e ?_); (case e => assumption)) | with_reducible refine r_mkU ?_ | with_reducible refine r_mt0 ?_ | with_reducible refine r_yes ?_ | with_reducible refine iteT ?_ | with_reducible refine iteF ?_ | with_reducible refine r_spk ?_ | with_reducible refine r_sp1 ?_ | with_reducible refine r_sp2 ?_ | with_reducible refine r_sp3 ?_ | with_reducible refine r_sp4 ?_ | with_reducible refine r_sp5 ?_
  | with_reducible refine r_tup ?_ | with_reducible refine r_lst ?_ | with_reducible refine r_par ?_ | with_reducible refine r_par2 ?_ 
  | ((with_reducible refine r_eq ?h ?_); (case h => exact rfl)) | ((with_reducible refine r_ne ?h ?_); (case h => exact rfl))
  | ((with_reducible refine r_ixT (xs := ?xs) (v := ?v) ?h ?g ?_); (case h => assumption); (case g => first | exact at0 | exact at1))
  | ((with_reducible refine r_fl (i := ?i) (nm := ?nm) (C := ?C) (dx := ?dx) (vs := ?vs) (v := ?v) ?ok ?e ?hv ?_); (case e => assumption); (case ok => walk_at "fld"); (case hv => rfl)) | with_reducible refine r_for ?_ | with_reducible refine r_il ?_ | with_reducible refine r_it ?_ | with_reducible refine r_iz ?_ | with_reducible refine r_ir1 ?_ | with_reducible refine r_ir2 ?_ | with_reducible refine r_lc ?_ | with_reducible refine r_sFld ?_ | with_reducible refine r_ck ?_ | with_reducible refine r_fld ?_ | with_reducible refine ⟨_, rfl, ?_⟩ | with_reducible refine ⟨_, _, rfl, .inr (by with_unfolding_all assumption), ?_⟩ | with_reducible refine ⟨_, _, rfl, .inl (seqL (by assumption)), ?_⟩ | with_reducible refine ⟨_, _, rfl, rfl, ?_⟩ | with_reducible refine ⟨_, _, rfl, ?_⟩ | with_reducible refine ⟨rfl, ?_⟩ | with_reducible refine r_sz ?_))
local macro_rules | `(tactic| walk_at "go") => `(tactic| (repeat walk_at "g1"))
variable {P : Program} {w : World} {K : PySem.W.Frag} {mg : Str → Option Value} {A : Ad} {base : Heap}
/-! crossings. -/
def apartN (x y : Num) : Num := (x.1 * y.2 - y.1 * x.2, x.2 * y.2)
abbrev Crs := Int × Int × Int
/-- of an edge from low to high -/
def crossLH (y : Num) (lo hi : Pnt) (t : Int) : List Crs :=
  if !lessN y lo.2 && lessN y hi.2 then
    let run := apartN hi.1 lo.1
    let rise := apartN hi.2 lo.2
    let up := apartN y lo.2
    let top := run.1 * up.1 * rise.2
    let below := run.2 * up.2 * rise.1
    [(lo.1.1 * below + top * lo.1.2, lo.1.2 * below, t)]
  else []
def crossE (y : Num) (e : Pnt × Pnt) : List Crs :=
  if lessN e.1.2 e.2.2 then crossLH y e.1 e.2 1 else if lessN e.2.2 e.1.2 then crossLH y e.2 e.1 (-1) else []
def crossP (p : Path) (y : Num) : List Crs := (edgesP p).flatMap (crossE y)
def CrAt (K : PySem.W.Frag) (H : Hp) (v : V) (c : Crs) : Prop := ∃ a, v = .ref a ∧ SqT K H a [.int c.1, .int c.2.1, .int c.2.2]
theorem CrAt.tk {K : PySem.W.Frag} {H H' : Hp} {v : V} {c : Crs} (h : CrAt K H v c) (t : Tk K H H') : CrAt K H' v c := by
  obtain ⟨a, rfl, q⟩ := h
  exact ⟨a, rfl, t _ _ q⟩
def bodyOf : Stmt → List Stmt
  | .For _ _ b _ _ => b
  | .If _ b _ _ => b
  | _ => []
theorem edge_mem {p : Path} (ok : POk p) {e : Pnt × Pnt} (h : e ∈ edgesP p) : (Lw e.1.1 ∧ Lw e.1.2) ∧ Lw e.2.1 ∧ Lw e.2.2 := by
  obtain ⟨l, hl, he⟩ := List.mem_flatMap.mp h
  have m := List.of_mem_zip (show (e.1, e.2) ∈ l.1.zip _ from he)
  refine ⟨ok.lw l hl _ m.1, ok.lw l hl _ ?_⟩
  rcases List.mem_append.mp m.2 with z | z
  · exact List.mem_of_mem_drop z
  · exact List.mem_of_mem_take z
theorem mulB {a b : Int} {m n : Nat} (ha : a.natAbs < 2 ^ m) (hb : b.natAbs < 2 ^ n) : (a * b).natAbs < 2 ^ (m + n) := wide_lt ha hb
theorem apartB {x y : Num} {m : Nat} (h1 : x.1.natAbs < 2 ^ m) (h2 : x.2.natAbs < 2 ^ m) (h3 : y.1.natAbs < 2 ^ m) (h4 : y.2.natAbs < 2 ^ m) : (apartN x y).1.natAbs < 2 ^ (m + m + 1) ∧ (apartN x y).2.natAbs < 2 ^ (m + m) :=
  ⟨lt_sub (mulB h1 h4) (mulB h3 h2), mulB h2 h4⟩
/-- what a walk at an edge needs of its numbers -/
structure CrB (y : Num) (lo hi : Pnt) : Prop where
  run1 : (apartN hi.1 lo.1).1.natAbs < 2 ^ 57
  run2 : (apartN hi.1 lo.1).2.natAbs < 2 ^ 57
  rise1 : (apartN hi.2 lo.2).1.natAbs < 2 ^ 57
  rise2 : (apartN hi.2 lo.2).2.natAbs < 2 ^ 57
  up1 : (apartN y lo.2).1.natAbs < 2 ^ 57
  up2 : (apartN y lo.2).2.natAbs < 2 ^ 57
theorem crB {y : Num} {lo hi : Pnt} (hy : Lw y) (h1 : Lw lo.1) (h2 : Lw lo.2) (h3 : Lw hi.1) (h4 : Lw hi.2) : CrB y lo hi := by
  have a := apartB h3.top h3.low h1.top h1.low
  have b := apartB h4.top h4.low h2.top h2.low
  have c := apartB hy.top hy.low h2.top h2.low
  exact ⟨a.1, Nat.lt_trans a.2 (by decide), b.1, Nat.lt_trans b.2 (by decide), c.1, Nat.lt_trans c.2 (by decide)⟩
theorem crossLH_le (y : Num) (lo hi : Pnt) (t : Int) : (crossLH y lo hi t).length ≤ 1 := by
  unfold crossLH
  split <;> simp
theorem crossE_le (y : Num) (e : Pnt × Pnt) : (crossE y e).length ≤ 1 := by
  unfold crossE
  split
  · exact crossLH_le _ _ _ _
  · split
    · exact crossLH_le _ _ _ _
    · simp
theorem crossF_len (y : Num) : ∀ es : List (Pnt × Pnt), (es.flatMap (crossE y)).length ≤ es.length
  | [] => Nat.le_refl _
  | e :: es => by
    have := crossE_le y e
    have := crossF_len y es
    rw [List.flatMap_cons, List.length_append, List.length_cons]
    omega
theorem crossF_step {y : Num} {es : List (Pnt × Pnt)} {i : Nat} {e : Pnt × Pnt} (h : es[i]? = some e) : (es.take (i + 1)).flatMap (crossE y) = (es.take i).flatMap (crossE y) ++ crossE y e := by
  rw [List.take_add_one, h, List.flatMap_append, Option.toList_some, List.flatMap_singleton]
theorem crossLH_B {y : Num} {lo hi : Pnt} {t : Int} (b : CrB y lo hi) (h1 : Lw lo.1) : ∀ c ∈ crossLH y lo hi t, c.1.natAbs < 2 ^ 300 ∧ c.2.1.natAbs < 2 ^ 300 := by
  intro c m
  unfold crossLH at m
  split at m
  · have e := List.mem_singleton.mp m
    subst e
    have top := mulB (mulB b.run1 b.up1) b.rise2
    have low := mulB (mulB b.run2 b.up2) b.rise1
    exact ⟨Nat.lt_trans (lt_add (n := 199) (mulB h1.top low) (Nat.lt_of_lt_of_le (mulB top h1.low) (by decide))) (by decide), Nat.lt_of_lt_of_le (mulB h1.low low) (by decide)⟩
  · simp at m
theorem crossP_B {p : Path} {y : Num} (ok : POk p) (hy : Lw y) : ∀ c ∈ crossP p y, c.1.natAbs < 2 ^ 300 ∧ c.2.1.natAbs < 2 ^ 300 := by
  intro c m
  obtain ⟨e, he, hc⟩ := List.mem_flatMap.mp m
  obtain ⟨⟨a1, a2⟩, a3, a4⟩ := edge_mem ok he
  unfold crossE at hc
  split at hc
  · exact crossLH_B (crB hy a1 a2 a3 a4) a1 c hc
  · split at hc
    · exact crossLH_B (crB hy a3 a4 a1 a2) a3 c hc
    · simp at hc
abbrev spCross (K : PySem.W.Frag) : Sp := Sp2 fun a b H Q => ∃ (p : Path) (y : Num), PathAt K H a p ∧ Nm K H b y ∧ POk p ∧ Lw y ∧ ∀ l xs H', Same H H' → H' l = some (.lst xs) → Paired (CrAt K H') xs (crossP p y) → Q (.ref l) H'
theorem sc_crossings : FnScope ["path", "y", "found", "start", "end", "low", "high", "turn", "run", "rise", "up", "top", "below"] ["path", "y"] (defScope s_crossings) := ⟨rfl, rfl, rfl, by decide +kernel, rfl, by decide +kernel, by decide +kernel⟩
theorem itP {p : Prop} [Decidable p] {X Y : Prop} (h : p) (q : X) : if p then X else Y := by
  rw [if_pos h]
  exact q
theorem itN {p : Prop} [Decidable p] {X Y : Prop} (h : ¬ p) (q : Y) : if p then X else Y := by
  rw [if_neg h]
  exact q
theorem r_par3 {i j l : Nat} {ta : TA} {D : Ends} {σ : L2.St} {H : Hp} (h : ta σ H fun vs H1 => ∃ u v w, vs = [u, v, w] ∧ D.nx (((σ.set i (some u)).set j (some v)).set l (some w)) H1) : tPar3 i j l ta D σ H := h
theorem cal_crossings (T : Tx w K mg A) : Cal P w K mg base 3 "crossings" (spCross K) [] := by
  refine calOf T.f_crossings sc_crossings (fun _ _ _ _ _ _ us hl => match us, hl with | [_, _], _ => rfl) Sp2.len fun f cdv Ar outer s H vs Q E hr h => ?_
  obtain ⟨_, b, rfl, p, y, hp, hb, ok, ly, q⟩ := h
  obtain ⟨a, xs, rfl, ha, hxs⟩ := id hp
  have tail : ∃ t, PSs (cxOf C8.CX0 P w K mg base ["path", "y", "found", "start", "end", "low", "high", "turn", "run", "rise", "up", "top", "below"] "crossings" (defScope s_crossings) f cdv Ar outer s H E).nox
      ((bodyOf ((bodyOf ((defBody s_crossings).getD 1 (.Pass ⟨0, 0, 0, 0⟩))).getD 0 (.Pass ⟨0, 0, 0, 0⟩))).drop 1) t ∧
      ∀ (D : Ends) (H2 : Hp) (l : Addr) (acc : List V) (lo hi : V) (pl ph : Pnt) (tn : Int) (z3 z4 z8 z9 z10 z11 z12 : Option V) (es : List Crs), Nm K H2 b y → Pn K H2 lo pl → Pn K H2 hi ph → Lw pl.1 → Lw pl.2 → Lw ph.1 → Lw ph.2 →
        H2 l = some (.lst acc) → Paired (CrAt K H2) acc es → acc.length ≤ 1000000 →
        (∀ y8 y9 y10 y11 y12 acc' H3, Bu l H2 H3 → Tk K H2 H3 → H3 l = some (.lst acc') → Paired (CrAt K H3) acc' (es ++ crossLH y pl ph tn) → D.nx [some (.ref a), some b, some (.ref l), z3, z4, some lo, some hi, some (.int tn), y8, y9, y10, y11, y12] H3) →
        t D [some (.ref a), some b, some (.ref l), z3, z4, some lo, some hi, some (.int tn), z8, z9, z10, z11, z12] H2 := by
    refine ⟨_, (pss_one (ps_if (PW.pt (pw_and (pt_not (pt_val (pe_c (cal_is_less T) hr (by decide) rfl (pa_cons (pv 1) (pa_cons (pe_ix ix_tup (pv 5) pe_int (fun _ _ => rfl)) pa_nil))))) (pw_and1 (pt_val (pe_c (cal_is_less T) hr (by decide) rfl (pa_cons (pv 1) (pa_cons (pe_ix ix_tup (pv 6) pe_int (fun _ _ => rfl)) pa_nil)))))))
    (pss_cons (ps_par3 (i := 8) (j := 9) (l := 10) rfl sc_crossings.nd rfl rfl rfl (by decide) (by decide) (by decide) rfl rfl rfl (pa_cons (pe_c (cal_apart T) hr (by decide) rfl (pa_cons (pe_ix ix_tup (pv 6) pe_int (fun _ _ => rfl)) (pa_cons (pe_ix ix_tup (pv 5) pe_int (fun _ _ => rfl)) pa_nil))) (pa_cons (pe_c (cal_apart T) hr (by decide) rfl (pa_cons (pe_ix ix_tup (pv 6) pe_int (fun _ _ => rfl)) (pa_cons (pe_ix ix_tup (pv 5) pe_int (fun _ _ => rfl)) pa_nil))) (pa_cons (pe_c (cal_apart T) hr (by decide) rfl (pa_cons (pv 1) (pa_cons (pe_ix ix_tup (pv 5) pe_int (fun _ _ => rfl)) pa_nil))) pa_nil))) (by rfl))
    (pss_cons (ps_set (i := 11) sc_crossings.nd rfl (.inl rfl) (pe_op op_mulW (pe_op op_mulW (pe_ix ix_tup (pv 8) pe_int (fun _ _ => rfl)) (pe_ix ix_tup (pv 10) pe_int (fun _ _ => rfl))) (pe_ix ix_tup (pv 9) pe_int (fun _ _ => rfl))))
    (pss_cons (ps_set (i := 12) sc_crossings.nd rfl (.inl rfl) (pe_op op_mulW (pe_op op_mulW (pe_ix ix_tup (pv 8) pe_int (fun _ _ => rfl)) (pe_ix ix_tup (pv 10) pe_int (fun _ _ => rfl))) (pe_ix ix_tup (pv 9) pe_int (fun _ _ => rfl))))
    (pss_one (ps_expr (pe_bm PySem.F.plainAttrs_list PySem.F.slot_list_append PySem.F.type_list_append mt_append (pv 2) (pa_cons (pe_tup (pa_cons (pe_op op_add (pe_op op_mulW (pe_ix ix_tup (pe_ix ix_tup (pv 5) pe_int (fun _ _ => rfl)) pe_int (fun _ _ => rfl)) (pv 12)) (pe_op op_mulW (pv 11) (pe_ix ix_tup (pe_ix ix_tup (pv 5) pe_int (fun _ _ => rfl)) pe_int (fun _ _ => rfl)))) (pa_cons (pe_op op_mulW (pe_ix ix_tup (pe_ix ix_tup (pv 5) pe_int (fun _ _ => rfl)) pe_int (fun _ _ => rfl)) (pv 12)) (pa_cons (pv 7) pa_nil)))) pa_nil)))))))
    pss_nil)), ?_⟩
    intro D H2 l acc lo hi pl ph tn z3 z4 z8 z9 z10 z11 z12 es hby hlo hhi ll1 ll2 lh1 lh2 el pac bac k
    obtain ⟨al, lx, lyy, rfl, hal, hlx, hly⟩ := id hlo
    obtain ⟨ah, hx, hyy, rfl, hah, hhx, hhy⟩ := id hhi
    have B := crB ly ll1 ll2 lh1 lh2
    walk_at "go"
    refine ⟨_, _, hby, hly, ly.sm, ll2.sm, ?_⟩
    walk_at "go"
    cases e1 : lessN y pl.2 with
    | true =>
      refine itN (by decide) ?_
      walk_at "go"
      have ec : crossLH y pl ph tn = [] := by
        unfold crossLH
        rw [e1]
        rfl
      rw [ec, List.append_nil] at k
      exact k _ _ _ _ _ _ _ (Bu.refl _) (Tk.refl _) el pac
    | false =>
    refine itP (by decide) ?_
    walk_at "go"
    refine ⟨_, _, hby, hhy, ly.sm, lh2.sm, ?_⟩
    walk_at "go"
    cases e2 : lessN y ph.2 with
    | false =>
      refine itN (by decide) ?_
      walk_at "go"
      have ec : crossLH y pl ph tn = [] := by
        unfold crossLH
        rw [e1, e2]
        rfl
      rw [ec, List.append_nil] at k
      exact k _ _ _ _ _ _ _ (Bu.refl _) (Tk.refl _) el pac
    | true =>
    refine itP (by decide) ?_
    walk_at "go"
    refine r_par3 ?_
    walk_at "go"
    refine ⟨_, _, hhx, hlx, lh1.sm.top, lh1.sm.low, ll1.sm.top, ll1.sm.low, fun v1 H3 s3 hv1 => ?_⟩
    have hah3 := sqS hah s3
    have hal3 := sqS hal s3
    walk_at "go"
    refine ⟨_, _, hhy.same s3, hly.same s3, lh2.sm.top, lh2.sm.low, ll2.sm.top, ll2.sm.low, fun v2 H4 s4 hv2 => ?_⟩
    have hal4 := sqS hal3 s4
    walk_at "go"
    refine ⟨_, _, hby.same (s3.trans s4), hly.same (s3.trans s4), ly.sm.top, ly.sm.low, ll2.sm.top, ll2.sm.low, fun v3 H5 s5 hv3 => ?_⟩
    have s25 := s3.trans (s4.trans s5)
    have hal5 := sqS hal4 s5
    obtain ⟨a1, rfl, q1⟩ := hv1.same (s4.trans s5)
    obtain ⟨a2, rfl, q2⟩ := hv2.same s5
    obtain ⟨a3, rfl, q3⟩ := hv3
    obtain ⟨a4, rfl, q4⟩ := hlx.same s25
    have el5 := s25 _ _ el
    refine ⟨_, _, _, rfl, ?_⟩
    walk_at "go"
    refine r_I (wide_mul B.run1 B.up1 (by decide) (by decide) (by decide)) ?_
    walk_at "go"
    refine r_I (wide_mul (mulB B.run1 B.up1) B.rise2 (by decide) (by decide) (by decide)) ?_
    walk_at "go"
    refine r_I (wide_mul B.run2 B.up2 (by decide) (by decide) (by decide)) ?_
    walk_at "go"
    refine r_I (wide_mul (mulB B.run2 B.up2) B.rise1 (by decide) (by decide) (by decide)) ?_
    walk_at "go"
    have Tp := mulB (mulB B.run1 B.up1) B.rise2
    have Lo := mulB (mulB B.run2 B.up2) B.rise1
    refine r_I (wide_mul ll1.top Lo (by decide) (by decide) (by decide)) ?_
    walk_at "go"
    refine r_I (wide_mul Tp ll1.low (by decide) (by decide) (by decide)) ?_
    walk_at "go"
    refine r_I (wide_mul ll1.low Lo (by decide) (by decide) (by decide)) ?_
    walk_at "go"
    intro p6 f6
    generalize g6 : upd _ _ _ = H6
    have ⟨s6, e6⟩ := nwT g6 f6
    have el6 := s6 _ _ el5
    walk_at "go"
    refine r_app el6 (by have := sz2M; omega) ?_
    generalize g7 : upd _ _ _ = H7
    have ⟨e7, o7⟩ := nwI g7
    have tk7 : Tk K H6 H7 := by
      rw [← g7]
      exact Tk.lst el6
    walk_at "go"
    refine k _ _ _ _ _ _ _ ((Bu.same (s25.trans s6)).trans (Bu.upd g7)) ((Same.tk (s25.trans s6)).trans tk7) e7 ?_
    have ec : crossLH y pl ph tn = [(pl.1.1 * ((apartN ph.1 pl.1).2 * (apartN y pl.2).2 * (apartN ph.2 pl.2).1) + (apartN ph.1 pl.1).1 * (apartN y pl.2).1 * (apartN ph.2 pl.2).2 * pl.1.2, pl.1.2 * ((apartN ph.1 pl.1).2 * (apartN y pl.2).2 * (apartN ph.2 pl.2).1), tn)] := by
      unfold crossLH
      rw [e1, e2]
      rfl
    rw [ec]
    exact pApp (pImp (fun _ _ z => z.tk ((Same.tk (s25.trans s6)).trans tk7)) pac) (.cons ⟨p6, rfl, tk7 _ _ (e6 K)⟩ .nil)
  obtain ⟨t, ht, htl⟩ := tail
  refine ⟨_, (pss_cons (ps_set (i := 2) sc_crossings.nd rfl (.inl rfl) (pe_lst pa_nil))
    (pss_cons (ps_for PassesOwn.never rfl (pi_list (pe_c (cal_edges T) hr (by decide) rfl (pa_cons (pv 0) pa_nil))) (pg_tup rfl (pgs_cons (pg_name (i := 3) sc_crossings.nd rfl (.inl rfl)) (pgs_cons (pg_name (i := 4) sc_crossings.nd rfl (.inl rfl)) pgs_nil)))
    (pss_one (ps_if (PW.pt (pw_or (pt_val (pe_c (cal_is_less T) hr (by decide) rfl (pa_cons (pe_ix ix_tup (pv 3) pe_int (fun _ _ => rfl)) (pa_cons (pe_ix ix_tup (pv 4) pe_int (fun _ _ => rfl)) pa_nil)))) (pw_or1 (pt_val (pe_c (cal_is_less T) hr (by decide) rfl (pa_cons (pe_ix ix_tup (pv 4) pe_int (fun _ _ => rfl)) (pa_cons (pe_ix ix_tup (pv 3) pe_int (fun _ _ => rfl)) pa_nil)))))))
    (pss_cons (ps_asg (pe_ifExp (pt_val (pe_c (cal_is_less T) hr (by decide) rfl (pa_cons (pe_ix ix_tup (pv 3) pe_int (fun _ _ => rfl)) (pa_cons (pe_ix ix_tup (pv 4) pe_int (fun _ _ => rfl)) pa_nil)))) (pe_tup (pa_cons (pv 3) (pa_cons (pv 4) (pa_cons pe_int pa_nil)))) (pe_tup (pa_cons (pv 4) (pa_cons (pv 3) (pa_cons (pe_un un_neg pe_int) pa_nil))))) (pg_tup rfl (pgs_cons (pg_name (i := 5) sc_crossings.nd rfl (.inl rfl)) (pgs_cons (pg_name (i := 6) sc_crossings.nd rfl (.inl rfl)) (pgs_cons (pg_name (i := 7) sc_crossings.nd rfl (.inl rfl)) pgs_nil)))))
    ht)
    pss_nil)))
    (pss_one (ps_ret (pv 2))))), ?_⟩
  walk_at "go"
  intro l fl
  generalize g1 : upd _ _ _ = H1
  have ⟨s1, e1⟩ := nw g1 fl
  walk_at "go"
  refine ⟨p, hp.tk (Same.tk s1), ok, fun l2 es H2 s2 f2 el2 pes => ?_⟩
  walk_at "go"
  refine r_ll el2 ?_
  have lE := pLen pes
  have lE2 : (edgesP p).length ≤ 1000 * 1000 := by
    have := edgesP_len p ok.pts
    have := ok.len
    omega
  have nl : l ≠ l2 := ne_of_none e1 f2
  refine for_it (walk_list (xs := es)) (fun i σ H' => ∃ acc z3 z4 z5 z6 z7 z8 z9 z10 z11 z12, σ = [some (.ref a), some b, some (.ref l), z3, z4, z5, z6, z7, z8, z9, z10, z11, z12] ∧ Bu l H2 H' ∧ Tk K H2 H' ∧ H' l = some (.lst acc) ∧ Paired (CrAt K H') acc (((edgesP p).take i).flatMap (crossE y))) ⟨[], _, _, _, _, _, _, _, _, _, _, rfl, Bu.refl _, Tk.refl _, s2 _ _ e1, .nil⟩ ?_ ?_ ?_
  · rintro i σ H3 hi ⟨acc, z3, z4, z5, z6, z7, z8, z9, z10, z11, z12, rfl, b3, tk3, el, pl⟩
    exact seqL (b3 _ _ nl.symm el2)
  · rintro i x σ H3 H3' hi ⟨acc, z3, z4, z5, z6, z7, z8, z9, z10, z11, z12, rfl, b3, tk3, el, pl⟩ ⟨rfl, hx⟩
    have hi' : i < (edgesP p).length := by omega
    have he : (edgesP p)[i]? = some (edgesP p)[i] := List.getElem?_eq_getElem hi'
    have em := edge_mem ok (List.getElem_mem hi')
    have la : acc.length ≤ 1000000 := by
      have x1 := pLen pl
      have x2 := crossF_len y ((edgesP p).take i)
      rw [List.length_take] at x2
      omega
    have st := crossF_step (y := y) he
    generalize (edgesP p)[i] = e at he em st
    obtain ⟨te, vs, ve, rfl, hte, hs, hE⟩ := (pAt pes hx he).tk tk3
    obtain ⟨as, sx, sy, rfl, has, hsx, hsy⟩ := id hs
    obtain ⟨ae, ex, ey, rfl, hae, hex, hey⟩ := id hE
    have hb3 : Nm K H3' b y := hb.tk ((Same.tk (s1.trans s2)).trans tk3)
    refine r_gt hte rfl ?_
    walk_at "go"
    refine ⟨_, _, hsy, hey, em.1.2.sm, em.2.2.sm, ?_⟩
    walk_at "go"
    cases c1 : lessN e.1.2 e.2.2 with
    | true =>
      have ec : crossE y e = crossLH y e.1 e.2 1 := by
        unfold crossE
        rw [c1]
        rfl
      rw [ec] at st
      refine itP rfl ?_
      walk_at "go"
      refine ⟨_, _, hsy, hey, em.1.2.sm, em.2.2.sm, ?_⟩
      rw [c1]
      walk_at "go"
      intro p4 f4
      generalize g4 : upd _ _ _ = H4
      have ⟨s4, e4⟩ := nwT g4 f4
      have e4' := e4 K
      walk_at "go"
      refine htl _ H4 l acc _ _ e.1 e.2 1 _ _ _ _ _ _ _ _ (hb3.same s4) (hs.tk (Same.tk s4)) (hE.tk (Same.tk s4)) em.1.1 em.1.2 em.2.1 em.2.2 (s4 _ _ el) (pImp (fun _ _ z => z.tk (Same.tk s4)) pl) la fun y8 y9 y10 y11 y12 acc' H5 b5 tk5 e5 p5 => ?_
      rw [← st] at p5
      exact ⟨acc', _, _, _, _, _, _, _, _, _, _, rfl, b3.trans ((Bu.same s4).trans b5), tk3.trans ((Same.tk s4).trans tk5), e5, p5⟩
    | false =>
    refine itN (by decide) ?_
    walk_at "go"
    refine ⟨_, _, hey, hsy, em.2.2.sm, em.1.2.sm, ?_⟩
    walk_at "go"
    cases c2 : lessN e.2.2 e.1.2 with
    | true =>
      have ec : crossE y e = crossLH y e.2 e.1 (-1) := by
        unfold crossE
        rw [c1, c2]
        rfl
      rw [ec] at st
      refine itP rfl ?_
      walk_at "go"
      refine ⟨_, _, hsy, hey, em.1.2.sm, em.2.2.sm, ?_⟩
      rw [c1]
      walk_at "go"
      intro p4 f4
      generalize g4 : upd _ _ _ = H4
      have ⟨s4, e4⟩ := nwT g4 f4
      have e4' := e4 K
      walk_at "go"
      refine htl _ H4 l acc _ _ e.2 e.1 (-1) _ _ _ _ _ _ _ _ (hb3.same s4) (hE.tk (Same.tk s4)) (hs.tk (Same.tk s4)) em.2.1 em.2.2 em.1.1 em.1.2 (s4 _ _ el) (pImp (fun _ _ z => z.tk (Same.tk s4)) pl) la fun y8 y9 y10 y11 y12 acc' H5 b5 tk5 e5 p5 => ?_
      rw [← st] at p5
      exact ⟨acc', _, _, _, _, _, _, _, _, _, _, rfl, b3.trans ((Bu.same s4).trans b5), tk3.trans ((Same.tk s4).trans tk5), e5, p5⟩
    | false =>
      have ec : crossE y e = [] := by
        unfold crossE
        rw [c1, c2]
        rfl
      rw [ec, List.append_nil] at st
      refine itN (by decide) ?_
      walk_at "go"
      rw [← st] at pl
      exact ⟨acc, _, _, _, _, _, _, _, _, _, _, rfl, b3, tk3, el, pl⟩
  · rintro σ H3 ⟨acc, z3, z4, z5, z6, z7, z8, z9, z10, z11, z12, rfl, b3, tk3, el, pl⟩
    walk_at "go"
    rw [List.take_of_length_le (by omega)] at pl
    exact q l acc H3 (Bu.new (s1.trans s2) fl b3) el pl
end
section
local macro_rules | `(tactic| walk_at "fld") => `(tactic| (refine fkT (w := ?w) (K := ?K) (mg := ?mg) (A := ?A) ?t ?e ?h; (case t => assumption); (case e => exact rfl); (case h => first | with_reducible exact g_Look_matrix (by assumption) | with_reducible exact g_Look_path (by assumption) | with_reducible exact g_Look_ink (by assumption) | with_reducible exact g_Look_width (by assumption) | with_reducible exact g_Look_clips (by assumption) | with_reducible exact g_Look_font (by assumption) | with_reducible exact g_World_operands (by assumption) | with_reducible exact g_World_rooms (by assumption) | with_reducible exact g_World_scopes (by assumption) | with_reducible exact g_World_look (by assumption) | with_reducible exact g_World_kept (by assumption) | with_reducible exact g_World_sheets (by assumption) | with_reducible exact g_World_inkings (by assumption) | with_reducible exact g_World_saves (by assumption) | with_reducible exact g_World_many_saves (by assumption) | with_reducible exact g_Items_body (by assumption) | with_reducible exact g_Items_at (by assumption) | with_reducible exact g_Reader_text (by assumption) | with_reducible exact g_Reader_at (by assumption) | with_reducible exact g_Reader_row (by assumption) | with_reducible exact g_Reader_column (by assumption) | with_reducible exact g_Reader_deep (by assumption) | with_reducible exact g_Machine_wide (by assumption) | with_reducible exact g_Machine_high (by assumption) | with_reducible exact g_Machine_most (by assumption) | with_reducible exact g_Machine_world (by assumption) | with_reducible exact g_Machine_frames (by assumption) | with_reducible exact g_Machine_left (by assumption) | with_reducible exact g_Machine_told (by assumption) | with_reducible exact g_Machine_is_running (by assumption) | with_reducible exact g_Machine_ahead (by assumption) | with_reducible exact g_Machine_past (by assumption) | with_reducible exact g_Machine_later (by assumption))))
/-- as many steps as go by themselves -/
local macro_rules | `(tactic| walk_at "g1") => `(tactic| (first
  | with_reducible refine r_seq ?_ | with_reducible refine r_set ?_ | with_reducible refine r_asg ?_ | with_reducible refine r_sl ?_ | with_reducible refine r_np ?_ | with_reducible refine r_pt ?_ | with_reducible refine r_gn ?_ | with_reducible refine r_gc ?_ | with_reducible refine r_g0 ?_ | ((with_reducible refine r_gt (xs := ?xs) ?h ?g ?_); (case h => assumption); (case g => exact rfl)) | with_reducible refine r_ret ?_ | with_reducible refine r_if ?_ | with_reducible refine r_test ?_ | with_reducible refine r_B ?_ | with_reducible refine r_and ?_ | with_reducible refine r_or ?_ | with_reducible refine r_not ?_
  | with_reducible refine r_andV ?_ | with_reducible refine r_orV ?_ | with_reducible refine r_notV ?_ | with_reducible refine r_ifx ?_ | with_reducible refine r_op ?_ | with_reducible refine r_un ?_ | with_reducible refine r_U ?_ | with_reducible refine r_c ?_ | with_reducible refine r_I0 ?_ | with_reducible refine r_drop ?_ | with_reducible refine r_next ?_
  | ((with_reducible refine r_var (v := ?v) ?h ?_); (case h => exact rfl)) | with_reducible refine r_bl ?_ | with_reducible refine r_nil ?_ | with_reducible refine r_cons ?_ | with_reducible refine r_cb ?_ | with_reducible refine r_call ?_ | ((with_reducible refine r_gl (xs := ?xs) ?h ?g ?_); (case h => assumption); (case g => exact rfl)) | with_reducible refine r_sm1 ?_ | with_reducible refine r_sm2 ?_ | with_reducible refine r_sm3 ?_ | with_reducible refine r_ch ?_ | with_reducible refine r_bm ?_ | with_reducible refine r_bm0 ?_ | ((with_reducible refine r_ty (xs := ?xs) ?e ?_); (case e => assumption)) | with_reducible refine r_mkU ?_ | with_reducible refine r_mt0 ?_ | with_reducible refine r_yes ?_ | with_reducible refine iteT ?_ | with_reducible refine iteF ?_ | with_reducible refine r_spk ?_ | with_reducible refine r_sp1 ?_ | with_reducible refine r_sp2 ?_ | with_reducible refine r_sp3 ?_ | with_reducible refine r_sp4 ?_ | with_reducible refine r_sp5 ?_
  | with_reducible refine r_tup ?_ | with_reducible refine r_lst ?_ | with_reducible refine r_par ?_ | with_reducible refine r_par2 ?_ 
  | ((with_reducible refine r_eq ?h ?_); (case h => exact rfl)) | ((with_reducible refine r_ne ?h ?_); (case h => exact rfl))
  | ((with_reducible refine r_ixT (xs := ?xs) (v := ?v) ?h ?g ?_); (case h => assumption); (case g => first | exact at0 | exact at1))
  | ((with_reducible refine r_fl (i := ?i) (nm := ?nm) (C := ?C) (dx := ?dx) (vs := ?vs) (v := ?v) ?ok ?e ?hv ?_); (case e => assumption); (case ok => walk_at "fld"); (case hv => rfl)) | with_reducible refine r_for ?_ | with_reducible refine r_il ?_ | with_reducible refine r_it ?_ | with_reducible refine r_iz ?_ | with_reducible refine r_ir1 ?_ | with_reducible refine r_ir2 ?_ | with_reducible refine r_lc ?_ | with_reducible refine r_sFld ?_ | with_reducible refine r_ck ?_ | with_reducible refine r_fld ?_ | with_reducible refine ⟨_, rfl, ?_⟩ | with_reducible refine ⟨_, _, rfl, .inr (by with_unfolding_all assumption), ?_⟩ | with_reducible refine ⟨_, _, rfl, .inl (seqL (by assumption)), ?_⟩ | with_reducible refine ⟨_, _, rfl, rfl, ?_⟩ | with_reducible refine ⟨_, _, rfl, ?_⟩ | with_reducible refine ⟨rfl, ?_⟩ | with_reducible refine r_sz ?_))
local macro_rules | `(tactic| walk_at "go") => `(tactic| (repeat walk_at "g1"))
variable {P : Program} {w : World} {K : PySem.W.Frag} {mg : Str → Option Value} {A : Ad} {base : Heap}
/-! row_within. -/
/-- the turns of the crossings to the left of a cell's middle -/
def turnsL (cs : List Crs) (x : Int) : List Int := (cs.filter fun c => decide ((2 * x + 1) * c.2.1 < 2 * c.1)).map fun c => c.2.2
def inB (p : Path) (odd : Bool) (x y : Int) : Bool := if odd then decide ((turnsL (crossP p (2 * y + 1, 2)) x).sum % 2 = 1) else !decide ((turnsL (crossP p (2 * y + 1, 2)) x).sum = 0)
def rowP (p : Path) (odd : Bool) (y : Int) : List Bool := (List.range 6).map fun (x : Nat) => inB p odd x y
theorem decInt (a b : Int) : decide (V.int a = V.int b) = decide (a = b) := decide_eq_decide.mpr ⟨fun h => by cases h; rfl, fun h => by rw [h]⟩
theorem lwY {y : Int} (h0 : 0 ≤ y) (h5 : y < 5) : Lw (2 * y + 1, 2) := by
  have : y = 0 ∨ y = 1 ∨ y = 2 ∨ y = 3 ∨ y = 4 := by omega
  rcases this with rfl | rfl | rfl | rfl | rfl <;> exact ⟨by decide, by decide, by decide, by decide⟩
theorem turns_step {cs : List Crs} {j : Nat} {c : Crs} {x : Int} (h : cs[j]? = some c) : turnsL (cs.take (j + 1)) x = turnsL (cs.take j) x ++ if (2 * x + 1) * c.2.1 < 2 * c.1 then [c.2.2] else [] := by
  unfold turnsL
  rw [List.take_add_one, h, List.filter_append, List.map_append, Option.toList_some]
  congr 1
  by_cases e : (2 * x + 1) * c.2.1 < 2 * c.1
  · simp [e]
  · simp [e]
theorem turns_le (cs : List Crs) (x : Int) : (turnsL cs x).length ≤ cs.length := by
  unfold turnsL
  rw [List.length_map]
  exact List.length_filter_le _ _
theorem rowP_step {p : Path} {o : Bool} {y : Int} {i : Nat} : ((List.range (i + 1)).map fun (x : Nat) => inB p o x y) = ((List.range i).map fun (x : Nat) => inB p o x y) ++ [inB p o i y] := by
  rw [List.range_succ, List.map_append]
  rfl
abbrev spRowWithin (K : PySem.W.Frag) : Sp := Sp5 fun a b c d e H Q => ∃ (p : Path) (o : Bool) (y : Int), PathAt K H a p ∧ b = ruleV o ∧ c = .int 0 ∧ d = .int 6 ∧ e = .int y ∧ POk p ∧ 0 ≤ y ∧ y < 5 ∧ ∀ l H', Same H H' → H l = none → H' l = some (.lst ((rowP p o y).map V.bl)) → Q (.ref l) H'
theorem sc_row_within : FnScope ["path", "rule", "left", "wide", "y", "some", "found", "x", "many", "top", "below", "turn"] ["path", "rule", "left", "wide", "y"] (defScope s_row_within) := ⟨rfl, rfl, rfl, by decide +kernel, rfl, by decide +kernel, by decide +kernel⟩
theorem cal_row_within (T : Tx w K mg A) : Cal P w K mg base 4 "row_within" (spRowWithin K) [] := by
  refine calOf T.f_row_within sc_row_within (fun _ _ _ _ _ _ us hl => match us, hl with | [_, _, _, _, _], _ => rfl) Sp5.len fun f cdv Ar outer s H vs Q E hr h => ?_
  obtain ⟨a, _, _, _, _, rfl, p, o, y, hp, rfl, rfl, rfl, rfl, ok, hy0, hy5, q⟩ := h
  refine ⟨_, (pss_cons (ps_set (i := 5) sc_row_within.nd rfl (.inl rfl) (pe_c (cal_crossings T) hr (by decide) rfl (pa_cons (pv 0) (pa_cons (pe_tup (pa_cons (pe_op op_add (pe_op op_mulW pe_int (pv 4)) pe_int) (pa_cons pe_int pa_nil))) pa_nil))))
    (pss_cons (ps_set (i := 6) sc_row_within.nd rfl (.inl rfl) (pe_lst pa_nil))
    (pss_cons (ps_for PassesOwn.never rfl (pi_range2 rfl T.n_range (pa_cons (pv 2) (pa_cons (pe_op op_add (pv 2) (pv 3)) pa_nil))) (pg_name (i := 7) sc_row_within.nd rfl (.inr rfl))
    (pss_cons (ps_set (i := 8) sc_row_within.nd rfl (.inl rfl) (pe_callB (cr_sum rfl) rfl T.n_sum (by decide +kernel) (pa_cons (pe_lc (own := [("top", 9), ("below", 10), ("turn", 11)]) (g := (gTup K 3 (gCons (gName 9) (gCons (gName 10) (gCons (gName 11) gNil))))) rfl sc_row_within.nd (pi_list (pv 5)) (blkOk_by (N := ["path", "rule", "left", "wide", "y", "some", "found", "x", "many", "top", "below", "turn"]) (sc := defScope s_row_within) (by decide +kernel)) (fun _ _ _ _ _ => (pg_tup rfl (pgs_cons (pg_name (i := 9) sc_row_within.nd rfl (.inl rfl)) (pgs_cons (pg_name (i := 10) sc_row_within.nd rfl (.inl rfl)) (pgs_cons (pg_name (i := 11) sc_row_within.nd rfl (.inl rfl)) pgs_nil))))) (fun _ _ _ _ _ => pts_one (pt_cmpR op_gt (pe_op op_mulW pe_int (pv 9)) (pe_op op_mulW (pe_op op_add (pe_op op_mulW pe_int (pv 7)) pe_int) (pv 10)) (nomark _))) (fun _ _ _ _ _ => (pv 11))) pa_nil)))
    (pss_one (ps_expr (pe_bm PySem.F.plainAttrs_list PySem.F.slot_list_append PySem.F.type_list_append mt_append (pv 6) (pa_cons (pe_ifExp (pt_cmpR op_eq (pv 1) pe_str (nomark _)) (pe_cmpR op_eq (pe_op op_mod (pv 8) pe_int) pe_int (nomark _)) (pe_cmpR op_ne (pv 8) pe_int (nomark _))) pa_nil))))))
    (pss_one (ps_ret (pv 6)))))), ?_⟩
  have ly := lwY hy0 hy5
  walk_at "go"
  refine r_I (wide_mul (a := 2) (b := 3) (by decide) (by show y.natAbs < 2 ^ 3; omega) (by decide) (by decide) (by decide)) ?_
  walk_at "go"
  intro p1 f1
  generalize g1 : upd _ _ _ = H1
  have ⟨s1, e1⟩ := nwT g1 f1
  walk_at "go"
  refine ⟨p, (2 * y + 1, 2), hp.tk (Same.tk s1), ⟨p1, rfl, e1 K⟩, ok, ly, fun lc cs H2 s2 el2 pc => ?_⟩
  walk_at "go"
  intro l fl
  generalize g3 : upd _ _ _ = H3
  have ⟨s3, e3⟩ := nw g3 fl
  have s03 := s1.trans (s2.trans s3)
  have fl0 : H l = none := (s1.trans s2).free fl
  have nl : l ≠ lc := (ne_of_none el2 fl).symm
  have el3 := s3 _ _ el2
  have pc3 := pImp (fun _ _ (z : CrAt K H2 _ _) => z.tk (Same.tk s3)) pc
  have lcs := pLen pc
  have cB := crossP_B ok ly
  generalize hcs : crossP p (2 * y + 1, 2) = C at pc pc3 lcs cB
  have lC : C.length ≤ 1000000 := by
    rw [← hcs]
    have x1 := crossF_len (2 * y + 1, 2) (edgesP p)
    have x2 := edgesP_len p ok.pts
    have x3 := ok.len
    unfold crossP
    omega
  walk_at "go"
  refine ⟨⟨by decide, by decide, by decide, by decide⟩, ?_⟩
  refine for_it walk_range (fun i σ H' => ∃ z7 z8 z9 z10 z11, σ = [some a, some (ruleV o), some (.int 0), some (.int 6), some (.int y), some (.ref lc), some (.ref l), z7, z8, z9, z10, z11] ∧ Bu l H3 H' ∧ Tk K H3 H' ∧ H' l = some (.lst (((List.range i).map fun (x : Nat) => inB p o x y).map V.bl))) ⟨_, _, _, _, _, rfl, Bu.refl _, Tk.refl _, e3⟩ (fun _ _ _ _ _ => trivial) ?_ ?_
  · rintro i x σ H4 H4' hi ⟨z7, z8, z9, z10, z11, rfl, b4, tk4, el4⟩ ⟨rfl, hx0⟩
    have hi6 : i < 6 := hi
    have elc4 := b4 _ _ nl.symm el3
    have pc4 := pImp (fun _ _ (z : CrAt K H3 _ _) => z.tk tk4) pc3
    obtain rfl : x = V.int (i : Int) := by
      rw [hx0]
      show V.int (0 + (i : Int)) = _
      rw [Int.zero_add]
    walk_at "go"
    refine r_ll elc4 ?_
    intro D fD
    refine lc_it (walk_list (xs := cs)) (fun j H' => Same H4' H' ∧ H' D = some (.lst ((turnsL (C.take j) i).map V.int))) ⟨same_new fD, upd_same⟩ (fun j H' _ z => seqL (z.1 _ _ elc4)) ?_ ?_
    · rintro j v H5 H5' hj ⟨s5, eD⟩ ⟨rfl, hv⟩
      have hj' : j < C.length := by omega
      have hc : C[j]? = some C[j] := List.getElem?_eq_getElem hj'
      have cb := cB _ (List.getElem_mem hj')
      have st := turns_step (x := (i : Int)) hc
      generalize C[j] = c at hc cb st
      obtain ⟨t, rfl, ht⟩ := pAt pc4 hv hc
      have ht5 := sqS ht s5
      have lt : (turnsL (C.take j) i).length ≤ 1000000 := by
        have := turns_le (C.take j) i
        rw [List.length_take] at this
        omega
      have hz : ((turnsL (C.take j) i).map V.int).length < sizeLine := by
        have := sz2M
        rw [List.length_map]
        omega
      walk_at "go"
      refine r_I (wide_mul (a := 2) (b := 300) (by decide) cb.1 (by decide) (by decide) (by decide)) ?_
      walk_at "go"
      refine r_I (wide_mul (a := 2) (b := 3) (by decide) (by show (i : Int).natAbs < 2 ^ 3; omega) (by decide) (by decide) (by decide)) ?_
      walk_at "go"
      refine r_I (wide_mul (a := 4) (b := 300) (by show (2 * (i : Int) + 1).natAbs < 2 ^ 4; omega) cb.2 (by decide) (by decide) (by decide)) ?_
      walk_at "go"
      by_cases e : (2 * (i : Int) + 1) * c.2.1 < 2 * c.1
      · rw [if_pos e] at st
        refine difT e ?_
        walk_at "go"
        refine ⟨_, eD, hz, fun b o n => ?_, ?_⟩
        · rw [upd_ne (ne_of_none n fD)]
          exact s5 _ _ n
        · rw [st, List.map_append]
          exact upd_same
      · rw [if_neg e, List.append_nil] at st
        refine difF e ?_
        rw [st]
        exact ⟨s5, eD⟩
    · rintro H5 ⟨s5, eD⟩
      rw [List.take_of_length_le (by omega)] at eD
      walk_at "go"
      refine ⟨D, _, rfl, seqL eD, ?_⟩
      have el5 := s5 _ _ el4
      have hz : (((List.range i).map fun (x : Nat) => inB p o x y).map V.bl).length < sizeLine := by
        have := sz2M
        rw [List.length_map, List.length_map, List.length_range]
        omega
      have fin : ∀ (b : Bool) (H6 : Hp), b = inB p o i y → upd H5 l (.lst (((List.range i).map fun (x : Nat) => inB p o x y).map V.bl ++ [V.bl b])) = H6 → Bu l H3 H6 ∧ Tk K H3 H6 ∧ H6 l = some (.lst (((List.range (i + 1)).map fun (x : Nat) => inB p o x y).map V.bl)) := by
        intro b H6 eb g6
        refine ⟨b4.trans ((Bu.same s5).trans (Bu.upd g6)), tk4.trans ((Same.tk s5).trans ?_), ?_⟩
        · rw [← g6]
          exact Tk.lst el5
        · rw [← g6, rowP_step, List.map_append, eb]
          exact upd_same
      walk_at "go"
      cases o with
      | true =>
        walk_at "go"
        refine difT rfl ?_
        walk_at "go"
        refine r_I (by decide) ?_
        walk_at "go"
        refine r_app el5 hz ?_
        generalize g6 : upd _ _ _ = H6
        obtain ⟨x1, x2, x3⟩ := fin _ H6 (by rw [decInt]; unfold inB; rw [hcs]; rfl) g6
        walk_at "go"
        exact ⟨_, _, _, _, _, rfl, x1, x2, x3⟩
      | false =>
        walk_at "go"
        refine difF (by decide +kernel) ?_
        walk_at "go"
        refine r_app el5 hz ?_
        generalize g6 : upd _ _ _ = H6
        obtain ⟨x1, x2, x3⟩ := fin _ H6 (by rw [decInt]; unfold inB; rw [hcs]; rfl) g6
        walk_at "go"
        exact ⟨_, _, _, _, _, rfl, x1, x2, x3⟩
  · rintro σ H4 ⟨z7, z8, z9, z10, z11, rfl, b4, tk4, el4⟩
    walk_at "go"
    exact q l H4 (Bu.new s03 fl0 b4) fl0 el4
end
section
local macro_rules | `(tactic| walk_at "fld") => `(tactic| (refine fkT (w := ?w) (K := ?K) (mg := ?mg) (A := ?A) ?t ?e ?h; (case t => assumption); (case e => exact rfl); (case h => first | with_reducible exact g_Look_matrix (by assumption) | with_reducible exact g_Look_path (by assumption) | with_reducible exact g_Look_ink (by assumption) | with_reducible exact g_Look_width (by assumption) | with_reducible exact g_Look_clips (by assumption) | with_reducible exact g_Look_font (by assumption) | with_reducible exact g_World_operands (by assumption) | with_reducible exact g_World_rooms (by assumption) | with_reducible exact g_World_scopes (by assumption) | with_reducible exact g_World_look (by assumption) | with_reducible exact g_World_kept (by assumption) | with_reducible exact g_World_sheets (by assumption) | with_reducible exact g_World_inkings (by assumption) | with_reducible exact g_World_saves (by assumption) | with_reducible exact g_World_many_saves (by assumption) | with_reducible exact g_Items_body (by assumption) | with_reducible exact g_Items_at (by assumption) | with_reducible exact g_Reader_text (by assumption) | with_reducible exact g_Reader_at (by assumption) | with_reducible exact g_Reader_row (by assumption) | with_reducible exact g_Reader_column (by assumption) | with_reducible exact g_Reader_deep (by assumption) | with_reducible exact g_Machine_wide (by assumption) | with_reducible exact g_Machine_high (by assumption) | with_reducible exact g_Machine_most (by assumption) | with_reducible exact g_Machine_world (by assumption) | with_reducible exact g_Machine_frames (by assumption) | with_reducible exact g_Machine_left (by assumption) | with_reducible exact g_Machine_told (by assumption) | with_reducible exact g_Machine_is_running (by assumption) | with_reducible exact g_Machine_ahead (by assumption) | with_reducible exact g_Machine_past (by assumption) | with_reducible exact g_Machine_later (by assumption))))
/-- as many steps as go by themselves -/
local macro_rules | `(tactic| walk_at "g1") => `(tactic| (first
  | with_reducible refine r_seq ?_ | with_reducible refine r_set ?_ | with_reducible refine r_asg ?_ | with_reducible refine r_sl ?_ | with_reducible refine r_np ?_ | with_reducible refine r_pt ?_ | with_reducible refine r_gn ?_ | with_reducible refine r_gc ?_ | with_reducible refine r_g0 ?_ | ((with_reducible refine r_gt (xs := ?xs) ?h ?g ?_); (case h => assumption); (case g => exact rfl)) | with_reducible refine r_ret ?_ | with_reducible refine r_if ?_ | with_reducible refine r_test ?_ | with_reducible refine r_B ?_ | with_reducible refine r_and ?_ | with_reducible refine r_or ?_ | with_reducible refine r_not ?_
  | with_reducible refine r_andV ?_ | with_reducible refine r_orV ?_ | with_reducible refine r_notV ?_ | with_reducible refine r_ifx ?_ | with_reducible refine r_op ?_ | with_reducible refine r_un ?_ | with_reducible refine r_U ?_ | with_reducible refine r_c ?_ | with_reducible refine r_I0 ?_ | with_reducible refine r_drop ?_ | with_reducible refine r_next ?_
  | ((with_reducible refine r_var (v := ?v) ?h ?_); (case h => exact rfl)) | with_reducible refine r_bl ?_ | with_reducible refine r_nil ?_ | with_reducible refine r_cons ?_ | with_reducible refine r_cb ?_ | with_reducible refine r_call ?_ | ((with_reducible refine r_gl (xs := ?xs) ?h ?g ?_); (case h => assumption); (case g => exact rfl)) | with_reducible refine r_sm1 ?_ | with_reducible refine r_sm2 ?_ | with_reducible refine r_sm3 ?_ | with_reducible refine r_ch ?_ | with_reducible refine r_bm ?_ | with_reducible refine r_bm0 ?_ | ((with_reducible refine r_ty (xs := ?xs) ?e ?_); (case e => assumption)) | with_reducible refine r_mkU ?_ | with_reducible refine r_mt0 ?_ | with_reducible refine r_yes ?_ | with_reducible refine iteT ?_ | with_reducible refine iteF ?_ | with_reducible refine r_spk ?_ | with_reducible refine r_sp1 ?_ | with_reducible refine r_sp2 ?_ | with_reducible refine r_sp3 ?_ | with_reducible refine r_sp4 ?_ | with_reducible refine r_sp5 ?_
  | with_reducible refine r_tup ?_ | with_reducible refine r_lst ?_ | with_reducible refine r_par ?_ | with_reducible refine r_par2 ?_ 
  | ((with_reducible refine r_eq ?h ?_); (case h => exact rfl)) | ((with_reducible refine r_ne ?h ?_); (case h => exact rfl))
  | ((with_reducible refine r_ixT (xs := ?xs) (v := ?v) ?h ?g ?_); (case h => assumption); (case g => first | exact at0 | exact at1))
  | ((with_reducible refine r_fl (i := ?i) (nm := ?nm) (C := ?C) (dx := ?dx) (vs := ?vs) (v := ?v) ?ok ?e ?hv ?_); (case e => assumption); (case ok => walk_at "fld"); (case hv => rfl)) | with_reducible refine r_for ?_ | with_reducible refine r_il ?_ | with_reducible refine r_it ?_ | with_reducible refine r_iz ?_ | with_reducible refine r_ir1 ?_ | with_reducible refine r_ir2 ?_ | with_reducible refine r_lc ?_ | with_reducible refine r_sFld ?_ | with_reducible refine r_ck ?_ | with_reducible refine r_fld ?_ | with_reducible refine ⟨_, rfl, ?_⟩ | with_reducible refine ⟨_, _, rfl, .inr (by with_unfolding_all assumption), ?_⟩ | with_reducible refine ⟨_, _, rfl, .inl (seqL (by assumption)), ?_⟩ | with_reducible refine ⟨_, _, rfl, rfl, ?_⟩ | with_reducible refine ⟨_, _, rfl, ?_⟩ | with_reducible refine ⟨rfl, ?_⟩ | with_reducible refine r_sz ?_))
local macro_rules | `(tactic| walk_at "go") => `(tactic| (repeat walk_at "g1"))
variable {P : Program} {w : World} {K : PySem.W.Frag} {mg : Str → Option Value} {A : Ad} {base : Heap}
/-! ink_of, row_of. -/
def inD (x y : Int) : Dd → Bool
  | .erase => true
  | .fill p o _ c => inB p o x y && c.all fun l => inB l.1 l.2 x y
def inkD : Dd → Int
  | .erase => 0
  | .fill _ _ i _ => i
def rowD (d : Dd) (y : Int) : List Bool := (List.range 6).map fun (x : Nat) => inD x y d
def DOk : Dd → Prop
  | .erase => True
  | .fill p _ _ c => POk p ∧ ∀ l ∈ c, POk l.1
abbrev spInkOf (K : PySem.W.Frag) : Sp := Sp1 fun a H Q => ∃ d, DdAt K H a d ∧ Q (.int (inkD d)) H
theorem sc_ink_of : FnScope ["deed"] ["deed"] (defScope s_ink_of) := ⟨rfl, rfl, rfl, by decide +kernel, rfl, by decide +kernel, by decide +kernel⟩
theorem cal_ink_of (T : Tx w K mg A) : Cal P w K mg base 1 "ink_of" (spInkOf K) [] := by
  refine calOf T.f_ink_of sc_ink_of (fun _ _ _ _ _ _ us hl => match us, hl with | [_], _ => rfl) Sp1.len fun f cdv Ar outer s H vs Q E hr h => ?_
  obtain ⟨_, rfl, d, hd, q⟩ := h
  refine ⟨_, (pss_one (ps_ret (pe_ifExp (pt_cmpR op_eq (pe_ix ix_tup (pv 0) pe_int (fun _ _ => rfl)) pe_str (nomark _)) pe_int (pe_ix ix_tup (pv 0) pe_int (fun _ _ => rfl))))), ?_⟩
  cases d with
  | erase =>
    obtain ⟨a, rfl, ha⟩ := hd
    walk_at "go"
    refine difT rfl ?_
    walk_at "go"
    exact q
  | fill p o i c =>
    obtain ⟨a, x, y, rfl, ha, _, _⟩ := hd
    walk_at "go"
    refine difF (by decide +kernel) ?_
    walk_at "go"
    refine r_ixT ha (atI_nat (j := 3) rfl) ?_
    exact q
theorem inV_bl : ∀ bs : List Bool, inV (.bl true) (bs.map V.bl) = bs.any id
  | [] => rfl
  | b :: bs => by
    show (eqV (.bl b) (.bl true) || inV (.bl true) (bs.map V.bl)) = (id b || bs.any id)
    rw [inV_bl bs]
    cases b <;> rfl
theorem flat_bl : ∀ bs : List Bool, (bs.map V.bl).all flatV = true
  | [] => rfl
  | b :: bs => by
    rw [List.map_cons, List.all_cons, flat_bl bs]
    rfl
/-- the row behind so many clips -/
def rowC (p : Path) (o : Bool) (c : List (Path × Bool)) (y : Int) : List Bool := (List.range 6).map fun (x : Nat) => inB p o x y && c.all fun l => inB l.1 l.2 x y
theorem rowC_nil (p : Path) (o : Bool) (y : Int) : rowP p o y = rowC p o [] y := by
  unfold rowP rowC
  congr 1
  funext x
  simp
theorem rowC_step (p : Path) (o : Bool) (c : List (Path × Bool)) (l : Path × Bool) (y : Int) : rowC p o (c ++ [l]) y = (List.range 6).map fun (x : Nat) => (inB p o x y && c.all fun l => inB l.1 l.2 x y) && inB l.1 l.2 x y := by
  unfold rowC
  congr 1
  funext x
  simp [Bool.and_assoc]
theorem rowC_none {p : Path} {o : Bool} {c : List (Path × Bool)} {l : Path × Bool} {y : Int} (h : (rowC p o c y).any id = false) : rowC p o (c ++ [l]) y = rowC p o c y := by
  rw [rowC_step]
  unfold rowC at h ⊢
  refine List.map_congr_left fun x hx => ?_
  have := List.any_eq_false.mp h _ (List.mem_map_of_mem hx)
  have e : (inB p o x y && c.all fun l => inB l.1 l.2 x y) = false := Bool.eq_false_iff.mpr this
  rw [e]
  rfl
theorem rowC_len (p : Path) (o : Bool) (c : List (Path × Bool)) (y : Int) : (rowC p o c y).length = 6 := by
  unfold rowC
  rw [List.length_map, List.length_range]
theorem rowP_len (p : Path) (o : Bool) (y : Int) : (rowP p o y).length = 6 := by
  unfold rowP
  rw [List.length_map, List.length_range]
abbrev spRowOf (K : PySem.W.Frag) : Sp := Sp4 fun a b c d H Q => ∃ (dd : Dd) (y : Int), DdAt K H a dd ∧ b = .int 0 ∧ c = .int 6 ∧ d = .int y ∧ DOk dd ∧ 0 ≤ y ∧ y < 5 ∧ ∀ l H', Same H H' → H l = none → H' l = some (.lst ((rowD dd y).map V.bl)) → Q (.ref l) H'
theorem sc_row_of : FnScope ["deed", "left", "wide", "y", "x", "path", "how", "clips", "found", "shape", "rule", "one", "other"] ["deed", "left", "wide", "y"] (defScope s_row_of) := ⟨rfl, rfl, rfl, by decide +kernel, rfl, by decide +kernel, by decide +kernel⟩
theorem cal_row_of (T : Tx w K mg A) : Cal P w K mg base 5 "row_of" (spRowOf K) [] := by
  refine calOf T.f_row_of sc_row_of (fun _ _ _ _ _ _ us hl => match us, hl with | [_, _, _, _], _ => rfl) Sp4.len fun f cdv Ar outer s H vs Q E hr h => ?_
  obtain ⟨_, _, _, _, rfl, dd, y, hd, rfl, rfl, rfl, dok, hy0, hy5, q⟩ := h
  refine ⟨_, (pss_cons (ps_if (pt_cmpR op_eq (pe_ix ix_tup (pv 0) pe_int (fun _ _ => rfl)) pe_str (nomark _))
    (pss_one (ps_ret (pe_lc (own := [("x", 4)]) (g := (gName 4)) (tt := tYes) rfl sc_row_of.nd (pi_range1 rfl T.n_range (pa_cons (pv 2) pa_nil)) (blkOk_by (N := ["deed", "left", "wide", "y", "x", "path", "how", "clips", "found", "shape", "rule", "one", "other"]) (sc := defScope s_row_of) (by decide +kernel)) (fun _ _ _ _ _ => (pg_name (i := 4) sc_row_of.nd rfl (.inl rfl))) (fun _ _ _ _ _ => pts_nil) (fun _ _ _ _ _ => pe_bl))))
    pss_nil)
    (pss_cons (ps_par3 (i := 5) (j := 6) (l := 7) rfl sc_row_of.nd rfl rfl rfl (by decide) (by decide) (by decide) rfl rfl rfl (pa_cons (pe_ix ix_tup (pv 0) pe_int (fun _ _ => rfl)) (pa_cons (pe_ix ix_tup (pv 0) pe_int (fun _ _ => rfl)) (pa_cons (pe_ix ix_tup (pv 0) pe_int (fun _ _ => rfl)) pa_nil))) (by rfl))
    (pss_cons (ps_set (i := 8) sc_row_of.nd rfl (.inl rfl) (pe_ifExp (pt_cmpR op_eq (pe_ix ix_tup (pv 0) pe_int (fun _ _ => rfl)) pe_str (nomark _)) (pe_c (cal_row_within T) hr (by decide) rfl (pa_cons (pv 5) (pa_cons (pv 6) (pa_cons (pv 1) (pa_cons (pv 2) (pa_cons (pv 3) pa_nil)))))) pe_no))
    (pss_cons (ps_for PassesOwn.never rfl (pi_tup (pv 7)) (pg_tup rfl (pgs_cons (pg_name (i := 9) sc_row_of.nd rfl (.inl rfl)) (pgs_cons (pg_name (i := 10) sc_row_of.nd rfl (.inl rfl)) pgs_nil)))
    (pss_one (ps_if (pt_cmpR op_in_seq pe_bl (pv 8) rfl)
    (pss_one (ps_setLc (i := 8) (own := [("one", 11), ("other", 12)]) (g := (gTup K 2 (gCons (gName 11) (gCons (gName 12) gNil)))) (tt := tYes) rfl sc_row_of.nd rfl rfl (sw_true rfl rfl rfl (by decide +kernel)) (pi_zip rfl T.n_zip (pa_cons (pv 8) (pa_cons (pe_c (cal_row_within T) hr (by decide) rfl (pa_cons (pv 9) (pa_cons (pv 10) (pa_cons (pv 1) (pa_cons (pv 2) (pa_cons (pv 3) pa_nil)))))) pa_nil))) (blkOk_by (N := ["deed", "left", "wide", "y", "x", "path", "how", "clips", "found", "shape", "rule", "one", "other"]) (sc := defScope s_row_of) (by decide +kernel)) (fun _ _ _ _ _ => (pg_tup rfl (pgs_cons (pg_name (i := 11) sc_row_of.nd rfl (.inl rfl)) (pgs_cons (pg_name (i := 12) sc_row_of.nd rfl (.inl rfl)) pgs_nil)))) (fun _ _ _ _ _ => pts_nil) (fun _ _ _ _ _ => (pe_and (pv 11) (pe_one (pv 12))))))
    pss_nil)))
    (pss_one (ps_ret (pv 8))))))), ?_⟩
  cases dd with
  | erase =>
    obtain ⟨a, rfl, ha⟩ := hd
    walk_at "go"
    refine difT rfl ?_
    walk_at "go"
    refine ⟨by decide, by decide, ?_⟩
    intro D fD
    refine lc_all (K := K) walk_range fD (by have := sz1000; show (6 : Nat) ≤ _; omega) (fun i v _ => v = .bl true) (fun _ _ _ _ _ _ h => h) (fun _ _ => trivial) ?_ ?_
    · rintro i x H2 H2' N M hi sh ⟨rfl, hx0⟩ hN
      walk_at "go"
      exact hN _ _ (Same.refl _) rfl
    · intro H2 acc sh ea la ra
      have e1 : acc = (rowD .erase y).map V.bl := by
        refine List.ext_getElem? fun j => ?_
        by_cases hj : j < 6
        · have hj2 : j < acc.length := by rw [la]; exact hj
          rw [List.getElem?_eq_getElem hj2, ra j _ (List.getElem?_eq_getElem hj2)]
          have : j = 0 ∨ j = 1 ∨ j = 2 ∨ j = 3 ∨ j = 4 ∨ j = 5 := by omega
          rcases this with rfl | rfl | rfl | rfl | rfl | rfl <;> rfl
        · rw [List.getElem?_eq_none (by rw [la]; show (6 : Nat) ≤ j; omega), List.getElem?_eq_none (by show (6 : Nat) ≤ j; omega)]
      rw [e1] at ea
      exact q D H2 sh fD ea
  | fill p o ink c =>
    obtain ⟨a, vp, vc, rfl, ha, hp, ⟨ca, cxs, rfl, hca, hcx⟩⟩ := hd
    obtain ⟨pok, cok⟩ := dok
    walk_at "go"
    refine difF (by decide +kernel) ?_
    walk_at "go"
    refine r_par3 ?_
    walk_at "go"
    refine r_ixT ha (atI_nat (j := 2) rfl) ?_
    walk_at "go"
    refine r_ixT ha (atI_nat (j := 4) rfl) ?_
    walk_at "go"
    refine ⟨_, _, _, rfl, ?_⟩
    walk_at "go"
    refine difT rfl ?_
    walk_at "go"
    refine ⟨p, o, y, hp, rfl, rfl, rfl, rfl, pok, hy0, hy5, fun l H1 s1 fl el => ?_⟩
    rw [rowC_nil] at el
    walk_at "go"
    refine ⟨⟨_, sqS hca s1⟩, ?_⟩
    refine for_it (walk_tup (xs := cxs)) (fun i σ H' => ∃ l z4 z9 z10 z11 z12, σ = [some (.ref a), some (.int 0), some (.int 6), some (.int y), z4, some vp, some (ruleV o), some (.ref ca), some (.ref l), z9, z10, z11, z12] ∧ Same H H' ∧ H l = none ∧ H' l = some (.lst ((rowC p o (c.take i) y).map V.bl))) ⟨l, _, _, _, _, _, rfl, s1, fl, el⟩ (fun i σ H' _ ⟨_, _, _, _, _, _, _, sh, _⟩ => sqS hca sh) ?_ ?_
    · rintro i x σ H2 H2' hi ⟨l, z4, z9, z10, z11, z12, rfl, sh, fl, el⟩ ⟨rfl, hx⟩
      have hi' : i < c.length := by rw [← pLen hcx]; exact hi
      have hci : c[i]? = some c[i] := List.getElem?_eq_getElem hi'
      have cm := cok _ (List.getElem_mem hi')
      have tk : c.take (i + 1) = c.take i ++ [c[i]] := by rw [List.take_add_one, hci, Option.toList_some]
      generalize c[i] = cl at hci cm tk
      obtain ⟨ct, cx, rfl, hct, hcp⟩ := pAt hcx hx hci
      refine r_gt (sqS hct sh) rfl ?_
      walk_at "go"
      refine ⟨l, _, rfl, .inl (seqL el), rfl, flat_bl _, ?_⟩
      rw [if_neg (by decide), inV_bl]
      walk_at "go"
      cases hany : (rowC p o (c.take i) y).any id with
      | false =>
        refine itN (by decide) ?_
        walk_at "go"
        refine ⟨l, _, _, _, _, _, rfl, sh, fl, ?_⟩
        rw [tk, rowC_none hany]
        exact el
      | true =>
        refine itP rfl ?_
        walk_at "go"
        refine ⟨cl.1, cl.2, y, hcp.tk (Same.tk sh), rfl, rfl, rfl, rfl, cm, hy0, hy5, fun l2 H3 s3 f2 el2 => ?_⟩
        walk_at "go"
        have el3 := s3 _ _ el
        refine ⟨l, l2, _, _, rfl, seqL el3, seqL el2, ?_⟩
        intro D fD
        refine lc_all (K := K) (walk_zip (xs := (rowC p o (c.take i) y).map V.bl) (ys := (rowP cl.1 cl.2 y).map V.bl) (n := 6) (by rw [List.length_map, List.length_map, rowC_len, rowP_len]; rfl)) fD (by have := sz1000; omega) (fun j v _ => v = .bl ((inB p o j y && (c.take i).all fun l => inB l.1 l.2 j y) && inB cl.1 cl.2 j y)) (fun _ _ _ _ _ _ h => h) (fun H' s' => ⟨seqL (s' _ _ el3), seqL (s' _ _ el2)⟩) ?_ ?_
        · rintro j x H4 H5 N M hj s4 ⟨t, u, v, rfl, ft, rfl, hu, hv⟩ hN
          generalize g5 : upd _ _ _ = H5
          have ⟨s5, e5⟩ := nwT g5 ft
          have e5' := e5 K
          have eu : u = .bl (inB p o j y && (c.take i).all fun l => inB l.1 l.2 j y) := by
            replace hu : ((rowC p o (c.take i) y).map V.bl)[j]? = some u := hu
            rw [List.getElem?_map, show (rowC p o (c.take i) y)[j]? = some (inB p o j y && (c.take i).all fun l => inB l.1 l.2 j y) from by
              unfold rowC
              rw [List.getElem?_map, List.getElem?_range hj]
              rfl] at hu
            cases hu
            rfl
          have ev : v = .bl (inB cl.1 cl.2 j y) := by
            replace hv : ((rowP cl.1 cl.2 y).map V.bl)[j]? = some v := hv
            rw [List.getElem?_map, show (rowP cl.1 cl.2 y)[j]? = some (inB cl.1 cl.2 j y) from by
              unfold rowP
              rw [List.getElem?_map, List.getElem?_range hj]
              rfl] at hv
            cases hv
            rfl
          subst eu ev
          refine r_gt e5' rfl ?_
          walk_at "go"
          cases hb : (inB p o j y && (c.take i).all fun l => inB l.1 l.2 j y) with
          | true =>
            refine itP rfl ?_
            walk_at "go"
            exact hN _ _ s5 (by rw [hb, Bool.true_and])
          | false =>
            refine itN (by decide) ?_
            exact hN _ _ s5 (by rw [hb, Bool.false_and])
        · intro H4 acc s4 ea la ra
          have e1 : acc = (rowC p o (c.take (i + 1)) y).map V.bl := by
            rw [tk, rowC_step]
            refine List.ext_getElem? fun j => ?_
            by_cases hj : j < 6
            · have hj2 : j < acc.length := by rw [la]; exact hj
              rw [List.getElem?_eq_getElem hj2, ra j _ (List.getElem?_eq_getElem hj2), List.getElem?_map, List.getElem?_map, List.getElem?_range hj]
              rfl
            · rw [List.getElem?_eq_none (by rw [la]; omega), List.getElem?_eq_none (by rw [List.length_map, List.length_map, List.length_range]; omega)]
          rw [e1] at ea
          walk_at "go"
          exact ⟨D, _, _, _, _, _, rfl, sh.trans (s3.trans s4), (sh.trans s3).free fD, ea⟩
    · rintro σ H2 ⟨l, z4, z9, z10, z11, z12, rfl, sh, fl, el⟩
      rw [List.take_of_length_le (by rw [pLen hcx]; exact Nat.le_refl _)] at el
      walk_at "go"
      exact q l H2 sh fl el
end
section
local macro_rules | `(tactic| walk_at "fld") => `(tactic| (refine fkT (w := ?w) (K := ?K) (mg := ?mg) (A := ?A) ?t ?e ?h; (case t => assumption); (case e => exact rfl); (case h => first | with_reducible exact g_Look_matrix (by assumption) | with_reducible exact g_Look_path (by assumption) | with_reducible exact g_Look_ink (by assumption) | with_reducible exact g_Look_width (by assumption) | with_reducible exact g_Look_clips (by assumption) | with_reducible exact g_Look_font (by assumption) | with_reducible exact g_World_operands (by assumption) | with_reducible exact g_World_rooms (by assumption) | with_reducible exact g_World_scopes (by assumption) | with_reducible exact g_World_look (by assumption) | with_reducible exact g_World_kept (by assumption) | with_reducible exact g_World_sheets (by assumption) | with_reducible exact g_World_inkings (by assumption) | with_reducible exact g_World_saves (by assumption) | with_reducible exact g_World_many_saves (by assumption) | with_reducible exact g_Items_body (by assumption) | with_reducible exact g_Items_at (by assumption) | with_reducible exact g_Reader_text (by assumption) | with_reducible exact g_Reader_at (by assumption) | with_reducible exact g_Reader_row (by assumption) | with_reducible exact g_Reader_column (by assumption) | with_reducible exact g_Reader_deep (by assumption) | with_reducible exact g_Machine_wide (by assumption) | with_reducible exact g_Machine_high (by assumption) | with_reducible exact g_Machine_most (by assumption) | with_reducible exact g_Machine_world (by assumption) | with_reducible exact g_Machine_frames (by assumption) | with_reducible exact g_Machine_left (by assumption) | with_reducible exact g_Machine_told (by assumption) | with_reducible exact g_Machine_is_running (by assumption) | with_reducible exact g_Machine_ahead (by assumption) | with_reducible exact g_Machine_past (by assumption) | with_reducible exact g_Machine_later (by assumption))))
/-- as many steps as go by themselves -/
local macro_rules | `(tactic| walk_at "g1") => `(tactic| (first
  | with_reducible refine r_seq ?_ | with_reducible refine r_set ?_ | with_reducible refine r_asg ?_ | with_reducible refine r_sl ?_ | with_reducible refine r_np ?_ | with_reducible refine r_pt ?_ | with_reducible refine r_gn ?_ | with_reducible refine r_gc ?_ | with_reducible refine r_g0 ?_ | ((with_reducible refine r_gt (xs := ?xs) ?h ?g ?_); (case h => assumption); (case g => exact rfl)) | with_reducible refine r_ret ?_ | with_reducible refine r_if ?_ | with_reducible refine r_test ?_ | with_reducible refine r_B ?_ | with_reducible refine r_and ?_ | with_reducible refine r_or ?_ | with_reducible refine r_not ?_
  | with_reducible refine r_andV ?_ | with_reducible refine r_orV ?_ | with_reducible refine r_notV ?_ | with_reducible refine r_ifx ?_ | with_reducible refine r_op ?_ | with_reducible refine r_un ?_ | with_reducible refine r_U ?_ | with_reducible refine r_c ?_ | with_reducible refine r_I0 ?_ | with_reducible refine r_drop ?_ | with_reducible refine r_next ?_
  | ((with_reducible refine r_var (v := ?v) ?h ?_); (case h => exact rfl)) | with_reducible refine r_bl ?_ | with_reducible refine r_nil ?_ | with_reducible refine r_cons ?_ | with_reducible refine r_cb ?_ | with_reducible refine r_call ?_ | ((with_reducible refine r_gl (xs := ?xs) ?h ?g ?_); (case h => assumption); (case g => exact rfl)) | with_reducible refine r_sm1 ?_ | with_reducible refine r_sm2 ?_ | with_reducible refine r_sm3 ?_ | with_reducible refine r_ch ?_ | with_reducible refine r_bm ?_ | with_reducible refine r_bm0 ?_ | ((with_reducible refine r_ty (xs := ?xs) ?e ?_); (case e => assumption)) | with_reducible refine r_mkU ?_ | with_reducible refine r_mt0 ?_ | with_reducible refine r_yes ?_ | with_reducible refine iteT ?_ | with_reducible refine iteF ?_ | with_reducible refine r_spk ?_ | with_reducible refine r_sp1 ?_ | with_reducible refine r_sp2 ?_ | with_reducible refine r_sp3 ?_ | with_reducible refine r_sp4 ?_ | with_reducible refine r_sp5 ?_
  | with_reducible refine r_tup ?_ | with_reducible refine r_lst ?_ | with_reducible refine r_par ?_ | with_reducible refine r_par2 ?_ 
  | ((with_reducible refine r_eq ?h ?_); (case h => exact rfl)) | ((with_reducible refine r_ne ?h ?_); (case h => exact rfl))
  | ((with_reducible refine r_ixT (xs := ?xs) (v := ?v) ?h ?g ?_); (case h => assumption); (case g => first | exact at0 | exact at1))
  | ((with_reducible refine r_fl (i := ?i) (nm := ?nm) (C := ?C) (dx := ?dx) (vs := ?vs) (v := ?v) ?ok ?e ?hv ?_); (case e => assumption); (case ok => walk_at "fld"); (case hv => rfl)) | with_reducible refine r_for ?_ | with_reducible refine r_il ?_ | with_reducible refine r_it ?_ | with_reducible refine r_iz ?_ | with_reducible refine r_ir1 ?_ | with_reducible refine r_ir2 ?_ | with_reducible refine r_lc ?_ | with_reducible refine r_sFld ?_ | with_reducible refine r_ck ?_ | with_reducible refine r_fld ?_ | with_reducible refine ⟨_, rfl, ?_⟩ | with_reducible refine ⟨_, _, rfl, .inr (by with_unfolding_all assumption), ?_⟩ | with_reducible refine ⟨_, _, rfl, .inl (seqL (by assumption)), ?_⟩ | with_reducible refine ⟨_, _, rfl, rfl, ?_⟩ | with_reducible refine ⟨_, _, rfl, ?_⟩ | with_reducible refine ⟨rfl, ?_⟩ | with_reducible refine r_sz ?_))
local macro_rules | `(tactic| walk_at "go") => `(tactic| (repeat walk_at "g1"))
variable {P : Program} {w : World} {K : PySem.W.Frag} {mg : Str → Option Value} {A : Ad} {base : Heap}
/-! rows_of, the page. -/
def cellD (ds : List Dd) (x y : Int) : Int := ds.foldl (fun old d => if inD x y d then inkD d else old) 0
def rowI (ds : List Dd) (y : Int) : List Int := (List.range 6).map fun (x : Nat) => cellD ds x y
def pageD (ds : List Dd) : List (List Int) := (List.range 5).map fun (y : Nat) => rowI ds y
def RowAt (K : PySem.W.Frag) (H : Hp) (v : V) (r : List Int) : Prop := ∃ a, v = .ref a ∧ SqT K H a (r.map V.int)
def PageAt (K : PySem.W.Frag) (H : Hp) (v : V) (pg : List (List Int)) : Prop := TupOf (RowAt K) K H v pg
theorem RowAt.tk {K : PySem.W.Frag} {H H' : Hp} {v : V} {r : List Int} (h : RowAt K H v r) (t : Tk K H H') : RowAt K H' v r := by
  obtain ⟨a, rfl, q⟩ := h
  exact ⟨a, rfl, t _ _ q⟩
theorem PageAt.tk {K : PySem.W.Frag} {H H' : Hp} {v : V} {r : List (List Int)} (h : PageAt K H v r) (t : Tk K H H') : PageAt K H' v r := TupOf.tk h t fun _ _ q => q.tk t
theorem cellD_step (ds : List Dd) (d : Dd) (x y : Int) : cellD (ds ++ [d]) x y = if inD x y d then inkD d else cellD ds x y := by
  unfold cellD
  rw [List.foldl_append]
  rfl
theorem rowI_len (ds : List Dd) (y : Int) : (rowI ds y).length = 6 := by
  unfold rowI
  rw [List.length_map, List.length_range]
theorem rowI_at (ds : List Dd) (y : Int) {j : Nat} (h : j < 6) : (rowI ds y)[j]? = some (cellD ds j y) := by
  unfold rowI
  rw [List.getElem?_map, List.getElem?_range h]
  rfl
theorem rowD_len (d : Dd) (y : Int) : (rowD d y).length = 6 := by
  unfold rowD
  rw [List.length_map, List.length_range]
theorem rowD_at (d : Dd) (y : Int) {j : Nat} (h : j < 6) : (rowD d y)[j]? = some (inD j y d) := by
  unfold rowD
  rw [List.getElem?_map, List.getElem?_range h]
  rfl
/-- six ints, each known -/
theorem six {acc : List V} {r : List Int} {f : Nat → Int} (la : acc.length = 6) (lr : r.length = 6) (h : ∀ (j : Nat) (v : V), acc[j]? = some v → v = V.int (f j)) (g : ∀ j : Nat, j < 6 → r[j]? = some (f j)) : acc = r.map V.int := by
  refine List.ext_getElem? fun j => ?_
  by_cases hj : j < 6
  · have hj2 : j < acc.length := by omega
    rw [List.getElem?_eq_getElem hj2, h j _ (List.getElem?_eq_getElem hj2), List.getElem?_map, g j hj]
    rfl
  · rw [List.getElem?_eq_none (by omega), List.getElem?_eq_none (by rw [List.length_map]; omega)]
abbrev spRowsOf (K : PySem.W.Frag) : Sp := Sp5 fun a b c d e H Q => ∃ (dl : Addr) (xs : List V) (ds : List Dd), a = .ref dl ∧ b = .int 6 ∧ c = .int 5 ∧ d = .int 0 ∧ e = .int 0 ∧ H dl = some (.lst xs) ∧ Paired (DdAt K H) xs ds ∧ (∀ d ∈ ds, DOk d) ∧ ∀ v H', Same H H' → PageAt K H' v (pageD ds) → Q v H'
theorem sc_rows_of : FnScope ["deeds", "wide", "high", "left", "top", "found", "y", "row", "x", "deed", "old", "is_inked"] ["deeds", "wide", "high", "left", "top"] (defScope s_rows_of) := ⟨rfl, rfl, rfl, by decide +kernel, rfl, by decide +kernel, by decide +kernel⟩
theorem cal_rows_of (T : Tx w K mg A) : Cal P w K mg base 6 "rows_of_inking" (spRowsOf K) [] := by
  refine calOf T.f_rows_of sc_rows_of (fun _ _ _ _ _ _ us hl => match us, hl with | [_, _, _, _, _], _ => rfl) Sp5.len fun f cdv Ar outer s H vs Q E hr h => ?_
  obtain ⟨_, _, _, _, _, rfl, dl, xs, ds, rfl, rfl, rfl, rfl, rfl, el, pd, dok, q⟩ := h
  refine ⟨_, (pss_cons (ps_set (i := 5) sc_rows_of.nd rfl (.inl rfl) (pe_lst pa_nil))
    (pss_cons (ps_for PassesOwn.never rfl (pi_range2 rfl T.n_range (pa_cons (pv 4) (pa_cons (pe_op op_add (pv 4) (pv 2)) pa_nil))) (pg_name (i := 6) sc_rows_of.nd rfl (.inl rfl))
    (pss_cons (ps_setLc (i := 7) (own := [("x", 8)]) (g := (gName 8)) (tt := tYes) rfl sc_rows_of.nd rfl rfl (sw_true rfl rfl rfl (by decide +kernel)) (pi_range1 rfl T.n_range (pa_cons (pv 1) pa_nil)) (blkOk_by (N := ["deeds", "wide", "high", "left", "top", "found", "y", "row", "x", "deed", "old", "is_inked"]) (sc := defScope s_rows_of) (by decide +kernel)) (fun _ _ _ _ _ => (pg_name (i := 8) sc_rows_of.nd rfl (.inl rfl))) (fun _ _ _ _ _ => pts_nil) (fun _ _ _ _ _ => pe_int))
    (pss_cons (ps_for PassesOwn.never rfl (pi_list (pv 0)) (pg_name (i := 9) sc_rows_of.nd rfl (.inr rfl))
    (pss_one (ps_setLc (i := 7) (own := [("old", 10), ("is_inked", 11)]) (g := (gTup K 2 (gCons (gName 10) (gCons (gName 11) gNil)))) (tt := tYes) rfl sc_rows_of.nd rfl rfl (sw_true rfl rfl rfl (by decide +kernel)) (pi_zip rfl T.n_zip (pa_cons (pv 7) (pa_cons (pe_c (cal_row_of T) hr (by decide) rfl (pa_cons (pv 9) (pa_cons (pv 3) (pa_cons (pv 1) (pa_cons (pv 6) pa_nil))))) pa_nil))) (blkOk_by (N := ["deeds", "wide", "high", "left", "top", "found", "y", "row", "x", "deed", "old", "is_inked"]) (sc := defScope s_rows_of) (by decide +kernel)) (fun _ _ _ _ _ => (pg_tup rfl (pgs_cons (pg_name (i := 10) sc_rows_of.nd rfl (.inl rfl)) (pgs_cons (pg_name (i := 11) sc_rows_of.nd rfl (.inl rfl)) pgs_nil)))) (fun _ _ _ _ _ => pts_nil) (fun _ _ _ _ _ => (pe_ifExp (pt_val (pv 11)) (pe_c (cal_ink_of T) hr (by decide) rfl (pa_cons (pv 9) pa_nil)) (pv 10))))))
    (pss_one (ps_expr (pe_bm PySem.F.plainAttrs_list PySem.F.slot_list_append PySem.F.type_list_append mt_append (pv 5) (pa_cons (pe_callTy call_tuple_of rfl T.n_tuple (by decide +kernel) (pa_cons (pv 7) pa_nil)) pa_nil)))))))
    (pss_one (ps_ret (pe_callTy call_tuple_of rfl T.n_tuple (by decide +kernel) (pa_cons (pv 5) pa_nil)))))), ?_⟩
  walk_at "go"
  intro l fl
  generalize g1 : upd _ _ _ = H1
  have ⟨s1, e1⟩ := nw g1 fl
  have nl : l ≠ dl := (ne_of_none el fl).symm
  have el1 := s1 _ _ el
  have pd1 := pImp (fun _ _ (z : DdAt K H _ _) => z.tk (Same.tk s1)) pd
  have lx := pLen pd
  walk_at "go"
  refine ⟨⟨by decide, by decide, by decide, by decide⟩, ?_⟩
  refine for_it walk_range (fun i σ H' => ∃ acc z6 z7 z8 z9 z10 z11, σ = [some (.ref dl), some (.int 6), some (.int 5), some (.int 0), some (.int 0), some (.ref l), z6, z7, z8, z9, z10, z11] ∧ Bu l H1 H' ∧ Tk K H1 H' ∧ H' l = some (.lst acc) ∧ Paired (RowAt K H') acc ((List.range i).map fun (y : Nat) => rowI ds y)) ⟨[], _, _, _, _, _, _, rfl, Bu.refl _, Tk.refl _, e1, .nil⟩ (fun _ _ _ _ _ => trivial) ?_ ?_
  · rintro i x σ H2 H2' hi ⟨acc, z6, z7, z8, z9, z10, z11, rfl, b2, tk2, el2, pa2⟩ ⟨rfl, hx0⟩
    have hi5 : i < 5 := hi
    obtain rfl : x = V.int (i : Int) := by
      rw [hx0]
      show V.int (0 + (i : Int)) = _
      rw [Int.zero_add]
    have ed2 := b2 _ _ nl.symm el1
    have pd2 := pImp (fun _ _ (z : DdAt K H1 _ _) => z.tk tk2) pd1
    walk_at "go"
    refine ⟨by decide, by decide, ?_⟩
    intro D fD
    refine lc_all (K := K) walk_range fD (by have := sz1000; show (6 : Nat) ≤ _; omega) (fun i v _ => v = .int 0) (fun _ _ _ _ _ _ h => h) (fun _ _ => trivial) ?_ ?_
    · rintro j x H3 H3' N M hj sh ⟨rfl, hx0⟩ hN
      walk_at "go"
      exact hN _ _ (Same.refl _) rfl
    · intro H3 acc0 s3 ea la ra
      have e0 : acc0 = (rowI [] i).map V.int := six (f := fun _ => 0) la (rowI_len _ _) ra fun j hj => rowI_at [] i hj
      rw [e0] at ea
      have ed3 := s3 _ _ ed2
      walk_at "go"
      refine r_ll ed3 ?_
      refine for_it (walk_list (xs := xs)) (fun j σ H' => ∃ r z8 z9 z10 z11, σ = [some (.ref dl), some (.int 6), some (.int 5), some (.int 0), some (.int 0), some (.ref l), some (.int i), some (.ref r), z8, z9, z10, z11] ∧ Same H2' H' ∧ H' r = some (.lst ((rowI (ds.take j) i).map V.int))) ⟨D, _, _, _, _, rfl, s3, ea⟩ (fun j σ H' _ ⟨_, _, _, _, _, _, sh, _⟩ => seqL (sh _ _ ed2)) ?_ ?_
      · rintro j x σ H4 H4' hj ⟨r, z8, z9, z10, z11, rfl, s4, er⟩ ⟨rfl, hx⟩
        have hj' : j < ds.length := by omega
        have hdj : ds[j]? = some ds[j] := List.getElem?_eq_getElem hj'
        have dm := dok _ (List.getElem_mem hj')
        have tk : ds.take (j + 1) = ds.take j ++ [ds[j]] := by rw [List.take_add_one, hdj, Option.toList_some]
        generalize ds[j] = d at hdj dm tk
        have hd := (pAt pd2 hx hdj).tk (Same.tk s4)
        walk_at "go"
        refine ⟨d, i, hd, rfl, rfl, rfl, dm, by omega, by omega, fun l5 H5 s5 f5 e5 => ?_⟩
        have er5 := s5 _ _ er
        walk_at "go"
        refine ⟨r, l5, _, _, rfl, seqL er5, seqL e5, ?_⟩
        intro D6 fD6
        refine lc_all (K := K) (walk_zip (xs := (rowI (ds.take j) i).map V.int) (ys := (rowD d i).map V.bl) (n := 6) (by rw [List.length_map, List.length_map, rowI_len, rowD_len]; rfl)) fD6 (by have := sz1000; omega) (fun k v _ => v = .int (if inD k i d then inkD d else cellD (ds.take j) k i)) (fun _ _ _ _ _ _ h => h) (fun H' s' => ⟨seqL (s' _ _ er5), seqL (s' _ _ e5)⟩) ?_ ?_
        · rintro k x H6 H7 N M hk s6 ⟨t, u, v, rfl, ft, rfl, hu, hv⟩ hN
          generalize g7 : upd _ _ _ = H7
          have ⟨s7, e7⟩ := nwT g7 ft
          have e7' := e7 K
          have hd7 := hd.tk (Same.tk (s5.trans (s6.trans s7)))
          have eu : u = .int (cellD (ds.take j) k i) := by
            replace hu : ((rowI (ds.take j) i).map V.int)[k]? = some u := hu
            rw [List.getElem?_map, rowI_at _ _ hk] at hu
            cases hu
            rfl
          have ev : v = .bl (inD k i d) := by
            replace hv : ((rowD d i).map V.bl)[k]? = some v := hv
            rw [List.getElem?_map, rowD_at _ _ hk] at hv
            cases hv
            rfl
          subst eu ev
          refine r_gt e7' rfl ?_
          walk_at "go"
          cases hb : inD k i d with
          | true =>
            refine itP rfl ?_
            walk_at "go"
            refine ⟨d, hd7, ?_⟩
            exact hN _ _ s7 (by rw [hb]; rfl)
          | false =>
            refine itN (by decide) ?_
            walk_at "go"
            exact hN _ _ s7 (by rw [hb]; rfl)
        · intro H6 acc6 s6 ea6 la6 ra6
          have e6 : acc6 = (rowI (ds.take (j + 1)) i).map V.int := six (f := fun (k : Nat) => if inD k i d then inkD d else cellD (ds.take j) k i) la6 (rowI_len _ _) ra6 fun k hk => by rw [rowI_at _ _ hk, tk, cellD_step]
          rw [e6] at ea6
          walk_at "go"
          exact ⟨D6, _, _, _, _, rfl, s4.trans (s5.trans s6), ea6⟩
      · rintro σ H4 ⟨r, z8, z9, z10, z11, rfl, s4, er⟩
        rw [List.take_of_length_le (by omega)] at er
        have el4 := s4 _ _ el2
        walk_at "go"
        refine ⟨r, _, rfl, .inl ⟨seqL er, fun p5 f5 => ?_⟩⟩
        generalize g5 : upd _ _ _ = H5
        have ⟨s5, e5⟩ := nwT g5 f5
        have el5 := s5 _ _ el4
        have la := pLen pa2
        walk_at "go"
        refine r_app el5 (by have := sz2M; rw [List.length_map, List.length_range] at la; omega) ?_
        generalize g6 : upd _ _ _ = H6
        have tk6 : Tk K H5 H6 := by
          rw [← g6]
          exact Tk.lst el5
        have e6 : H6 l = some (.lst (acc ++ [.ref p5])) := by
          rw [← g6]
          exact upd_same
        have s25 := s4.trans s5
        walk_at "go"
        refine ⟨_, _, _, _, _, _, _, rfl, b2.trans ((Bu.same s25).trans (Bu.upd g6)), tk2.trans ((Same.tk s25).trans tk6), e6, ?_⟩
        rw [List.range_succ, List.map_append]
        exact pApp (pImp (fun _ _ (z : RowAt K H2' _ _) => z.tk ((Same.tk s25).trans tk6)) pa2) (.cons ⟨p5, rfl, tk6 _ _ (e5 K)⟩ .nil)
  · rintro σ H2 ⟨acc, z6, z7, z8, z9, z10, z11, rfl, b2, tk2, el2, pa2⟩
    walk_at "go"
    refine ⟨l, _, rfl, .inl ⟨seqL el2, fun p5 f5 => ?_⟩⟩
    generalize g5 : upd _ _ _ = H5
    have ⟨s5, e5⟩ := nwT g5 f5
    exact q _ H5 ((Bu.new s1 fl b2).trans s5) ⟨p5, acc, rfl, e5 K, pImp (fun _ _ (z : RowAt K H2 _ _) => z.tk (Same.tk s5)) pa2⟩
abbrev spPage (K : PySem.W.Frag) (A : Ad) : Sp := Sp1 fun m H Q => ∃ M wa W, m = .ref M ∧ DAt K A H M wa W ∧ (∀ d ∈ W.inks, DOk d) ∧ ∀ v H', Same H H' → PageAt K H' v (pageD W.inks) → Q v H'
theorem sc_Machine_page : FnScope ["self"] ["self"] (defScope s_Machine_page) := ⟨rfl, rfl, rfl, by decide +kernel, rfl, by decide +kernel, by decide +kernel⟩
theorem met_Machine_page (T : Tx w K mg A) : Met P w K mg base 7 A.Machine "page" (spPage K A) [] := by
  refine metOf T.c_Machine T.m_Machine_page sc_Machine_page (fun _ _ _ _ _ _ us hl => match us, hl with | [_], _ => rfl) Sp1.len fun f cdv Ar outer s H vs Q E hr h => ?_
  obtain ⟨_, rfl, M, wa, W, rfl, hD, dok, q⟩ := h
  refine ⟨_, (pss_one (ps_ret (pe_c (cal_rows_of T) hr (by decide) rfl (pa_cons (pe_fld (pe_fld (pv 0) rfl) rfl) (pa_cons (pe_fld (pv 0) rfl) (pa_cons (pe_fld (pv 0) rfl) (pa_cons pe_int (pa_cons pe_int pa_nil)))))))), ?_⟩
  obtain ⟨mdx, fr, left, run, ah, past, la, em⟩ := hD.m
  obtain ⟨dx, r, sc, shv, sv, ms, ew⟩ := hD.w.w
  obtain ⟨xi, ei, pi⟩ := hD.w.ik
  walk_at "go"
  exact ⟨wa.ik, xi, W.inks, rfl, rfl, rfl, rfl, rfl, ei, pi, dok, q⟩
end
section
local macro_rules | `(tactic| walk_at "fld") => `(tactic| (refine fkT (w := ?w) (K := ?K) (mg := ?mg) (A := ?A) ?t ?e ?h; (case t => assumption); (case e => exact rfl); (case h => first | with_reducible exact g_Look_matrix (by assumption) | with_reducible exact g_Look_path (by assumption) | with_reducible exact g_Look_ink (by assumption) | with_reducible exact g_Look_width (by assumption) | with_reducible exact g_Look_clips (by assumption) | with_reducible exact g_Look_font (by assumption) | with_reducible exact g_World_operands (by assumption) | with_reducible exact g_World_rooms (by assumption) | with_reducible exact g_World_scopes (by assumption) | with_reducible exact g_World_look (by assumption) | with_reducible exact g_World_kept (by assumption) | with_reducible exact g_World_sheets (by assumption) | with_reducible exact g_World_inkings (by assumption) | with_reducible exact g_World_saves (by assumption) | with_reducible exact g_World_many_saves (by assumption) | with_reducible exact g_Items_body (by assumption) | with_reducible exact g_Items_at (by assumption) | with_reducible exact g_Reader_text (by assumption) | with_reducible exact g_Reader_at (by assumption) | with_reducible exact g_Reader_row (by assumption) | with_reducible exact g_Reader_column (by assumption) | with_reducible exact g_Reader_deep (by assumption) | with_reducible exact g_Machine_wide (by assumption) | with_reducible exact g_Machine_high (by assumption) | with_reducible exact g_Machine_most (by assumption) | with_reducible exact g_Machine_world (by assumption) | with_reducible exact g_Machine_frames (by assumption) | with_reducible exact g_Machine_left (by assumption) | with_reducible exact g_Machine_told (by assumption) | with_reducible exact g_Machine_is_running (by assumption) | with_reducible exact g_Machine_ahead (by assumption) | with_reducible exact g_Machine_past (by assumption) | with_reducible exact g_Machine_later (by assumption))))
/-- as many steps as go by themselves -/
local macro_rules | `(tactic| walk_at "g1") => `(tactic| (first
  | with_reducible refine r_seq ?_ | with_reducible refine r_set ?_ | with_reducible refine r_asg ?_ | with_reducible refine r_sl ?_ | with_reducible refine r_np ?_ | with_reducible refine r_pt ?_ | with_reducible refine r_gn ?_ | with_reducible refine r_gc ?_ | with_reducible refine r_g0 ?_ | ((with_reducible refine r_gt (xs := ?xs) ?h ?g ?_); (case h => assumption); (case g => exact rfl)) | with_reducible refine r_ret ?_ | with_reducible refine r_if ?_ | with_reducible refine r_test ?_ | with_reducible refine r_B ?_ | with_reducible refine r_and ?_ | with_reducible refine r_or ?_ | with_reducible refine r_not ?_
  | with_reducible refine r_andV ?_ | with_reducible refine r_orV ?_ | with_reducible refine r_notV ?_ | with_reducible refine r_ifx ?_ | with_reducible refine r_op ?_ | with_reducible refine r_un ?_ | with_reducible refine r_U ?_ | with_reducible refine r_c ?_ | with_reducible refine r_I0 ?_ | with_reducible refine r_drop ?_ | with_reducible refine r_next ?_
  | ((with_reducible refine r_var (v := ?v) ?h ?_); (case h => exact rfl)) | with_reducible refine r_bl ?_ | with_reducible refine r_nil ?_ | with_reducible refine r_cons ?_ | with_reducible refine r_cb ?_ | with_reducible refine r_call ?_ | ((with_reducible refine r_gl (xs := ?xs) ?h ?g ?_); (case h => assumption); (case g => exact rfl)) | with_reducible refine r_sm1 ?_ | with_reducible refine r_sm2 ?_ | with_reducible refine r_sm3 ?_ | with_reducible refine r_ch ?_ | with_reducible refine r_bm ?_ | with_reducible refine r_bm0 ?_ | ((with_reducible refine r_ty (xs := ?xs) ?e ?_); (case e => assumption)) | with_reducible refine r_mkU ?_ | with_reducible refine r_mt0 ?_ | with_reducible refine r_yes ?_ | with_reducible refine iteT ?_ | with_reducible refine iteF ?_ | with_reducible refine r_spk ?_ | with_reducible refine r_sp1 ?_ | with_reducible refine r_sp2 ?_ | with_reducible refine r_sp3 ?_ | with_reducible refine r_sp4 ?_ | with_reducible refine r_sp5 ?_
  | with_reducible refine r_tup ?_ | with_reducible refine r_lst ?_ | with_reducible refine r_par ?_ | with_reducible refine r_par2 ?_ 
  | ((with_reducible refine r_eq ?h ?_); (case h => exact rfl)) | ((with_reducible refine r_ne ?h ?_); (case h => exact rfl))
  | ((with_reducible refine r_ixT (xs := ?xs) (v := ?v) ?h ?g ?_); (case h => assumption); (case g => first | exact at0 | exact at1))
  | ((with_reducible refine r_fl (i := ?i) (nm := ?nm) (C := ?C) (dx := ?dx) (vs := ?vs) (v := ?v) ?ok ?e ?hv ?_); (case e => assumption); (case ok => walk_at "fld"); (case hv => rfl)) | with_reducible refine r_for ?_ | with_reducible refine r_il ?_ | with_reducible refine r_it ?_ | with_reducible refine r_iz ?_ | with_reducible refine r_ir1 ?_ | with_reducible refine r_ir2 ?_ | with_reducible refine r_lc ?_ | with_reducible refine r_sFld ?_ | with_reducible refine r_ck ?_ | with_reducible refine r_fld ?_ | with_reducible refine ⟨_, rfl, ?_⟩ | with_reducible refine ⟨_, _, rfl, .inr (by with_unfolding_all assumption), ?_⟩ | with_reducible refine ⟨_, _, rfl, .inl (seqL (by assumption)), ?_⟩ | with_reducible refine ⟨_, _, rfl, rfl, ?_⟩ | with_reducible refine ⟨_, _, rfl, ?_⟩ | with_reducible refine ⟨rfl, ?_⟩ | with_reducible refine r_sz ?_))
local macro_rules | `(tactic| walk_at "go") => `(tactic| (repeat walk_at "g1"))
variable {P : Program} {w : World} {K : PySem.W.Frag} {mg : Str → Option Value} {A : Ad} {base : Heap}
-- needs: P40_Rows KE.GoesEnum
/-! enumerate(tuple); x in a tuple of data. -/
/-- the tuple at a, each item in a new pair -/
def IteT (K : PySem.W.Frag) (a : Addr) : It :=
  ⟨fun i H => ∃ (xs : List V) (x : V), SqT K H a xs ∧ xs[i]? = some x, fun i H v H' => ∃ T x, v = .ref T ∧ H T = none ∧ H' = upd H T (.tup [.int (i : Nat), x]) ∧ ∀ xs, SqT K H a xs → xs[i]? = some x, fun i H => ∃ xs : List V, SqT K H a xs ∧ xs.length ≤ i⟩
theorem turn_enumT {P : Program} {w : World} {K : PySem.W.Frag} {elts : List Expr} {kk : Nat} {tpos : Pos} (a e it : Addr) :
    Turn P w K (.Tuple elts kk tpos) (IteT K a) [e, it] e (fun i h => (∃ old, IsEnum h e it ((i : Nat) : Int) old) ∧ h.IsTupleIter it a i ∧ e ≠ it ∧ a ≠ it ∧ a ≠ e) where
  mem := by simp
  obj := fun i h st b hb => by
    obtain ⟨⟨old, he⟩, ⟨o, ho, hc, hd⟩, _⟩ := st
    have e' : b = e ∨ b = it := by simpa using hb
    rcases e' with z | z
    · rw [z]; exact ⟨_, he, fun v q => nomatch q⟩
    · rw [z]; exact ⟨o, ho, fun v q => by rw [hd] at q; cases q⟩
  keep := fun i h h' st k => let ⟨⟨old, he⟩, hi, hne⟩ := st; ⟨⟨old, k e (by simp) _ he⟩, hi.at fun o q => k it (by simp) o q, hne⟩
  item := by
    intro X hP hw hK hc i pins s σ H E I hf st hg
    subst hP hw hK
    obtain ⟨⟨old, he⟩, hit, hne, nai, nae⟩ := st
    obtain ⟨xs, x, hq, hx⟩ := hg
    obtain ⟨its, rv, p, hz⟩ := I.tuple hq
    obtain ⟨u, hu, ru⟩ := rv.get hx
    have hel : e < s.heap.objs.size := Heap.lt_size he
    have hil : it < s.heap.objs.size := by obtain ⟨_, q, _⟩ := hit; exact Heap.lt_size q
    have hiu : its.toArray[i]? = some u := by simpa using hu
    have hlt : i < its.toArray.size := (Array.getElem?_eq_some_iff.mp hiu).1
    refine wpAny_pyNext_enum_itemC (Draws.tuple (A := X.A.in1) (I.ok.hd hc) it a nai its.toArray) he ⟨hit, p⟩ hlt hne (by simp [hne, Ne.symm nae]) fun y h' tk hy ho hst' hT hsz hk => ?_
    have ey : y = u := by
      have z : its.toArray[i]? = some y := hy
      rw [hiu] at z
      exact (Option.some.inj z).symm
    subst ey
    refine ⟨_, rfl, wpAny_letOwnedTupleGo_enum (s := { s with heap := h', toks := tk + 1 }) ho fun h'' he' sb => ?_⟩
    have hT2 : h''.get? s.heap.objs.size = some { cls := .type "tuple", data := .seq #[.int i tk, y] } := (sb.2 _ (Nat.ne_of_gt hel)).trans hT
    have new : ObjOk X.prog X.w (upd H s.heap.objs.size (.tup [.int (i : Nat), x])) h'' s.heap.objs.size (.tup [.int (i : Nat), x]) :=
      ⟨by show 2 ≤ sizeLine; decide, [.int i tk, y], .cons ⟨_, rfl⟩ (.cons ru .nil), ⟨_, hT2, rfl, _, rfl⟩⟩
    have I1 : Inv X pins σ (upd H s.heap.objs.size (.tup [.int (i : Nat), x])) { s with heap := h'', toks := tk + 1 } :=
      I.turnedNew (ch := [e, it]) (fun b ob hb q => (sb.2 b (fun z => hb (by simp [z]))).trans (hk b ob (fun z => hb (by simp [z])) (fun z => hb (by simp [z])) q)) hf (Nat.le_refl _) new
    refine ⟨.ref s.heap.objs.size, _, I1, rfl, ⟨_, x, rfl, I.hok.fresh (Nat.le_refl _), rfl, fun ys hy => by rw [I.tuple_inj hy hq]; exact hx⟩, ⟨⟨y, ?_⟩, hst'.1.at fun o q => (sb.2 it (Ne.symm hne)).trans q, hne, nai, nae⟩, fun b hb => ?_⟩
    · have e1 : ((i + 1 : Nat) : Int) = (i : Int) + 1 := by omega
      rw [e1]; exact he'
    · have hb' : b < s.heap.objs.size := by
        have e' : b = e ∨ b = it := by simpa using hb
        rcases e' with z | z
        · rw [z]; exact hel
        · rw [z]; exact hil
      rw [upd_ne (Nat.ne_of_lt hb')]
      exact (hf b hb).1
  done := by
    intro X hP hw hK hc i pins s σ H E I hf st hg
    subst hP hw hK
    obtain ⟨⟨old, he⟩, hit, hne, nai, nae⟩ := st
    obtain ⟨xs, hq, hx⟩ := hg
    obtain ⟨its, rv, p, hz⟩ := I.tuple hq
    obtain ⟨f0, f1, f2, f3, f4, f5⟩ := hf it (by simp)
    have hl := rv.length
    have tz : s.TypeIs (.ref e) "enumerate" := ⟨_, he, rfl⟩
    unfold pyNext
    refine wpAny_bind (wpAny_attempt (wpAny_callSpecial?_slot (name := Str.ofString "__next__") tz PySem.F.slot_enumerate_next
      (wpAny_call_entry PySem.F.slot_enumerate_next tz PySem.F.entry_enumerate_next ?_ (PySem.F.args_enumerate_next_1 _))))
    show wpAny _ _ (field (.ref e) 2 >>= _) _ _ _
    refine wpAny_bind (wpAny_field he rfl (x := .ref it) rfl ?_)
    refine wpAny_bind (wpAny_nextOf_tuple_end (I.ok.hd hc) hit p (by simp; omega) fun h' x he' hx' => ?_)
    obtain ⟨o, ho, hcl⟩ := hx'
    refine wpAny_bind (wpAny_isInstance (T := "StopIteration") (b := true) ⟨o, ho, hcl⟩ isSubtype_stop ?_)
    exact wpAny_pure ⟨rfl, I.turned (t' := s.toks) (fun b o hb q => he' b o hb q) f0 f1 f3 f4 f5⟩
  self := fun A i s Q E st h => let ⟨⟨_, he⟩, _⟩ := st; wpAny_pyIter_enum he h
theorem meets_enumT {l : Addr} {items : Array Value} :
    Meets (Builtin.«enumerate.__new__» ⟨[.type "enumerate", .ref l], []⟩) (fun _ R s => s.heap.IsTuple l items ∧
      R (.ok (.ret (.ref (s.heap.push { cls := .type "tuple_iterator", data := .fields #[.ref l, .int 0 0] }).objs.size)))
        { s with heap := (s.heap.push { cls := .type "tuple_iterator", data := .fields #[.ref l, .int 0 0] }).push { cls := .type "enumerate", data := .fields #[.none, .bool false, .ref s.heap.objs.size, rawInt 0, .none, .none] } }) :=
  .of_wp fun prog w A R s h => by
    obtain ⟨hp, g, d, tk, os⟩ := s; obtain ⟨hl, h⟩ := h
    have hsub := sub_enumerate
    have hL : Heap.IsTuple (Shared.heap ⟨hp, g, d, tk, os⟩) l items := hl
    wp_walk using wpAny_pyIter_tuple hL
    refine wpAny_stack_any fun st => wpAny_pure ?_
    split
    · rename_i c _ _ _ _ _
      cases (c == Value.type "enumerate")
      · wp_walk using wpAny_pyIter_tuple hL
        exact ⟨_, rfl, h⟩
      · wp_walk using wpAny_pyIter_tuple hL
        exact ⟨_, rfl, h⟩
    · wp_walk using wpAny_pyIter_tuple hL
      exact ⟨_, rfl, h⟩
theorem call_enumT {P : Program} {w : World} {AA : Around} {E : Value → Shared → Prop} {s : Shared} {l : Addr} {items : Array Value} {Q : Value → Shared → Prop} (hL : s.heap.IsTuple l items)
    (h : ∀ h', IsEnum h' (s.heap.objs.size + 1) s.heap.objs.size 0 .none → h'.IsTupleIter s.heap.objs.size l 0 → h'.objs.size = s.heap.objs.size + 2 →
      (∀ b o, s.heap.get? b = some o → h'.get? b = some o) → Q (.ref (s.heap.objs.size + 1)) { s with heap := h' }) :
    wpAny (model P w) AA (call (.type "enumerate") [.ref l]) Q E s := by
  refine callType_new PySem.F.called_enumerate (by decide) (PySem.F.typeCall_enumerate_1 _) (PySem.F.newCall_enumerate_1 _) (fun obj => PySem.F.args_object_init_2 obj _) PySem.F.entry_enumerate_new
    (meets_enumT (l := l) (items := items)) ⟨hL, ?_⟩
  have hz : (s.heap.push { cls := .type "tuple_iterator", data := .fields #[.ref l, .int 0 0] }).objs.size = s.heap.objs.size + 1 := Heap.size_push ..
  show _ ∧ _
  rw [hz]
  have he : IsEnum ((s.heap.push { cls := .type "tuple_iterator", data := .fields #[.ref l, .int 0 0] }).push
      { cls := .type "enumerate", data := .fields #[.none, .bool false, .ref s.heap.objs.size, rawInt 0, .none, .none] }) (s.heap.objs.size + 1) s.heap.objs.size 0 .none := by
    have := Heap.get?_push_size (s.heap.push { cls := .type "tuple_iterator", data := .fields #[.ref l, .int 0 0] })
      (o := { cls := .type "enumerate", data := .fields #[.none, .bool false, .ref s.heap.objs.size, rawInt 0, .none, .none] }) rfl
    rw [hz] at this; exact this
  refine ⟨⟨_, he, rfl⟩, h _ he ⟨_, Heap.get?_push_of_some _ (Heap.get?_push_size _ rfl), rfl, rfl⟩ (by rw [Heap.size_push, hz]) fun b o x => Heap.get?_push_of_some _ (Heap.get?_push_of_some _ x)⟩
def iEnumT (K : PySem.W.Frag) (ta : TA) : TI := fun σ H R => ta σ H fun vs H1 => ∃ a xs, vs = [.ref a] ∧ SqT K H1 a xs ∧ R (IteT K a) H1
theorem pi_enumT {X : Cx} {e : Expr} {ta : TA} {p pos tpos : Pos} {elts : List Expr} {kk : Nat} (hg : Gl X "enumerate") (hm : X.mg "enumerate" = none) (ha : PA X [e] ta) (hs : starEach [e] X.env = [(false, eval e X.env)] := by rfl) :
    PI X (.Tuple elts kk tpos) (.Call (.Name "enumerate" p) [e] [] pos) (iEnumT X.K ta) := by
  refine ⟨fun pins s σ H R I h => ?_⟩
  refine Call_ (ld_blt I hg hm boot_enumerate (PyProof.Rows.callWith_type1 (thn (ha.run pos pins s σ H _ I h) fun us s1 ⟨vs, H1, I1, r1, q1⟩ => ?_) hs rfl))
  obtain ⟨a, xs, ex, hq, q⟩ := q1
  subst ex
  cases r1 with
  | cons r rr =>
    cases rr
    cases r
    obtain ⟨its, rv, p', hz⟩ := I1.tuple hq
    have hal : a < s1.heap.objs.size := by
      obtain ⟨o, ho, _⟩ := id p'
      exact Heap.lt_size ho
    refine call_enumT (show s1.heap.IsTuple a its.toArray from p') fun h' he hit hsz hk => wpAny_pyIter_enum he ?_
    have I2 : Inv X pins σ H1 { s1 with heap := h' } := I1.kept (t' := s1.toks) hk
    refine ⟨s1.heap.objs.size + 1, [s1.heap.objs.size + 1, s1.heap.objs.size], _, _, H1, rfl, I2, turn_enumT a (s1.heap.objs.size + 1) s1.heap.objs.size, ⟨⟨.none, he⟩, hit, Nat.succ_ne_self _, Nat.ne_of_lt hal, Nat.ne_of_lt (Nat.lt_succ_of_lt hal)⟩, fun b hb => ?_, q⟩
    have e' : b = s1.heap.objs.size + 1 ∨ b = s1.heap.objs.size := by simpa using hb
    have hle : s1.heap.objs.size ≤ b := by
      rcases e' with z | z
      · rw [z]; exact Nat.le_add_right _ _
      · rw [z]; exact Nat.le_refl _
    exact I1.fpOk hle (I1.hok.fresh hle)
theorem walk_enumT {K : PySem.W.Frag} {a : Addr} {xs : List V} : Walk (IteT K a) xs.length (fun H => SqT K H a xs) (YPair (fun i => some (.int (i : Nat))) (fun i => xs[i]?)) := by
  refine ⟨fun i _ hi q => ⟨xs, xs[i], q, by simp [hi]⟩, fun _ q => ⟨xs, q, Nat.le_refl _⟩, fun i H v H' _ q y => ?_⟩
  obtain ⟨T, x, h1, h2, h3, h4⟩ := y
  exact ⟨T, .int (i : Nat), x, h1, h2, h3, rfl, h4 xs q⟩
theorem r_ient {K : PySem.W.Frag} {ta : TA} {σ : L2.St} {H : Hp} {R : It → Hp → Prop} (h : ta σ H fun vs H1 => ∃ a xs, vs = [.ref a] ∧ SqT K H1 a xs ∧ R (IteT K a) H1) : iEnumT K ta σ H R := h
/-- x in a tuple of data -/
def rInT (K : PySem.W.Frag) : R2 := fun x y H Q => ∃ d ds, Dp K H x d ∧ Dp K H y (.tuple ds) ∧ SeqAt.shaped d = true ∧ SeqAt.shaped (.tuple ds) = true ∧ Q (.bl (ds.any fun z => PyData.eqv z d)) H
theorem op_inT {X : Cx} (hu : X.A.units + 65 < cLine) : OpR X (compareOp .In) (rInT X.K) := by
  intro pins s σ H x y v u Q I rx ry h
  obtain ⟨d, ds, hd, he, sd, se, q⟩ := h
  obtain ⟨as, r1⟩ := Dp.reads I d x v hd rx
  obtain ⟨bs, r2⟩ := Dp.reads I (.tuple ds) y u he ry
  exact SeqAt.in_tuple_reads r2 r1 (SeqAt.canLay_of_shaped se) (SeqAt.canLay_of_shaped sd) (room_in_shaped sd hu) ⟨.bl _, H, I, rfl, q⟩
end
section
local macro_rules | `(tactic| walk_at "fld") => `(tactic| (refine fkT (w := ?w) (K := ?K) (mg := ?mg) (A := ?A) ?t ?e ?h; (case t => assumption); (case e => exact rfl); (case h => first | with_reducible exact g_Look_matrix (by assumption) | with_reducible exact g_Look_path (by assumption) | with_reducible exact g_Look_ink (by assumption) | with_reducible exact g_Look_width (by assumption) | with_reducible exact g_Look_clips (by assumption) | with_reducible exact g_Look_font (by assumption) | with_reducible exact g_World_operands (by assumption) | with_reducible exact g_World_rooms (by assumption) | with_reducible exact g_World_scopes (by assumption) | with_reducible exact g_World_look (by assumption) | with_reducible exact g_World_kept (by assumption) | with_reducible exact g_World_sheets (by assumption) | with_reducible exact g_World_inkings (by assumption) | with_reducible exact g_World_saves (by assumption) | with_reducible exact g_World_many_saves (by assumption) | with_reducible exact g_Items_body (by assumption) | with_reducible exact g_Items_at (by assumption) | with_reducible exact g_Reader_text (by assumption) | with_reducible exact g_Reader_at (by assumption) | with_reducible exact g_Reader_row (by assumption) | with_reducible exact g_Reader_column (by assumption) | with_reducible exact g_Reader_deep (by assumption) | with_reducible exact g_Machine_wide (by assumption) | with_reducible exact g_Machine_high (by assumption) | with_reducible exact g_Machine_most (by assumption) | with_reducible exact g_Machine_world (by assumption) | with_reducible exact g_Machine_frames (by assumption) | with_reducible exact g_Machine_left (by assumption) | with_reducible exact g_Machine_told (by assumption) | with_reducible exact g_Machine_is_running (by assumption) | with_reducible exact g_Machine_ahead (by assumption) | with_reducible exact g_Machine_past (by assumption) | with_reducible exact g_Machine_later (by assumption))))
/-- as many steps as go by themselves -/
local macro_rules | `(tactic| walk_at "g1") => `(tactic| (first
  | with_reducible refine r_seq ?_ | with_reducible refine r_set ?_ | with_reducible refine r_asg ?_ | with_reducible refine r_sl ?_ | with_reducible refine r_np ?_ | with_reducible refine r_pt ?_ | with_reducible refine r_gn ?_ | with_reducible refine r_gc ?_ | with_reducible refine r_g0 ?_ | ((with_reducible refine r_gt (xs := ?xs) ?h ?g ?_); (case h => assumption); (case g => exact rfl)) | with_reducible refine r_ret ?_ | with_reducible refine r_if ?_ | with_reducible refine r_test ?_ | with_reducible refine r_B ?_ | with_reducible refine r_and ?_ | with_reducible refine r_or ?_ | with_reducible refine r_not ?_
  | with_reducible refine r_andV ?_ | with_reducible refine r_orV ?_ | with_reducible refine r_notV ?_ | with_reducible refine r_ifx ?_ | with_reducible refine r_op ?_ | with_reducible refine r_un ?_ | with_reducible refine r_U ?_ | with_reducible refine r_c ?_ | with_reducible refine r_I0 ?_ | with_reducible refine r_drop ?_ | with_reducible refine r_next ?_
  | ((with_reducible refine r_var (v := ?v) ?h ?_); (case h => exact rfl)) | with_reducible refine r_bl ?_ | with_reducible refine r_nil ?_ | with_reducible refine r_cons ?_ | with_reducible refine r_cb ?_ | with_reducible refine r_call ?_ | ((with_reducible refine r_gl (xs := ?xs) ?h ?g ?_); (case h => assumption); (case g => exact rfl)) | with_reducible refine r_sm1 ?_ | with_reducible refine r_sm2 ?_ | with_reducible refine r_sm3 ?_ | with_reducible refine r_ch ?_ | with_reducible refine r_bm ?_ | with_reducible refine r_bm0 ?_ | ((with_reducible refine r_ty (xs := ?xs) ?e ?_); (case e => assumption)) | with_reducible refine r_mkU ?_ | with_reducible refine r_mt0 ?_ | with_reducible refine r_yes ?_ | with_reducible refine iteT ?_ | with_reducible refine iteF ?_ | with_reducible refine r_spk ?_ | with_reducible refine r_sp1 ?_ | with_reducible refine r_sp2 ?_ | with_reducible refine r_sp3 ?_ | with_reducible refine r_sp4 ?_ | with_reducible refine r_sp5 ?_
  | with_reducible refine r_tup ?_ | with_reducible refine r_lst ?_ | with_reducible refine r_par ?_ | with_reducible refine r_par2 ?_ 
  | ((with_reducible refine r_eq ?h ?_); (case h => exact rfl)) | ((with_reducible refine r_ne ?h ?_); (case h => exact rfl))
  | ((with_reducible refine r_ixT (xs := ?xs) (v := ?v) ?h ?g ?_); (case h => assumption); (case g => first | exact at0 | exact at1))
  | ((with_reducible refine r_fl (i := ?i) (nm := ?nm) (C := ?C) (dx := ?dx) (vs := ?vs) (v := ?v) ?ok ?e ?hv ?_); (case e => assumption); (case ok => walk_at "fld"); (case hv => rfl)) | with_reducible refine r_for ?_ | with_reducible refine r_il ?_ | with_reducible refine r_it ?_ | with_reducible refine r_iz ?_ | with_reducible refine r_ir1 ?_ | with_reducible refine r_ir2 ?_ | with_reducible refine r_lc ?_ | with_reducible refine r_sFld ?_ | with_reducible refine r_ck ?_ | with_reducible refine r_fld ?_ | with_reducible refine ⟨_, rfl, ?_⟩ | with_reducible refine ⟨_, _, rfl, .inr (by with_unfolding_all assumption), ?_⟩ | with_reducible refine ⟨_, _, rfl, .inl (seqL (by assumption)), ?_⟩ | with_reducible refine ⟨_, _, rfl, rfl, ?_⟩ | with_reducible refine ⟨_, _, rfl, ?_⟩ | with_reducible refine ⟨rfl, ?_⟩ | with_reducible refine r_sz ?_))
local macro_rules | `(tactic| walk_at "go") => `(tactic| (repeat walk_at "g1"))
variable {P : Program} {w : World} {K : PySem.W.Frag} {mg : Str → Option Value} {A : Ad} {base : Heap}
/-! The law's helpers: _law_drawn, _law_common, _law_made. -/
/-- the script -/
def ScrAt (K : PySem.W.Frag) (H : Hp) (v : V) (ns : List Int) : Prop := ∃ a, v = .ref a ∧ SqL K H a (ns.map V.int) ∧ ns.length ≤ 63
theorem ScrAt.same {K : PySem.W.Frag} {H H' : Hp} {v : V} {ns : List Int} (h : ScrAt K H v ns) (s : Same H H') : ScrAt K H' v ns := by
  obtain ⟨a, rfl, q, l⟩ := h
  exact ⟨a, rfl, s.seq q, l⟩
theorem dps_ints {K : PySem.W.Frag} {H : Hp} : ∀ ns : List Int, DpAll K H (ns.map V.int) (ns.map PyData.int)
  | [] => .nil
  | n :: ns => .cons (.int n) (dps_ints ns)
theorem canInts : ∀ ns : List Int, PyData.canLayAll0 (ns.map PyData.int) = true
  | [] => by simp [PyData.canLayAll0]
  | n :: ns => by simp [PyData.canLayAll0, PyData.canLay0, canInts ns]
theorem depInts : ∀ ns : List Int, PyData.depthAll (ns.map PyData.int) ≤ 1
  | [] => by simp [PyData.depthAll]
  | n :: ns => by
    have := depInts ns
    simp only [List.map_cons, PyData.depthAll, PyData.depth]
    omega
theorem shapedInts (ns : List Int) : SeqAt.shaped (.list (ns.map PyData.int)) = true := by
  have h1 := depInts ns
  have h2 : PyData.depth (.list (ns.map PyData.int)) ≤ 64 := by
    simp only [PyData.depth]
    omega
  show (PyData.canLay0 (.list (ns.map PyData.int)) && decide (PyData.depth (.list (ns.map PyData.int)) ≤ 64)) = true
  rw [Bool.and_eq_true]
  exact ⟨by simp only [PyData.canLay0]; exact canInts ns, decide_eq_true h2⟩
theorem shapedNil : SeqAt.shaped (.list []) = true := by decide +kernel
theorem eqvNil (ns : List Int) : PyData.eqv (.list (ns.map PyData.int)) (.list []) = decide (ns = []) := by
  cases ns with
  | nil => decide +kernel
  | cons n ns =>
    rw [decide_eq_false (by simp)]
    simp [PyData.eqv, PyData.eqvAll]
/-- script != [] -/
theorem r_neScr {K : PySem.W.Frag} {H : Hp} {a l : Addr} {ns : List Int} {Q : VK} (h : SqL K H a (ns.map V.int)) (e : H l = some (.lst [])) (k : Q (.bl (!decide (ns = []))) H) : rNeD K (.ref a) (.ref l) H Q :=
  ⟨.list (ns.map PyData.int), .list [], .lst h (dps_ints ns), .lst (seqL e) .nil, shapedInts ns, shapedNil, by rw [eqvNil]; exact k⟩
abbrev spDrawn (K : PySem.W.Frag) : Sp := Sp3 fun a b c H Q => ∃ (ns : List Int) (k m : Int), ScrAt K H a ns ∧ b = .int k ∧ c = .int m ∧ 0 ≤ k ∧ k < 100000 ∧ 0 < m ∧ ∀ r H', 0 ≤ r → r < m → Same H H' → Q (.int r) H'
theorem sc_law_drawn : FnScope ["_law_script", "_law_k", "_law_many", "_law_cell", "_law_turn", "_law_rest"] ["_law_script", "_law_k", "_law_many"] (defScope s_law_drawn) := ⟨rfl, rfl, rfl, by decide +kernel, rfl, by decide +kernel, by decide +kernel⟩
theorem powOk : CPow 10 18 := ⟨by decide, by decide, by decide⟩
theorem divS {i j : Int} (h : 0 < j) (h2 : j.natAbs < 2 ^ 100) : CDivW i j := wide_div h h2 (by decide) (by decide)
theorem cal_law_drawn (T : Tx w K mg A) : Cal P w K mg base 1 "_law_drawn" (spDrawn K) [] := by
  refine calOf T.f_law_drawn sc_law_drawn (fun _ _ _ _ _ _ us hl => match us, hl with | [_, _, _], _ => rfl) Sp3.len fun f cdv Ar outer s H vs Q E hr h => ?_
  obtain ⟨_, _, _, rfl, ns, k, m, ⟨a, rfl, hs, l63⟩, rfl, rfl, hk0, hk1, hm, q⟩ := h
  have tail : ∃ t, PSs (cxOf C8.CX0 P w K mg base ["_law_script", "_law_k", "_law_many", "_law_cell", "_law_turn", "_law_rest"] "_law_drawn" (defScope s_law_drawn) f cdv Ar outer s H E).nox ((defBody s_law_drawn).drop 2) t ∧
      ∀ (c : Int) (z4 z5 : Option V) (H1 : Hp), Same H H1 → t { nx := fun _ H' => Q .non H', rt := Q } [some (.ref a), some (.int k), some (.int m), some (.int c), z4, z5] H1 := by
    refine ⟨_, (pss_cons (ps_set (i := 3) sc_law_drawn.nd rfl (.inl rfl) (pe_op op_mod (pe_op op_add (pe_op op_mulW (pe_op op_mod (pv 3) pe_int) pe_int) (pe_op op_mulW pe_int (pe_op op_add (pv 1) pe_int))) pe_int))
    (pss_cons (ps_set (i := 3) sc_law_drawn.nd rfl (.inl rfl) (pe_op op_mod (pe_op op_add (pe_op op_mulW (pv 3) (pv 3)) (pe_op op_fdivW (pv 3) pe_int)) pe_int))
    (pss_one (ps_ret (pe_op op_mod (pe_op op_fdivW (pe_op op_mod (pe_op op_add (pe_op op_mulW (pv 3) (pv 3)) (pe_op op_fdivW (pv 3) pe_int)) pe_int) pe_int) (pv 2)))))), ?_⟩
    intro c z4 z5 H1 s1
    have md : ∀ (x y : Int), 0 < y → 0 ≤ x % y ∧ x % y < y := fun x y h => ⟨Int.emod_nonneg _ (by omega), Int.emod_lt_of_pos _ h⟩
    walk_at "go"
    refine r_I (by decide) ?_
    have m1 := md c 2147483563 (by decide)
    walk_at "go"
    refine r_I (wide_mul (a := 40) (b := 40) (by omega) (by decide) (by decide) (by decide) (by decide)) ?_
    walk_at "go"
    refine r_I (wide_mul (a := 40) (b := 40) (by decide) (by omega) (by decide) (by decide) (by decide)) ?_
    walk_at "go"
    refine r_I (by decide) ?_
    have m2 := md (c % 2147483563 * 69069 + 104723 * (k + 1)) 2147483563 (by decide)
    generalize (c % 2147483563 * 69069 + 104723 * (k + 1)) % 2147483563 = c2 at m2
    walk_at "go"
    refine r_I (wide_mul (a := 40) (b := 40) (by omega) (by omega) (by decide) (by decide) (by decide)) ?_
    walk_at "go"
    refine r_I (divS (by decide) (by decide)) ?_
    walk_at "go"
    refine r_I (by decide) ?_
    have m3 := md (c2 * c2 + c2 / 3) 2147483399 (by decide)
    generalize (c2 * c2 + c2 / 3) % 2147483399 = c3 at m3
    walk_at "go"
    refine r_I (wide_mul (a := 40) (b := 40) (by omega) (by omega) (by decide) (by decide) (by decide)) ?_
    walk_at "go"
    refine r_I (divS (by decide) (by decide)) ?_
    walk_at "go"
    refine r_I (by decide) ?_
    walk_at "go"
    refine r_I (divS (by decide) (by decide)) ?_
    walk_at "go"
    refine r_I hm ?_
    have m4 := md ((c3 * c3 + c3 / 7) % 2147483647 / 11) m hm
    exact q _ _ m4.1 m4.2 s1
  obtain ⟨t, ht, htl⟩ := tail
  refine ⟨_, (pss_cons (ps_set (i := 3) sc_law_drawn.nd rfl (.inl rfl) (pe_op op_mulW pe_int (pv 1)))
    (pss_cons (ps_if (pt_cmpR (op_neD hr.units) (pv 0) (pe_lst pa_nil) (nomark _))
    (pss_cons (ps_set (i := 3) sc_law_drawn.nd rfl (.inl rfl) (pe_ix ix_list (pv 0) (pe_op op_mod (pv 1) (pe_callB call_len_seq rfl T.n_len PySem.boot_len (pa_cons (pv 0) pa_nil))) (fun _ _ => rfl)))
    (pss_cons (ps_set (i := 4) sc_law_drawn.nd rfl (.inl rfl) (pe_op op_fdivW (pv 1) (pe_callB call_len_seq rfl T.n_len PySem.boot_len (pa_cons (pv 0) pa_nil))))
    (pss_cons (ps_if (PW.pt (pw_and (pt_cmpR op_ge (pv 3) (pe_op op_pow pe_int pe_int) (nomark _)) (pw_and1 (pt_cmpR op_lt (pv 4) pe_int (nomark _)))))
    (pss_cons (ps_set (i := 5) sc_law_drawn.nd rfl (.inl rfl) (pe_op op_fdivW (pv 3) (pe_op op_pow pe_int pe_int)))
    (pss_cons (ps_while PassesOwn.never (PW.pt (pw_and (pt_cmpR op_gt (pv 5) pe_int (nomark _)) (pw_and1 (pt_cmpR op_gt (pv 4) pe_int (nomark _)))))
    (pss_cons (ps_set (i := 5) sc_law_drawn.nd rfl (.inl rfl) (pe_op op_fdivW (pv 5) pe_int))
    (pss_one (ps_set (i := 4) sc_law_drawn.nd rfl (.inl rfl) (pe_op op_sub (pv 4) pe_int)))))
    (pss_one (ps_if (pt_cmpR op_gt (pv 5) pe_int (nomark _))
    (pss_one (ps_ret (pe_op op_mod (pe_op op_mod (pv 5) pe_int) (pv 2))))
    pss_nil))))
    pss_nil)
    (pss_one (ps_set (i := 3) sc_law_drawn.nd rfl (.inl rfl) (pe_op op_add (pv 3) (pe_op op_mulW pe_int (pe_op op_fdivW (pv 1) (pe_callB call_len_seq rfl T.n_len PySem.boot_len (pa_cons (pv 0) pa_nil))))))))))
    pss_nil)
    ht)), ?_⟩
  walk_at "go"
  refine r_I (wide_mul (a := 40) (b := 40) (by decide) (by omega) (by decide) (by decide) (by decide)) ?_
  walk_at "go"
  intro l fl
  generalize g1 : upd _ _ _ = H1
  have ⟨s1, e1⟩ := nw g1 fl
  have hs1 := s1.seq hs
  walk_at "go"
  refine r_neScr hs1 e1 ?_
  walk_at "go"
  by_cases hn : ns = []
  · refine ndifF hn ?_
    walk_at "go"
    exact htl _ _ _ _ s1
  · refine ndifT hn ?_
    have ln : 0 < ns.length := List.length_pos_iff.mpr hn
    have lni : (0 : Int) < ((ns.map V.int).length : Nat) := by
      rw [List.length_map]
      omega
    walk_at "go"
    refine ⟨a, _, rfl, .inl hs1, ?_⟩
    walk_at "go"
    refine r_I lni ?_
    have j0 := Int.emod_nonneg k (show ((ns.map V.int).length : Int) ≠ 0 by omega)
    have j1 := Int.emod_lt_of_pos k lni
    obtain ⟨j, hj⟩ := Int.eq_ofNat_of_zero_le j0
    rw [hj] at j1 ⊢
    have hjl : j < ns.length := by
      rw [List.length_map] at j1
      omega
    refine r_ixL (v := .int ns[j]) hs1 (atI_nat (by rw [List.getElem?_map, List.getElem?_eq_getElem hjl]; rfl)) ?_
    generalize ns[j] = c
    walk_at "go"
    refine ⟨a, _, rfl, .inl hs1, ?_⟩
    walk_at "go"
    have dv1 : CDivW k ((ns.map V.int).length : Nat) := divS lni (by rw [List.length_map]; omega)
    refine r_I dv1 ?_
    have t0 : 0 ≤ k / ((ns.map V.int).length : Nat) := Int.ediv_nonneg hk0 (by omega)
    have t1 : k / ((ns.map V.int).length : Nat) ≤ k := Int.ediv_le_self _ hk0
    have last : CMulW 6553 (k / ((ns.map V.int).length : Nat)) := wide_mul (a := 40) (b := 40) (by decide) (by omega) (by decide) (by decide) (by decide)
    walk_at "go"
    refine r_I powOk ?_
    walk_at "go"
    refine ite2 (fun h1 => ?_) fun h1 => ?_
    · walk_at "go"
      refine ite2 (fun h2 => ?_) fun h2 => ?_
      · walk_at "go"
        refine r_I powOk ?_
        walk_at "go"
        refine r_I (divS (by decide) (by decide)) ?_
        walk_at "go"
        refine r_wh ⟨fun mm σ H' => ∃ (rs tn : Int), σ = [some (.ref a), some (.int k), some (.int m), some (.int c), some (.int tn), some (.int rs)] ∧ H' = H1 ∧ 0 ≤ tn ∧ mm = tn.toNat, ⟨_, _, _, rfl, rfl, t0, rfl⟩, ?_⟩
        rintro mm σ H2 ⟨rs, tn, rfl, rfl, ht0, rfl⟩
        walk_at "go"
        refine ite2 (fun h3 => ?_) fun h3 => ?_
        · walk_at "go"
          refine ite2 (fun h4 => ?_) fun h4 => ?_
          · refine ⟨fun σ' H3 => ∃ m', m' < tn.toNat ∧ ∃ (rs tn : Int), σ' = [some (.ref a), some (.int k), some (.int m), some (.int c), some (.int tn), some (.int rs)] ∧ H3 = H2 ∧ 0 ≤ tn ∧ m' = tn.toNat, fun _ _ h => h, ?_⟩
            have h4' : 0 < tn := of_decide_eq_true h4
            walk_at "go"
            refine r_I (divS (by decide) (by decide)) ?_
            walk_at "go"
            exact ⟨(tn - 1).toNat, by omega, _, _, rfl, rfl, by omega, rfl⟩
          · walk_at "go"
            refine ite2 (fun h5 => ?_) fun h5 => ?_
            · walk_at "go"
              refine r_I (by decide) ?_
              walk_at "go"
              refine r_I hm ?_
              exact q _ _ (Int.emod_nonneg _ (by omega)) (Int.emod_lt_of_pos _ hm) s1
            · walk_at "go"
              refine ⟨a, _, rfl, .inl hs1, ?_⟩
              walk_at "go"
              refine r_I dv1 ?_
              walk_at "go"
              refine r_I last ?_
              walk_at "go"
              exact htl _ _ _ _ s1
        · walk_at "go"
          refine ite2 (fun h5 => absurd h5 h3) fun h5 => ?_
          walk_at "go"
          refine ⟨a, _, rfl, .inl hs1, ?_⟩
          walk_at "go"
          refine r_I dv1 ?_
          walk_at "go"
          refine r_I last ?_
          walk_at "go"
          exact htl _ _ _ _ s1
      · walk_at "go"
        refine ⟨a, _, rfl, .inl hs1, ?_⟩
        walk_at "go"
        refine r_I dv1 ?_
        walk_at "go"
        refine r_I last ?_
        walk_at "go"
        exact htl _ _ _ _ s1
    · refine iteF ?_
      walk_at "go"
      refine ⟨a, _, rfl, .inl hs1, ?_⟩
      walk_at "go"
      refine r_I dv1 ?_
      walk_at "go"
      refine r_I last ?_
      walk_at "go"
      exact htl _ _ _ _ s1
end
section
local macro_rules | `(tactic| walk_at "fld") => `(tactic| (refine fkT (w := ?w) (K := ?K) (mg := ?mg) (A := ?A) ?t ?e ?h; (case t => assumption); (case e => exact rfl); (case h => first | with_reducible exact g_Look_matrix (by assumption) | with_reducible exact g_Look_path (by assumption) | with_reducible exact g_Look_ink (by assumption) | with_reducible exact g_Look_width (by assumption) | with_reducible exact g_Look_clips (by assumption) | with_reducible exact g_Look_font (by assumption) | with_reducible exact g_World_operands (by assumption) | with_reducible exact g_World_rooms (by assumption) | with_reducible exact g_World_scopes (by assumption) | with_reducible exact g_World_look (by assumption) | with_reducible exact g_World_kept (by assumption) | with_reducible exact g_World_sheets (by assumption) | with_reducible exact g_World_inkings (by assumption) | with_reducible exact g_World_saves (by assumption) | with_reducible exact g_World_many_saves (by assumption) | with_reducible exact g_Items_body (by assumption) | with_reducible exact g_Items_at (by assumption) | with_reducible exact g_Reader_text (by assumption) | with_reducible exact g_Reader_at (by assumption) | with_reducible exact g_Reader_row (by assumption) | with_reducible exact g_Reader_column (by assumption) | with_reducible exact g_Reader_deep (by assumption) | with_reducible exact g_Machine_wide (by assumption) | with_reducible exact g_Machine_high (by assumption) | with_reducible exact g_Machine_most (by assumption) | with_reducible exact g_Machine_world (by assumption) | with_reducible exact g_Machine_frames (by assumption) | with_reducible exact g_Machine_left (by assumption) | with_reducible exact g_Machine_told (by assumption) | with_reducible exact g_Machine_is_running (by assumption) | with_reducible exact g_Machine_ahead (by assumption) | with_reducible exact g_Machine_past (by assumption) | with_reducible exact g_Machine_later (by assumption))))
/-- as many steps as go by themselves -/
local macro_rules | `(tactic| walk_at "g1") => `(tactic| (first
  | with_reducible refine r_seq ?_ | with_reducible refine r_set ?_ | with_reducible refine r_asg ?_ | with_reducible refine r_sl ?_ | with_reducible refine r_np ?_ | with_reducible refine r_pt ?_ | with_reducible refine r_gn ?_ | with_reducible refine r_gc ?_ | with_reducible refine r_g0 ?_ | ((with_reducible refine r_gt (xs := ?xs) ?h ?g ?_); (case h => assumption); (case g => exact rfl)) | with_reducible refine r_ret ?_ | with_reducible refine r_if ?_ | with_reducible refine r_test ?_ | with_reducible refine r_B ?_ | with_reducible refine r_and ?_ | with_reducible refine r_or ?_ | with_reducible refine r_not ?_
  | with_reducible refine r_andV ?_ | with_reducible refine r_orV ?_ | with_reducible refine r_notV ?_ | with_reducible refine r_ifx ?_ | with_reducible refine r_op ?_ | with_reducible refine r_un ?_ | with_reducible refine r_U ?_ | with_reducible refine r_c ?_ | with_reducible refine r_I0 ?_ | with_reducible refine r_drop ?_ | with_reducible refine r_next ?_
  | ((with_reducible refine r_var (v := ?v) ?h ?_); (case h => exact rfl)) | with_reducible refine r_bl ?_ | with_reducible refine r_nil ?_ | with_reducible refine r_cons ?_ | with_reducible refine r_cb ?_ | with_reducible refine r_call ?_ | ((with_reducible refine r_gl (xs := ?xs) ?h ?g ?_); (case h => assumption); (case g => exact rfl)) | with_reducible refine r_sm1 ?_ | with_reducible refine r_sm2 ?_ | with_reducible refine r_sm3 ?_ | with_reducible refine r_ch ?_ | with_reducible refine r_bm ?_ | with_reducible refine r_bm0 ?_ | ((with_reducible refine r_ty (xs := ?xs) ?e ?_); (case e => assumption)) | with_reducible refine r_mkU ?_ | with_reducible refine r_mt0 ?_ | with_reducible refine r_yes ?_ | with_reducible refine iteT ?_ | with_reducible refine iteF ?_ | with_reducible refine r_spk ?_ | with_reducible refine r_sp1 ?_ | with_reducible refine r_sp2 ?_ | with_reducible refine r_sp3 ?_ | with_reducible refine r_sp4 ?_ | with_reducible refine r_sp5 ?_
  | with_reducible refine r_tup ?_ | with_reducible refine r_lst ?_ | with_reducible refine r_par ?_ | with_reducible refine r_par2 ?_ 
  | ((with_reducible refine r_eq ?h ?_); (case h => exact rfl)) | ((with_reducible refine r_ne ?h ?_); (case h => exact rfl))
  | ((with_reducible refine r_ixT (xs := ?xs) (v := ?v) ?h ?g ?_); (case h => assumption); (case g => first | exact at0 | exact at1))
  | ((with_reducible refine r_fl (i := ?i) (nm := ?nm) (C := ?C) (dx := ?dx) (vs := ?vs) (v := ?v) ?ok ?e ?hv ?_); (case e => assumption); (case ok => walk_at "fld"); (case hv => rfl)) | with_reducible refine r_for ?_ | with_reducible refine r_il ?_ | with_reducible refine r_it ?_ | with_reducible refine r_iz ?_ | with_reducible refine r_ir1 ?_ | with_reducible refine r_ir2 ?_ | with_reducible refine r_lc ?_ | with_reducible refine r_sFld ?_ | with_reducible refine r_ck ?_ | with_reducible refine r_fld ?_ | with_reducible refine ⟨_, rfl, ?_⟩ | with_reducible refine ⟨_, _, rfl, .inr (by with_unfolding_all assumption), ?_⟩ | with_reducible refine ⟨_, _, rfl, .inl (seqL (by assumption)), ?_⟩ | with_reducible refine ⟨_, _, rfl, rfl, ?_⟩ | with_reducible refine ⟨_, _, rfl, ?_⟩ | with_reducible refine ⟨rfl, ?_⟩ | with_reducible refine r_sz ?_))
local macro_rules | `(tactic| walk_at "go") => `(tactic| (repeat walk_at "g1"))
variable {P : Program} {w : World} {K : PySem.W.Frag} {mg : Str → Option Value} {A : Ad} {base : Heap}
/-! _law_common, _law_made, _law_text. -/
open SX (S)
theorem sc_law_common : FnScope ["_law_one", "_law_other"] ["_law_one", "_law_other"] (defScope s_law_common) := ⟨rfl, rfl, rfl, by decide +kernel, rfl, by decide +kernel, by decide +kernel⟩
abbrev spLCommon : Sp := Sp2 fun a b H Q => ∃ i j : Int, a = .int i ∧ b = .int j ∧ 0 ≤ i ∧ 0 ≤ j ∧ Q (.int (Int.gcd i j : Nat)) H
theorem cal_law_common (T : Tx w K mg A) : Cal P w K mg base 1 "_law_common" spLCommon [] := by
  refine calOf T.f_law_common sc_law_common (fun _ _ _ _ _ _ us hl => match us, hl with | [_, _], _ => rfl) Sp2.len fun f cdv Ar outer s H vs Q E hr h => ?_
  obtain ⟨_, _, rfl, i, j, rfl, rfl, hi, hj, q⟩ := h
  refine ⟨_, (pss_cons (ps_while PassesOwn.never (pt_cmpR op_gt (pv 1) pe_int (nomark _))
    (pss_one (ps_par (i := 0) (j := 1) rfl sc_law_common.nd rfl rfl (by decide) rfl rfl (pa_cons (pv 1) (pa_cons (pe_op op_mod (pv 0) (pv 1)) pa_nil)) (by rfl))))
    (pss_one (ps_ret (pv 0)))), ?_⟩
  walk_at "go"
  refine r_wh ⟨fun m σ H' => ∃ u v : Int, σ = [some (.int u), some (.int v)] ∧ H' = H ∧ 0 ≤ u ∧ 0 ≤ v ∧ Int.gcd u v = Int.gcd i j ∧ m = v.toNat, ⟨_, _, _, rfl, rfl, hi, hj, rfl, rfl⟩, ?_⟩
  rintro m σ H' ⟨u, v, rfl, rfl, hu, hv, hg, rfl⟩
  walk_at "go"
  refine ite2 (fun h => ⟨fun σ' H2 => ∃ m', m' < v.toNat ∧ ∃ u v : Int, σ' = [some (.int u), some (.int v)] ∧ H2 = H' ∧ 0 ≤ u ∧ 0 ≤ v ∧ Int.gcd u v = Int.gcd i j ∧ m' = v.toNat, fun _ _ h => h, ?_⟩) (fun h => ?_)
  · have hv' : 0 < v := of_decide_eq_true h
    walk_at "go"
    refine r_I hv' ?_
    walk_at "go"
    have h1 := Int.emod_lt_of_pos u hv'
    have h2 := Int.emod_nonneg u (by omega : v ≠ 0)
    exact ⟨(u % v).toNat, by omega, v, u % v, rfl, rfl, hv, h2, (gcd_step hu hv').trans hg, rfl⟩
  · walk_at "go"
    have hv' : ¬ 0 < v := fun z => h (decide_eq_true z)
    have e0 : v = 0 := by omega
    subst e0
    have e1 : (Int.gcd i j : Int) = u := by
      rw [← hg, Int.gcd_zero_right]
      omega
    show Q (.int u) H'
    rw [← e1]
    exact q
theorem sc_law_made : FnScope ["_law_above", "_law_below", "_law_size"] ["_law_above", "_law_below"] (defScope s_law_made) := ⟨rfl, rfl, rfl, by decide +kernel, rfl, by decide +kernel, by decide +kernel⟩
abbrev spLMade (K : PySem.W.Frag) : Sp := Sp2 fun a b H Q => ∃ t d : Int, a = .int t ∧ b = .int d ∧ 0 < d ∧ d < 1000 ∧ ∀ v H', Same H H' → Nm K H' v (nrm t d) → Q v H'
theorem cal_law_made (T : Tx w K mg A) : Cal P w K mg base 2 "_law_made" (spLMade K) [] := by
  refine calOf T.f_law_made sc_law_made (fun _ _ _ _ _ _ us hl => match us, hl with | [_, _], _ => rfl) Sp2.len fun f cdv Ar outer s H vs Q E hr h => ?_
  obtain ⟨_, _, rfl, t, d, rfl, rfl, hd, hd2, q⟩ := h
  refine ⟨_, (pss_cons (ps_set (i := 2) sc_law_made.nd rfl (.inl rfl) (pe_c (cal_law_common T) hr (by decide) rfl (pa_cons (pe_callB call_abs rfl T.n_abs (by decide +kernel) (pa_cons (pv 0) pa_nil)) (pa_cons (pe_callB call_abs rfl T.n_abs (by decide +kernel) (pa_cons (pv 1) pa_nil)) pa_nil))))
    (pss_cons (ps_set (i := 2) sc_law_made.nd rfl (.inl rfl) (pe_ifExp (pt_cmpR op_lt (pv 1) pe_int (nomark _)) (pe_un un_neg (pv 2)) (pv 2)))
    (pss_one (ps_ret (pe_tup (pa_cons (pe_op op_fdivW (pv 0) (pv 2)) (pa_cons (pe_op op_fdivW (pv 1) (pv 2)) pa_nil))))))), ?_⟩
  walk_at "go"
  refine ⟨by split <;> omega, by split <;> omega, ?_⟩
  have eg : Int.gcd (if t < 0 then -t else t) (if d < 0 then -d else d) = Int.gcd t d := by
    have e : ∀ k : Int, (if k < 0 then -k else k).natAbs = k.natAbs := fun k => by split <;> omega
    show Nat.gcd _ _ = Nat.gcd _ _
    rw [e, e]
  rw [eg]
  have hg : (0 : Int) < (Int.gcd t d : Nat) := gcd_pos hd
  have hgl : ((Int.gcd t d : Nat) : Int) ≤ d := gcd_le hd
  walk_at "go"
  refine ite2 (fun z => absurd (of_decide_eq_true z) (by omega)) fun _ => ?_
  walk_at "go"
  have hdv : CDivW t (Int.gcd t d : Nat) := wide_div (b := 40) hg (by omega) (by decide) (by decide)
  refine r_I hdv ?_
  walk_at "go"
  refine r_I hdv ?_
  walk_at "go"
  intro p f1
  generalize g1 : upd _ _ _ = H1
  have ⟨s1, e1⟩ := nwT g1 f1
  exact q _ _ s1 ⟨p, rfl, e1 K⟩
/-! ### the numbers that the law's paths have -/
def allN : List Num := (List.range 4).flatMap fun (d : Nat) => (List.range (11 * (d + 1))).map fun (x : Nat) => nrm ((x : Int) - ((d : Int) + 1)) ((d : Int) + 1)
def GN (n : Num) : Prop := n ∈ allN
theorem gnOf {x d : Int} (h1 : 1 ≤ d) (h4 : d ≤ 4) (h0 : 0 ≤ x) (hx : x < 11 * d) : GN (nrm (x - d) d) := by
  obtain ⟨dn, hd⟩ := Int.eq_ofNat_of_zero_le (show 0 ≤ d - 1 by omega)
  obtain rfl : d = (dn : Int) + 1 := by omega
  obtain ⟨xn, rfl⟩ := Int.eq_ofNat_of_zero_le h0
  exact List.mem_flatMap.mpr ⟨dn, List.mem_range.mpr (by omega), List.mem_map.mpr ⟨xn, List.mem_range.mpr (by omega), rfl⟩⟩
/-- an int's signs -/
def numC : Int → List Nat
  | .ofNat m => TL.numL m
  | .negSucc m => 45 :: TL.numL (m + 1)
def textN (n : Num) : List Nat := numC n.1 ++ if n.2 = 1 then [] else 58 :: numC n.2
def lwB (n : Num) : Bool := decide (0 < n.2) && decide (n.1.natAbs < 2 ^ 28) && decide (n.2.natAbs < 2 ^ 28) && decide (Int.gcd n.1 n.2 = 1)
def numB (n : Num) : Bool :=
  let cs := textN n
  let neg := decide (cs.take 1 = [45])
  let rest := if neg then cs.drop 1 else cs
  if n.2 = 1 then figsB rest && decide (NumText.digitsVal rest < 10 ^ 9) && decide (nrm (sgnI neg * dv rest) 1 = n)
  else !figsB rest && match TL.spl [58] 0 [] rest with
    | [p, q] => figsB p && figsB q && decide (0 < NumText.digitsVal q) && decide (NumText.digitsVal p < 10 ^ 9) && decide (NumText.digitsVal q < 10 ^ 9) && decide (nrm (sgnI neg * dv p) (dv q) = n)
    | _ => false
def strB (i : Int) : Bool := match i with
  | .ofNat _ => true
  | .negSucc m => decide (m < 4)
theorem gn_lw {n : Num} (h : GN n) : Lw n := by
  have key : ∀ n ∈ allN, lwB n = true := by decide +kernel
  have := key n h
  unfold lwB at this
  rw [Bool.and_eq_true, Bool.and_eq_true, Bool.and_eq_true] at this
  obtain ⟨⟨⟨a, b⟩, c⟩, d⟩ := this
  exact ⟨of_decide_eq_true a, of_decide_eq_true b, of_decide_eq_true c, of_decide_eq_true d⟩
theorem gn_num {n : Num} (h : GN n) : NumIs (textN n) n := by
  have key : ∀ n ∈ allN, numB n = true := by decide +kernel
  have := key n h
  unfold numB at this
  dsimp only at this
  generalize hcs : textN n = cs at this ⊢
  have hS : Sg cs (if decide (cs.take 1 = [45]) then cs.drop 1 else cs) (decide (cs.take 1 = [45])) := ⟨rfl, rfl⟩
  generalize decide (cs.take 1 = [45]) = neg at hS this
  generalize (if neg = true then cs.drop 1 else cs) = rest at hS this
  split at this
  · rw [Bool.and_eq_true, Bool.and_eq_true] at this
    obtain ⟨⟨a, b⟩, c⟩ := this
    have e := of_decide_eq_true c
    rw [← e]
    exact .whole hS a (of_decide_eq_true b)
  · rw [Bool.and_eq_true] at this
    obtain ⟨a, b⟩ := this
    have a' : figsB rest = false := by simpa using a
    split at b
    · rename_i p q hpq
      simp only [Bool.and_eq_true] at b
      obtain ⟨⟨⟨⟨⟨b1, b2⟩, b3⟩, b4⟩, b5⟩, b6⟩ := b
      have e := of_decide_eq_true b6
      rw [← e]
      exact .frac hS a' hpq b1 b2 (of_decide_eq_true b3) (of_decide_eq_true b4) (of_decide_eq_true b5)
    · cases b
theorem gn_str {n : Num} (h : GN n) : Str.ofString (toString n.1) = S (numC n.1) ∧ Str.ofString (toString n.2) = S (numC n.2) := by
  have key : ∀ n ∈ allN, strB n.1 = true ∧ strB n.2 = true := by decide +kernel
  have f : ∀ i : Int, strB i = true → Str.ofString (toString i) = S (numC i) := by
    intro i hi
    cases i with
    | ofNat m => exact SX.num_S m
    | negSucc m =>
      have : m < 4 := of_decide_eq_true hi
      have : m = 0 ∨ m = 1 ∨ m = 2 ∨ m = 3 := by omega
      rcases this with rfl | rfl | rfl | rfl <;> decide +kernel
  exact ⟨f _ (key n h).1, f _ (key n h).2⟩
theorem gn_len {n : Num} (h : GN n) : (textN n).length ≤ 10 ∧ (numC n.1).length ≤ 10 ∧ (numC n.2).length ≤ 10 ∧ n.1.natAbs < 100 ∧ n.2.natAbs < 100 := by
  have key : ∀ n ∈ allN, (textN n).length ≤ 10 ∧ (numC n.1).length ≤ 10 ∧ (numC n.2).length ≤ 10 ∧ n.1.natAbs < 100 ∧ n.2.natAbs < 100 := by decide +kernel
  exact key n h
theorem gn_word {n : Num} (h : GN n) : textN n ≠ [] ∧ ∀ c ∈ textN n, c ∈ wordL := by
  have key : ∀ n ∈ allN, textN n ≠ [] ∧ ∀ c ∈ textN n, c ∈ wordL := by decide +kernel
  exact key n h
abbrev spLText (K : PySem.W.Frag) : Sp := Sp1 fun a H Q => ∃ n, Nm K H a n ∧ GN n ∧ Q (.str (S (textN n))) H
theorem sc_law_text : FnScope ["_law_one"] ["_law_one"] (defScope s_law_text) := ⟨rfl, rfl, rfl, by decide +kernel, rfl, by decide +kernel, by decide +kernel⟩
theorem cal_law_text (T : Tx w K mg A) : Cal P w K mg base 1 "_law_text" (spLText K) [] := by
  refine calOf T.f_law_text sc_law_text (fun _ _ _ _ _ _ us hl => match us, hl with | [_], _ => rfl) Sp1.len fun f cdv Ar outer s H vs Q E hr h => ?_
  obtain ⟨_, rfl, n, ⟨a, rfl, ha⟩, hn, q⟩ := h
  refine ⟨_, (pss_one (ps_ret (pe_ifExp (pt_cmpR op_eq (pe_ix ix_tup (pv 0) pe_int (fun _ _ => rfl)) pe_int (nomark _)) (pe_callTy call_str_int rfl T.n_str (by decide +kernel) (pa_cons (pe_ix ix_tup (pv 0) pe_int (fun _ _ => rfl)) pa_nil)) (pe_op op_add_str (pe_op op_add_str (pe_callTy call_str_int rfl T.n_str (by decide +kernel) (pa_cons (pe_ix ix_tup (pv 0) pe_int (fun _ _ => rfl)) pa_nil)) pe_str) (pe_callTy call_str_int rfl T.n_str (by decide +kernel) (pa_cons (pe_ix ix_tup (pv 0) pe_int (fun _ _ => rfl)) pa_nil)))))), ?_⟩
  obtain ⟨e1, e2⟩ := gn_str hn
  obtain ⟨_, l1, l2, b1, b2⟩ := gn_len hn
  have lg : ∀ i : Int, i.natAbs < 100 → i.natAbs.log2 < 1920 := fun i h => by
    have : i.natAbs.log2 ≤ i.natAbs := Nat.log2_le_self _
    omega
  have z := sz1000
  walk_at "go"
  rw [decInt]
  by_cases h1 : n.2 = 1
  · refine difT h1 ?_
    walk_at "go"
    refine ⟨lg _ b1, ?_⟩
    rw [e1]
    have e : textN n = numC n.1 := by
      unfold textN
      rw [if_pos h1, List.append_nil]
    rw [e] at q
    exact q
  · refine difF h1 ?_
    walk_at "go"
    refine ⟨lg _ b1, ?_⟩
    rw [e1]
    walk_at "go"
    refine ⟨by rw [SX.S_len]; show (numC n.1).length + 1 ≤ _; omega, ?_⟩
    rw [show Str.ofString ":" = S [58] from by decide +kernel, SX.S_cat]
    walk_at "go"
    refine ⟨lg _ b2, ?_⟩
    rw [e2]
    walk_at "go"
    refine ⟨by rw [SX.S_len, SX.S_len, List.length_append, List.length_singleton]; omega, ?_⟩
    rw [SX.S_cat]
    have e : textN n = numC n.1 ++ [58] ++ numC n.2 := by
      unfold textN
      rw [if_neg h1, List.append_assoc]
      rfl
    rw [e] at q
    exact q
end
section
local macro_rules | `(tactic| walk_at "fld") => `(tactic| (refine fkT (w := ?w) (K := ?K) (mg := ?mg) (A := ?A) ?t ?e ?h; (case t => assumption); (case e => exact rfl); (case h => first | with_reducible exact g_Look_matrix (by assumption) | with_reducible exact g_Look_path (by assumption) | with_reducible exact g_Look_ink (by assumption) | with_reducible exact g_Look_width (by assumption) | with_reducible exact g_Look_clips (by assumption) | with_reducible exact g_Look_font (by assumption) | with_reducible exact g_World_operands (by assumption) | with_reducible exact g_World_rooms (by assumption) | with_reducible exact g_World_scopes (by assumption) | with_reducible exact g_World_look (by assumption) | with_reducible exact g_World_kept (by assumption) | with_reducible exact g_World_sheets (by assumption) | with_reducible exact g_World_inkings (by assumption) | with_reducible exact g_World_saves (by assumption) | with_reducible exact g_World_many_saves (by assumption) | with_reducible exact g_Items_body (by assumption) | with_reducible exact g_Items_at (by assumption) | with_reducible exact g_Reader_text (by assumption) | with_reducible exact g_Reader_at (by assumption) | with_reducible exact g_Reader_row (by assumption) | with_reducible exact g_Reader_column (by assumption) | with_reducible exact g_Reader_deep (by assumption) | with_reducible exact g_Machine_wide (by assumption) | with_reducible exact g_Machine_high (by assumption) | with_reducible exact g_Machine_most (by assumption) | with_reducible exact g_Machine_world (by assumption) | with_reducible exact g_Machine_frames (by assumption) | with_reducible exact g_Machine_left (by assumption) | with_reducible exact g_Machine_told (by assumption) | with_reducible exact g_Machine_is_running (by assumption) | with_reducible exact g_Machine_ahead (by assumption) | with_reducible exact g_Machine_past (by assumption) | with_reducible exact g_Machine_later (by assumption))))
/-- as many steps as go by themselves -/
local macro_rules | `(tactic| walk_at "g1") => `(tactic| (first
  | with_reducible refine r_seq ?_ | with_reducible refine r_set ?_ | with_reducible refine r_asg ?_ | with_reducible refine r_sl ?_ | with_reducible refine r_np ?_ | with_reducible refine r_pt ?_ | with_reducible refine r_gn ?_ | with_reducible refine r_gc ?_ | with_reducible refine r_g0 ?_ | ((with_reducible refine r_gt (xs := ?xs) ?h ?g ?_); (case h => assumption); (case g => exact rfl)) | with_reducible refine r_ret ?_ | with_reducible refine r_if ?_ | with_reducible refine r_test ?_ | with_reducible refine r_B ?_ | with_reducible refine r_and ?_ | with_reducible refine r_or ?_ | with_reducible refine r_not ?_
  | with_reducible refine r_andV ?_ | with_reducible refine r_orV ?_ | with_reducible refine r_notV ?_ | with_reducible refine r_ifx ?_ | with_reducible refine r_op ?_ | with_reducible refine r_un ?_ | with_reducible refine r_U ?_ | with_reducible refine r_c ?_ | with_reducible refine r_I0 ?_ | with_reducible refine r_drop ?_ | with_reducible refine r_next ?_
  | ((with_reducible refine r_var (v := ?v) ?h ?_); (case h => exact rfl)) | with_reducible refine r_bl ?_ | with_reducible refine r_nil ?_ | with_reducible refine r_cons ?_ | with_reducible refine r_cb ?_ | with_reducible refine r_call ?_ | ((with_reducible refine r_gl (xs := ?xs) ?h ?g ?_); (case h => assumption); (case g => exact rfl)) | with_reducible refine r_sm1 ?_ | with_reducible refine r_sm2 ?_ | with_reducible refine r_sm3 ?_ | with_reducible refine r_ch ?_ | with_reducible refine r_bm ?_ | with_reducible refine r_bm0 ?_ | ((with_reducible refine r_ty (xs := ?xs) ?e ?_); (case e => assumption)) | with_reducible refine r_mkU ?_ | with_reducible refine r_mt0 ?_ | with_reducible refine r_yes ?_ | with_reducible refine iteT ?_ | with_reducible refine iteF ?_ | with_reducible refine r_spk ?_ | with_reducible refine r_sp1 ?_ | with_reducible refine r_sp2 ?_ | with_reducible refine r_sp3 ?_ | with_reducible refine r_sp4 ?_ | with_reducible refine r_sp5 ?_
  | with_reducible refine r_tup ?_ | with_reducible refine r_lst ?_ | with_reducible refine r_par ?_ | with_reducible refine r_par2 ?_ 
  | ((with_reducible refine r_eq ?h ?_); (case h => exact rfl)) | ((with_reducible refine r_ne ?h ?_); (case h => exact rfl))
  | ((with_reducible refine r_ixT (xs := ?xs) (v := ?v) ?h ?g ?_); (case h => assumption); (case g => first | exact at0 | exact at1))
  | ((with_reducible refine r_fl (i := ?i) (nm := ?nm) (C := ?C) (dx := ?dx) (vs := ?vs) (v := ?v) ?ok ?e ?hv ?_); (case e => assumption); (case ok => walk_at "fld"); (case hv => rfl)) | with_reducible refine r_for ?_ | with_reducible refine r_il ?_ | with_reducible refine r_it ?_ | with_reducible refine r_iz ?_ | with_reducible refine r_ir1 ?_ | with_reducible refine r_ir2 ?_ | with_reducible refine r_lc ?_ | with_reducible refine r_sFld ?_ | with_reducible refine r_ck ?_ | with_reducible refine r_fld ?_ | with_reducible refine ⟨_, rfl, ?_⟩ | with_reducible refine ⟨_, _, rfl, .inr (by with_unfolding_all assumption), ?_⟩ | with_reducible refine ⟨_, _, rfl, .inl (seqL (by assumption)), ?_⟩ | with_reducible refine ⟨_, _, rfl, rfl, ?_⟩ | with_reducible refine ⟨_, _, rfl, ?_⟩ | with_reducible refine ⟨rfl, ?_⟩ | with_reducible refine r_sz ?_))
local macro_rules | `(tactic| walk_at "go") => `(tactic| (repeat walk_at "g1"))
variable {P : Program} {w : World} {K : PySem.W.Frag} {mg : Str → Option Value} {A : Ad} {base : Heap}
/-! _law_point, _law_part, _law_path. -/
def GP (p : Pnt) : Prop := GN p.1 ∧ GN p.2
structure GPart (l : Part) : Prop where
  l1 : 1 ≤ l.1.length
  l5 : l.1.length ≤ 5
  pts : ∀ x ∈ l.1, GP x
structure GPath (p : Path) : Prop where
  len : p.length ≤ 3
  parts : ∀ l ∈ p, GPart l
theorem GPath.ok {p : Path} (h : GPath p) : POk p :=
  ⟨Nat.le_trans h.len (by decide), fun l m => Nat.le_trans (h.parts l m).l5 (by decide), fun l m x mx => ⟨gn_lw ((h.parts l m).pts x mx).1, gn_lw ((h.parts l m).pts x mx).2⟩⟩
theorem exPaired {α β : Type} {R : α → β → Prop} {G : β → Prop} : ∀ {acc : List α}, (∀ (j : Nat) (v : α), acc[j]? = some v → ∃ p, R v p ∧ G p) → ∃ ps, Paired R acc ps ∧ ∀ p ∈ ps, G p
  | [], _ => ⟨[], .nil, fun p m => absurd m (by simp)⟩
  | a :: acc, h => by
    obtain ⟨p, r, g⟩ := h 0 a rfl
    obtain ⟨ps, rs, gs⟩ := exPaired (acc := acc) fun j v e => h (j + 1) v e
    refine ⟨p :: ps, .cons r rs, fun q m => ?_⟩
    rcases List.mem_cons.mp m with rfl | m
    · exact g
    · exact gs q m
abbrev spPoint (K : PySem.W.Frag) : Sp := Sp2 fun a b H Q => ∃ (ns : List Int) (i : Int), ScrAt K H a ns ∧ b = .int i ∧ 0 ≤ i ∧ i < 10000 ∧ ∀ v p H', Same H H' → Pn K H' v p → GP p → Q v H'
theorem sc_law_point : FnScope ["_law_script", "_law_at", "_law_below", "_law_x", "_law_y"] ["_law_script", "_law_at"] (defScope s_law_point) := ⟨rfl, rfl, rfl, by decide +kernel, rfl, by decide +kernel, by decide +kernel⟩
theorem cal_law_point (T : Tx w K mg A) : Cal P w K mg base 3 "_law_point" (spPoint K) [] := by
  refine calOf T.f_law_point sc_law_point (fun _ _ _ _ _ _ us hl => match us, hl with | [_, _], _ => rfl) Sp2.len fun f cdv Ar outer s H vs Q E hr h => ?_
  obtain ⟨a, _, rfl, ns, i, hs, rfl, hi0, hi1, q⟩ := h
  refine ⟨_, (pss_cons (ps_set (i := 2) sc_law_point.nd rfl (.inl rfl) (pe_ix ix_list (pe_lst (pa_cons pe_int (pa_cons pe_int (pa_cons pe_int (pa_cons pe_int (pa_cons pe_int pa_nil)))))) (pe_c (cal_law_drawn T) hr (by decide) rfl (pa_cons (pv 0) (pa_cons (pv 1) (pa_cons pe_int pa_nil)))) (fun _ _ => rfl)))
    (pss_cons (ps_par (i := 3) (j := 4) rfl sc_law_point.nd rfl rfl (by decide) rfl rfl (pa_cons (pe_c (cal_law_drawn T) hr (by decide) rfl (pa_cons (pv 0) (pa_cons (pe_op op_add (pv 1) pe_int) (pa_cons (pe_op op_mulW pe_int (pv 2)) pa_nil)))) (pa_cons (pe_c (cal_law_drawn T) hr (by decide) rfl (pa_cons (pv 0) (pa_cons (pe_op op_add (pv 1) pe_int) (pa_cons (pe_op op_mulW pe_int (pv 2)) pa_nil)))) pa_nil)) (by rfl))
    (pss_one (ps_ret (pe_tup (pa_cons (pe_c (cal_law_made T) hr (by decide) rfl (pa_cons (pe_op op_sub (pv 3) (pv 2)) (pa_cons (pv 2) pa_nil))) (pa_cons (pe_c (cal_law_made T) hr (by decide) rfl (pa_cons (pe_op op_sub (pv 4) (pv 2)) (pa_cons (pv 2) pa_nil))) pa_nil))))))), ?_⟩
  walk_at "go"
  intro l fl
  generalize g1 : upd _ _ _ = H1
  have ⟨s1, e1⟩ := nw g1 fl
  walk_at "go"
  refine ⟨ns, i, 5, hs.same s1, rfl, rfl, hi0, by omega, by decide, fun r H2 r0 r5 s2 => ?_⟩
  have e2 := s2 _ _ e1
  obtain ⟨j, rfl⟩ := Int.eq_ofNat_of_zero_le r0
  have hd : ∃ d : Int, ([V.int 1, V.int 1, V.int 2, V.int 3, V.int 4] : List V)[j]? = some (.int d) ∧ 1 ≤ d ∧ d ≤ 4 := by
    have : j = 0 ∨ j = 1 ∨ j = 2 ∨ j = 3 ∨ j = 4 := by omega
    rcases this with rfl | rfl | rfl | rfl | rfl
    · exact ⟨1, rfl, by decide, by decide⟩
    · exact ⟨1, rfl, by decide, by decide⟩
    · exact ⟨2, rfl, by decide, by decide⟩
    · exact ⟨3, rfl, by decide, by decide⟩
    · exact ⟨4, rfl, by decide, by decide⟩
  obtain ⟨d, hd, d1, d4⟩ := hd
  refine r_ixL (seqL e2) (atI_nat hd) ?_
  have m11 : CMulW 11 d := wide_mul (a := 40) (b := 40) (by decide) (by omega) (by decide) (by decide) (by decide)
  have s02 := s1.trans s2
  walk_at "go"
  refine r_I m11 ?_
  walk_at "go"
  refine ⟨ns, i + 1, 11 * d, hs.same s02, rfl, rfl, by omega, by omega, by omega, fun x H3 x0 x1 s3 => ?_⟩
  walk_at "go"
  refine r_I m11 ?_
  walk_at "go"
  refine ⟨ns, i + 2, 11 * d, hs.same (s02.trans s3), rfl, rfl, by omega, by omega, by omega, fun y H4 y0 y1 s4 => ?_⟩
  walk_at "go"
  refine ⟨by omega, by omega, fun v5 H5 s5 n5 => ?_⟩
  walk_at "go"
  refine ⟨by omega, by omega, fun v6 H6 s6 n6 => ?_⟩
  walk_at "go"
  intro p f7
  generalize g7 : upd _ _ _ = H7
  have ⟨s7, e7⟩ := nwT g7 f7
  exact q _ (nrm (x - d) d, nrm (y - d) d) H7 (s02.trans (s3.trans (s4.trans (s5.trans (s6.trans s7))))) ⟨p, _, _, rfl, e7 K, n5.same (s6.trans s7), n6.same s7⟩ ⟨gnOf d1 d4 x0 x1, gnOf d1 d4 y0 y1⟩
abbrev spPart (K : PySem.W.Frag) : Sp := Sp2 fun a b H Q => ∃ (ns : List Int) (i : Int), ScrAt K H a ns ∧ b = .int i ∧ 0 ≤ i ∧ i < 9000 ∧ ∀ v p H', Same H H' → PartAt K H' v p → GPart p → Q v H'
theorem sc_law_part : FnScope ["_law_script", "_law_at", "_law_many", "_law_points", "_law_k"] ["_law_script", "_law_at"] (defScope s_law_part) := ⟨rfl, rfl, rfl, by decide +kernel, rfl, by decide +kernel, by decide +kernel⟩
theorem cal_law_part (T : Tx w K mg A) : Cal P w K mg base 4 "_law_part" (spPart K) [] := by
  refine calOf T.f_law_part sc_law_part (fun _ _ _ _ _ _ us hl => match us, hl with | [_, _], _ => rfl) Sp2.len fun f cdv Ar outer s H vs Q E hr h => ?_
  obtain ⟨a, _, rfl, ns, i, hs, rfl, hi0, hi1, q⟩ := h
  refine ⟨_, (pss_cons (ps_set (i := 2) sc_law_part.nd rfl (.inl rfl) (pe_op op_add pe_int (pe_c (cal_law_drawn T) hr (by decide) rfl (pa_cons (pv 0) (pa_cons (pv 1) (pa_cons pe_int pa_nil))))))
    (pss_cons (ps_set (i := 3) sc_law_part.nd rfl (.inl rfl) (pe_callTy call_tuple_of rfl T.n_tuple (by decide +kernel) (pa_cons (pe_lc (own := [("_law_k", 4)]) (g := (gName 4)) (tt := tYes) rfl sc_law_part.nd (pi_range1 rfl T.n_range (pa_cons (pv 2) pa_nil)) (blkOk_by (N := ["_law_script", "_law_at", "_law_many", "_law_points", "_law_k"]) (sc := defScope s_law_part) (by decide +kernel)) (fun _ _ _ _ _ => (pg_name (i := 4) sc_law_part.nd rfl (.inl rfl))) (fun _ _ _ _ _ => pts_nil) (fun _ _ _ _ _ => (pe_c (cal_law_point T) hr (by decide) rfl (pa_cons (pv 0) (pa_cons (pe_op op_add (pe_op op_add (pv 1) pe_int) (pe_op op_mulW pe_int (pv 4))) pa_nil))))) pa_nil)))
    (pss_one (ps_ret (pe_tup (pa_cons (pv 3) (pa_cons (pe_cmpR op_eq (pe_c (cal_law_drawn T) hr (by decide) rfl (pa_cons (pv 0) (pa_cons (pe_op op_add (pv 1) pe_int) (pa_cons pe_int pa_nil)))) pe_int (nomark _)) pa_nil))))))), ?_⟩
  walk_at "go"
  refine ⟨ns, i, 5, hs, rfl, rfl, hi0, by omega, by decide, fun r H1 r0 r5 s1 => ?_⟩
  obtain ⟨k, rfl⟩ := Int.eq_ofNat_of_zero_le r0
  have ek : (1 + (k : Int)).toNat = k + 1 := by omega
  walk_at "go"
  refine ⟨by omega, by omega, ?_⟩
  intro D fD
  refine lc_all (K := K) walk_range fD (by rw [ek]; have := sz1000; omega) (fun _ v H' => ∃ p, Pn K H' v p ∧ GP p) (fun _ v H H' _ tk ⟨p, h, g⟩ => ⟨p, h.tk tk, g⟩) (fun _ _ => trivial) ?_ ?_
  · rintro j x H2 H2' N M hj sh ⟨rfl, hx0⟩ hN
    rw [ek] at hj
    obtain rfl : x = V.int (j : Int) := by
      rw [hx0]
      show V.int (0 + (j : Int)) = _
      rw [Int.zero_add]
    walk_at "go"
    refine r_I (wide_mul (a := 40) (b := 40) (by decide) (by omega) (by decide) (by decide) (by decide)) ?_
    walk_at "go"
    refine ⟨ns, _, hs.same (s1.trans sh), rfl, by omega, by omega, fun v p H3 s3 hp hg => ?_⟩
    exact hN _ _ s3 ⟨p, hp, hg⟩
  · intro H2 acc s2 ea la ra
    rw [ek] at la
    obtain ⟨ps, hps, hg⟩ := exPaired ra
    have lp := pLen hps
    walk_at "go"
    refine ⟨D, acc, rfl, .inl ⟨seqL ea, fun p3 f3 => ?_⟩⟩
    generalize g3 : upd _ _ _ = H3
    have ⟨s3, e3⟩ := nwT g3 f3
    walk_at "go"
    refine ⟨ns, i + 1, 2, hs.same (s1.trans (s2.trans s3)), rfl, rfl, by omega, by omega, by decide, fun r2 H4 _ _ s4 => ?_⟩
    walk_at "go"
    intro p5 f5
    generalize g5 : upd _ _ _ = H5
    have ⟨s5, e5⟩ := nwT g5 f5
    refine q _ (ps, _) H5 (s1.trans (s2.trans (s3.trans (s4.trans s5)))) ⟨p5, .ref p3, rfl, e5 K, p3, acc, rfl, sqS (e3 K) (s4.trans s5), pImp (fun _ _ (z : Pn K H2 _ _) => z.tk (Same.tk (s3.trans (s4.trans s5)))) hps⟩ ⟨by show 1 ≤ ps.length; omega, by show ps.length ≤ 5; omega, hg⟩
abbrev spPath (K : PySem.W.Frag) : Sp := Sp2 fun a b H Q => ∃ (ns : List Int) (i : Int), ScrAt K H a ns ∧ b = .int i ∧ 0 ≤ i ∧ i < 8000 ∧ ∀ v p H', Same H H' → PathAt K H' v p → GPath p → Q v H'
theorem sc_law_path : FnScope ["_law_script", "_law_at", "_law_k"] ["_law_script", "_law_at"] (defScope s_law_path) := ⟨rfl, rfl, rfl, by decide +kernel, rfl, by decide +kernel, by decide +kernel⟩
theorem cal_law_path (T : Tx w K mg A) : Cal P w K mg base 5 "_law_path" (spPath K) [] := by
  refine calOf T.f_law_path sc_law_path (fun _ _ _ _ _ _ us hl => match us, hl with | [_, _], _ => rfl) Sp2.len fun f cdv Ar outer s H vs Q E hr h => ?_
  obtain ⟨a, _, rfl, ns, i, hs, rfl, hi0, hi1, q⟩ := h
  refine ⟨_, (pss_one (ps_ret (pe_callTy call_tuple_of rfl T.n_tuple (by decide +kernel) (pa_cons (pe_lc (own := [("_law_k", 2)]) (g := (gName 2)) (tt := tYes) rfl sc_law_path.nd (pi_range1 rfl T.n_range (pa_cons (pe_c (cal_law_drawn T) hr (by decide) rfl (pa_cons (pv 0) (pa_cons (pv 1) (pa_cons pe_int pa_nil)))) pa_nil)) (blkOk_by (N := ["_law_script", "_law_at", "_law_k"]) (sc := defScope s_law_path) (by decide +kernel)) (fun _ _ _ _ _ => (pg_name (i := 2) sc_law_path.nd rfl (.inl rfl))) (fun _ _ _ _ _ => pts_nil) (fun _ _ _ _ _ => (pe_c (cal_law_part T) hr (by decide) rfl (pa_cons (pv 0) (pa_cons (pe_op op_add (pe_op op_add (pv 1) pe_int) (pe_op op_mulW pe_int (pv 2))) pa_nil))))) pa_nil)))), ?_⟩
  walk_at "go"
  refine ⟨ns, i, 4, hs, rfl, rfl, hi0, by omega, by decide, fun r H1 r0 r5 s1 => ?_⟩
  obtain ⟨k, rfl⟩ := Int.eq_ofNat_of_zero_le r0
  have ek : (k : Int).toNat = k := by omega
  walk_at "go"
  refine ⟨by omega, by omega, ?_⟩
  intro D fD
  refine lc_all (K := K) walk_range fD (by rw [ek]; have := sz1000; omega) (fun _ v H' => ∃ p, PartAt K H' v p ∧ GPart p) (fun _ v H H' _ tk ⟨p, h, g⟩ => ⟨p, h.tk tk, g⟩) (fun _ _ => trivial) ?_ ?_
  · rintro j x H2 H2' N M hj sh ⟨rfl, hx0⟩ hN
    rw [ek] at hj
    obtain rfl : x = V.int (j : Int) := by
      rw [hx0]
      show V.int (0 + (j : Int)) = _
      rw [Int.zero_add]
    walk_at "go"
    refine r_I (wide_mul (a := 40) (b := 40) (by decide) (by omega) (by decide) (by decide) (by decide)) ?_
    walk_at "go"
    refine ⟨ns, _, hs.same (s1.trans sh), rfl, by omega, by omega, fun v p H3 s3 hp hg => ?_⟩
    exact hN _ _ s3 ⟨p, hp, hg⟩
  · intro H2 acc s2 ea la ra
    rw [ek] at la
    obtain ⟨ps, hps, hg⟩ := exPaired ra
    have lp := pLen hps
    walk_at "go"
    refine ⟨D, acc, rfl, .inl ⟨seqL ea, fun p3 f3 => ?_⟩⟩
    generalize g3 : upd _ _ _ = H3
    have ⟨s3, e3⟩ := nwT g3 f3
    exact q _ ps H3 (s1.trans (s2.trans s3)) ⟨p3, acc, rfl, e3 K, pImp (fun _ _ (z : PartAt K H2 _ _) => z.tk (Same.tk s3)) hps⟩ ⟨by omega, hg⟩
end
section
local macro_rules | `(tactic| walk_at "fld") => `(tactic| (refine fkT (w := ?w) (K := ?K) (mg := ?mg) (A := ?A) ?t ?e ?h; (case t => assumption); (case e => exact rfl); (case h => first | with_reducible exact g_Look_matrix (by assumption) | with_reducible exact g_Look_path (by assumption) | with_reducible exact g_Look_ink (by assumption) | with_reducible exact g_Look_width (by assumption) | with_reducible exact g_Look_clips (by assumption) | with_reducible exact g_Look_font (by assumption) | with_reducible exact g_World_operands (by assumption) | with_reducible exact g_World_rooms (by assumption) | with_reducible exact g_World_scopes (by assumption) | with_reducible exact g_World_look (by assumption) | with_reducible exact g_World_kept (by assumption) | with_reducible exact g_World_sheets (by assumption) | with_reducible exact g_World_inkings (by assumption) | with_reducible exact g_World_saves (by assumption) | with_reducible exact g_World_many_saves (by assumption) | with_reducible exact g_Items_body (by assumption) | with_reducible exact g_Items_at (by assumption) | with_reducible exact g_Reader_text (by assumption) | with_reducible exact g_Reader_at (by assumption) | with_reducible exact g_Reader_row (by assumption) | with_reducible exact g_Reader_column (by assumption) | with_reducible exact g_Reader_deep (by assumption) | with_reducible exact g_Machine_wide (by assumption) | with_reducible exact g_Machine_high (by assumption) | with_reducible exact g_Machine_most (by assumption) | with_reducible exact g_Machine_world (by assumption) | with_reducible exact g_Machine_frames (by assumption) | with_reducible exact g_Machine_left (by assumption) | with_reducible exact g_Machine_told (by assumption) | with_reducible exact g_Machine_is_running (by assumption) | with_reducible exact g_Machine_ahead (by assumption) | with_reducible exact g_Machine_past (by assumption) | with_reducible exact g_Machine_later (by assumption))))
/-- as many steps as go by themselves -/
local macro_rules | `(tactic| walk_at "g1") => `(tactic| (first
  | with_reducible refine r_seq ?_ | with_reducible refine r_set ?_ | with_reducible refine r_asg ?_ | with_reducible refine r_sl ?_ | with_reducible refine r_np ?_ | with_reducible refine r_pt ?_ | with_reducible refine r_gn ?_ | with_reducible refine r_gc ?_ | with_reducible refine r_g0 ?_ | ((with_reducible refine r_gt (xs := ?xs) ?h ?g ?_); (case h => assumption); (case g => exact rfl)) | with_reducible refine r_ret ?_ | with_reducible refine r_if ?_ | with_reducible refine r_test ?_ | with_reducible refine r_B ?_ | with_reducible refine r_and ?_ | with_reducible refine r_or ?_ | with_reducible refine r_not ?_
  | with_reducible refine r_andV ?_ | with_reducible refine r_orV ?_ | with_reducible refine r_notV ?_ | with_reducible refine r_ifx ?_ | with_reducible refine r_op ?_ | with_reducible refine r_un ?_ | with_reducible refine r_U ?_ | with_reducible refine r_c ?_ | with_reducible refine r_I0 ?_ | with_reducible refine r_drop ?_ | with_reducible refine r_next ?_
  | ((with_reducible refine r_var (v := ?v) ?h ?_); (case h => exact rfl)) | with_reducible refine r_bl ?_ | with_reducible refine r_nil ?_ | with_reducible refine r_cons ?_ | with_reducible refine r_cb ?_ | with_reducible refine r_call ?_ | ((with_reducible refine r_gl (xs := ?xs) ?h ?g ?_); (case h => assumption); (case g => exact rfl)) | with_reducible refine r_sm1 ?_ | with_reducible refine r_sm2 ?_ | with_reducible refine r_sm3 ?_ | with_reducible refine r_ch ?_ | with_reducible refine r_bm ?_ | with_reducible refine r_bm0 ?_ | ((with_reducible refine r_ty (xs := ?xs) ?e ?_); (case e => assumption)) | with_reducible refine r_mkU ?_ | with_reducible refine r_mt0 ?_ | with_reducible refine r_yes ?_ | with_reducible refine iteT ?_ | with_reducible refine iteF ?_ | with_reducible refine r_spk ?_ | with_reducible refine r_sp1 ?_ | with_reducible refine r_sp2 ?_ | with_reducible refine r_sp3 ?_ | with_reducible refine r_sp4 ?_ | with_reducible refine r_sp5 ?_
  | with_reducible refine r_tup ?_ | with_reducible refine r_lst ?_ | with_reducible refine r_par ?_ | with_reducible refine r_par2 ?_ 
  | ((with_reducible refine r_eq ?h ?_); (case h => exact rfl)) | ((with_reducible refine r_ne ?h ?_); (case h => exact rfl))
  | ((with_reducible refine r_ixT (xs := ?xs) (v := ?v) ?h ?g ?_); (case h => assumption); (case g => first | exact at0 | exact at1))
  | ((with_reducible refine r_fl (i := ?i) (nm := ?nm) (C := ?C) (dx := ?dx) (vs := ?vs) (v := ?v) ?ok ?e ?hv ?_); (case e => assumption); (case ok => walk_at "fld"); (case hv => rfl)) | with_reducible refine r_for ?_ | with_reducible refine r_il ?_ | with_reducible refine r_it ?_ | with_reducible refine r_iz ?_ | with_reducible refine r_ir1 ?_ | with_reducible refine r_ir2 ?_ | with_reducible refine r_lc ?_ | with_reducible refine r_sFld ?_ | with_reducible refine r_ck ?_ | with_reducible refine r_fld ?_ | with_reducible refine ⟨_, rfl, ?_⟩ | with_reducible refine ⟨_, _, rfl, .inr (by with_unfolding_all assumption), ?_⟩ | with_reducible refine ⟨_, _, rfl, .inl (seqL (by assumption)), ?_⟩ | with_reducible refine ⟨_, _, rfl, rfl, ?_⟩ | with_reducible refine ⟨_, _, rfl, ?_⟩ | with_reducible refine ⟨rfl, ?_⟩ | with_reducible refine r_sz ?_))
local macro_rules | `(tactic| walk_at "go") => `(tactic| (repeat walk_at "g1"))
variable {P : Program} {w : World} {K : PySem.W.Frag} {mg : Str → Option Value} {A : Ad} {base : Heap}
/-! _law_walk. -/
open SX (S)
def movC : List Nat := (Str.ofString " moveto").cps.toList
def linC : List Nat := (Str.ofString " lineto").cps.toList
def cloC : List Nat := (Str.ofString " closepath").cps.toList
def ptT (k : Nat) (x : Pnt) : List Nat := [32] ++ textN x.1 ++ [32] ++ textN x.2 ++ if k = 0 then movC else linC
def ptsT : Nat → List Pnt → List Nat
  | _, [] => []
  | k, x :: xs => ptT k x ++ ptsT (k + 1) xs
def partT (l : Part) : List Nat := ptsT 0 l.1 ++ if l.2 then cloC else []
def walkT (p : Path) : List Nat := p.flatMap partT
theorem ptsT_step : ∀ (k : Nat) (xs : List Pnt) (j : Nat) (x : Pnt), xs[j]? = some x → ptsT k (xs.take (j + 1)) = ptsT k (xs.take j) ++ ptT (k + j) x
  | k, [], j, x, h => by simp at h
  | k, y :: xs, 0, x, h => by
    cases h
    simp [ptsT]
  | k, y :: xs, j + 1, x, h => by
    have ih := ptsT_step (k + 1) xs j x h
    rw [List.take_succ_cons, List.take_succ_cons]
    show ptT k y ++ ptsT (k + 1) (xs.take (j + 1)) = ptT k y ++ ptsT (k + 1) (xs.take j) ++ ptT (k + (j + 1)) x
    rw [ih, List.append_assoc, show k + 1 + j = k + (j + 1) by omega]
theorem ptT_len {k : Nat} {x : Pnt} (h : GP x) : (ptT k x).length ≤ 30 := by
  have h1 := (gn_len h.1).1
  have h2 := (gn_len h.2).1
  have h3 : (if k = 0 then movC else linC).length ≤ 7 := by
    split <;> decide +kernel
  unfold ptT
  simp only [List.length_append, List.length_singleton]
  omega
theorem ptsT_len : ∀ (k : Nat) (xs : List Pnt), (∀ x ∈ xs, GP x) → (ptsT k xs).length ≤ 30 * xs.length
  | _, [], _ => Nat.le_refl _
  | k, x :: xs, h => by
    have h1 := ptT_len (k := k) (h x List.mem_cons_self)
    have h2 := ptsT_len (k + 1) xs fun y m => h y (List.mem_cons_of_mem _ m)
    show (ptT k x ++ ptsT (k + 1) xs).length ≤ _
    rw [List.length_append, List.length_cons]
    omega
theorem partT_len {l : Part} (h : GPart l) : (partT l).length ≤ 160 := by
  have h1 := ptsT_len 0 l.1 h.pts
  have h2 := h.l5
  have h3 : (if l.2 then cloC else []).length ≤ 10 := by
    split <;> decide +kernel
  unfold partT
  rw [List.length_append]
  omega
theorem walkT_len : ∀ {p : Path}, (∀ l ∈ p, GPart l) → (walkT p).length ≤ 160 * p.length
  | [], _ => Nat.le_refl _
  | l :: p, h => by
    have h1 := partT_len (h l List.mem_cons_self)
    have h2 := walkT_len (p := p) fun y m => h y (List.mem_cons_of_mem _ m)
    have e : walkT (l :: p) = partT l ++ walkT p := by simp [walkT]
    rw [e, List.length_append, List.length_cons]
    omega
theorem walkT_step {p : Path} {i : Nat} {l : Part} (h : p[i]? = some l) : walkT (p.take (i + 1)) = walkT (p.take i) ++ partT l := by
  unfold walkT
  rw [List.take_add_one, h, List.flatMap_append, Option.toList_some, List.flatMap_singleton]
theorem e32 : Str.ofString " " = S [32] := by decide +kernel
theorem eMov : Str.ofString " moveto" = S movC := (SX.S_tl _).symm
theorem eLin : Str.ofString " lineto" = S linC := (SX.S_tl _).symm
theorem eClo : Str.ofString " closepath" = S cloC := (SX.S_tl _).symm
theorem lMov : movC.length = 7 := by decide +kernel
theorem lLin : linC.length = 7 := by decide +kernel
theorem lClo : cloC.length = 10 := by decide +kernel
theorem eNil : Str.ofString "" = S [] := (SX.S_tl _).symm
abbrev spWalk (K : PySem.W.Frag) : Sp := Sp1 fun a H Q => ∃ p, PathAt K H a p ∧ GPath p ∧ ∀ H', Same H H' → Q (.str (S (walkT p))) H'
theorem sc_law_walk : FnScope ["_law_path_here", "_law_found", "_law_points", "_law_is_closed", "_law_k", "_law_x", "_law_y"] ["_law_path_here"] (defScope s_law_walk) := ⟨rfl, rfl, rfl, by decide +kernel, rfl, by decide +kernel, by decide +kernel⟩
theorem cal_law_walk (T : Tx w K mg A) : Cal P w K mg base 2 "_law_walk" (spWalk K) [] := by
  refine calOf T.f_law_walk sc_law_walk (fun _ _ _ _ _ _ us hl => match us, hl with | [_], _ => rfl) Sp1.len fun f cdv Ar outer s H vs Q E hr h => ?_
  obtain ⟨_, rfl, p, ⟨a, xs, rfl, ha, hxs⟩, gp, q⟩ := h
  refine ⟨_, (pss_cons (ps_set (i := 1) sc_law_walk.nd rfl (.inl rfl) pe_str)
    (pss_cons (ps_for PassesOwn.never rfl (pi_tup (pv 0)) (pg_tup rfl (pgs_cons (pg_name (i := 2) sc_law_walk.nd rfl (.inl rfl)) (pgs_cons (pg_name (i := 3) sc_law_walk.nd rfl (.inl rfl)) pgs_nil)))
    (pss_cons (ps_for PassesOwn.never rfl (pi_enumT rfl T.n_enumerate (pa_cons (pv 2) pa_nil)) (pg_tup rfl (pgs_cons (pg_name (i := 4) sc_law_walk.nd rfl (.inl rfl)) (pgs_cons (pg_tup rfl (pgs_cons (pg_name (i := 5) sc_law_walk.nd rfl (.inl rfl)) (pgs_cons (pg_name (i := 6) sc_law_walk.nd rfl (.inl rfl)) pgs_nil))) pgs_nil)))
    (pss_one (ps_set (i := 1) sc_law_walk.nd rfl (.inl rfl) (pe_op op_add_str (pe_op op_add_str (pe_op op_add_str (pe_op op_add_str (pe_op op_add_str (pv 1) pe_str) (pe_c (cal_law_text T) hr (by decide) rfl (pa_cons (pv 5) pa_nil))) pe_str) (pe_c (cal_law_text T) hr (by decide) rfl (pa_cons (pv 6) pa_nil))) (pe_ifExp (pt_cmpR op_eq (pv 4) pe_int (nomark _)) pe_str pe_str)))))
    (pss_one (ps_set (i := 1) sc_law_walk.nd rfl (.inl rfl) (pe_op op_add_str (pv 1) (pe_ifExp (pt_val (pv 3)) pe_str pe_str))))))
    (pss_one (ps_ret (pv 1))))), ?_⟩
  have lp := gp.len
  walk_at "go"
  refine ⟨⟨_, ha⟩, ?_⟩
  refine for_it (walk_tup (xs := xs)) (fun i σ H' => ∃ z2 z3 z4 z5 z6, σ = [some (.ref a), some (.str (S (walkT (p.take i)))), z2, z3, z4, z5, z6] ∧ Same H H') ⟨_, _, _, _, _, rfl, Same.refl _⟩ (fun i σ H' _ ⟨_, _, _, _, _, _, sh⟩ => sqS ha sh) ?_ ?_
  · rintro i x σ H2 H2' hi ⟨z2, z3, z4, z5, z6, rfl, sh⟩ ⟨rfl, hx⟩
    have hi' : i < p.length := by rw [← pLen hxs]; exact hi
    have hpi : p[i]? = some p[i] := List.getElem?_eq_getElem hi'
    have gl := gp.parts _ (List.getElem_mem hi')
    have st := walkT_step hpi
    generalize p[i] = l at hpi gl st
    obtain ⟨al, vp, rfl, hal, ap, pxs, rfl, hap, hpx⟩ := (pAt hxs hx hpi).tk (Same.tk sh)
    have lw1 : (walkT (p.take i)).length ≤ 480 := by
      have h1 := walkT_len (p := p.take i) fun y m => gp.parts y (List.mem_of_mem_take m)
      have h2 : (p.take i).length ≤ 3 := by
        rw [List.length_take]
        omega
      omega
    refine r_gt hal rfl ?_
    walk_at "go"
    refine r_ient ?_
    walk_at "go"
    refine ⟨ap, pxs, rfl, hap, ?_⟩
    refine for_it (walk_enumT (xs := pxs)) (fun j σ H' => ∃ t z4 z5 z6, σ = [some (.ref a), some (.str (S t)), some (.ref ap), some (.bl l.2), z4, z5, z6] ∧ t = walkT (p.take i) ++ ptsT 0 (l.1.take j) ∧ Same H2' H') ⟨_, _, _, _, rfl, by rw [List.take_zero]; exact (List.append_nil _).symm, Same.refl _⟩ (fun j σ H' _ ⟨_, _, _, _, _, _, s2⟩ => sqS hap s2) ?_ ?_
    · rintro j x σ H3 H4 hj ⟨_, y4, y5, y6, rfl, rfl, s3⟩ ⟨T0, u, v, rfl, fT, rfl, hu, hv⟩
      generalize g4 : upd _ _ _ = H4
      have ⟨s4, e4⟩ := nwT g4 fT
      cases hu
      have hj' : j < l.1.length := by rw [← pLen hpx]; exact hj
      have hlj : l.1[j]? = some l.1[j] := List.getElem?_eq_getElem hj'
      have gx := gl.pts _ (List.getElem_mem hj')
      have sp := ptsT_step 0 l.1 j _ hlj
      generalize l.1[j] = x at hlj gx sp
      replace hv : pxs[j]? = some v := hv
      obtain ⟨tx, vx, vy, rfl, htx, hvx, hvy⟩ := (pAt hpx hv hlj).tk (Same.tk (s3.trans s4))
      have lq : (ptsT 0 (l.1.take j)).length ≤ 150 := by
        have h1 := ptsT_len 0 (l.1.take j) fun y m => gl.pts y (List.mem_of_mem_take m)
        have h2 : (l.1.take j).length ≤ 5 := by
          have := gl.l5
          rw [List.length_take]
          omega
        omega
      have n1 := (gn_len gx.1).1
      have n2 := (gn_len gx.2).1
      have e4' := e4 K
      refine r_gt e4' rfl ?_
      walk_at "go"
      refine ⟨by have := szBig; rw [e32, SX.S_len, SX.S_len, List.length_append, List.length_singleton]; omega, ?_⟩
      rw [e32, SX.S_cat]
      walk_at "go"
      refine ⟨_, hvx, gx.1, ?_⟩
      walk_at "go"
      refine ⟨by have := szBig; rw [SX.S_len, SX.S_len]; simp only [List.length_append, List.length_singleton]; omega, ?_⟩
      rw [SX.S_cat]
      walk_at "go"
      refine ⟨by have := szBig; rw [SX.S_len, SX.S_len]; simp only [List.length_append, List.length_singleton]; omega, ?_⟩
      rw [SX.S_cat]
      walk_at "go"
      refine ⟨_, hvy, gx.2, ?_⟩
      walk_at "go"
      refine ⟨by have := szBig; rw [SX.S_len, SX.S_len]; simp only [List.length_append, List.length_singleton]; omega, ?_⟩
      rw [SX.S_cat]
      walk_at "go"
      rw [decInt]
      have fin : ∀ (mv : List Nat), mv = (if j = 0 then movC else linC) → walkT (p.take i) ++ ptsT 0 (l.1.take j) ++ [32] ++ textN x.1 ++ [32] ++ textN x.2 ++ mv = walkT (p.take i) ++ ptsT 0 (l.1.take (j + 1)) := by
        intro mv em
        rw [sp, em, Nat.zero_add]
        unfold ptT
        simp only [List.append_assoc]
      by_cases h0 : j = 0
      · refine difT (by omega) ?_
        walk_at "go"
        refine ⟨by have := szBig; have := lMov; rw [eMov, SX.S_len, SX.S_len]; simp only [List.length_append, List.length_singleton]; omega, ?_⟩
        rw [eMov, SX.S_cat]
        rw [fin movC (by rw [if_pos h0])]
        exact ⟨_, _, _, _, rfl, rfl, s3.trans s4⟩
      · refine difF (by omega) ?_
        walk_at "go"
        refine ⟨by have := szBig; have := lLin; rw [eLin, SX.S_len, SX.S_len]; simp only [List.length_append, List.length_singleton]; omega, ?_⟩
        rw [eLin, SX.S_cat]
        rw [fin linC (by rw [if_neg h0])]
        exact ⟨_, _, _, _, rfl, rfl, s3.trans s4⟩
    · rintro σ H3 ⟨_, y4, y5, y6, rfl, rfl, s3⟩
      rw [List.take_of_length_le (l := l.1) (by rw [pLen hpx]; exact Nat.le_refl _)]
      have lq : (ptsT 0 l.1).length ≤ 150 := by
        have h1 := ptsT_len 0 l.1 gl.pts
        have := gl.l5
        omega
      walk_at "go"
      have fin : ∀ (mv : List Nat), mv = (if l.2 then cloC else []) → walkT (p.take i) ++ ptsT 0 l.1 ++ mv = walkT (p.take (i + 1)) := by
        intro mv em
        rw [st, em]
        unfold partT
        rw [List.append_assoc]
      cases hb : l.2 with
      | true =>
        refine itP rfl ?_
        walk_at "go"
        refine ⟨by have := szBig; have := lClo; rw [eClo, SX.S_len, SX.S_len, List.length_append]; omega, ?_⟩
        rw [eClo, SX.S_cat]
        rw [fin cloC (by rw [hb]; rfl)]
        exact ⟨_, _, _, _, _, rfl, sh.trans s3⟩
      | false =>
        refine itN (by decide) ?_
        walk_at "go"
        refine ⟨by have := szBig; rw [eNil, SX.S_len, SX.S_len, List.length_append, List.length_nil]; omega, ?_⟩
        rw [eNil, SX.S_cat]
        rw [fin [] (by rw [hb]; rfl)]
        exact ⟨_, _, _, _, _, rfl, sh.trans s3⟩
  · rintro σ H2 ⟨z2, z3, z4, z5, z6, rfl, sh⟩
    rw [List.take_of_length_le (l := p) (by rw [pLen hxs]; exact Nat.le_refl _)]
    walk_at "go"
    exact q H2 sh
end
section
local macro_rules | `(tactic| walk_at "fld") => `(tactic| (refine fkT (w := ?w) (K := ?K) (mg := ?mg) (A := ?A) ?t ?e ?h; (case t => assumption); (case e => exact rfl); (case h => first | with_reducible exact g_Look_matrix (by assumption) | with_reducible exact g_Look_path (by assumption) | with_reducible exact g_Look_ink (by assumption) | with_reducible exact g_Look_width (by assumption) | with_reducible exact g_Look_clips (by assumption) | with_reducible exact g_Look_font (by assumption) | with_reducible exact g_World_operands (by assumption) | with_reducible exact g_World_rooms (by assumption) | with_reducible exact g_World_scopes (by assumption) | with_reducible exact g_World_look (by assumption) | with_reducible exact g_World_kept (by assumption) | with_reducible exact g_World_sheets (by assumption) | with_reducible exact g_World_inkings (by assumption) | with_reducible exact g_World_saves (by assumption) | with_reducible exact g_World_many_saves (by assumption) | with_reducible exact g_Items_body (by assumption) | with_reducible exact g_Items_at (by assumption) | with_reducible exact g_Reader_text (by assumption) | with_reducible exact g_Reader_at (by assumption) | with_reducible exact g_Reader_row (by assumption) | with_reducible exact g_Reader_column (by assumption) | with_reducible exact g_Reader_deep (by assumption) | with_reducible exact g_Machine_wide (by assumption) | with_reducible exact g_Machine_high (by assumption) | with_reducible exact g_Machine_most (by assumption) | with_reducible exact g_Machine_world (by assumption) | with_reducible exact g_Machine_frames (by assumption) | with_reducible exact g_Machine_left (by assumption) | with_reducible exact g_Machine_told (by assumption) | with_reducible exact g_Machine_is_running (by assumption) | with_reducible exact g_Machine_ahead (by assumption) | with_reducible exact g_Machine_past (by assumption) | with_reducible exact g_Machine_later (by assumption))))
/-- as many steps as go by themselves -/
local macro_rules | `(tactic| walk_at "g1") => `(tactic| (first
  | with_reducible refine r_seq ?_ | with_reducible refine r_set ?_ | with_reducible refine r_asg ?_ | with_reducible refine r_sl ?_ | with_reducible refine r_np ?_ | with_reducible refine r_pt ?_ | with_reducible refine r_gn ?_ | with_reducible refine r_gc ?_ | with_reducible refine r_g0 ?_ | ((with_reducible refine r_gt (xs := ?xs) ?h ?g ?_); (case h => assumption); (case g => exact rfl)) | with_reducible refine r_ret ?_ | with_reducible refine r_if ?_ | with_reducible refine r_test ?_ | with_reducible refine r_B ?_ | with_reducible refine r_and ?_ | with_reducible refine r_or ?_ | with_reducible refine r_not ?_
  | with_reducible refine r_andV ?_ | with_reducible refine r_orV ?_ | with_reducible refine r_notV ?_ | with_reducible refine r_ifx ?_ | with_reducible refine r_op ?_ | with_reducible refine r_un ?_ | with_reducible refine r_U ?_ | with_reducible refine r_c ?_ | with_reducible refine r_I0 ?_ | with_reducible refine r_drop ?_ | with_reducible refine r_next ?_
  | ((with_reducible refine r_var (v := ?v) ?h ?_); (case h => exact rfl)) | with_reducible refine r_bl ?_ | with_reducible refine r_nil ?_ | with_reducible refine r_cons ?_ | with_reducible refine r_cb ?_ | with_reducible refine r_call ?_ | ((with_reducible refine r_gl (xs := ?xs) ?h ?g ?_); (case h => assumption); (case g => exact rfl)) | with_reducible refine r_sm1 ?_ | with_reducible refine r_sm2 ?_ | with_reducible refine r_sm3 ?_ | with_reducible refine r_ch ?_ | with_reducible refine r_bm ?_ | with_reducible refine r_bm0 ?_ | ((with_reducible refine r_ty (xs := ?xs) ?e ?_); (case e => assumption)) | with_reducible refine r_mkU ?_ | with_reducible refine r_mt0 ?_ | with_reducible refine r_yes ?_ | with_reducible refine iteT ?_ | with_reducible refine iteF ?_ | with_reducible refine r_spk ?_ | with_reducible refine r_sp1 ?_ | with_reducible refine r_sp2 ?_ | with_reducible refine r_sp3 ?_ | with_reducible refine r_sp4 ?_ | with_reducible refine r_sp5 ?_
  | with_reducible refine r_tup ?_ | with_reducible refine r_lst ?_ | with_reducible refine r_par ?_ | with_reducible refine r_par2 ?_ 
  | ((with_reducible refine r_eq ?h ?_); (case h => exact rfl)) | ((with_reducible refine r_ne ?h ?_); (case h => exact rfl))
  | ((with_reducible refine r_ixT (xs := ?xs) (v := ?v) ?h ?g ?_); (case h => assumption); (case g => first | exact at0 | exact at1))
  | ((with_reducible refine r_fl (i := ?i) (nm := ?nm) (C := ?C) (dx := ?dx) (vs := ?vs) (v := ?v) ?ok ?e ?hv ?_); (case e => assumption); (case ok => walk_at "fld"); (case hv => rfl)) | with_reducible refine r_for ?_ | with_reducible refine r_il ?_ | with_reducible refine r_it ?_ | with_reducible refine r_iz ?_ | with_reducible refine r_ir1 ?_ | with_reducible refine r_ir2 ?_ | with_reducible refine r_lc ?_ | with_reducible refine r_sFld ?_ | with_reducible refine r_ck ?_ | with_reducible refine r_fld ?_ | with_reducible refine ⟨_, rfl, ?_⟩ | with_reducible refine ⟨_, _, rfl, .inr (by with_unfolding_all assumption), ?_⟩ | with_reducible refine ⟨_, _, rfl, .inl (seqL (by assumption)), ?_⟩ | with_reducible refine ⟨_, _, rfl, rfl, ?_⟩ | with_reducible refine ⟨_, _, rfl, ?_⟩ | with_reducible refine ⟨rfl, ?_⟩ | with_reducible refine r_sz ?_))
local macro_rules | `(tactic| walk_at "go") => `(tactic| (repeat walk_at "g1"))
variable {P : Program} {w : World} {K : PySem.W.Frag} {mg : Str → Option Value} {A : Ad} {base : Heap}
/-! _law_page. -/
open SX (S)
def W0 : Ws := ⟨[], ⟨[], 1, []⟩, [], []⟩
/-- a program's text, and the deeds of ink that it leaves -/
def Prog (cs : List Nat) (ds : List Dd) : Prop := cs.length ≤ 100000 ∧ ∃ its W', Reads cs its ∧ its.length ≤ 5000 ∧ Runs its W0 W' ∧ W'.inks = ds ∧ ∀ d ∈ ds, DOk d
abbrev spLawPage (K : PySem.W.Frag) : Sp := Sp1 fun a H Q => ∃ cs ds, a = .str (S cs) ∧ Prog cs ds ∧ ∀ v H', Same H H' → PageAt K H' v (pageD ds) → Q v H'
theorem sc_law_page : FnScope ["_law_text_here", "_law_machine"] ["_law_text_here"] (defScope s_law_page) := ⟨rfl, rfl, rfl, by decide +kernel, rfl, by decide +kernel, by decide +kernel⟩
theorem cal_law_page (T : Tx w K mg A) : Cal P w K mg base 15 "_law_page" (spLawPage K) [] := by
  refine calOf T.f_law_page sc_law_page (fun _ _ _ _ _ _ us hl => match us, hl with | [_], _ => rfl) Sp1.len fun f cdv Ar outer s H vs Q E hr h => ?_
  obtain ⟨_, rfl, cs, _, rfl, ⟨hc, its, W', hR, hl, hW, rfl, hok⟩, q⟩ := h
  refine ⟨_, (pss_cons (ps_set (i := 1) sc_law_page.nd rfl (.inl rfl) (pe_mk (mak_Machine T) hr (by decide) rfl (pa_cons pe_int (pa_cons pe_int pa_nil))))
    (pss_one (ps_ret (pe_ifExp (pt_cmpR op_isN (pe_mt (met_Machine_run T) hr (by decide) (pv 1) (pa_cons (pv 0) pa_nil)) pe_non (nomark _)) (pe_mt0 (met_Machine_page T) hr (by decide) (pv 1)) pe_non)))), ?_⟩
  walk_at "go"
  intro x dx fx fd ne
  generalize g0 : upd (upd _ _ _) _ _ = H0
  have ⟨s0, e0⟩ := nwM g0 fx fd
  refine ⟨_, _, _, _, rfl, x, dx, rfl, rfl, rfl, rfl, e0, fun fr past wa H1 b1 n1 o1 => ⟨rfl, ?_⟩⟩
  have s1 : Same H H1 := Bu.new s0 fx b1
  obtain ⟨mdx, la, em⟩ := n1.m
  walk_at "go"
  refine r_mtI em (by decide +kernel) ?_
  walk_at "go"
  refine ⟨x, fr, past, wa, cs, its, W', n1, rfl, rfl, hc, hR, hl, hW, fun wa2 H2 o2 t2 d2 m2 n2 => ?_⟩
  have new : ∀ b ∈ [x, fr, past] ++ wa.own, H b = none := by
    intro b m
    rw [List.cons_append, List.mem_cons] at m
    rcases m with rfl | m
    · exact fx
    · exact s0.free (o1 b m)
  have s2 : Same H H2 := fun b o e => t2.but b o (fun m => by
    have := new b m
    rw [this] at e
    cases e) (s1 _ _ e)
  obtain ⟨mdx2, fr2, lf2, rn2, ah2, pa2, la2, em2⟩ := d2.m
  walk_at "go"
  refine difT rfl ?_
  walk_at "go"
  refine r_mtI em2 (by decide +kernel) ?_
  walk_at "go"
  exact ⟨x, wa2, W', rfl, d2, hok, fun v H3 s3 hp => q v H3 (s2.trans s3) hp⟩
end
section
local macro_rules | `(tactic| walk_at "fld") => `(tactic| (refine fkT (w := ?w) (K := ?K) (mg := ?mg) (A := ?A) ?t ?e ?h; (case t => assumption); (case e => exact rfl); (case h => first | with_reducible exact g_Look_matrix (by assumption) | with_reducible exact g_Look_path (by assumption) | with_reducible exact g_Look_ink (by assumption) | with_reducible exact g_Look_width (by assumption) | with_reducible exact g_Look_clips (by assumption) | with_reducible exact g_Look_font (by assumption) | with_reducible exact g_World_operands (by assumption) | with_reducible exact g_World_rooms (by assumption) | with_reducible exact g_World_scopes (by assumption) | with_reducible exact g_World_look (by assumption) | with_reducible exact g_World_kept (by assumption) | with_reducible exact g_World_sheets (by assumption) | with_reducible exact g_World_inkings (by assumption) | with_reducible exact g_World_saves (by assumption) | with_reducible exact g_World_many_saves (by assumption) | with_reducible exact g_Items_body (by assumption) | with_reducible exact g_Items_at (by assumption) | with_reducible exact g_Reader_text (by assumption) | with_reducible exact g_Reader_at (by assumption) | with_reducible exact g_Reader_row (by assumption) | with_reducible exact g_Reader_column (by assumption) | with_reducible exact g_Reader_deep (by assumption) | with_reducible exact g_Machine_wide (by assumption) | with_reducible exact g_Machine_high (by assumption) | with_reducible exact g_Machine_most (by assumption) | with_reducible exact g_Machine_world (by assumption) | with_reducible exact g_Machine_frames (by assumption) | with_reducible exact g_Machine_left (by assumption) | with_reducible exact g_Machine_told (by assumption) | with_reducible exact g_Machine_is_running (by assumption) | with_reducible exact g_Machine_ahead (by assumption) | with_reducible exact g_Machine_past (by assumption) | with_reducible exact g_Machine_later (by assumption))))
/-- as many steps as go by themselves -/
local macro_rules | `(tactic| walk_at "g1") => `(tactic| (first
  | with_reducible refine r_seq ?_ | with_reducible refine r_set ?_ | with_reducible refine r_asg ?_ | with_reducible refine r_sl ?_ | with_reducible refine r_np ?_ | with_reducible refine r_pt ?_ | with_reducible refine r_gn ?_ | with_reducible refine r_gc ?_ | with_reducible refine r_g0 ?_ | ((with_reducible refine r_gt (xs := ?xs) ?h ?g ?_); (case h => assumption); (case g => exact rfl)) | with_reducible refine r_ret ?_ | with_reducible refine r_if ?_ | with_reducible refine r_test ?_ | with_reducible refine r_B ?_ | with_reducible refine r_and ?_ | with_reducible refine r_or ?_ | with_reducible refine r_not ?_
  | with_reducible refine r_andV ?_ | with_reducible refine r_orV ?_ | with_reducible refine r_notV ?_ | with_reducible refine r_ifx ?_ | with_reducible refine r_op ?_ | with_reducible refine r_un ?_ | with_reducible refine r_U ?_ | with_reducible refine r_c ?_ | with_reducible refine r_I0 ?_ | with_reducible refine r_drop ?_ | with_reducible refine r_next ?_
  | ((with_reducible refine r_var (v := ?v) ?h ?_); (case h => exact rfl)) | with_reducible refine r_bl ?_ | with_reducible refine r_nil ?_ | with_reducible refine r_cons ?_ | with_reducible refine r_cb ?_ | with_reducible refine r_call ?_ | ((with_reducible refine r_gl (xs := ?xs) ?h ?g ?_); (case h => assumption); (case g => exact rfl)) | with_reducible refine r_sm1 ?_ | with_reducible refine r_sm2 ?_ | with_reducible refine r_sm3 ?_ | with_reducible refine r_ch ?_ | with_reducible refine r_bm ?_ | with_reducible refine r_bm0 ?_ | ((with_reducible refine r_ty (xs := ?xs) ?e ?_); (case e => assumption)) | with_reducible refine r_mkU ?_ | with_reducible refine r_mt0 ?_ | with_reducible refine r_yes ?_ | with_reducible refine iteT ?_ | with_reducible refine iteF ?_ | with_reducible refine r_spk ?_ | with_reducible refine r_sp1 ?_ | with_reducible refine r_sp2 ?_ | with_reducible refine r_sp3 ?_ | with_reducible refine r_sp4 ?_ | with_reducible refine r_sp5 ?_
  | with_reducible refine r_tup ?_ | with_reducible refine r_lst ?_ | with_reducible refine r_par ?_ | with_reducible refine r_par2 ?_ 
  | ((with_reducible refine r_eq ?h ?_); (case h => exact rfl)) | ((with_reducible refine r_ne ?h ?_); (case h => exact rfl))
  | ((with_reducible refine r_ixT (xs := ?xs) (v := ?v) ?h ?g ?_); (case h => assumption); (case g => first | exact at0 | exact at1))
  | ((with_reducible refine r_fl (i := ?i) (nm := ?nm) (C := ?C) (dx := ?dx) (vs := ?vs) (v := ?v) ?ok ?e ?hv ?_); (case e => assumption); (case ok => walk_at "fld"); (case hv => rfl)) | with_reducible refine r_for ?_ | with_reducible refine r_il ?_ | with_reducible refine r_it ?_ | with_reducible refine r_iz ?_ | with_reducible refine r_ir1 ?_ | with_reducible refine r_ir2 ?_ | with_reducible refine r_lc ?_ | with_reducible refine r_sFld ?_ | with_reducible refine r_ck ?_ | with_reducible refine r_fld ?_ | with_reducible refine ⟨_, rfl, ?_⟩ | with_reducible refine ⟨_, _, rfl, .inr (by with_unfolding_all assumption), ?_⟩ | with_reducible refine ⟨_, _, rfl, .inl (seqL (by assumption)), ?_⟩ | with_reducible refine ⟨_, _, rfl, rfl, ?_⟩ | with_reducible refine ⟨_, _, rfl, ?_⟩ | with_reducible refine ⟨rfl, ?_⟩ | with_reducible refine r_sz ?_))
local macro_rules | `(tactic| walk_at "go") => `(tactic| (repeat walk_at "g1"))
variable {P : Program} {w : World} {K : PySem.W.Frag} {mg : Str → Option Value} {A : Ad} {base : Heap}
/-! The law's texts: what they read to. -/
open SX (S)
/-- a text that reads, and can stand behind a word -/
structure Rd (cs : List Nat) (its : List Itm) : Prop where
  r : Reads cs its
  h : cs = [] ∨ ∃ r, cs = 32 :: r
theorem Rd.nil : Rd [] [] := ⟨.nil, .inl rfl⟩
theorem Rd.app {a b : List Nat} {x y : List Itm} (h : Rd a x) (g : Rd b y) : Rd (a ++ b) (x ++ y) := by
  refine ⟨h.r.app g.r g.h, ?_⟩
  rcases h.h with rfl | ⟨r, rfl⟩
  · exact g.h
  · exact .inr ⟨_, rfl⟩
/-- a word: what it is -/
structure Wd (w : List Nat) (it : Itm) : Prop where
  ne : w ≠ []
  abc : ∀ c ∈ w, c ∈ wordL
  is : WordIs w it
  len : w.length ≤ 1000
theorem Wd.lead {w cs : List Nat} {it : Itm} {its : List Itm} (h : Wd w it) (g : Rd cs its) : Reads (w ++ cs) (it :: its) := .word h.ne h.abc h.is h.len g.h g.r
theorem Wd.rd {w : List Nat} {it : Itm} (h : Wd w it) : Rd (32 :: w) [it] := by
  refine ⟨.blank ?_, .inr ⟨_, rfl⟩⟩
  have := h.lead Rd.nil
  rw [List.append_nil] at this
  exact this
theorem Wd.num {n : Num} (h : GN n) : Wd (textN n) (.num n) := ⟨(gn_word h).1, (gn_word h).2, .num (gn_num h), Nat.le_trans (gn_len h).1 (by decide)⟩
def opC (n : Str) : List Nat := n.cps.toList
def opOkB (cs : List Nat) : Bool := decide (¬ cs.take 1 = [45]) && !figsB cs && decide ((TL.spl [58] 0 [] cs).length ≠ 2) && decide ((TL.spl [46] 0 [] cs).length ≠ 2) &&
  (decide (1 ≤ cs.length) && decide (cs.length ≤ 12) && cs.head?.any (fun c => decide (c ∈ letL)) && cs.all fun c => decide (c ∈ nameL)) && cs.all fun c => decide (c ∈ wordL)
theorem Wd.op {n : Str} (h : opOkB (opC n) = true) : Wd (opC n) (.op n) := by
  unfold opOkB at h
  simp only [Bool.and_eq_true] at h
  obtain ⟨⟨⟨⟨⟨a, b⟩, c⟩, d⟩, ⟨⟨⟨e, f⟩, g⟩, i⟩⟩, j⟩ := h
  have b' : figsB (opC n) = false := by simpa using b
  have nn : NotNum (opC n) := ⟨of_decide_eq_true a, b', of_decide_eq_true c, of_decide_eq_true d⟩
  have l1 := of_decide_eq_true e
  have l2 := of_decide_eq_true f
  have nw : NameW (opC n) := by
    refine ⟨l1, l2, ?_, fun c m => of_decide_eq_true (List.all_eq_true.mp i c m)⟩
    cases hc : opC n with
    | nil => rw [hc] at l1; simp at l1
    | cons c r =>
      rw [hc] at g
      exact ⟨c, rfl, of_decide_eq_true g⟩
  have w := WordIs.op nn nw
  rw [show S (opC n) = n from SX.S_tl n] at w
  exact ⟨fun z => by rw [z] at l1; simp at l1, fun c m => of_decide_eq_true (List.all_eq_true.mp j c m), w, by omega⟩
theorem ops_ok : ∀ p ∈ opTab, opOkB (opC p.1) = true := by decide +kernel
theorem op_newpath : Wd (opC "newpath") (.op "newpath") := .op (ops_ok ("newpath", "do_newpath") (by simp [opTab]))
theorem op_moveto : Wd (opC "moveto") (.op "moveto") := .op (ops_ok ("moveto", "do_moveto") (by simp [opTab]))
theorem op_lineto : Wd (opC "lineto") (.op "lineto") := .op (ops_ok ("lineto", "do_lineto") (by simp [opTab]))
theorem op_closepath : Wd (opC "closepath") (.op "closepath") := .op (ops_ok ("closepath", "do_closepath") (by simp [opTab]))
theorem op_rect : Wd (opC "rect") (.op "rect") := .op (ops_ok ("rect", "do_rect") (by simp [opTab]))
theorem op_setink : Wd (opC "setink") (.op "setink") := .op (ops_ok ("setink", "do_setink") (by simp [opTab]))
theorem op_initclip : Wd (opC "initclip") (.op "initclip") := .op (ops_ok ("initclip", "do_initclip") (by simp [opTab]))
theorem op_gsave : Wd (opC "gsave") (.op "gsave") := .op (ops_ok ("gsave", "do_gsave") (by simp [opTab]))
theorem op_grestore : Wd (opC "grestore") (.op "grestore") := .op (ops_ok ("grestore", "do_grestore") (by simp [opTab]))
theorem op_erase : Wd (opC "erase") (.op "erase") := .op (ops_ok ("erase", "do_erase") (by simp [opTab]))
/-- the words by the rule -/
def clipS (o : Bool) : Str := if o then "eoclip" else "clip"
def fillS (o : Bool) : Str := if o then "eofill" else "fill"
theorem op_clip (o : Bool) : Wd (opC (clipS o)) (.op (clipS o)) := by
  cases o
  · exact .op (ops_ok ("clip", "do_clip") (by simp [opTab]))
  · exact .op (ops_ok ("eoclip", "do_eoclip") (by simp [opTab]))
theorem op_fill (o : Bool) : Wd (opC (fillS o)) (.op (fillS o)) := by
  cases o
  · exact .op (ops_ok ("fill", "do_fill") (by simp [opTab]))
  · exact .op (ops_ok ("eofill", "do_eofill") (by simp [opTab]))
/-! ### a path's walk -/
def ptI (k : Nat) (x : Pnt) : List Itm := [.num x.1] ++ [.num x.2] ++ [.op (if k = 0 then "moveto" else "lineto")]
def ptsI : Nat → List Pnt → List Itm
  | _, [] => []
  | k, x :: xs => ptI k x ++ ptsI (k + 1) xs
def partI (l : Part) : List Itm := ptsI 0 l.1 ++ if l.2 then [.op "closepath"] else []
def walkI (p : Path) : List Itm := p.flatMap partI
theorem rd_pt {k : Nat} {x : Pnt} (h : GP x) : Rd (ptT k x) (ptI k x) := by
  have e : ptT k x = (32 :: textN x.1) ++ (32 :: textN x.2) ++ if k = 0 then movC else linC := by
    unfold ptT
    simp
  rw [e]
  refine ((Wd.num h.1).rd.app (Wd.num h.2).rd).app ?_
  split
  · have e2 : movC = 32 :: opC "moveto" := by decide +kernel
    rw [e2]
    exact op_moveto.rd
  · have e2 : linC = 32 :: opC "lineto" := by decide +kernel
    rw [e2]
    exact op_lineto.rd
theorem rd_pts : ∀ (k : Nat) (xs : List Pnt), (∀ x ∈ xs, GP x) → Rd (ptsT k xs) (ptsI k xs)
  | _, [], _ => Rd.nil
  | k, x :: xs, h => (rd_pt (h x List.mem_cons_self)).app (rd_pts (k + 1) xs fun y m => h y (List.mem_cons_of_mem _ m))
theorem rd_part {l : Part} (h : GPart l) : Rd (partT l) (partI l) := by
  refine (rd_pts 0 l.1 h.pts).app ?_
  split
  · have e2 : cloC = 32 :: opC "closepath" := by decide +kernel
    rw [e2]
    exact op_closepath.rd
  · exact Rd.nil
theorem rd_walk : ∀ {p : Path}, (∀ l ∈ p, GPart l) → Rd (walkT p) (walkI p)
  | [], _ => Rd.nil
  | l :: p, h => by
    have e1 : walkT (l :: p) = partT l ++ walkT p := by simp [walkT]
    have e2 : walkI (l :: p) = partI l ++ walkI p := by simp [walkI]
    rw [e1, e2]
    exact (rd_part (h l List.mem_cons_self)).app (rd_walk fun y m => h y (List.mem_cons_of_mem _ m))
/-! ### the law's pieces -/
def oneT (p : Path) (o : Bool) : List Nat := opC "newpath" ++ walkT p ++ [32] ++ opC (clipS o)
def twoT (p : Path) (o : Bool) : List Nat := [32] ++ opC "newpath" ++ walkT p ++ [32] ++ opC (clipS o)
def inkT (p : Path) (o : Bool) : List Nat := [32] ++ opC "newpath" ++ walkT p ++ (Str.ofString " 5 setink ").cps.toList ++ opC (fillS o)
def oneI (p : Path) (o : Bool) : List Itm := [.op "newpath"] ++ walkI p ++ [.op (clipS o)]
def inkI (p : Path) (o : Bool) : List Itm := [.op "newpath"] ++ walkI p ++ [.num (5, 1), .op "setink", .op (fillS o)]
theorem rd_tail {p : Path} (h : ∀ l ∈ p, GPart l) (o : Bool) : Rd (walkT p ++ (32 :: opC (clipS o))) (walkI p ++ [.op (clipS o)]) := (rd_walk h).app (op_clip o).rd
theorem rd_one {p : Path} (h : ∀ l ∈ p, GPart l) (o : Bool) {cs : List Nat} {its : List Itm} (g : Rd cs its) : Reads (oneT p o ++ cs) (oneI p o ++ its) := by
  have e1 : oneT p o ++ cs = opC "newpath" ++ ((walkT p ++ (32 :: opC (clipS o))) ++ cs) := by
    unfold oneT
    simp only [List.append_assoc, List.singleton_append, List.cons_append, List.nil_append]
  have e2 : oneI p o ++ its = .op "newpath" :: ((walkI p ++ [.op (clipS o)]) ++ its) := by
    unfold oneI
    simp only [List.append_assoc, List.singleton_append, List.cons_append, List.nil_append]
  rw [e1, e2]
  exact op_newpath.lead ((rd_tail h o).app g)
theorem rd_two {p : Path} (h : ∀ l ∈ p, GPart l) (o : Bool) : Rd (twoT p o) (oneI p o) := by
  have e1 : twoT p o = (32 :: opC "newpath") ++ (walkT p ++ (32 :: opC (clipS o))) := by
    unfold twoT
    simp only [List.append_assoc, List.singleton_append, List.cons_append, List.nil_append]
  have e2 : oneI p o = [.op "newpath"] ++ (walkI p ++ [.op (clipS o)]) := by
    unfold oneI
    rw [List.append_assoc]
  rw [e1, e2]
  exact op_newpath.rd.app (rd_tail h o)
theorem two_one (p : Path) (o : Bool) : twoT p o = [32] ++ oneT p o := by
  unfold twoT oneT
  simp only [List.append_assoc]
theorem gn5 : GN (5, 1) := (by decide +kernel : ((5, 1) : Num) ∈ allN)
theorem gn0 : GN (0, 1) := (by decide +kernel : ((0, 1) : Num) ∈ allN)
theorem gn6 : GN (6, 1) := (by decide +kernel : ((6, 1) : Num) ∈ allN)
theorem gn7 : GN (7, 1) := (by decide +kernel : ((7, 1) : Num) ∈ allN)
theorem rd_ink {p : Path} (h : ∀ l ∈ p, GPart l) (o : Bool) : Rd (inkT p o) (inkI p o) := by
  have e0 : (Str.ofString " 5 setink ").cps.toList = (32 :: textN (5, 1)) ++ (32 :: opC "setink") ++ [32] := by decide +kernel
  have e1 : inkT p o = (32 :: opC "newpath") ++ walkT p ++ (32 :: textN (5, 1)) ++ (32 :: opC "setink") ++ (32 :: opC (fillS o)) := by
    unfold inkT
    rw [e0]
    simp only [List.append_assoc, List.singleton_append, List.cons_append, List.nil_append]
  have e2 : inkI p o = [.op "newpath"] ++ walkI p ++ [.num (5, 1)] ++ [.op "setink"] ++ [.op (fillS o)] := by
    unfold inkI
    simp only [List.append_assoc, List.singleton_append, List.cons_append, List.nil_append]
  rw [e1, e2]
  exact (((op_newpath.rd.app (rd_walk h)).app (Wd.num gn5).rd).app op_setink.rd).app (op_fill o).rd
theorem opC_len (o : Bool) : (opC (clipS o)).length ≤ 6 ∧ (opC (fillS o)).length ≤ 6 := by
  cases o <;> decide +kernel
theorem one_len {p : Path} (h : GPath p) (o : Bool) : (oneT p o).length ≤ 600 := by
  have h1 := walkT_len h.parts
  have h2 := h.len
  have h3 := (opC_len o).1
  have h4 : (opC "newpath").length = 7 := by decide +kernel
  unfold oneT
  simp only [List.length_append, List.length_singleton]
  omega
theorem two_len {p : Path} (h : GPath p) (o : Bool) : (twoT p o).length ≤ 600 := by
  have h1 := walkT_len h.parts
  have h2 := h.len
  have h3 := (opC_len o).1
  have h4 : (opC "newpath").length = 7 := by decide +kernel
  unfold twoT
  simp only [List.length_append, List.length_singleton]
  omega
theorem ink_len {p : Path} (h : GPath p) (o : Bool) : (inkT p o).length ≤ 600 := by
  have h1 := walkT_len h.parts
  have h2 := h.len
  have h3 := (opC_len o).2
  have h4 : (opC "newpath").length = 7 := by decide +kernel
  have h5 : (Str.ofString " 5 setink ").cps.toList.length = 10 := by decide +kernel
  unfold inkT
  simp only [List.length_append, List.length_singleton]
  omega
end
section
local macro_rules | `(tactic| walk_at "fld") => `(tactic| (refine fkT (w := ?w) (K := ?K) (mg := ?mg) (A := ?A) ?t ?e ?h; (case t => assumption); (case e => exact rfl); (case h => first | with_reducible exact g_Look_matrix (by assumption) | with_reducible exact g_Look_path (by assumption) | with_reducible exact g_Look_ink (by assumption) | with_reducible exact g_Look_width (by assumption) | with_reducible exact g_Look_clips (by assumption) | with_reducible exact g_Look_font (by assumption) | with_reducible exact g_World_operands (by assumption) | with_reducible exact g_World_rooms (by assumption) | with_reducible exact g_World_scopes (by assumption) | with_reducible exact g_World_look (by assumption) | with_reducible exact g_World_kept (by assumption) | with_reducible exact g_World_sheets (by assumption) | with_reducible exact g_World_inkings (by assumption) | with_reducible exact g_World_saves (by assumption) | with_reducible exact g_World_many_saves (by assumption) | with_reducible exact g_Items_body (by assumption) | with_reducible exact g_Items_at (by assumption) | with_reducible exact g_Reader_text (by assumption) | with_reducible exact g_Reader_at (by assumption) | with_reducible exact g_Reader_row (by assumption) | with_reducible exact g_Reader_column (by assumption) | with_reducible exact g_Reader_deep (by assumption) | with_reducible exact g_Machine_wide (by assumption) | with_reducible exact g_Machine_high (by assumption) | with_reducible exact g_Machine_most (by assumption) | with_reducible exact g_Machine_world (by assumption) | with_reducible exact g_Machine_frames (by assumption) | with_reducible exact g_Machine_left (by assumption) | with_reducible exact g_Machine_told (by assumption) | with_reducible exact g_Machine_is_running (by assumption) | with_reducible exact g_Machine_ahead (by assumption) | with_reducible exact g_Machine_past (by assumption) | with_reducible exact g_Machine_later (by assumption))))
/-- as many steps as go by themselves -/
local macro_rules | `(tactic| walk_at "g1") => `(tactic| (first
  | with_reducible refine r_seq ?_ | with_reducible refine r_set ?_ | with_reducible refine r_asg ?_ | with_reducible refine r_sl ?_ | with_reducible refine r_np ?_ | with_reducible refine r_pt ?_ | with_reducible refine r_gn ?_ | with_reducible refine r_gc ?_ | with_reducible refine r_g0 ?_ | ((with_reducible refine r_gt (xs := ?xs) ?h ?g ?_); (case h => assumption); (case g => exact rfl)) | with_reducible refine r_ret ?_ | with_reducible refine r_if ?_ | with_reducible refine r_test ?_ | with_reducible refine r_B ?_ | with_reducible refine r_and ?_ | with_reducible refine r_or ?_ | with_reducible refine r_not ?_
  | with_reducible refine r_andV ?_ | with_reducible refine r_orV ?_ | with_reducible refine r_notV ?_ | with_reducible refine r_ifx ?_ | with_reducible refine r_op ?_ | with_reducible refine r_un ?_ | with_reducible refine r_U ?_ | with_reducible refine r_c ?_ | with_reducible refine r_I0 ?_ | with_reducible refine r_drop ?_ | with_reducible refine r_next ?_
  | ((with_reducible refine r_var (v := ?v) ?h ?_); (case h => exact rfl)) | with_reducible refine r_bl ?_ | with_reducible refine r_nil ?_ | with_reducible refine r_cons ?_ | with_reducible refine r_cb ?_ | with_reducible refine r_call ?_ | ((with_reducible refine r_gl (xs := ?xs) ?h ?g ?_); (case h => assumption); (case g => exact rfl)) | with_reducible refine r_sm1 ?_ | with_reducible refine r_sm2 ?_ | with_reducible refine r_sm3 ?_ | with_reducible refine r_ch ?_ | with_reducible refine r_bm ?_ | with_reducible refine r_bm0 ?_ | ((with_reducible refine r_ty (xs := ?xs) ?e ?_); (case e => assumption)) | with_reducible refine r_mkU ?_ | with_reducible refine r_mt0 ?_ | with_reducible refine r_yes ?_ | with_reducible refine iteT ?_ | with_reducible refine iteF ?_ | with_reducible refine r_spk ?_ | with_reducible refine r_sp1 ?_ | with_reducible refine r_sp2 ?_ | with_reducible refine r_sp3 ?_ | with_reducible refine r_sp4 ?_ | with_reducible refine r_sp5 ?_
  | with_reducible refine r_tup ?_ | with_reducible refine r_lst ?_ | with_reducible refine r_par ?_ | with_reducible refine r_par2 ?_ 
  | ((with_reducible refine r_eq ?h ?_); (case h => exact rfl)) | ((with_reducible refine r_ne ?h ?_); (case h => exact rfl))
  | ((with_reducible refine r_ixT (xs := ?xs) (v := ?v) ?h ?g ?_); (case h => assumption); (case g => first | exact at0 | exact at1))
  | ((with_reducible refine r_fl (i := ?i) (nm := ?nm) (C := ?C) (dx := ?dx) (vs := ?vs) (v := ?v) ?ok ?e ?hv ?_); (case e => assumption); (case ok => walk_at "fld"); (case hv => rfl)) | with_reducible refine r_for ?_ | with_reducible refine r_il ?_ | with_reducible refine r_it ?_ | with_reducible refine r_iz ?_ | with_reducible refine r_ir1 ?_ | with_reducible refine r_ir2 ?_ | with_reducible refine r_lc ?_ | with_reducible refine r_sFld ?_ | with_reducible refine r_ck ?_ | with_reducible refine r_fld ?_ | with_reducible refine ⟨_, rfl, ?_⟩ | with_reducible refine ⟨_, _, rfl, .inr (by with_unfolding_all assumption), ?_⟩ | with_reducible refine ⟨_, _, rfl, .inl (seqL (by assumption)), ?_⟩ | with_reducible refine ⟨_, _, rfl, rfl, ?_⟩ | with_reducible refine ⟨_, _, rfl, ?_⟩ | with_reducible refine ⟨rfl, ?_⟩ | with_reducible refine r_sz ?_))
local macro_rules | `(tactic| walk_at "go") => `(tactic| (repeat walk_at "g1"))
variable {P : Program} {w : World} {K : PySem.W.Frag} {mg : Str → Option Value} {A : Ad} {base : Heap}
/-! The law's texts: what they do. -/
theorem Ws.setPath_ops (W : Ws) (p : Path) : (W.setPath p).ops = W.ops := rfl
theorem Ws.setPath_path (W : Ws) (p : Path) : (W.setPath p).look.path = p := rfl
theorem Ws.setPath_twice (W : Ws) (p q : Path) : (W.setPath p).setPath q = W.setPath q := rfl
/-- no operands, short lists -/
structure Cl (W : Ws) (n : Nat) : Prop where
  ops : W.ops = []
  clips : W.look.clips.length ≤ n
  kept : W.kept.length ≤ n
  inks : W.inks.length ≤ n
theorem Cl.setPath {W : Ws} {n : Nat} (h : Cl W n) (p : Path) : Cl (W.setPath p) n := ⟨h.ops, h.clips, h.kept, h.inks⟩
theorem Cl.up {W : Ws} {n m : Nat} (h : Cl W n) (l : n ≤ m) : Cl W m := ⟨h.ops, Nat.le_trans h.clips l, Nat.le_trans h.kept l, Nat.le_trans h.inks l⟩
theorem run1 {n : Str} {W W' : Ws} (h : OpS n W W') : Runs [.op n] W W' := .cons (.op h) .nil
theorem push2 {W : Ws} (h : W.ops = []) (a b : Num) : Runs [.num a, .num b] W { W with ops := [a, b] } := by
  have e1 : IStep (.num a) W { W with ops := W.ops ++ [a] } := .num (by rw [h]; decide)
  rw [h] at e1
  have e2 : IStep (.num b) { W with ops := [a] } { W with ops := [a] ++ [b] } := .num (W := { W with ops := [a] }) (by show [a].length < 999; simp)
  exact .cons e1 (.cons e2 .nil)
/-- so many points of a part are drawn -/
theorem run_pts : ∀ (xs : List Pnt) (k : Nat) (W : Ws) (p : Path) (ps : List Pnt) (e : Pnt), (∀ x ∈ xs, GP x) → W.ops = [] → W.look.path = p ++ [(ps ++ [e], false)] → p.length < 900 → ps.length + xs.length < 800 → 0 < k →
    Runs (ptsI k xs) W (W.setPath (p ++ [(ps ++ [e] ++ xs, false)]))
  | [], k, W, p, ps, e, _, h1, h2, _, _, _ => by
    have e1 : W.setPath (p ++ [(ps ++ [e] ++ [], false)]) = W := by
      rw [List.append_nil, ← h2]
      rfl
    rw [e1]
    exact .nil
  | x :: xs, k, W, p, ps, e, g, h1, h2, h3, h4, hk => by
    have gx := g x List.mem_cons_self
    have k0 : ¬ k = 0 := by omega
    rw [List.length_cons] at h4
    have r1 := push2 h1 x.1 x.2
    have r2 : OpS "lineto" { W with ops := [x.1, x.2] } (W.setPath (p ++ [(ps ++ [e] ++ [x], false)])) :=
      .lineto ⟨x.1, x.2, p, ps, e, rfl, gn_lw gx.1, gn_lw gx.2, h2, by omega, by omega, by
        show W.setPath _ = ({ W with ops := [] } : Ws).setPath _
        have : ({ W with ops := [] } : Ws) = W := by rw [← h1]
        rw [this]⟩
    have ih := run_pts xs (k + 1) (W.setPath (p ++ [(ps ++ [e] ++ [x], false)])) p (ps ++ [e]) x (fun y m => g y (List.mem_cons_of_mem _ m)) h1 rfl h3 (by rw [List.length_append, List.length_singleton]; omega) (by omega)
    have e2 : (W.setPath (p ++ [(ps ++ [e] ++ [x], false)])).setPath (p ++ [(ps ++ [e] ++ [x] ++ xs, false)]) = W.setPath (p ++ [(ps ++ [e] ++ x :: xs, false)]) := by
      rw [Ws.setPath_twice, List.append_assoc (ps ++ [e]) [x] xs, List.singleton_append]
    rw [e2] at ih
    show Runs (ptI k x ++ ptsI (k + 1) xs) _ _
    refine Runs.app (Runs.app r1 ?_) ih
    rw [if_neg k0]
    exact run1 r2
/-- a part of two points or more -/
def G2 (l : Part) : Prop := GPart l ∧ 2 ≤ l.1.length
theorem run_part {l : Part} (h : G2 l) {W : Ws} (h1 : W.ops = []) (h2 : Fl W.look.path) (h3 : W.look.path.length < 800) : Runs (partI l) W (W.setPath (W.look.path ++ [l])) := by
  obtain ⟨ps, cl⟩ := l
  obtain ⟨⟨a1, a5, ag⟩, a2⟩ := h
  match ps, a1 with
  | x :: xs, _ =>
  have gx := ag x List.mem_cons_self
  have a5' : xs.length < 10 := by
    have : (x :: xs).length ≤ 5 := a5
    rw [List.length_cons] at this
    omega
  have r1 := push2 h1 x.1 x.2
  have r2 : OpS "moveto" { W with ops := [x.1, x.2] } (W.setPath (W.look.path ++ [([x], false)])) :=
    .moveto ⟨x.1, x.2, rfl, gn_lw gx.1, gn_lw gx.2, h2, by show W.look.path.length < 999; omega, by
      show W.setPath _ = ({ W with ops := [] } : Ws).setPath _
      have : ({ W with ops := [] } : Ws) = W := by rw [← h1]
      rw [this]⟩
  have r3 := run_pts xs 1 (W.setPath (W.look.path ++ [([x], false)])) W.look.path [] x (fun y m => ag y (List.mem_cons_of_mem _ m)) h1 rfl (by omega) (by simp; omega) (by decide)
  rw [Ws.setPath_twice] at r3
  have r4 : Runs (ptsI 0 (x :: xs)) W (W.setPath (W.look.path ++ [(x :: xs, false)])) := by
    show Runs (ptI 0 x ++ ptsI 1 xs) _ _
    refine Runs.app (Runs.app r1 ?_) r3
    exact run1 r2
  cases cl with
  | false =>
    show Runs (ptsI 0 (x :: xs) ++ []) _ _
    rw [List.append_nil]
    exact r4
  | true =>
    show Runs (ptsI 0 (x :: xs) ++ [.op "closepath"]) _ _
    refine Runs.app r4 (run1 (.closepath ⟨W.look.path, (x :: xs, false), rfl, by omega, rfl⟩))
theorem fl_app {p : Path} {l : Part} (h : G2 l) : Fl (p ++ [l]) := by
  intro q l' e
  obtain ⟨_, e2⟩ := List.append_inj' e rfl
  cases e2
  have := h.2
  omega
theorem run_walk : ∀ (p : Path), (∀ l ∈ p, G2 l) → ∀ (W : Ws), W.ops = [] → Fl W.look.path → W.look.path.length + p.length < 800 → Runs (walkI p) W (W.setPath (W.look.path ++ p))
  | [], _, W, _, _, _ => by
    rw [List.append_nil]
    exact .nil
  | l :: p, h, W, h1, h2, h3 => by
    have hl := h l List.mem_cons_self
    rw [List.length_cons] at h3
    have r1 := run_part hl h1 h2 (by omega)
    have r2 := run_walk p (fun y m => h y (List.mem_cons_of_mem _ m)) (W.setPath (W.look.path ++ [l])) h1 (fl_app hl) (by rw [Ws.setPath_path, List.length_append, List.length_singleton]; omega)
    rw [Ws.setPath_path, Ws.setPath_twice, List.append_assoc] at r2
    have e2 : walkI (l :: p) = partI l ++ walkI p := by simp [walkI]
    rw [e2]
    exact Runs.app r1 r2
theorem run_drawn {p : Path} (h : ∀ l ∈ p, G2 l) (hl : p.length ≤ 3) {W : Ws} (h1 : W.ops = []) : Runs ([.op "newpath"] ++ walkI p) W (W.setPath p) := by
  have r1 : Runs [.op "newpath"] W (W.setPath []) := run1 (.newpath rfl)
  have r2 := run_walk p h (W.setPath []) h1 (fun q l e => by
    have : ([] : Path) = q ++ [l] := e
    simp at this) (by rw [Ws.setPath_path, List.length_nil]; omega)
  rw [Ws.setPath_path, Ws.setPath_twice, List.nil_append] at r2
  exact Runs.app r1 r2
def effClip (p : Path) (o : Bool) (W : Ws) : Ws := { W with look := { W.look with path := p, clips := W.look.clips ++ [(p, o)] } }
def effInk (p : Path) (o : Bool) (W : Ws) : Ws := { W with look := { W.look with path := [], ink := 5 }, inks := W.inks ++ if p = [] then [] else [Dd.fill p o 5 W.look.clips] }
theorem clip_op {o : Bool} {W W' : Ws} (h : rClip o W W') : OpS (clipS o) W W' := by
  cases o
  · exact .clip h
  · exact .eoclip h
theorem fill_op {o : Bool} {W W' : Ws} (h : rFill o W W') : OpS (fillS o) W W' := by
  cases o
  · exact .fill h
  · exact .eofill h
theorem run_one {p : Path} (h : ∀ l ∈ p, G2 l) (hl : p.length ≤ 3) (o : Bool) {W : Ws} {n : Nat} (c : Cl W n) (hn : n ≤ 100) : Runs (oneI p o) W (effClip p o W) := by
  refine Runs.app (run_drawn h hl c.ops) (run1 (clip_op ⟨?_, rfl⟩))
  have := c.clips
  show W.look.clips.length < 999
  omega
theorem run_ink {p : Path} (h : ∀ l ∈ p, G2 l) (hl : p.length ≤ 3) (o : Bool) {W : Ws} {n : Nat} (c : Cl W n) (hn : n ≤ 100) : Runs (inkI p o) W (effInk p o W) := by
  have r1 := run_drawn h hl c.ops
  have r2 : Runs [.num (5, 1)] (W.setPath p) { W.setPath p with ops := [(5, 1)] } := by
    have e1 : IStep (.num (5, 1)) (W.setPath p) { W.setPath p with ops := (W.setPath p).ops ++ [(5, 1)] } := .num (by show W.ops.length < 999; rw [c.ops]; decide)
    have e2 : (W.setPath p).ops = [] := c.ops
    rw [e2] at e1
    exact .cons e1 .nil
  have r3 : OpS "setink" { W.setPath p with ops := [(5, 1)] } { W.setPath p with ops := [], look := { (W.setPath p).look with ink := 5 } } := .setink ⟨5, rfl, by decide, by decide, rfl⟩
  have i2 := c.inks
  have r4 : OpS (fillS o) { W.setPath p with ops := [], look := { (W.setPath p).look with ink := 5 } } (effInk p o W) := fill_op ⟨by show W.inks.length < 999; omega, by
    unfold effInk Ws.setPath
    simp only [c.ops]⟩
  exact Runs.app r1 (Runs.app r2 (Runs.app (run1 r3) (run1 r4)))
theorem Cl.one {W : Ws} {n : Nat} (h : Cl W n) (p : Path) (o : Bool) : Cl (effClip p o W) (n + 1) := by
  have := h.clips
  exact ⟨h.ops, by show (W.look.clips ++ [(p, o)]).length ≤ _; rw [List.length_append, List.length_singleton]; omega, Nat.le_succ_of_le h.kept, Nat.le_succ_of_le h.inks⟩
theorem cl0 : Cl W0 0 := ⟨rfl, Nat.le_refl _, Nat.le_refl _, Nat.le_refl _⟩
end
section
local macro_rules | `(tactic| walk_at "fld") => `(tactic| (refine fkT (w := ?w) (K := ?K) (mg := ?mg) (A := ?A) ?t ?e ?h; (case t => assumption); (case e => exact rfl); (case h => first | with_reducible exact g_Look_matrix (by assumption) | with_reducible exact g_Look_path (by assumption) | with_reducible exact g_Look_ink (by assumption) | with_reducible exact g_Look_width (by assumption) | with_reducible exact g_Look_clips (by assumption) | with_reducible exact g_Look_font (by assumption) | with_reducible exact g_World_operands (by assumption) | with_reducible exact g_World_rooms (by assumption) | with_reducible exact g_World_scopes (by assumption) | with_reducible exact g_World_look (by assumption) | with_reducible exact g_World_kept (by assumption) | with_reducible exact g_World_sheets (by assumption) | with_reducible exact g_World_inkings (by assumption) | with_reducible exact g_World_saves (by assumption) | with_reducible exact g_World_many_saves (by assumption) | with_reducible exact g_Items_body (by assumption) | with_reducible exact g_Items_at (by assumption) | with_reducible exact g_Reader_text (by assumption) | with_reducible exact g_Reader_at (by assumption) | with_reducible exact g_Reader_row (by assumption) | with_reducible exact g_Reader_column (by assumption) | with_reducible exact g_Reader_deep (by assumption) | with_reducible exact g_Machine_wide (by assumption) | with_reducible exact g_Machine_high (by assumption) | with_reducible exact g_Machine_most (by assumption) | with_reducible exact g_Machine_world (by assumption) | with_reducible exact g_Machine_frames (by assumption) | with_reducible exact g_Machine_left (by assumption) | with_reducible exact g_Machine_told (by assumption) | with_reducible exact g_Machine_is_running (by assumption) | with_reducible exact g_Machine_ahead (by assumption) | with_reducible exact g_Machine_past (by assumption) | with_reducible exact g_Machine_later (by assumption))))
/-- as many steps as go by themselves -/
local macro_rules | `(tactic| walk_at "g1") => `(tactic| (first
  | with_reducible refine r_seq ?_ | with_reducible refine r_set ?_ | with_reducible refine r_asg ?_ | with_reducible refine r_sl ?_ | with_reducible refine r_np ?_ | with_reducible refine r_pt ?_ | with_reducible refine r_gn ?_ | with_reducible refine r_gc ?_ | with_reducible refine r_g0 ?_ | ((with_reducible refine r_gt (xs := ?xs) ?h ?g ?_); (case h => assumption); (case g => exact rfl)) | with_reducible refine r_ret ?_ | with_reducible refine r_if ?_ | with_reducible refine r_test ?_ | with_reducible refine r_B ?_ | with_reducible refine r_and ?_ | with_reducible refine r_or ?_ | with_reducible refine r_not ?_
  | with_reducible refine r_andV ?_ | with_reducible refine r_orV ?_ | with_reducible refine r_notV ?_ | with_reducible refine r_ifx ?_ | with_reducible refine r_op ?_ | with_reducible refine r_un ?_ | with_reducible refine r_U ?_ | with_reducible refine r_c ?_ | with_reducible refine r_I0 ?_ | with_reducible refine r_drop ?_ | with_reducible refine r_next ?_
  | ((with_reducible refine r_var (v := ?v) ?h ?_); (case h => exact rfl)) | with_reducible refine r_bl ?_ | with_reducible refine r_nil ?_ | with_reducible refine r_cons ?_ | with_reducible refine r_cb ?_ | with_reducible refine r_call ?_ | ((with_reducible refine r_gl (xs := ?xs) ?h ?g ?_); (case h => assumption); (case g => exact rfl)) | with_reducible refine r_sm1 ?_ | with_reducible refine r_sm2 ?_ | with_reducible refine r_sm3 ?_ | with_reducible refine r_ch ?_ | with_reducible refine r_bm ?_ | with_reducible refine r_bm0 ?_ | ((with_reducible refine r_ty (xs := ?xs) ?e ?_); (case e => assumption)) | with_reducible refine r_mkU ?_ | with_reducible refine r_mt0 ?_ | with_reducible refine r_yes ?_ | with_reducible refine iteT ?_ | with_reducible refine iteF ?_ | with_reducible refine r_spk ?_ | with_reducible refine r_sp1 ?_ | with_reducible refine r_sp2 ?_ | with_reducible refine r_sp3 ?_ | with_reducible refine r_sp4 ?_ | with_reducible refine r_sp5 ?_
  | with_reducible refine r_tup ?_ | with_reducible refine r_lst ?_ | with_reducible refine r_par ?_ | with_reducible refine r_par2 ?_ 
  | ((with_reducible refine r_eq ?h ?_); (case h => exact rfl)) | ((with_reducible refine r_ne ?h ?_); (case h => exact rfl))
  | ((with_reducible refine r_ixT (xs := ?xs) (v := ?v) ?h ?g ?_); (case h => assumption); (case g => first | exact at0 | exact at1))
  | ((with_reducible refine r_fl (i := ?i) (nm := ?nm) (C := ?C) (dx := ?dx) (vs := ?vs) (v := ?v) ?ok ?e ?hv ?_); (case e => assumption); (case ok => walk_at "fld"); (case hv => rfl)) | with_reducible refine r_for ?_ | with_reducible refine r_il ?_ | with_reducible refine r_it ?_ | with_reducible refine r_iz ?_ | with_reducible refine r_ir1 ?_ | with_reducible refine r_ir2 ?_ | with_reducible refine r_lc ?_ | with_reducible refine r_sFld ?_ | with_reducible refine r_ck ?_ | with_reducible refine r_fld ?_ | with_reducible refine ⟨_, rfl, ?_⟩ | with_reducible refine ⟨_, _, rfl, .inr (by with_unfolding_all assumption), ?_⟩ | with_reducible refine ⟨_, _, rfl, .inl (seqL (by assumption)), ?_⟩ | with_reducible refine ⟨_, _, rfl, rfl, ?_⟩ | with_reducible refine ⟨_, _, rfl, ?_⟩ | with_reducible refine ⟨rfl, ?_⟩ | with_reducible refine r_sz ?_))
local macro_rules | `(tactic| walk_at "go") => `(tactic| (repeat walk_at "g1"))
variable {P : Program} {w : World} {K : PySem.W.Frag} {mg : Str → Option Value} {A : Ad} {base : Heap}
/-! The law's programs. -/
open SX (S)
def inkF (i : Int) (p : Path) (o : Bool) (cl : List (Path × Bool)) : List Dd := if p = [] then [] else [Dd.fill p o i cl]
/-- a path of the law: good, its parts of two points or more -/
structure LP (p : Path) : Prop where
  g : GPath p
  two : ∀ l ∈ p, 2 ≤ l.1.length
theorem LP.g2 {p : Path} (h : LP p) : ∀ l ∈ p, G2 l := fun l m => ⟨h.g.parts l m, h.two l m⟩
theorem dok_inkF {i : Int} {p : Path} {o : Bool} {cl : List (Path × Bool)} (h : POk p) (hc : ∀ l ∈ cl, POk l.1) : ∀ d ∈ inkF i p o cl, DOk d := by
  intro d m
  unfold inkF at m
  split at m
  · simp at m
  · rw [List.mem_singleton.mp m]
    exact ⟨h, hc⟩
theorem progOf {cs : List Nat} {its : List Itm} {W : Ws} {ds : List Dd} (r : Reads cs its) (hl : cs.length ≤ 5000) (hr : Runs its W0 W) (e : W.inks = ds) (ok : ∀ d ∈ ds, DOk d) : Prog cs ds :=
  ⟨by omega, its, W, r, Nat.le_trans r.len hl, hr, e, ok⟩
theorem e_sp : opC " " = [32] := by decide +kernel
theorem e_gs : opC "gsave " = opC "gsave" ++ [32] := by decide +kernel
theorem e_gs2 : opC " gsave" = 32 :: opC "gsave" := by decide +kernel
theorem e_gr : opC " grestore" = 32 :: opC "grestore" := by decide +kernel
theorem e_ic : opC " initclip" = 32 :: opC "initclip" := by decide +kernel
theorem e_rc : opC "newpath 0 0 6 5 rect clip" = opC "newpath" ++ ((32 :: textN (0, 1)) ++ (32 :: textN (0, 1)) ++ (32 :: textN (6, 1)) ++ (32 :: textN (5, 1)) ++ (32 :: opC "rect") ++ (32 :: opC (clipS false))) := by decide +kernel
theorem e_nc : opC "newpath clip" = opC "newpath" ++ (32 :: opC (clipS false)) := by decide +kernel
theorem e_ni : opC "newpath eoclip initclip" = opC "newpath" ++ ((32 :: opC (clipS true)) ++ (32 :: opC "initclip")) := by decide +kernel
theorem e_er : opC " 7 setink erase" = (32 :: textN (7, 1)) ++ (32 :: opC "setink") ++ (32 :: opC "erase") := by decide +kernel
theorem e_fl (o : Bool) : opC (if o then " eofill" else " fill") = 32 :: opC (fillS o) := by cases o <;> decide +kernel
theorem opLens : (opC " ").length ≤ 40 ∧ (opC "gsave ").length ≤ 40 ∧ (opC " gsave").length ≤ 40 ∧ (opC " grestore").length ≤ 40 ∧ (opC " initclip").length ≤ 40 ∧ (opC "newpath 0 0 6 5 rect clip").length ≤ 40 ∧ (opC "newpath clip").length ≤ 40 ∧ (opC "newpath eoclip initclip").length ≤ 40 ∧ (opC " 7 setink erase").length ≤ 40 ∧ (opC "newpath").length ≤ 40 := by decide +kernel
theorem filLen (o : Bool) : (opC (if o then " eofill" else " fill")).length ≤ 40 := by cases o <;> decide +kernel
theorem noclips : ∀ l ∈ ([] : List (Path × Bool)), POk l.1 := fun l m => absurd m (by simp)
section
variable {p1 p2 p3 : Path} (h1 : LP p1) (h2 : LP p2) (h3 : LP p3) (o1 o2 o3 : Bool)
theorem inks_eff {p : Path} {o : Bool} {W : Ws} (e : W.inks = []) : (effInk p o W).inks = inkF 5 p o W.look.clips := by
  show W.inks ++ _ = _
  rw [e, List.nil_append]
  rfl
include h3 in
theorem pr1 : Prog (inkT p3 o3) (inkF 5 p3 o3 []) :=
  progOf (rd_ink h3.g.parts o3).r (by have := ink_len h3.g o3; omega) (run_ink h3.g2 h3.g.len o3 cl0 (by decide)) (inks_eff rfl) (dok_inkF h3.g.ok noclips)
include h1 h3 in
theorem pr2 : Prog (oneT p1 o1 ++ inkT p3 o3) (inkF 5 p3 o3 [(p1, o1)]) := by
  have l1 := one_len h1.g o1
  have l3 := ink_len h3.g o3
  exact progOf (rd_one h1.g.parts o1 (rd_ink h3.g.parts o3)) (by rw [List.length_append]; omega) (Runs.app (run_one h1.g2 h1.g.len o1 cl0 (by decide)) (run_ink h3.g2 h3.g.len o3 (cl0.one p1 o1) (by decide))) (inks_eff rfl)
    (dok_inkF h3.g.ok fun l m => by rw [List.mem_singleton.mp m]; exact h1.g.ok)
include h1 h2 h3 in
theorem pr3 : Prog (oneT p1 o1 ++ twoT p2 o2 ++ inkT p3 o3) (inkF 5 p3 o3 [(p1, o1), (p2, o2)]) := by
  have l1 := one_len h1.g o1
  have l2 := two_len h2.g o2
  have l3 := ink_len h3.g o3
  rw [List.append_assoc]
  exact progOf (rd_one h1.g.parts o1 ((rd_two h2.g.parts o2).app (rd_ink h3.g.parts o3))) (by rw [List.length_append, List.length_append]; omega)
    (Runs.app (run_one h1.g2 h1.g.len o1 cl0 (by decide)) (Runs.app (run_one h2.g2 h2.g.len o2 (cl0.one p1 o1) (by decide)) (run_ink h3.g2 h3.g.len o3 ((cl0.one p1 o1).one p2 o2) (by decide)))) (inks_eff rfl)
    (dok_inkF h3.g.ok fun l m => by
      rcases List.mem_cons.mp m with rfl | m
      · exact h1.g.ok
      · rw [List.mem_singleton.mp m]
        exact h2.g.ok)
include h1 h2 h3 in
theorem pr4 : Prog (twoT p2 o2 ++ opC " " ++ oneT p1 o1 ++ inkT p3 o3) (inkF 5 p3 o3 [(p2, o2), (p1, o1)]) := by
  have l1 := two_len h1.g o1
  have l2 := two_len h2.g o2
  have l3 := ink_len h3.g o3
  rw [e_sp, List.append_assoc (twoT p2 o2), ← two_one, List.append_assoc]
  exact progOf ((rd_two h2.g.parts o2).app ((rd_two h1.g.parts o1).app (rd_ink h3.g.parts o3))).r (by rw [List.length_append, List.length_append]; omega)
    (Runs.app (run_one h2.g2 h2.g.len o2 cl0 (by decide)) (Runs.app (run_one h1.g2 h1.g.len o1 (cl0.one p2 o2) (by decide)) (run_ink h3.g2 h3.g.len o3 ((cl0.one p2 o2).one p1 o1) (by decide)))) (inks_eff rfl)
    (dok_inkF h3.g.ok fun l m => by
      rcases List.mem_cons.mp m with rfl | m
      · exact h2.g.ok
      · rw [List.mem_singleton.mp m]
        exact h1.g.ok)
include h1 h2 h3 in
theorem pr5 : Prog (oneT p1 o1 ++ twoT p2 o2 ++ opC " " ++ oneT p1 o1 ++ inkT p3 o3) (inkF 5 p3 o3 [(p1, o1), (p2, o2), (p1, o1)]) := by
  have l1 := one_len h1.g o1
  have l1' := two_len h1.g o1
  have l2 := two_len h2.g o2
  have l3 := ink_len h3.g o3
  rw [e_sp, List.append_assoc (oneT p1 o1 ++ twoT p2 o2), ← two_one, List.append_assoc, List.append_assoc]
  exact progOf (rd_one h1.g.parts o1 ((rd_two h2.g.parts o2).app ((rd_two h1.g.parts o1).app (rd_ink h3.g.parts o3)))) (by rw [List.length_append, List.length_append, List.length_append]; omega)
    (Runs.app (run_one h1.g2 h1.g.len o1 cl0 (by decide)) (Runs.app (run_one h2.g2 h2.g.len o2 (cl0.one p1 o1) (by decide)) (Runs.app (run_one h1.g2 h1.g.len o1 ((cl0.one p1 o1).one p2 o2) (by decide)) (run_ink h3.g2 h3.g.len o3 (((cl0.one p1 o1).one p2 o2).one p1 o1) (by decide))))) (inks_eff rfl)
    (dok_inkF h3.g.ok fun l m => by
      rcases List.mem_cons.mp m with rfl | m
      · exact h1.g.ok
      · rcases List.mem_cons.mp m with rfl | m
        · exact h2.g.ok
        · rw [List.mem_singleton.mp m]
          exact h1.g.ok)
include h1 in
theorem prIn : Prog (opC "newpath" ++ walkT p1 ++ opC (if o1 then " eofill" else " fill")) (inkF 1 p1 o1 []) := by
  have l1 := walkT_len h1.g.parts
  have l2 := h1.g.len
  have l3 := filLen o1
  have l4 := opLens.2.2.2.2.2.2.2.2.2
  have e : W0.setPath p1 = W0.setPath p1 := rfl
  rw [List.append_assoc]
  refine progOf (its := [.op "newpath"] ++ walkI p1 ++ [.op (fillS o1)]) (W := { W0.setPath p1 with look := { (W0.setPath p1).look with path := [] }, inks := if p1 = [] then [] else [Dd.fill p1 o1 1 []] }) ?_ (by rw [List.length_append, List.length_append]; omega) (Runs.app (run_drawn h1.g2 h1.g.len rfl) (run1 (fill_op ⟨by show 0 < 999; decide, ?_⟩))) rfl (dok_inkF h1.g.ok noclips)
  · rw [e_fl]
    exact op_newpath.lead ((rd_walk h1.g.parts).app (op_fill o1).rd)
  · unfold Ws.setPath W0
    simp only [List.nil_append]
include h1 h2 h3 in
theorem pr6 : Prog (opC "gsave " ++ oneT p1 o1 ++ twoT p2 o2 ++ opC " grestore" ++ inkT p3 o3) (inkF 5 p3 o3 []) := by
  have l1 := two_len h1.g o1
  have l2 := two_len h2.g o2
  have l3 := ink_len h3.g o3
  have l4 := opLens.2.2.2.1
  have l5 : (opC "gsave").length ≤ 40 := by decide +kernel
  rw [e_gs, List.append_assoc (opC "gsave"), ← two_one, List.append_assoc, List.append_assoc, List.append_assoc]
  have r0 : Runs [.op "gsave"] W0 { W0 with kept := [W0.look] } := run1 (.gsave ⟨by decide, rfl⟩)
  have c0 : Cl { W0 with kept := [W0.look] } 1 := ⟨rfl, by decide, by decide, by decide⟩
  have r1 := run_one h1.g2 h1.g.len o1 c0 (by decide)
  have r2 := run_one h2.g2 h2.g.len o2 (c0.one p1 o1) (by decide)
  have r3 : Runs [.op "grestore"] (effClip p2 o2 (effClip p1 o1 { W0 with kept := [W0.look] })) W0 := run1 (.grestore ⟨[], W0.look, rfl, rfl⟩)
  have r4 := run_ink h3.g2 h3.g.len o3 cl0 (by decide)
  refine progOf (its := .op "gsave" :: (oneI p1 o1 ++ (oneI p2 o2 ++ ([.op "grestore"] ++ inkI p3 o3)))) (op_gsave.lead ((rd_two h1.g.parts o1).app ((rd_two h2.g.parts o2).app (Rd.app ?_ (rd_ink h3.g.parts o3))))) (by simp only [List.length_append]; omega) (Runs.app r0 (Runs.app r1 (Runs.app r2 (Runs.app r3 r4)))) (inks_eff rfl) (dok_inkF h3.g.ok noclips)
  rw [e_gr]
  exact op_grestore.rd
include h1 h2 h3 in
theorem pr7 : Prog (oneT p1 o1 ++ opC " gsave" ++ twoT p2 o2 ++ opC " grestore" ++ inkT p3 o3) (inkF 5 p3 o3 [(p1, o1)]) := by
  have l1 := one_len h1.g o1
  have l2 := two_len h2.g o2
  have l3 := ink_len h3.g o3
  have l4 := opLens.2.2.2.1
  have l5 := opLens.2.2.1
  rw [List.append_assoc, List.append_assoc, List.append_assoc]
  have r0 := run_one h1.g2 h1.g.len o1 cl0 (by decide)
  have r1 : Runs [.op "gsave"] (effClip p1 o1 W0) { effClip p1 o1 W0 with kept := [(effClip p1 o1 W0).look] } := run1 (.gsave ⟨by show 0 < 999; decide, rfl⟩)
  have c1 : Cl { effClip p1 o1 W0 with kept := [(effClip p1 o1 W0).look] } 1 := ⟨rfl, by show 1 ≤ 1; decide, by show 1 ≤ 1; decide, by show 0 ≤ 1; decide⟩
  have r2 := run_one h2.g2 h2.g.len o2 c1 (by decide)
  have r3 : Runs [.op "grestore"] (effClip p2 o2 { effClip p1 o1 W0 with kept := [(effClip p1 o1 W0).look] }) (effClip p1 o1 W0) := run1 (.grestore ⟨[], (effClip p1 o1 W0).look, rfl, rfl⟩)
  have r4 := run_ink h3.g2 h3.g.len o3 (cl0.one p1 o1) (by decide)
  refine progOf (its := oneI p1 o1 ++ ([.op "gsave"] ++ (oneI p2 o2 ++ ([.op "grestore"] ++ inkI p3 o3)))) (rd_one h1.g.parts o1 (Rd.app ?_ ((rd_two h2.g.parts o2).app (Rd.app ?_ (rd_ink h3.g.parts o3))))) (by simp only [List.length_append]; omega) (Runs.app r0 (Runs.app r1 (Runs.app r2 (Runs.app r3 r4)))) (inks_eff rfl)
    (dok_inkF h3.g.ok fun l m => by rw [List.mem_singleton.mp m]; exact h1.g.ok)
  · rw [e_gs2]
    exact op_gsave.rd
  · rw [e_gr]
    exact op_grestore.rd
include h1 h2 h3 in
theorem pr8 : Prog (oneT p1 o1 ++ twoT p2 o2 ++ opC " initclip" ++ inkT p3 o3) (inkF 5 p3 o3 []) := by
  have l1 := one_len h1.g o1
  have l2 := two_len h2.g o2
  have l3 := ink_len h3.g o3
  have l4 := opLens.2.2.2.2.1
  rw [List.append_assoc, List.append_assoc]
  have r0 := run_one h1.g2 h1.g.len o1 cl0 (by decide)
  have r1 := run_one h2.g2 h2.g.len o2 (cl0.one p1 o1) (by decide)
  have r2 : Runs [.op "initclip"] (effClip p2 o2 (effClip p1 o1 W0)) { W0 with look := { W0.look with path := p2 } } := run1 (.initclip rfl)
  have c2 : Cl { W0 with look := { W0.look with path := p2 } } 1 := ⟨rfl, by show 0 ≤ 1; decide, by show 0 ≤ 1; decide, by show 0 ≤ 1; decide⟩
  have r3 := run_ink h3.g2 h3.g.len o3 c2 (by decide)
  refine progOf (its := oneI p1 o1 ++ (oneI p2 o2 ++ ([.op "initclip"] ++ inkI p3 o3))) (rd_one h1.g.parts o1 ((rd_two h2.g.parts o2).app (Rd.app ?_ (rd_ink h3.g.parts o3)))) (by simp only [List.length_append]; omega) (Runs.app r0 (Runs.app r1 (Runs.app r2 r3))) (inks_eff rfl) (dok_inkF h3.g.ok noclips)
  rw [e_ic]
  exact op_initclip.rd
theorem lwRect : ∀ x ∈ rectC, Lw x.1 ∧ Lw x.2 := by
  intro x m
  have m' : x = ((0, 1), (0, 1)) ∨ x = ((6, 1), (0, 1)) ∨ x = ((6, 1), (5, 1)) ∨ x = ((0, 1), (5, 1)) := by simpa [rectC] using m
  rcases m' with rfl | rfl | rfl | rfl
  · exact ⟨lw0, lw0⟩
  · exact ⟨lw6, lw0⟩
  · exact ⟨lw6, lw5⟩
  · exact ⟨lw0, lw5⟩
theorem pokRect : POk [(rectC, true)] := ⟨by decide, fun l m => by rw [List.mem_singleton.mp m]; decide, fun l m => by rw [List.mem_singleton.mp m]; exact lwRect⟩
theorem pokNil : POk [] := ⟨by decide, fun l m => absurd m (by simp), fun l m => absurd m (by simp)⟩
include h3 in
theorem pr9 : Prog (opC "newpath 0 0 6 5 rect clip" ++ inkT p3 o3) (inkF 5 p3 o3 [([(rectC, true)], false)]) := by
  have l3 := ink_len h3.g o3
  have l4 := opLens.2.2.2.2.2.1
  have q : ∀ (n : Num) (W : Ws), W.ops.length < 999 → Runs [.num n] W { W with ops := W.ops ++ [n] } := fun n W h => .cons (.num h) .nil
  have r0 : Runs [.op "newpath"] W0 W0 := run1 (.newpath rfl)
  have r1 : Runs [.num (0, 1)] W0 { W0 with ops := [(0, 1)] } := q _ _ (by decide)
  have r2 : Runs [.num (0, 1)] { W0 with ops := [(0, 1)] } { W0 with ops := [(0, 1), (0, 1)] } := q _ _ (by decide)
  have r3 : Runs [.num (6, 1)] { W0 with ops := [(0, 1), (0, 1)] } { W0 with ops := [(0, 1), (0, 1), (6, 1)] } := q _ _ (by decide)
  have r4 : Runs [.num (5, 1)] { W0 with ops := [(0, 1), (0, 1), (6, 1)] } { W0 with ops := [(0, 1), (0, 1), (6, 1), (5, 1)] } := q _ _ (by decide)
  have r5 : Runs [.op "rect"] { W0 with ops := [(0, 1), (0, 1), (6, 1), (5, 1)] } (W0.setPath [(rectC, true)]) := run1 (.rect ⟨rfl, rfl, rfl⟩)
  have r6 : Runs [.op (clipS false)] (W0.setPath [(rectC, true)]) (effClip [(rectC, true)] false W0) := run1 (clip_op ⟨by decide, rfl⟩)
  have r7 := run_ink h3.g2 h3.g.len o3 (cl0.one [(rectC, true)] false) (by decide)
  rw [e_rc] at l4 ⊢
  rw [List.append_assoc]
  refine progOf (its := .op "newpath" :: (([.num (0, 1)] ++ [.num (0, 1)] ++ [.num (6, 1)] ++ [.num (5, 1)] ++ [.op "rect"] ++ [.op (clipS false)]) ++ inkI p3 o3)) (op_newpath.lead (Rd.app ?_ (rd_ink h3.g.parts o3))) (by rw [List.length_append] at l4; rw [List.length_append, List.length_append]; omega) (Runs.app r0 (Runs.app (Runs.app (Runs.app (Runs.app (Runs.app (Runs.app r1 r2) r3) r4) r5) r6) r7)) (inks_eff rfl)
    (dok_inkF h3.g.ok fun l m => by rw [List.mem_singleton.mp m]; exact pokRect)
  exact (((((Wd.num gn0).rd.app (Wd.num gn0).rd).app (Wd.num gn6).rd).app (Wd.num gn5).rd).app op_rect.rd).app (op_clip false).rd
include h3 in
theorem pr10 : Prog (opC "newpath clip" ++ inkT p3 o3) (inkF 5 p3 o3 [([], false)]) := by
  have l3 := ink_len h3.g o3
  have l4 := opLens.2.2.2.2.2.2.1
  have r0 : Runs [.op "newpath"] W0 W0 := run1 (.newpath rfl)
  have r6 : Runs [.op (clipS false)] W0 (effClip [] false W0) := run1 (clip_op ⟨by decide, rfl⟩)
  have r7 := run_ink h3.g2 h3.g.len o3 (cl0.one [] false) (by decide)
  have r67 : Runs ([.op (clipS false)] ++ inkI p3 o3) W0 (effInk p3 o3 (effClip [] false W0)) := Runs.app r6 r7
  have r8 : Runs (.op "newpath" :: ([.op (clipS false)] ++ inkI p3 o3)) W0 (effInk p3 o3 (effClip [] false W0)) := Runs.app r0 r67
  rw [e_nc] at l4 ⊢
  rw [List.append_assoc]
  refine progOf (its := .op "newpath" :: ([.op (clipS false)] ++ inkI p3 o3)) (op_newpath.lead (Rd.app (op_clip false).rd (rd_ink h3.g.parts o3))) (by rw [List.length_append] at l4; rw [List.length_append, List.length_append]; omega) r8 (inks_eff rfl)
    (dok_inkF h3.g.ok fun l m => by rw [List.mem_singleton.mp m]; exact pokNil)
include h3 in
theorem pr11 : Prog (opC "newpath eoclip initclip" ++ inkT p3 o3) (inkF 5 p3 o3 []) := by
  have l3 := ink_len h3.g o3
  have l4 := opLens.2.2.2.2.2.2.2.1
  have r0 : Runs [.op "newpath"] W0 W0 := run1 (.newpath rfl)
  have r6 : Runs [.op (clipS true)] W0 (effClip [] true W0) := run1 (clip_op ⟨by decide, rfl⟩)
  have r8 : Runs [.op "initclip"] (effClip [] true W0) W0 := run1 (.initclip rfl)
  have r7 := run_ink h3.g2 h3.g.len o3 cl0 (by decide)
  rw [e_ni] at l4 ⊢
  rw [List.append_assoc]
  refine progOf (its := .op "newpath" :: (([.op (clipS true)] ++ [.op "initclip"]) ++ inkI p3 o3)) (op_newpath.lead (Rd.app ((op_clip true).rd.app op_initclip.rd) (rd_ink h3.g.parts o3))) (by rw [List.length_append] at l4; rw [List.length_append, List.length_append]; omega) (Runs.app r0 (Runs.app (Runs.app r6 r8) r7)) (inks_eff rfl) (dok_inkF h3.g.ok noclips)
include h1 in
theorem pr12 : Prog (oneT p1 o1 ++ opC " 7 setink erase") [.erase] := by
  have l1 := one_len h1.g o1
  have l4 := opLens.2.2.2.2.2.2.2.2.1
  have r0 := run_one h1.g2 h1.g.len o1 cl0 (by decide)
  have r1 : Runs [.num (7, 1)] (effClip p1 o1 W0) { effClip p1 o1 W0 with ops := [(7, 1)] } := .cons (.num (by show 0 < 999; decide)) .nil
  have r2 : Runs [.op "setink"] { effClip p1 o1 W0 with ops := [(7, 1)] } { effClip p1 o1 W0 with look := { (effClip p1 o1 W0).look with ink := 7 } } := run1 (.setink ⟨7, rfl, by decide, by decide, rfl⟩)
  have r3 : Runs [.op "erase"] { effClip p1 o1 W0 with look := { (effClip p1 o1 W0).look with ink := 7 } } { effClip p1 o1 W0 with look := { (effClip p1 o1 W0).look with ink := 7 }, inks := [.erase] } := run1 (.erase ⟨by show 0 < 999; decide, rfl⟩)
  refine progOf (its := oneI p1 o1 ++ ([.num (7, 1)] ++ [.op "setink"] ++ [.op "erase"])) (rd_one h1.g.parts o1 ?_) (by rw [List.length_append]; omega) (Runs.app r0 (Runs.app (Runs.app r1 r2) r3)) rfl (fun d m => by rw [List.mem_singleton.mp m]; trivial)
  rw [e_er]
  exact ((Wd.num gn7).rd.app op_setink.rd).app op_erase.rd
end
end
section
local macro_rules | `(tactic| walk_at "fld") => `(tactic| (refine fkT (w := ?w) (K := ?K) (mg := ?mg) (A := ?A) ?t ?e ?h; (case t => assumption); (case e => exact rfl); (case h => first | with_reducible exact g_Look_matrix (by assumption) | with_reducible exact g_Look_path (by assumption) | with_reducible exact g_Look_ink (by assumption) | with_reducible exact g_Look_width (by assumption) | with_reducible exact g_Look_clips (by assumption) | with_reducible exact g_Look_font (by assumption) | with_reducible exact g_World_operands (by assumption) | with_reducible exact g_World_rooms (by assumption) | with_reducible exact g_World_scopes (by assumption) | with_reducible exact g_World_look (by assumption) | with_reducible exact g_World_kept (by assumption) | with_reducible exact g_World_sheets (by assumption) | with_reducible exact g_World_inkings (by assumption) | with_reducible exact g_World_saves (by assumption) | with_reducible exact g_World_many_saves (by assumption) | with_reducible exact g_Items_body (by assumption) | with_reducible exact g_Items_at (by assumption) | with_reducible exact g_Reader_text (by assumption) | with_reducible exact g_Reader_at (by assumption) | with_reducible exact g_Reader_row (by assumption) | with_reducible exact g_Reader_column (by assumption) | with_reducible exact g_Reader_deep (by assumption) | with_reducible exact g_Machine_wide (by assumption) | with_reducible exact g_Machine_high (by assumption) | with_reducible exact g_Machine_most (by assumption) | with_reducible exact g_Machine_world (by assumption) | with_reducible exact g_Machine_frames (by assumption) | with_reducible exact g_Machine_left (by assumption) | with_reducible exact g_Machine_told (by assumption) | with_reducible exact g_Machine_is_running (by assumption) | with_reducible exact g_Machine_ahead (by assumption) | with_reducible exact g_Machine_past (by assumption) | with_reducible exact g_Machine_later (by assumption))))
/-- as many steps as go by themselves -/
local macro_rules | `(tactic| walk_at "g1") => `(tactic| (first
  | with_reducible refine r_seq ?_ | with_reducible refine r_set ?_ | with_reducible refine r_asg ?_ | with_reducible refine r_sl ?_ | with_reducible refine r_np ?_ | with_reducible refine r_pt ?_ | with_reducible refine r_gn ?_ | with_reducible refine r_gc ?_ | with_reducible refine r_g0 ?_ | ((with_reducible refine r_gt (xs := ?xs) ?h ?g ?_); (case h => assumption); (case g => exact rfl)) | with_reducible refine r_ret ?_ | with_reducible refine r_if ?_ | with_reducible refine r_test ?_ | with_reducible refine r_B ?_ | with_reducible refine r_and ?_ | with_reducible refine r_or ?_ | with_reducible refine r_not ?_
  | with_reducible refine r_andV ?_ | with_reducible refine r_orV ?_ | with_reducible refine r_notV ?_ | with_reducible refine r_ifx ?_ | with_reducible refine r_op ?_ | with_reducible refine r_un ?_ | with_reducible refine r_U ?_ | with_reducible refine r_c ?_ | with_reducible refine r_I0 ?_ | with_reducible refine r_drop ?_ | with_reducible refine r_next ?_
  | ((with_reducible refine r_var (v := ?v) ?h ?_); (case h => exact rfl)) | with_reducible refine r_bl ?_ | with_reducible refine r_nil ?_ | with_reducible refine r_cons ?_ | with_reducible refine r_cb ?_ | with_reducible refine r_call ?_ | ((with_reducible refine r_gl (xs := ?xs) ?h ?g ?_); (case h => assumption); (case g => exact rfl)) | with_reducible refine r_sm1 ?_ | with_reducible refine r_sm2 ?_ | with_reducible refine r_sm3 ?_ | with_reducible refine r_ch ?_ | with_reducible refine r_bm ?_ | with_reducible refine r_bm0 ?_ | ((with_reducible refine r_ty (xs := ?xs) ?e ?_); (case e => assumption)) | with_reducible refine r_mkU ?_ | with_reducible refine r_mt0 ?_ | with_reducible refine r_yes ?_ | with_reducible refine iteT ?_ | with_reducible refine iteF ?_ | with_reducible refine r_spk ?_ | with_reducible refine r_sp1 ?_ | with_reducible refine r_sp2 ?_ | with_reducible refine r_sp3 ?_ | with_reducible refine r_sp4 ?_ | with_reducible refine r_sp5 ?_
  | with_reducible refine r_tup ?_ | with_reducible refine r_lst ?_ | with_reducible refine r_par ?_ | with_reducible refine r_par2 ?_ 
  | ((with_reducible refine r_eq ?h ?_); (case h => exact rfl)) | ((with_reducible refine r_ne ?h ?_); (case h => exact rfl))
  | ((with_reducible refine r_ixT (xs := ?xs) (v := ?v) ?h ?g ?_); (case h => assumption); (case g => first | exact at0 | exact at1))
  | ((with_reducible refine r_fl (i := ?i) (nm := ?nm) (C := ?C) (dx := ?dx) (vs := ?vs) (v := ?v) ?ok ?e ?hv ?_); (case e => assumption); (case ok => walk_at "fld"); (case hv => rfl)) | with_reducible refine r_for ?_ | with_reducible refine r_il ?_ | with_reducible refine r_it ?_ | with_reducible refine r_iz ?_ | with_reducible refine r_ir1 ?_ | with_reducible refine r_ir2 ?_ | with_reducible refine r_lc ?_ | with_reducible refine r_sFld ?_ | with_reducible refine r_ck ?_ | with_reducible refine r_fld ?_ | with_reducible refine ⟨_, rfl, ?_⟩ | with_reducible refine ⟨_, _, rfl, .inr (by with_unfolding_all assumption), ?_⟩ | with_reducible refine ⟨_, _, rfl, .inl (seqL (by assumption)), ?_⟩ | with_reducible refine ⟨_, _, rfl, rfl, ?_⟩ | with_reducible refine ⟨_, _, rfl, ?_⟩ | with_reducible refine ⟨rfl, ?_⟩ | with_reducible refine r_sz ?_))
local macro_rules | `(tactic| walk_at "go") => `(tactic| (repeat walk_at "g1"))
variable {P : Program} {w : World} {K : PySem.W.Frag} {mg : Str → Option Value} {A : Ad} {base : Heap}
/-! The pages of the law's programs, cell by cell. -/
theorem inB_nil (o : Bool) (x y : Int) : inB [] o x y = false := by
  unfold inB
  have e : turnsL (crossP [] (2 * y + 1, 2)) x = [] := rfl
  rw [e]
  cases o <;> rfl
theorem cell_inkF (i : Int) (p : Path) (o : Bool) (cl : List (Path × Bool)) (x y : Int) : cellD (inkF i p o cl) x y = if (inB p o x y && cl.all fun l => inB l.1 l.2 x y) then i else 0 := by
  unfold inkF
  by_cases h : p = []
  · subst h
    rw [if_pos rfl, inB_nil, Bool.false_and]
    rfl
  · rw [if_neg h]
    rfl
theorem page_congr {ds es : List Dd} (h : ∀ (x y : Nat), x < 6 → y < 5 → cellD ds x y = cellD es x y) : pageD ds = pageD es := by
  unfold pageD rowI
  refine List.map_congr_left fun y hy => List.map_congr_left fun x hx => h x y (List.mem_range.mp hx) (List.mem_range.mp hy)
theorem pg_swap (p : Path) (o : Bool) (c d : Path × Bool) : pageD (inkF 5 p o [c, d]) = pageD (inkF 5 p o [d, c]) := page_congr fun x y _ _ => by
  rw [cell_inkF, cell_inkF]
  simp only [List.all_cons, List.all_nil, Bool.and_true]
  rw [Bool.and_comm (inB c.1 c.2 x y)]
theorem pg_again (p : Path) (o : Bool) (c d : Path × Bool) : pageD (inkF 5 p o [c, d, c]) = pageD (inkF 5 p o [c, d]) := page_congr fun x y _ _ => by
  rw [cell_inkF, cell_inkF]
  simp only [List.all_cons, List.all_nil, Bool.and_true]
  cases inB c.1 c.2 x y <;> simp
theorem rect_all : ∀ x, x < 6 → ∀ y, y < 5 → inB [(rectC, true)] false (x : Nat) (y : Nat) = true := by decide +kernel
theorem pg_whole (p : Path) (o : Bool) : pageD (inkF 5 p o [([(rectC, true)], false)]) = pageD (inkF 5 p o []) := page_congr fun x y hx hy => by
  rw [cell_inkF, cell_inkF]
  simp only [List.all_cons, List.all_nil, Bool.and_true]
  rw [rect_all x hx y hy, Bool.and_true]
def noneP : List (List Int) := List.replicate 5 (List.replicate 6 0)
theorem pg_zero {ds : List Dd} (h : ∀ x y : Int, cellD ds x y = 0) : pageD ds = noneP := by
  unfold pageD rowI
  have e : (fun (y : Nat) => (List.range 6).map fun (x : Nat) => cellD ds x y) = fun _ => (List.range 6).map fun _ => 0 := by
    funext y
    refine List.map_congr_left fun x _ => h x y
  rw [e]
  rfl
theorem pg_none (p : Path) (o : Bool) : pageD (inkF 5 p o [([], false)]) = noneP := pg_zero fun x y => by
  rw [cell_inkF]
  simp only [List.all_cons, List.all_nil, Bool.and_true]
  rw [inB_nil, Bool.and_false]
  rfl
theorem pg_erase : pageD [.erase] = noneP := pg_zero fun _ _ => rfl
theorem cell_one (p : Path) (o : Bool) (c : Path × Bool) (x y : Int) : cellD (inkF 5 p o [c]) x y = if cellD (inkF 5 p o []) x y = 5 ∧ cellD (inkF 1 c.1 c.2 []) x y = 1 then 5 else 0 := by
  rw [cell_inkF, cell_inkF, cell_inkF]
  simp only [List.all_cons, List.all_nil, Bool.and_true]
  cases inB p o x y <;> cases inB c.1 c.2 x y <;> decide
theorem cell_two (p : Path) (o : Bool) (c d : Path × Bool) (x y : Int) : cellD (inkF 5 p o [c, d]) x y = if cellD (inkF 5 p o [c]) x y = 5 ∧ cellD (inkF 1 d.1 d.2 []) x y = 1 then 5 else 0 := by
  rw [cell_inkF, cell_inkF, cell_inkF]
  simp only [List.all_cons, List.all_nil, Bool.and_true]
  cases inB p o x y <;> cases inB c.1 c.2 x y <;> cases inB d.1 d.2 x y <;> decide
/-! ### pages as data -/
def rowDt (r : List Int) : PyData := .tuple (r.map PyData.int)
def pageDt (pg : List (List Int)) : PyData := .tuple (pg.map rowDt)
theorem PageAt.dp {K : PySem.W.Frag} {H : Hp} {v : V} {pg : List (List Int)} (h : PageAt K H v pg) : Dp K H v (pageDt pg) := by
  obtain ⟨a, xs, rfl, q, r⟩ := h
  refine .tup q (dps (f := rowDt) (fun v r h => ?_) r)
  obtain ⟨b, rfl, q⟩ := h
  exact .tup q (dps_ints r)
theorem canRows : ∀ pg : List (List Int), PyData.canLayAll0 (pg.map rowDt) = true
  | [] => by simp [PyData.canLayAll0]
  | r :: pg => by simp [PyData.canLayAll0, PyData.canLay0, rowDt, canInts r, canRows pg]
theorem depRows : ∀ pg : List (List Int), PyData.depthAll (pg.map rowDt) ≤ 3
  | [] => by simp [PyData.depthAll]
  | r :: pg => by
    have := depRows pg
    have := depInts r
    simp only [List.map_cons, PyData.depthAll, rowDt, PyData.depth]
    omega
theorem shapedPage (pg : List (List Int)) : SeqAt.shaped (pageDt pg) = true := by
  have h1 := depRows pg
  have h2 : PyData.depth (pageDt pg) ≤ 64 := by
    simp only [pageDt, PyData.depth]
    omega
  show (PyData.canLay0 (pageDt pg) && decide (PyData.depth (pageDt pg) ≤ 64)) = true
  rw [Bool.and_eq_true]
  exact ⟨by simp only [pageDt, PyData.canLay0]; exact canRows pg, decide_eq_true h2⟩
theorem r_nePg {K : PySem.W.Frag} {H : Hp} {x y : V} {p : List (List Int)} {Q : VK} (hx : PageAt K H x p) (hy : PageAt K H y p) (q : Q (.bl false) H) : rNeD K x y H Q :=
  ⟨pageDt p, pageDt p, hx.dp, hy.dp, shapedPage p, shapedPage p, by
    have e : PyData.eqv (pageDt p) (pageDt p) = true := SeqAt.eqv_refl _ (SeqAt.canLay_of_shaped (shapedPage p))
    rw [e]
    exact q⟩
theorem r_eqPg {K : PySem.W.Frag} {H : Hp} {x y : V} {p : List (List Int)} {Q : VK} (hx : PageAt K H x p) (hy : PageAt K H y p) (q : Q (.bl true) H) : rEqD K x y H Q :=
  ⟨pageDt p, pageDt p, hx.dp, hy.dp, shapedPage p, shapedPage p, by
    have e : PyData.eqv (pageDt p) (pageDt p) = true := SeqAt.eqv_refl _ (SeqAt.canLay_of_shaped (shapedPage p))
    rw [e]
    exact q⟩
theorem shaped3 (p q r : List (List Int)) : SeqAt.shaped (.tuple [pageDt p, pageDt q, pageDt r]) = true := by
  have h1 := depRows p
  have h2 := depRows q
  have h3 := depRows r
  have h4 : PyData.depth (.tuple [pageDt p, pageDt q, pageDt r]) ≤ 64 := by
    simp only [pageDt, PyData.depth, PyData.depthAll]
    omega
  show (PyData.canLay0 _ && decide (PyData.depth _ ≤ 64)) = true
  rw [Bool.and_eq_true]
  exact ⟨by simp [PyData.canLay0, PyData.canLayAll0, pageDt, canRows], decide_eq_true h4⟩
/-- None in three pages -/
theorem r_in3 {K : PySem.W.Frag} {H : Hp} {t : Addr} {x y z : V} {p q r : List (List Int)} {Q : VK} (e : SqT K H t [x, y, z]) (hx : PageAt K H x p) (hy : PageAt K H y q) (hz : PageAt K H z r) (k : Q (.bl false) H) : rInT K .non (.ref t) H Q :=
  ⟨.none, [pageDt p, pageDt q, pageDt r], .non, .tup e (.cons hx.dp (.cons hy.dp (.cons hz.dp .nil))), by decide +kernel, shaped3 p q r, k⟩
/-- a page's cell -/
theorem page_row {ds : List Dd} {y : Nat} (h : y < 5) : (pageD ds)[y]? = some (rowI ds y) := by
  unfold pageD
  rw [List.getElem?_map, List.getElem?_range h]
  rfl
theorem PageAt.row {K : PySem.W.Frag} {H : Hp} {v : V} {ds : List Dd} (h : PageAt K H v (pageD ds)) {y : Nat} (hy : y < 5) : ∃ a xs r, v = .ref a ∧ SqT K H a xs ∧ xs[y]? = some (.ref r) ∧ SqT K H r ((rowI ds y).map V.int) := by
  obtain ⟨a, xs, rfl, q, p⟩ := h
  have hl : y < xs.length := by
    rw [pLen p]
    unfold pageD
    rw [List.length_map, List.length_range]
    exact hy
  obtain ⟨r, er, hr⟩ := pAt p (List.getElem?_eq_getElem hl) (page_row hy)
  exact ⟨a, xs, r, rfl, q, by rw [List.getElem?_eq_getElem hl, er], hr⟩
end
section
local macro_rules | `(tactic| walk_at "fld") => `(tactic| (refine fkT (w := ?w) (K := ?K) (mg := ?mg) (A := ?A) ?t ?e ?h; (case t => assumption); (case e => exact rfl); (case h => first | with_reducible exact g_Look_matrix (by assumption) | with_reducible exact g_Look_path (by assumption) | with_reducible exact g_Look_ink (by assumption) | with_reducible exact g_Look_width (by assumption) | with_reducible exact g_Look_clips (by assumption) | with_reducible exact g_Look_font (by assumption) | with_reducible exact g_World_operands (by assumption) | with_reducible exact g_World_rooms (by assumption) | with_reducible exact g_World_scopes (by assumption) | with_reducible exact g_World_look (by assumption) | with_reducible exact g_World_kept (by assumption) | with_reducible exact g_World_sheets (by assumption) | with_reducible exact g_World_inkings (by assumption) | with_reducible exact g_World_saves (by assumption) | with_reducible exact g_World_many_saves (by assumption) | with_reducible exact g_Items_body (by assumption) | with_reducible exact g_Items_at (by assumption) | with_reducible exact g_Reader_text (by assumption) | with_reducible exact g_Reader_at (by assumption) | with_reducible exact g_Reader_row (by assumption) | with_reducible exact g_Reader_column (by assumption) | with_reducible exact g_Reader_deep (by assumption) | with_reducible exact g_Machine_wide (by assumption) | with_reducible exact g_Machine_high (by assumption) | with_reducible exact g_Machine_most (by assumption) | with_reducible exact g_Machine_world (by assumption) | with_reducible exact g_Machine_frames (by assumption) | with_reducible exact g_Machine_left (by assumption) | with_reducible exact g_Machine_told (by assumption) | with_reducible exact g_Machine_is_running (by assumption) | with_reducible exact g_Machine_ahead (by assumption) | with_reducible exact g_Machine_past (by assumption) | with_reducible exact g_Machine_later (by assumption))))
/-- as many steps as go by themselves -/
local macro_rules | `(tactic| walk_at "g1") => `(tactic| (first
  | with_reducible refine r_seq ?_ | with_reducible refine r_set ?_ | with_reducible refine r_asg ?_ | with_reducible refine r_sl ?_ | with_reducible refine r_np ?_ | with_reducible refine r_pt ?_ | with_reducible refine r_gn ?_ | with_reducible refine r_gc ?_ | with_reducible refine r_g0 ?_ | ((with_reducible refine r_gt (xs := ?xs) ?h ?g ?_); (case h => assumption); (case g => exact rfl)) | with_reducible refine r_ret ?_ | with_reducible refine r_if ?_ | with_reducible refine r_test ?_ | with_reducible refine r_B ?_ | with_reducible refine r_and ?_ | with_reducible refine r_or ?_ | with_reducible refine r_not ?_
  | with_reducible refine r_andV ?_ | with_reducible refine r_orV ?_ | with_reducible refine r_notV ?_ | with_reducible refine r_ifx ?_ | with_reducible refine r_op ?_ | with_reducible refine r_un ?_ | with_reducible refine r_U ?_ | with_reducible refine r_c ?_ | with_reducible refine r_I0 ?_ | with_reducible refine r_drop ?_ | with_reducible refine r_next ?_
  | ((with_reducible refine r_var (v := ?v) ?h ?_); (case h => exact rfl)) | with_reducible refine r_bl ?_ | with_reducible refine r_nil ?_ | with_reducible refine r_cons ?_ | with_reducible refine r_cb ?_ | with_reducible refine r_call ?_ | ((with_reducible refine r_gl (xs := ?xs) ?h ?g ?_); (case h => assumption); (case g => exact rfl)) | with_reducible refine r_sm1 ?_ | with_reducible refine r_sm2 ?_ | with_reducible refine r_sm3 ?_ | with_reducible refine r_ch ?_ | with_reducible refine r_bm ?_ | with_reducible refine r_bm0 ?_ | ((with_reducible refine r_ty (xs := ?xs) ?e ?_); (case e => assumption)) | with_reducible refine r_mkU ?_ | with_reducible refine r_mt0 ?_ | with_reducible refine r_yes ?_ | with_reducible refine iteT ?_ | with_reducible refine iteF ?_ | with_reducible refine r_spk ?_ | with_reducible refine r_sp1 ?_ | with_reducible refine r_sp2 ?_ | with_reducible refine r_sp3 ?_ | with_reducible refine r_sp4 ?_ | with_reducible refine r_sp5 ?_
  | with_reducible refine r_tup ?_ | with_reducible refine r_lst ?_ | with_reducible refine r_par ?_ | with_reducible refine r_par2 ?_ 
  | ((with_reducible refine r_eq ?h ?_); (case h => exact rfl)) | ((with_reducible refine r_ne ?h ?_); (case h => exact rfl))
  | ((with_reducible refine r_ixT (xs := ?xs) (v := ?v) ?h ?g ?_); (case h => assumption); (case g => first | exact at0 | exact at1))
  | ((with_reducible refine r_fl (i := ?i) (nm := ?nm) (C := ?C) (dx := ?dx) (vs := ?vs) (v := ?v) ?ok ?e ?hv ?_); (case e => assumption); (case ok => walk_at "fld"); (case hv => rfl)) | with_reducible refine r_for ?_ | with_reducible refine r_il ?_ | with_reducible refine r_it ?_ | with_reducible refine r_iz ?_ | with_reducible refine r_ir1 ?_ | with_reducible refine r_ir2 ?_ | with_reducible refine r_lc ?_ | with_reducible refine r_sFld ?_ | with_reducible refine r_ck ?_ | with_reducible refine r_fld ?_ | with_reducible refine ⟨_, rfl, ?_⟩ | with_reducible refine ⟨_, _, rfl, .inr (by with_unfolding_all assumption), ?_⟩ | with_reducible refine ⟨_, _, rfl, .inl (seqL (by assumption)), ?_⟩ | with_reducible refine ⟨_, _, rfl, rfl, ?_⟩ | with_reducible refine ⟨_, _, rfl, ?_⟩ | with_reducible refine ⟨rfl, ?_⟩ | with_reducible refine r_sz ?_))
local macro_rules | `(tactic| walk_at "go") => `(tactic| (repeat walk_at "g1"))
variable {P : Program} {w : World} {K : PySem.W.Frag} {mg : Str → Option Value} {A : Ad} {base : Heap}
/-! The law: its last statements. -/
open SX (S)
abbrev nLaw : List Str := ["_law_script", "_law_some", "_law_part_here", "_law_k", "_law_words", "_law_rule", "_law_first", "_law_second", "_law_last", "_law_path_here", "_law_one", "_law_two", "_law_ink", "_law_bare", "_law_clipped", "_law_both", "_law_inside", "_law_word", "_law_y", "_law_x", "_law_none"]
theorem sc_law : FnScope nLaw ["_law_script"] (defScope s_law) := ⟨rfl, rfl, rfl, by decide +kernel, rfl, by decide +kernel, by decide +kernel⟩
theorem hu65 {k : Nat} {A : Around} (r : Room k A) : A.units + 65 < cLine := by
  have := r.un
  omega
def lSp : List Nat := opC " "
def lGs : List Nat := opC "gsave "
def lGr : List Nat := opC " grestore"
def lGs2 : List Nat := opC " gsave"
def lIc : List Nat := opC " initclip"
def lRc : List Nat := opC "newpath 0 0 6 5 rect clip"
def lNc : List Nat := opC "newpath clip"
def lNi : List Nat := opC "newpath eoclip initclip"
def lEr : List Nat := opC " 7 setink erase"
def lNp : List Nat := opC "newpath"
def lN2 : List Nat := opC " newpath"
def lSet : List Nat := opC " 5 setink "
def lEf : List Nat := opC " eofill"
def lFl : List Nat := opC " fill"
theorem qSp : Str.ofString " " = S lSp := (SX.S_tl _).symm
theorem qGs : Str.ofString "gsave " = S lGs := (SX.S_tl _).symm
theorem qGr : Str.ofString " grestore" = S lGr := (SX.S_tl _).symm
theorem qGs2 : Str.ofString " gsave" = S lGs2 := (SX.S_tl _).symm
theorem qIc : Str.ofString " initclip" = S lIc := (SX.S_tl _).symm
theorem qRc : Str.ofString "newpath 0 0 6 5 rect clip" = S lRc := (SX.S_tl _).symm
theorem qNc : Str.ofString "newpath clip" = S lNc := (SX.S_tl _).symm
theorem qNi : Str.ofString "newpath eoclip initclip" = S lNi := (SX.S_tl _).symm
theorem qEr : Str.ofString " 7 setink erase" = S lEr := (SX.S_tl _).symm
theorem qNp : Str.ofString "newpath" = S lNp := (SX.S_tl _).symm
theorem qN2 : Str.ofString " newpath" = S lN2 := (SX.S_tl _).symm
theorem qSet : Str.ofString " 5 setink " = S lSet := (SX.S_tl _).symm
theorem qEf : Str.ofString " eofill" = S lEf := (SX.S_tl _).symm
theorem qFl : Str.ofString " fill" = S lFl := (SX.S_tl _).symm
theorem lLens : lSp.length ≤ 40 ∧ lGs.length ≤ 40 ∧ lGr.length ≤ 40 ∧ lGs2.length ≤ 40 ∧ lIc.length ≤ 40 ∧ lRc.length ≤ 40 ∧ lNc.length ≤ 40 ∧ lNi.length ≤ 40 ∧ lEr.length ≤ 40 ∧ lNp.length ≤ 40 ∧ lN2.length ≤ 40 ∧ lSet.length ≤ 40 ∧ lEf.length ≤ 40 ∧ lFl.length ≤ 40 := by decide +kernel
theorem szCat {a b : List Nat} (h : a.length + b.length ≤ 100000) : (S a).length + (S b).length ≤ sizeLine := by
  have := szBig
  rw [SX.S_len, SX.S_len]
  omega
local macro_rules | `(tactic| walk_at "cat") => `(tactic| (refine ⟨szCat (by first | omega | (simp only [List.length_append]; omega)), ?_⟩; rw [SX.S_cat]))
local macro_rules | `(tactic| walk_at "txt") => `(tactic| (repeat (first | walk_at "cat" | walk_at "g1")))
/-- what the last statements need of the texts -/
structure LawC (t1 t2 t3 : List Nat) (d0 d1 : List Dd) : Prop where
  l1 : t1.length ≤ 600
  l2 : t2.length ≤ 600
  l3 : t3.length ≤ 600
  g6 : Prog (lGs ++ t1 ++ t2 ++ lGr ++ t3) d0
  g7 : Prog (t1 ++ lGs2 ++ t2 ++ lGr ++ t3) d1
  g8 : Prog (t1 ++ t2 ++ lIc ++ t3) d0
  g9 : ∃ d, Prog (lRc ++ t3) d ∧ pageD d = pageD d0
  g10 : ∃ d, Prog (lNc ++ t3) d ∧ pageD d = noneP
  g11 : Prog (lNi ++ t3) d0
  g12 : ∃ d, Prog (t1 ++ lEr) d ∧ pageD d = noneP
section
variable {f : Addr} {cdv : Value} {Ar : Around} {outer : List Env} {s : Shared} {H : Hp} {E : XK} {Q : VK}
abbrev xLaw (P : Program) (w : World) (K : PySem.W.Frag) (mg : Str → Option Value) (base : Heap) (f : Addr) (cdv : Value) (Ar : Around) (outer : List Env) (s : Shared) (H : Hp) (E : XK) : Cx := (cxOf C8.CX0 P w K mg base nLaw "law" (defScope s_law) f cdv Ar outer s H E).nox
theorem law_c (T : Tx w K mg A) (hr : Room 15 (Ar.deeper (envOfC "law" (defScope s_law) s.heap.objs.size f cdv))) (hq : ∀ H', Q (.bl true) H') :
    ∃ t, PSs (xLaw P w K mg base f cdv Ar outer s H E) ((defBody s_law).drop 13) t ∧ ∀ (t1 t2 t3 : List Nat) (d0 d1 : List Dd) (z0 z1 z2 z3 z4 z5 z6 z7 z8 z9 z15 z16 z17 z18 z19 z20 : Option V) (v13 v14 : V) (H1 : Hp), LawC t1 t2 t3 d0 d1 → PageAt K H1 v13 (pageD d0) → PageAt K H1 v14 (pageD d1) →
      t { nx := fun _ H' => Q .non H', rt := Q } [z0, z1, z2, z3, z4, z5, z6, z7, z8, z9, some (.str (S t1)), some (.str (S t2)), some (.str (S t3)), some v13, some v14, z15, z16, z17, z18, z19, z20] H1 := by
  refine ⟨_, (pss_cons (ps_if (pt_cmpR (op_neD hr.units) (pe_c (cal_law_page T) hr (by decide) rfl (pa_cons (pe_op op_add_str (pe_op op_add_str (pe_op op_add_str (pe_op op_add_str pe_str (pv 10)) (pv 11)) pe_str) (pv 12)) pa_nil)) (pv 13) (nomark _))
    pss_never
    pss_nil)
    (pss_cons (ps_if (pt_cmpR (op_neD hr.units) (pe_c (cal_law_page T) hr (by decide) rfl (pa_cons (pe_op op_add_str (pe_op op_add_str (pe_op op_add_str (pe_op op_add_str (pv 10) pe_str) (pv 11)) pe_str) (pv 12)) pa_nil)) (pv 14) (nomark _))
    pss_never
    pss_nil)
    (pss_cons (ps_if (pt_cmpR (op_neD hr.units) (pe_c (cal_law_page T) hr (by decide) rfl (pa_cons (pe_op op_add_str (pe_op op_add_str (pe_op op_add_str (pv 10) (pv 11)) pe_str) (pv 12)) pa_nil)) (pv 13) (nomark _))
    pss_never
    pss_nil)
    (pss_cons (ps_if (pt_cmpR (op_neD hr.units) (pe_c (cal_law_page T) hr (by decide) rfl (pa_cons (pe_op op_add_str pe_str (pv 12)) pa_nil)) (pv 13) (nomark _))
    pss_never
    pss_nil)
    (pss_cons (ps_set (i := 20) sc_law.nd rfl (.inl rfl) (pe_op op_repT (pe_tup (pa_cons (pe_op op_repT (pe_tup (pa_cons pe_int pa_nil)) pe_int) pa_nil)) pe_int))
    (pss_cons (ps_if (pt_cmpR (op_neD hr.units) (pe_c (cal_law_page T) hr (by decide) rfl (pa_cons (pe_op op_add_str pe_str (pv 12)) pa_nil)) (pv 20) (nomark _))
    pss_never
    pss_nil)
    (pss_cons (ps_if (pt_cmpR (op_neD hr.units) (pe_c (cal_law_page T) hr (by decide) rfl (pa_cons (pe_op op_add_str pe_str (pv 12)) pa_nil)) (pv 13) (nomark _))
    pss_never
    pss_nil)
    (pss_one (ps_ret (pe_cmpR (op_eqD hr.units) (pe_c (cal_law_page T) hr (by decide) rfl (pa_cons (pe_op op_add_str (pv 10) pe_str) pa_nil)) (pv 20) (nomark _))))))))))), ?_⟩
  intro t1 t2 t3 d0 d1 z0 z1 z2 z3 z4 z5 z6 z7 z8 z9 z15 z16 z17 z18 z19 z20 v13 v14 H1 C p13 p14
  obtain ⟨l1, l2, l3, g6, g7, g8, ⟨d9, g9, e9⟩, ⟨d10, g10, e10⟩, g11, ⟨d12, g12, e12⟩⟩ := C
  obtain ⟨y1, y2, y3, y4, y5, y6, y7, y8, y9, y10, y11, y12, y13, y14⟩ := lLens
  simp only [qGs, qGr, qGs2, qIc, qRc, qNc, qNi, qEr]
  walk_at "txt"
  refine ⟨_, _, rfl, g6, fun u2 H2 s2 a2 => ?_⟩
  walk_at "txt"
  refine r_nePg a2 (p13.tk (Same.tk s2)) ?_
  walk_at "txt"
  refine ⟨_, _, rfl, g7, fun u3 H3 s3 a3 => ?_⟩
  have s13 := s2.trans s3
  walk_at "txt"
  refine r_nePg a3 (p14.tk (Same.tk s13)) ?_
  walk_at "txt"
  refine ⟨_, _, rfl, g8, fun u4 H4 s4 a4 => ?_⟩
  have s14 := s13.trans s4
  walk_at "txt"
  refine r_nePg a4 (p13.tk (Same.tk s14)) ?_
  walk_at "txt"
  refine ⟨_, _, rfl, g9, fun u5 H5 s5 a5 => ?_⟩
  have s15 := s14.trans s5
  rw [e9] at a5
  walk_at "txt"
  refine r_nePg a5 (p13.tk (Same.tk s15)) ?_
  walk_at "txt"
  intro b6 f6
  generalize k6 : upd _ _ _ = H6
  have ⟨s6, e6⟩ := nwT k6 f6
  walk_at "txt"
  refine ⟨b6, 6, _, rfl, rfl, e6 K, by simp, by decide, by decide, by decide, fun b7 f7 => ?_⟩
  generalize k7 : upd _ _ _ = H7
  have ⟨s7, e7⟩ := nwT k7 f7
  walk_at "txt"
  intro b8 f8
  generalize k8 : upd _ _ _ = H8
  have ⟨s8, e8⟩ := nwT k8 f8
  walk_at "txt"
  refine ⟨b8, 5, _, rfl, rfl, e8 K, by simp, by decide, by decide, by show 1 ≤ 1000; decide, fun b9 f9 => ?_⟩
  generalize k9 : upd _ _ _ = H9
  have ⟨s9, e9'⟩ := nwT k9 f9
  have r7 : RowAt K H9 (.ref b7) (List.replicate 6 0) := ⟨b7, rfl, sqS (e7 K) (s8.trans s9)⟩
  have pn : PageAt K H9 (.ref b9) noneP := ⟨b9, _, rfl, e9' K, .cons r7 (.cons r7 (.cons r7 (.cons r7 (.cons r7 .nil))))⟩
  have s19 := s15.trans (s6.trans (s7.trans (s8.trans s9)))
  walk_at "txt"
  refine ⟨_, _, rfl, g10, fun u10 H10 s10 a10 => ?_⟩
  rw [e10] at a10
  walk_at "txt"
  refine r_nePg a10 (pn.tk (Same.tk s10)) ?_
  walk_at "txt"
  refine ⟨_, _, rfl, g11, fun u11 H11 s11 a11 => ?_⟩
  walk_at "txt"
  refine r_nePg a11 (p13.tk (Same.tk (s19.trans (s10.trans s11)))) ?_
  walk_at "txt"
  refine ⟨_, _, rfl, g12, fun u12 H12 s12 a12 => ?_⟩
  rw [e12] at a12
  walk_at "txt"
  refine r_eqPg a12 (pn.tk (Same.tk (s10.trans (s11.trans s12)))) ?_
  exact hq _
end
end
section
local macro_rules | `(tactic| walk_at "fld") => `(tactic| (refine fkT (w := ?w) (K := ?K) (mg := ?mg) (A := ?A) ?t ?e ?h; (case t => assumption); (case e => exact rfl); (case h => first | with_reducible exact g_Look_matrix (by assumption) | with_reducible exact g_Look_path (by assumption) | with_reducible exact g_Look_ink (by assumption) | with_reducible exact g_Look_width (by assumption) | with_reducible exact g_Look_clips (by assumption) | with_reducible exact g_Look_font (by assumption) | with_reducible exact g_World_operands (by assumption) | with_reducible exact g_World_rooms (by assumption) | with_reducible exact g_World_scopes (by assumption) | with_reducible exact g_World_look (by assumption) | with_reducible exact g_World_kept (by assumption) | with_reducible exact g_World_sheets (by assumption) | with_reducible exact g_World_inkings (by assumption) | with_reducible exact g_World_saves (by assumption) | with_reducible exact g_World_many_saves (by assumption) | with_reducible exact g_Items_body (by assumption) | with_reducible exact g_Items_at (by assumption) | with_reducible exact g_Reader_text (by assumption) | with_reducible exact g_Reader_at (by assumption) | with_reducible exact g_Reader_row (by assumption) | with_reducible exact g_Reader_column (by assumption) | with_reducible exact g_Reader_deep (by assumption) | with_reducible exact g_Machine_wide (by assumption) | with_reducible exact g_Machine_high (by assumption) | with_reducible exact g_Machine_most (by assumption) | with_reducible exact g_Machine_world (by assumption) | with_reducible exact g_Machine_frames (by assumption) | with_reducible exact g_Machine_left (by assumption) | with_reducible exact g_Machine_told (by assumption) | with_reducible exact g_Machine_is_running (by assumption) | with_reducible exact g_Machine_ahead (by assumption) | with_reducible exact g_Machine_past (by assumption) | with_reducible exact g_Machine_later (by assumption))))
/-- as many steps as go by themselves -/
local macro_rules | `(tactic| walk_at "g1") => `(tactic| (first
  | with_reducible refine r_seq ?_ | with_reducible refine r_set ?_ | with_reducible refine r_asg ?_ | with_reducible refine r_sl ?_ | with_reducible refine r_np ?_ | with_reducible refine r_pt ?_ | with_reducible refine r_gn ?_ | with_reducible refine r_gc ?_ | with_reducible refine r_g0 ?_ | ((with_reducible refine r_gt (xs := ?xs) ?h ?g ?_); (case h => assumption); (case g => exact rfl)) | with_reducible refine r_ret ?_ | with_reducible refine r_if ?_ | with_reducible refine r_test ?_ | with_reducible refine r_B ?_ | with_reducible refine r_and ?_ | with_reducible refine r_or ?_ | with_reducible refine r_not ?_
  | with_reducible refine r_andV ?_ | with_reducible refine r_orV ?_ | with_reducible refine r_notV ?_ | with_reducible refine r_ifx ?_ | with_reducible refine r_op ?_ | with_reducible refine r_un ?_ | with_reducible refine r_U ?_ | with_reducible refine r_c ?_ | with_reducible refine r_I0 ?_ | with_reducible refine r_drop ?_ | with_reducible refine r_next ?_
  | ((with_reducible refine r_var (v := ?v) ?h ?_); (case h => exact rfl)) | with_reducible refine r_bl ?_ | with_reducible refine r_nil ?_ | with_reducible refine r_cons ?_ | with_reducible refine r_cb ?_ | with_reducible refine r_call ?_ | ((with_reducible refine r_gl (xs := ?xs) ?h ?g ?_); (case h => assumption); (case g => exact rfl)) | with_reducible refine r_sm1 ?_ | with_reducible refine r_sm2 ?_ | with_reducible refine r_sm3 ?_ | with_reducible refine r_ch ?_ | with_reducible refine r_bm ?_ | with_reducible refine r_bm0 ?_ | ((with_reducible refine r_ty (xs := ?xs) ?e ?_); (case e => assumption)) | with_reducible refine r_mkU ?_ | with_reducible refine r_mt0 ?_ | with_reducible refine r_yes ?_ | with_reducible refine iteT ?_ | with_reducible refine iteF ?_ | with_reducible refine r_spk ?_ | with_reducible refine r_sp1 ?_ | with_reducible refine r_sp2 ?_ | with_reducible refine r_sp3 ?_ | with_reducible refine r_sp4 ?_ | with_reducible refine r_sp5 ?_
  | with_reducible refine r_tup ?_ | with_reducible refine r_lst ?_ | with_reducible refine r_par ?_ | with_reducible refine r_par2 ?_ 
  | ((with_reducible refine r_eq ?h ?_); (case h => exact rfl)) | ((with_reducible refine r_ne ?h ?_); (case h => exact rfl))
  | ((with_reducible refine r_ixT (xs := ?xs) (v := ?v) ?h ?g ?_); (case h => assumption); (case g => first | exact at0 | exact at1))
  | ((with_reducible refine r_fl (i := ?i) (nm := ?nm) (C := ?C) (dx := ?dx) (vs := ?vs) (v := ?v) ?ok ?e ?hv ?_); (case e => assumption); (case ok => walk_at "fld"); (case hv => rfl)) | with_reducible refine r_for ?_ | with_reducible refine r_il ?_ | with_reducible refine r_it ?_ | with_reducible refine r_iz ?_ | with_reducible refine r_ir1 ?_ | with_reducible refine r_ir2 ?_ | with_reducible refine r_lc ?_ | with_reducible refine r_sFld ?_ | with_reducible refine r_ck ?_ | with_reducible refine r_fld ?_ | with_reducible refine ⟨_, rfl, ?_⟩ | with_reducible refine ⟨_, _, rfl, .inr (by with_unfolding_all assumption), ?_⟩ | with_reducible refine ⟨_, _, rfl, .inl (seqL (by assumption)), ?_⟩ | with_reducible refine ⟨_, _, rfl, rfl, ?_⟩ | with_reducible refine ⟨_, _, rfl, ?_⟩ | with_reducible refine ⟨rfl, ?_⟩ | with_reducible refine r_sz ?_))
local macro_rules | `(tactic| walk_at "go") => `(tactic| (repeat walk_at "g1"))
variable {P : Program} {w : World} {K : PySem.W.Frag} {mg : Str → Option Value} {A : Ad} {base : Heap}
/-! The law: its texts, pages, cells. -/
open SX (S)
def lW (o : Bool) : List Nat := opC (clipS o)
def lU (o : Bool) : List Nat := opC (fillS o)
theorem one_eq (p : Path) (o : Bool) : lNp ++ walkT p ++ lSp ++ lW o = oneT p o := by
  have e : lSp = [32] := e_sp
  rw [e]
  rfl
theorem two_eq (p : Path) (o : Bool) : lN2 ++ walkT p ++ lSp ++ lW o = twoT p o := by
  have e : lSp = [32] := e_sp
  have e2 : lN2 = [32] ++ opC "newpath" := by decide +kernel
  rw [e, e2]
  rfl
theorem ink_eq (p : Path) (o : Bool) : lN2 ++ walkT p ++ lSet ++ lU o = inkT p o := by
  have e2 : lN2 = [32] ++ opC "newpath" := by decide +kernel
  rw [e2]
  rfl
theorem lW_len (o : Bool) : (lW o).length ≤ 10 := by cases o <;> decide +kernel
theorem lU_len (o : Bool) : (lU o).length ≤ 10 := by cases o <;> decide +kernel
theorem lW_t : V.str (S (lW true)) = V.str (Str.ofString "eoclip") := congrArg V.str (SX.S_tl _)
theorem lW_f : ¬ V.str (S (lW false)) = V.str (Str.ofString "eoclip") := by decide +kernel
theorem in_t (p : Path) : lNp ++ walkT p ++ lEf = opC "newpath" ++ walkT p ++ opC (if true then " eofill" else " fill") := rfl
theorem in_f (p : Path) : lNp ++ walkT p ++ lFl = opC "newpath" ++ walkT p ++ opC (if false then " eofill" else " fill") := rfl
theorem walk_len {p : Path} (h : GPath p) : (walkT p).length ≤ 500 := by
  have h1 := walkT_len h.parts
  have h2 := h.len
  omega
/-- 5 if both, else 0 -/
theorem and51 {c1 c2 : TT} {σ : L2.St} {H : Hp} {Q : VK} {b1 b2 : Bool} (h1 : ∀ B : Bool → Hp → Prop, B b1 H → c1 σ H B) (h2 : ∀ B : Bool → Hp → Prop, B b2 H → c2 σ H B) (q : Q (.int (if (b1 && b2) = true then 5 else 0)) H) : tIf (tAnd c1 c2) (tC (.int 5)) (tC (.int 0)) σ H Q := by
  refine r_ifx (r_and (h1 _ ?_))
  cases b1 with
  | true =>
    refine itP rfl (h2 _ ?_)
    cases b2 with
    | true => exact itP rfl q
    | false => exact itN (by decide) q
  | false => exact itN (by decide) (itN (by decide) q)
local macro_rules | `(tactic| walk_at "cat") => `(tactic| (refine ⟨szCat (by first | omega | (simp only [List.length_append]; omega)), ?_⟩; rw [SX.S_cat]))
local macro_rules | `(tactic| walk_at "txt") => `(tactic| (repeat (first | walk_at "cat" | walk_at "g1")))
section
variable {f : Addr} {cdv : Value} {Ar : Around} {outer : List Env} {s : Shared} {H : Hp} {E : XK} {Q : VK}
theorem law_b (T : Tx w K mg A) (hr : Room 15 (Ar.deeper (envOfC "law" (defScope s_law) s.heap.objs.size f cdv))) (hq : ∀ H', Q (.bl true) H') :
    ∃ t, PSs (xLaw P w K mg base f cdv Ar outer s H E) ((defBody s_law).drop 4) t ∧ ∀ (p1 p2 p3 : Path) (o1 o2 o3 : Bool) (z0 z1 z2 z3 z9 z10 z11 z12 z13 z14 z15 z16 z17 z18 z19 z20 : Option V) (lw : Addr) (H1 : Hp), LP p1 → LP p2 → LP p3 → H1 lw = some (.lst [.str (S (lW o1)), .str (S (lW o2))]) →
      t { nx := fun _ H' => Q .non H', rt := Q } [z0, z1, z2, z3, some (.ref lw), some (.str (S (lU o3))), some (.str (S (walkT p1))), some (.str (S (walkT p2))), some (.str (S (walkT p3))), z9, z10, z11, z12, z13, z14, z15, z16, z17, z18, z19, z20] H1 := by
  obtain ⟨t, ht, htl⟩ := law_c (P := P) (base := base) (E := E) (H := H) (outer := outer) T hr hq
  refine ⟨_, (pss_cons (ps_par (i := 10) (j := 11) rfl sc_law.nd rfl rfl (by decide) rfl rfl (pa_cons (pe_op op_add_str (pe_op op_add_str (pe_op op_add_str pe_str (pv 6)) pe_str) (pe_ix ix_list (pv 4) pe_int (fun _ _ => rfl))) (pa_cons (pe_op op_add_str (pe_op op_add_str (pe_op op_add_str pe_str (pv 7)) pe_str) (pe_ix ix_list (pv 4) pe_int (fun _ _ => rfl))) pa_nil)) (by rfl))
    (pss_cons (ps_set (i := 12) sc_law.nd rfl (.inl rfl) (pe_op op_add_str (pe_op op_add_str (pe_op op_add_str pe_str (pv 8)) pe_str) (pv 5)))
    (pss_cons (ps_set (i := 13) sc_law.nd rfl (.inl rfl) (pe_c (cal_law_page T) hr (by decide) rfl (pa_cons (pv 12) pa_nil)))
    (pss_cons (ps_par (i := 14) (j := 15) rfl sc_law.nd rfl rfl (by decide) rfl rfl (pa_cons (pe_c (cal_law_page T) hr (by decide) rfl (pa_cons (pe_op op_add_str (pv 10) (pv 12)) pa_nil)) (pa_cons (pe_c (cal_law_page T) hr (by decide) rfl (pa_cons (pe_op op_add_str (pe_op op_add_str (pv 10) (pv 11)) (pv 12)) pa_nil)) pa_nil)) (by rfl))
    (pss_cons (ps_if (PW.pt (pw_or (pt_cmpR (op_inT (hu65 hr)) pe_non (pe_tup (pa_cons (pv 13) (pa_cons (pv 14) (pa_cons (pv 15) pa_nil)))) rfl) (pw_or1 (pt_cmpR (op_neD hr.units) (pe_c (cal_law_page T) hr (by decide) rfl (pa_cons (pe_op op_add_str (pe_op op_add_str (pe_op op_add_str (pv 11) pe_str) (pv 10)) (pv 12)) pa_nil)) (pv 15) (nomark _)))))
    pss_never
    pss_nil)
    (pss_cons (ps_if (pt_cmpR (op_neD hr.units) (pe_c (cal_law_page T) hr (by decide) rfl (pa_cons (pe_op op_add_str (pe_op op_add_str (pe_op op_add_str (pe_op op_add_str (pv 10) (pv 11)) pe_str) (pv 10)) (pv 12)) pa_nil)) (pv 15) (nomark _))
    pss_never
    pss_nil)
    (pss_cons (ps_set (i := 16) sc_law.nd rfl (.inl rfl) (pe_lst pa_nil))
    (pss_cons (ps_for PassesOwn.never rfl (pi_tup (pe_tup (pa_cons (pe_tup (pa_cons (pv 6) (pa_cons (pe_ix ix_list (pv 4) pe_int (fun _ _ => rfl)) pa_nil))) (pa_cons (pe_tup (pa_cons (pv 7) (pa_cons (pe_ix ix_list (pv 4) pe_int (fun _ _ => rfl)) pa_nil))) pa_nil)))) (pg_tup rfl (pgs_cons (pg_name (i := 9) sc_law.nd rfl (.inl rfl)) (pgs_cons (pg_name (i := 17) sc_law.nd rfl (.inl rfl)) pgs_nil)))
    (pss_one (ps_expr (pe_bm PySem.F.plainAttrs_list PySem.F.slot_list_append PySem.F.type_list_append mt_append (pv 16) (pa_cons (pe_c (cal_law_page T) hr (by decide) rfl (pa_cons (pe_op op_add_str (pe_op op_add_str pe_str (pv 9)) (pe_ifExp (pt_cmpR op_eq (pv 17) pe_str (nomark _)) pe_str pe_str)) pa_nil)) pa_nil)))))
    (pss_cons (ps_for PassesOwn.never rfl (pi_range1 rfl T.n_range (pa_cons pe_int pa_nil)) (pg_name (i := 18) sc_law.nd rfl (.inl rfl))
    (pss_one (ps_for PassesOwn.never rfl (pi_range1 rfl T.n_range (pa_cons pe_int pa_nil)) (pg_name (i := 19) sc_law.nd rfl (.inl rfl))
    (pss_cons (ps_if (pt_cmpR op_ne (pe_ix ix_tup (pe_ix ix_tup (pv 14) (pv 18) (fun _ _ => rfl)) (pv 19) (fun _ _ => rfl)) (pe_ifExp (PW.pt (pw_and (pt_cmpR op_eq (pe_ix ix_tup (pe_ix ix_tup (pv 13) (pv 18) (fun _ _ => rfl)) (pv 19) (fun _ _ => rfl)) pe_int (nomark _)) (pw_and1 (pt_cmpR op_eq (pe_ix ix_tup (pe_ix ix_tup (pe_ix ix_list (pv 16) pe_int (fun _ _ => rfl)) (pv 18) (fun _ _ => rfl)) (pv 19) (fun _ _ => rfl)) pe_int (nomark _))))) pe_int pe_int) (nomark _))
    pss_never
    pss_nil)
    (pss_one (ps_if (pt_cmpR op_ne (pe_ix ix_tup (pe_ix ix_tup (pv 15) (pv 18) (fun _ _ => rfl)) (pv 19) (fun _ _ => rfl)) (pe_ifExp (PW.pt (pw_and (pt_cmpR op_eq (pe_ix ix_tup (pe_ix ix_tup (pv 14) (pv 18) (fun _ _ => rfl)) (pv 19) (fun _ _ => rfl)) pe_int (nomark _)) (pw_and1 (pt_cmpR op_eq (pe_ix ix_tup (pe_ix ix_tup (pe_ix ix_list (pv 16) pe_int (fun _ _ => rfl)) (pv 18) (fun _ _ => rfl)) (pv 19) (fun _ _ => rfl)) pe_int (nomark _))))) pe_int pe_int) (nomark _))
    pss_never
    pss_nil))))))
    ht))))))))), ?_⟩
  intro p1 p2 p3 o1 o2 o3 z0 z1 z2 z3 z9 z10 z11 z12 z13 z14 z15 z16 z17 z18 z19 z20 lw H1 h1 h2 h3 ew
  have LC : LawC (oneT p1 o1) (twoT p2 o2) (inkT p3 o3) (inkF 5 p3 o3 []) (inkF 5 p3 o3 [(p1, o1)]) :=
    ⟨one_len h1.g o1, two_len h2.g o2, ink_len h3.g o3, pr6 h1 h2 h3 o1 o2 o3, pr7 h1 h2 h3 o1 o2 o3, pr8 h1 h2 h3 o1 o2 o3, ⟨_, pr9 h3 o3, pg_whole p3 o3⟩, ⟨_, pr10 h3 o3, pg_none p3 o3⟩, pr11 h3 o3, ⟨_, pr12 h1 o1, pg_erase⟩⟩
  obtain ⟨y1, y2, y3, y4, y5, y6, y7, y8, y9, y10, y11, y12, y13, y14⟩ := lLens
  have m1 := walk_len h1.g
  have m2 := walk_len h2.g
  have m3 := walk_len h3.g
  have n1 := lW_len o1
  have n2 := lW_len o2
  have n3 := lU_len o3
  simp only [qNp, qSp, qN2, qSet, qEf, qFl]
  walk_at "txt"
  refine r_ixL (seqL ew) at0 ?_
  walk_at "txt"
  refine r_ixL (seqL ew) at1 ?_
  walk_at "txt"
  rw [one_eq, two_eq, ink_eq]
  have l1 := LC.l1
  have l2 := LC.l2
  have l3 := LC.l3
  refine ⟨_, _, rfl, pr1 h3 o3, fun v13 H3 s3 p13 => ?_⟩
  walk_at "txt"
  refine ⟨_, _, rfl, pr2 h1 h3 o1 o3, fun v14 H4 s4 p14 => ?_⟩
  walk_at "txt"
  refine ⟨_, _, rfl, pr3 h1 h2 h3 o1 o2 o3, fun v15 H5 s5 p15 => ?_⟩
  have s35 := s4.trans s5
  have q13 := p13.tk (Same.tk s35)
  have q14 := p14.tk (Same.tk s5)
  walk_at "txt"
  intro b6 f6
  generalize k6 : upd _ _ _ = H6
  have ⟨s6, e6⟩ := nwT k6 f6
  walk_at "txt"
  refine r_in3 (e6 K) (q13.tk (Same.tk s6)) (q14.tk (Same.tk s6)) (p15.tk (Same.tk s6)) ?_
  walk_at "txt"
  refine ⟨_, _, rfl, pr4 h1 h2 h3 o1 o2 o3, fun v7 H7 s7 p7 => ?_⟩
  rw [pg_swap] at p7
  walk_at "txt"
  refine r_nePg p7 (p15.tk (Same.tk (s6.trans s7))) ?_
  walk_at "txt"
  refine ⟨_, _, rfl, pr5 h1 h2 h3 o1 o2 o3, fun v8 H8 s8 p8 => ?_⟩
  rw [pg_again] at p8
  walk_at "txt"
  refine r_nePg p8 (p15.tk (Same.tk (s6.trans (s7.trans s8)))) ?_
  walk_at "txt"
  intro l f9
  generalize k9 : upd _ _ _ = H9
  have ⟨s9, e9⟩ := nw k9 f9
  have s59 := s6.trans (s7.trans (s8.trans s9))
  have s19 := s3.trans (s35.trans s59)
  have ew9 := s19 _ _ ew
  have nlw : lw ≠ l := ne_of_none ((s3.trans (s35.trans (s6.trans (s7.trans s8)))) _ _ ew) f9
  walk_at "txt"
  refine r_ixL (seqL ew9) at0 ?_
  walk_at "txt"
  intro b10 f10
  generalize k10 : upd _ _ _ = H10
  have ⟨s10, e10⟩ := nwT k10 f10
  have ew10 := s10 _ _ ew9
  walk_at "txt"
  refine r_ixL (seqL ew10) at1 ?_
  walk_at "txt"
  intro b11 f11
  generalize k11 : upd _ _ _ = H11
  have ⟨s11, e11⟩ := nwT k11 f11
  walk_at "txt"
  intro b12 f12
  generalize k12 : upd _ _ _ = H12
  have ⟨s12, e12⟩ := nwT k12 f12
  have s912 := s10.trans (s11.trans s12)
  have el12 := s912 _ _ e9
  have u10 := sqS (e10 K) (s11.trans s12)
  have u11 := sqS (e11 K) s12
  walk_at "txt"
  refine ⟨⟨_, e12 K⟩, ?_⟩
  refine for_it (walk_tup (xs := [.ref b10, .ref b11])) (fun i σ H' => ∃ acc z9 z17, σ = [z0, z1, z2, z3, some (.ref lw), some (.str (S (lU o3))), some (.str (S (walkT p1))), some (.str (S (walkT p2))), some (.str (S (walkT p3))), z9, some (.str (S (oneT p1 o1))), some (.str (S (twoT p2 o2))), some (.str (S (inkT p3 o3))), some v13, some v14, some v15, some (.ref l), z17, z18, z19, z20] ∧ Bu l H12 H' ∧ Tk K H12 H' ∧ H' l = some (.lst acc) ∧ Paired (PageAt K H') acc ([pageD (inkF 1 p1 o1 []), pageD (inkF 1 p2 o2 [])].take i)) ⟨[], _, _, rfl, Bu.refl _, Tk.refl _, el12, .nil⟩ (fun i σ H' _ ⟨_, _, _, _, _, tk, _⟩ => tk _ _ (e12 K)) ?_ ?_
  · rintro i x σ H13 H13' hi ⟨acc, y9, y17, rfl, b13, tk13, el13, pa13⟩ ⟨rfl, hx⟩
    have turn : ∃ (b : Addr) (pp : Path) (oo : Bool), x = .ref b ∧ SqT K H12 b [.str (S (walkT pp)), .str (S (lW oo))] ∧ LP pp ∧ [pageD (inkF 1 p1 o1 []), pageD (inkF 1 p2 o2 [])].take (i + 1) = [pageD (inkF 1 p1 o1 []), pageD (inkF 1 p2 o2 [])].take i ++ [pageD (inkF 1 pp oo [])] ∧ acc.length ≤ 2 := by
      have la := pLen pa13
      rcases i with _ | _ | i
      · cases hx
        exact ⟨b10, p1, o1, rfl, u10, h1, rfl, by rw [la]; simp⟩
      · cases hx
        exact ⟨b11, p2, o2, rfl, u11, h2, rfl, by rw [la]; simp⟩
      · simp at hx
    obtain ⟨b, pp, oo, rfl, hb, hpp, tk, la⟩ := turn
    have mp := walk_len hpp.g
    have fin : ∀ (v : V) (H14 : Hp), Same H13' H14 → PageAt K H14 v (pageD (inkF 1 pp oo [])) → ∀ H15, upd H14 l (.lst (acc ++ [v])) = H15 → Bu l H12 H15 ∧ Tk K H12 H15 ∧ H15 l = some (.lst (acc ++ [v])) ∧ Paired (PageAt K H15) (acc ++ [v]) ([pageD (inkF 1 p1 o1 []), pageD (inkF 1 p2 o2 [])].take (i + 1)) := by
      intro v H14 s14 pv H15 k15
      have el14 := s14 _ _ el13
      have tk15 : Tk K H14 H15 := by
        rw [← k15]
        exact Tk.lst el14
      refine ⟨b13.trans ((Bu.same s14).trans (Bu.upd k15)), tk13.trans ((Same.tk s14).trans tk15), by rw [← k15]; exact upd_same, ?_⟩
      rw [tk]
      exact pApp (pImp (fun _ _ (z : PageAt K H13' _ _) => z.tk ((Same.tk s14).trans tk15)) pa13) (.cons (pv.tk tk15) .nil)
    refine r_gt (tk13 _ _ hb) rfl ?_
    walk_at "txt"
    cases oo with
    | true =>
      refine difT lW_t ?_
      walk_at "txt"
      rw [in_t]
      refine ⟨_, _, rfl, prIn hpp true, fun v14 H14 s14 p14 => ?_⟩
      walk_at "txt"
      refine r_app (s14 _ _ el13) (by have := sz2M; omega) ?_
      generalize k15 : upd _ _ _ = H15
      obtain ⟨x1, x2, x3, x4⟩ := fin _ _ s14 p14 _ k15
      walk_at "txt"
      exact ⟨_, _, _, rfl, x1, x2, x3, x4⟩
    | false =>
      refine difF lW_f ?_
      walk_at "txt"
      rw [in_f]
      refine ⟨_, _, rfl, prIn hpp false, fun v14 H14 s14 p14 => ?_⟩
      walk_at "txt"
      refine r_app (s14 _ _ el13) (by have := sz2M; omega) ?_
      generalize k15 : upd _ _ _ = H15
      obtain ⟨x1, x2, x3, x4⟩ := fin _ _ s14 p14 _ k15
      walk_at "txt"
      exact ⟨_, _, _, rfl, x1, x2, x3, x4⟩
  · rintro σ H13 ⟨acc, y9, y17, rfl, b13, tk13, el13, pa13⟩
    have tkA : Tk K H5 H13 := (Same.tk (s59.trans s912)).trans tk13
    replace q13 := q13.tk tkA
    replace q14 := q14.tk tkA
    replace p15 := p15.tk tkA
    obtain ⟨i0, i1, rfl, j0, j1⟩ : ∃ i0 i1, acc = [i0, i1] ∧ PageAt K H13 i0 (pageD (inkF 1 p1 o1 [])) ∧ PageAt K H13 i1 (pageD (inkF 1 p2 o2 [])) := by
      replace pa13 : Paired (PageAt K H13) acc [pageD (inkF 1 p1 o1 []), pageD (inkF 1 p2 o2 [])] := pa13
      cases pa13 with
      | cons a t => cases t with
        | cons b t =>
          cases t
          exact ⟨_, _, rfl, a, b⟩
    walk_at "txt"
    refine ⟨by decide, by decide, ?_⟩
    refine for_it walk_range (fun i σ H' => H' = H13 ∧ ∃ z18 z19, σ = [z0, z1, z2, z3, some (.ref lw), some (.str (S (lU o3))), some (.str (S (walkT p1))), some (.str (S (walkT p2))), some (.str (S (walkT p3))), y9, some (.str (S (oneT p1 o1))), some (.str (S (twoT p2 o2))), some (.str (S (inkT p3 o3))), some v13, some v14, some v15, some (.ref l), y17, z18, z19, z20]) ⟨rfl, _, _, rfl⟩ (fun _ _ _ _ _ => trivial) ?_ ?_
    · rintro y x σ H14 H14' hy ⟨rfl, z18, z19, rfl⟩ ⟨rfl, hx0⟩
      have hy5 : y < 5 := hy
      obtain rfl : x = V.int (y : Int) := by
        rw [hx0]
        show V.int (0 + (y : Int)) = _
        rw [Int.zero_add]
      obtain ⟨a13, x13, r13, rfl, t13, g13, w13⟩ := q13.row hy5
      obtain ⟨a14, x14, r14, rfl, t14, g14, w14⟩ := q14.row hy5
      obtain ⟨a15, x15, r15, rfl, t15, g15, w15⟩ := p15.row hy5
      obtain ⟨c0, xc0, rc0, rfl, tc0, gc0, wc0⟩ := j0.row hy5
      obtain ⟨c1, xc1, rc1, rfl, tc1, gc1, wc1⟩ := j1.row hy5
      walk_at "txt"
      refine ⟨by decide, by decide, ?_⟩
      refine for_it walk_range (fun i σ H' => H' = H14' ∧ ∃ z19, σ = [z0, z1, z2, z3, some (.ref lw), some (.str (S (lU o3))), some (.str (S (walkT p1))), some (.str (S (walkT p2))), some (.str (S (walkT p3))), y9, some (.str (S (oneT p1 o1))), some (.str (S (twoT p2 o2))), some (.str (S (inkT p3 o3))), some (.ref a13), some (.ref a14), some (.ref a15), some (.ref l), y17, some (.int y), z19, z20]) ⟨rfl, _, rfl⟩ (fun _ _ _ _ _ => trivial) ?_ ?_
      · rintro xx v σ H15 H15' hxx ⟨rfl, z19, rfl⟩ ⟨rfl, hx0⟩
        have hx6 : xx < 6 := hxx
        obtain rfl : v = V.int (xx : Int) := by
          rw [hx0]
          show V.int (0 + (xx : Int)) = _
          rw [Int.zero_add]
        have cell : ∀ (ds : List Dd), atI ((rowI ds y).map V.int) ((xx : Nat) : Int) = some (.int (cellD ds xx y)) := fun ds => atI_nat (by rw [List.getElem?_map, rowI_at ds y hx6]; rfl)
        have d1 := cell_one p3 o3 (p1, o1) xx y
        have d2 := cell_two p3 o3 (p1, o1) (p2, o2) xx y
        walk_at "txt"
        refine r_ixT t14 (atI_nat g14) ?_
        walk_at "txt"
        refine r_ixT w14 (cell _) ?_
        refine and51 (b1 := decide (cellD (inkF 5 p3 o3 []) xx y = 5)) (b2 := decide (cellD (inkF 1 p1 o1 []) xx y = 1)) (fun B hB => ?_) (fun B hB => ?_) ?_
        · walk_at "txt"
          refine r_ixT t13 (atI_nat g13) ?_
          walk_at "txt"
          refine r_ixT w13 (cell _) ?_
          walk_at "txt"
          rw [decInt]
          exact hB
        · walk_at "txt"
          refine r_ixL (seqL el13) at0 ?_
          walk_at "txt"
          refine r_ixT tc0 (atI_nat gc0) ?_
          walk_at "txt"
          refine r_ixT wc0 (cell _) ?_
          walk_at "txt"
          rw [decInt]
          exact hB
        walk_at "txt"
        refine ndifF (by rw [d1]; simp) ?_
        walk_at "txt"
        refine r_ixT t15 (atI_nat g15) ?_
        walk_at "txt"
        refine r_ixT w15 (cell _) ?_
        refine and51 (b1 := decide (cellD (inkF 5 p3 o3 [(p1, o1)]) xx y = 5)) (b2 := decide (cellD (inkF 1 p2 o2 []) xx y = 1)) (fun B hB => ?_) (fun B hB => ?_) ?_
        · walk_at "txt"
          refine r_ixT t14 (atI_nat g14) ?_
          walk_at "txt"
          refine r_ixT w14 (cell _) ?_
          walk_at "txt"
          rw [decInt]
          exact hB
        · walk_at "txt"
          refine r_ixL (seqL el13) at1 ?_
          walk_at "txt"
          refine r_ixT tc1 (atI_nat gc1) ?_
          walk_at "txt"
          refine r_ixT wc1 (cell _) ?_
          walk_at "txt"
          rw [decInt]
          exact hB
        walk_at "txt"
        refine ndifF (by rw [d2]; simp) ?_
        walk_at "txt"
        exact ⟨_, rfl⟩
      · rintro σ H15 ⟨rfl, z19, rfl⟩
        exact ⟨rfl, _, _, rfl⟩
    · rintro σ H14 ⟨rfl, z18, z19, rfl⟩
      exact htl _ _ _ _ _ _ _ _ _ _ _ _ _ _ _ _ _ _ _ _ _ _ _ _ LC q13 q14
end
end
section
local macro_rules | `(tactic| walk_at "fld") => `(tactic| (refine fkT (w := ?w) (K := ?K) (mg := ?mg) (A := ?A) ?t ?e ?h; (case t => assumption); (case e => exact rfl); (case h => first | with_reducible exact g_Look_matrix (by assumption) | with_reducible exact g_Look_path (by assumption) | with_reducible exact g_Look_ink (by assumption) | with_reducible exact g_Look_width (by assumption) | with_reducible exact g_Look_clips (by assumption) | with_reducible exact g_Look_font (by assumption) | with_reducible exact g_World_operands (by assumption) | with_reducible exact g_World_rooms (by assumption) | with_reducible exact g_World_scopes (by assumption) | with_reducible exact g_World_look (by assumption) | with_reducible exact g_World_kept (by assumption) | with_reducible exact g_World_sheets (by assumption) | with_reducible exact g_World_inkings (by assumption) | with_reducible exact g_World_saves (by assumption) | with_reducible exact g_World_many_saves (by assumption) | with_reducible exact g_Items_body (by assumption) | with_reducible exact g_Items_at (by assumption) | with_reducible exact g_Reader_text (by assumption) | with_reducible exact g_Reader_at (by assumption) | with_reducible exact g_Reader_row (by assumption) | with_reducible exact g_Reader_column (by assumption) | with_reducible exact g_Reader_deep (by assumption) | with_reducible exact g_Machine_wide (by assumption) | with_reducible exact g_Machine_high (by assumption) | with_reducible exact g_Machine_most (by assumption) | with_reducible exact g_Machine_world (by assumption) | with_reducible exact g_Machine_frames (by assumption) | with_reducible exact g_Machine_left (by assumption) | with_reducible exact g_Machine_told (by assumption) | with_reducible exact g_Machine_is_running (by assumption) | with_reducible exact g_Machine_ahead (by assumption) | with_reducible exact g_Machine_past (by assumption) | with_reducible exact g_Machine_later (by assumption))))
/-- as many steps as go by themselves -/
local macro_rules | `(tactic| walk_at "g1") => `(tactic| (first
  | with_reducible refine r_seq ?_ | with_reducible refine r_set ?_ | with_reducible refine r_asg ?_ | with_reducible refine r_sl ?_ | with_reducible refine r_np ?_ | with_reducible refine r_pt ?_ | with_reducible refine r_gn ?_ | with_reducible refine r_gc ?_ | with_reducible refine r_g0 ?_ | ((with_reducible refine r_gt (xs := ?xs) ?h ?g ?_); (case h => assumption); (case g => exact rfl)) | with_reducible refine r_ret ?_ | with_reducible refine r_if ?_ | with_reducible refine r_test ?_ | with_reducible refine r_B ?_ | with_reducible refine r_and ?_ | with_reducible refine r_or ?_ | with_reducible refine r_not ?_
  | with_reducible refine r_andV ?_ | with_reducible refine r_orV ?_ | with_reducible refine r_notV ?_ | with_reducible refine r_ifx ?_ | with_reducible refine r_op ?_ | with_reducible refine r_un ?_ | with_reducible refine r_U ?_ | with_reducible refine r_c ?_ | with_reducible refine r_I0 ?_ | with_reducible refine r_drop ?_ | with_reducible refine r_next ?_
  | ((with_reducible refine r_var (v := ?v) ?h ?_); (case h => exact rfl)) | with_reducible refine r_bl ?_ | with_reducible refine r_nil ?_ | with_reducible refine r_cons ?_ | with_reducible refine r_cb ?_ | with_reducible refine r_call ?_ | ((with_reducible refine r_gl (xs := ?xs) ?h ?g ?_); (case h => assumption); (case g => exact rfl)) | with_reducible refine r_sm1 ?_ | with_reducible refine r_sm2 ?_ | with_reducible refine r_sm3 ?_ | with_reducible refine r_ch ?_ | with_reducible refine r_bm ?_ | with_reducible refine r_bm0 ?_ | ((with_reducible refine r_ty (xs := ?xs) ?e ?_); (case e => assumption)) | with_reducible refine r_mkU ?_ | with_reducible refine r_mt0 ?_ | with_reducible refine r_yes ?_ | with_reducible refine iteT ?_ | with_reducible refine iteF ?_ | with_reducible refine r_spk ?_ | with_reducible refine r_sp1 ?_ | with_reducible refine r_sp2 ?_ | with_reducible refine r_sp3 ?_ | with_reducible refine r_sp4 ?_ | with_reducible refine r_sp5 ?_
  | with_reducible refine r_tup ?_ | with_reducible refine r_lst ?_ | with_reducible refine r_par ?_ | with_reducible refine r_par2 ?_ 
  | ((with_reducible refine r_eq ?h ?_); (case h => exact rfl)) | ((with_reducible refine r_ne ?h ?_); (case h => exact rfl))
  | ((with_reducible refine r_ixT (xs := ?xs) (v := ?v) ?h ?g ?_); (case h => assumption); (case g => first | exact at0 | exact at1))
  | ((with_reducible refine r_fl (i := ?i) (nm := ?nm) (C := ?C) (dx := ?dx) (vs := ?vs) (v := ?v) ?ok ?e ?hv ?_); (case e => assumption); (case ok => walk_at "fld"); (case hv => rfl)) | with_reducible refine r_for ?_ | with_reducible refine r_il ?_ | with_reducible refine r_it ?_ | with_reducible refine r_iz ?_ | with_reducible refine r_ir1 ?_ | with_reducible refine r_ir2 ?_ | with_reducible refine r_lc ?_ | with_reducible refine r_sFld ?_ | with_reducible refine r_ck ?_ | with_reducible refine r_fld ?_ | with_reducible refine ⟨_, rfl, ?_⟩ | with_reducible refine ⟨_, _, rfl, .inr (by with_unfolding_all assumption), ?_⟩ | with_reducible refine ⟨_, _, rfl, .inl (seqL (by assumption)), ?_⟩ | with_reducible refine ⟨_, _, rfl, rfl, ?_⟩ | with_reducible refine ⟨_, _, rfl, ?_⟩ | with_reducible refine ⟨rfl, ?_⟩ | with_reducible refine r_sz ?_))
local macro_rules | `(tactic| walk_at "go") => `(tactic| (repeat walk_at "g1"))
variable {P : Program} {w : World} {K : PySem.W.Frag} {mg : Str → Option Value} {A : Ad} {base : Heap}
/-! The law. -/
open SX (S)
/-- a block that captures nothing -/
theorem blkAny {N : List Str} {sc0 sc scope : Scope} {own : List (Str × Nat)} (h : blkC N sc0 scope own = true) (nf : (scope.names.all fun y => match y.2 with
    | .free => false
    | _ => true) = true) : BlkOk N sc scope own := by
  obtain ⟨a, b, c, d, e⟩ := blkOk_by h
  refine ⟨a, b, c, fun y hy e2 => ?_, e⟩
  have := List.all_eq_true.mp nf y hy
  rw [e2] at this
  cases this
abbrev rTupC (K : PySem.W.Frag) : List V → Hp → VK → Prop := fun xs H Q => ∃ p ys, xs = [.ref p] ∧ ((SqL K H p ys ∧ ∀ l, H l = none → Q (.ref l) (upd H l (.tup ys))) ∨ (SqT K H p ys ∧ Q (.ref p) H))
abbrev rLenC (K : PySem.W.Frag) : List V → Hp → VK → Prop := fun xs H Q => ∃ p ys, xs = [.ref p] ∧ (SqL K H p ys ∨ SqT K H p ys) ∧ Q (.int ys.length) H
theorem callTupK {X : Cx} {K : PySem.W.Frag} (h : X.K = K) : CallR X (.type "tuple") (rTupC K) := by
  subst h
  exact call_tuple_of
theorem callLenK {X : Cx} {K : PySem.W.Frag} (h : X.K = K) : CallR X (.builtin "len") (rLenC K) := by
  subst h
  exact call_len_seq
theorem pi_tupK {X : Cx} {K : PySem.W.Frag} {tg e : Expr} {te : TE} (h : X.K = K) (he : PE X e te) : PI X tg e (iTup K te) := by
  subst h
  exact pi_tup he
abbrev spLaw (K : PySem.W.Frag) : Sp := Sp1 fun a H Q => ∃ ns, ScrAt K H a ns ∧ ∀ H', Q (.bl true) H'
theorem body_law (T : Tx w K mg A) : BodyF P w K mg base "law" s_law nLaw 15 (spLaw K) := by
  intro f cdv Ar outer s H vs Q E hr h
  obtain ⟨a, rfl, ns, hs, hq⟩ := h
  obtain ⟨t, ht, htl⟩ := law_b (P := P) (base := base) (E := E) (H := H) (outer := outer) T hr hq
  refine ⟨_, (pss_cons (ps_setLc (i := 1) (own := [("_law_k", 3)]) (g := (gName 3)) (tt := tYes) rfl sc_law.nd rfl rfl (sw_true rfl rfl rfl (by decide +kernel)) (pi_range1 rfl T.n_range (pa_cons pe_int pa_nil)) (blkOk_by (N := nLaw) (sc := defScope s_law) (by decide +kernel)) (fun _ _ _ _ _ => (pg_name (i := 3) sc_law.nd rfl (.inl rfl))) (fun _ _ _ _ _ => pts_nil) (fun _ _ _ _ _ => (pe_callTy (callTupK (K := K) rfl) rfl T.n_tuple (by decide +kernel) (pa_cons (pe_lc (own := [("_law_part_here", 2)]) (g := (gName 2)) rfl sc_law.nd (pi_tupK (K := K) rfl (pe_c (cal_law_path T) hr (by decide) rfl (pa_cons (pv 0) (pa_cons (pe_op op_mulW pe_int (pv 3)) pa_nil)))) (blkAny (N := nLaw) (sc0 := defScope s_law) (by decide +kernel) (by decide +kernel)) (fun _ _ _ _ _ => (pg_name (i := 2) sc_law.nd rfl (.inl rfl))) (fun _ _ _ _ _ => pts_one (pt_cmpR op_gt (pe_callB (callLenK (K := K) rfl) rfl T.n_len PySem.boot_len (pa_cons (pe_ix (r := rIxT K) ix_tup (pv 2) pe_int (fun _ _ => rfl)) pa_nil)) pe_int (nomark _))) (fun _ _ _ _ _ => (pv 2))) pa_nil))))
    (pss_cons (ps_setLc (i := 4) (own := [("_law_k", 3)]) (g := (gName 3)) (tt := tYes) rfl sc_law.nd rfl rfl (sw_true rfl rfl rfl (by decide +kernel)) (pi_range1 rfl T.n_range (pa_cons pe_int pa_nil)) (blkOk_by (N := nLaw) (sc := defScope s_law) (by decide +kernel)) (fun _ _ _ _ _ => (pg_name (i := 3) sc_law.nd rfl (.inl rfl))) (fun _ _ _ _ _ => pts_nil) (fun _ _ _ _ _ => (pe_ix (r := rIxL K) ix_list (pe_lst (pa_cons pe_str (pa_cons pe_str pa_nil))) (pe_c (cal_law_drawn T) hr (by decide) rfl (pa_cons (pv 0) (pa_cons (pe_op op_add pe_int (pv 3)) (pa_cons pe_int pa_nil)))) (fun _ _ => rfl))))
    (pss_cons (ps_set (i := 5) sc_law.nd rfl (.inl rfl) (pe_ix ix_list (pe_lst (pa_cons pe_str (pa_cons pe_str pa_nil))) (pe_c (cal_law_drawn T) hr (by decide) rfl (pa_cons (pv 0) (pa_cons pe_int (pa_cons pe_int pa_nil)))) (fun _ _ => rfl)))
    (pss_cons (ps_asg (pe_lc (own := [("_law_path_here", 9)]) (g := (gName 9)) (tt := tYes) rfl sc_law.nd (pi_list (pv 1)) (blkOk_by (N := nLaw) (sc := defScope s_law) (by decide +kernel)) (fun _ _ _ _ _ => (pg_name (i := 9) sc_law.nd rfl (.inl rfl))) (fun _ _ _ _ _ => pts_nil) (fun _ _ _ _ _ => (pe_c (cal_law_walk T) hr (by decide) rfl (pa_cons (pv 9) pa_nil)))) (pg_unl rfl (pgs_cons (pg_name (i := 6) sc_law.nd rfl (.inl rfl)) (pgs_cons (pg_name (i := 7) sc_law.nd rfl (.inl rfl)) (pgs_cons (pg_name (i := 8) sc_law.nd rfl (.inl rfl)) pgs_nil)))))
    ht)))), ?_⟩
  walk_at "go"
  refine ⟨by decide, by decide, ?_⟩
  intro D fD
  refine lc_all (K := K) walk_range fD (by have := sz1000; show (3 : Nat) ≤ _; omega) (fun _ v H' => ∃ p, PathAt K H' v p ∧ LP p) (fun _ v H H' _ tk ⟨p, h, g⟩ => ⟨p, h.tk tk, g⟩) (fun _ _ => trivial) ?_ ?_
  · rintro k x H2 H2' N M hk sh ⟨rfl, hx0⟩ hN
    have hk3 : k < 3 := hk
    obtain rfl : x = V.int (k : Int) := by
      rw [hx0]
      show V.int (0 + (k : Int)) = _
      rw [Int.zero_add]
    walk_at "go"
    refine r_I (wide_mul (a := 40) (b := 40) (by decide) (by omega) (by decide) (by decide) (by decide)) ?_
    walk_at "go"
    refine ⟨ns, _, hs.same sh, rfl, by omega, by omega, fun v p H3 s3 hp gp => ?_⟩
    obtain ⟨ap, xs, rfl, hap, hxs⟩ := hp
    walk_at "go"
    refine ⟨⟨_, hap⟩, ?_⟩
    intro D4 fD4
    refine lc_it (walk_tup (xs := xs)) (fun j H' => Same H3 H' ∧ ∃ acc ps, H' D4 = some (.lst acc) ∧ Paired (PartAt K H') acc ps ∧ ps.length ≤ j ∧ ∀ l ∈ ps, GPart l ∧ 2 ≤ l.1.length) ⟨same_new fD4, [], [], upd_same, .nil, Nat.le_refl _, fun l m => absurd m (by simp)⟩ (fun j H' _ z => sqS hap z.1) ?_ ?_
    · rintro j y H5 H5' hj ⟨s5, acc, ps, eD, pp, lp, gl⟩ ⟨rfl, hy⟩
      have hj' : j < p.length := by rw [← pLen hxs]; exact hj
      have hpj : p[j]? = some p[j] := List.getElem?_eq_getElem hj'
      have g := gp.parts _ (List.getElem_mem hj')
      generalize p[j] = l at hpj g
      have hpa := (pAt hxs hy hpj).tk (Same.tk s5)
      obtain ⟨al, vp, rfl, hal, aq, pxs, rfl, haq, hpx⟩ := id hpa
      have lpx := pLen hpx
      have l3 := gp.len
      have lac := pLen pp
      walk_at "go"
      by_cases h2 : (1 : Int) < (pxs.length : Nat)
      · refine difT h2 ?_
        walk_at "go"
        refine ⟨acc, eD, by have := sz1000; omega, ?_⟩
        generalize k6 : upd _ _ _ = H6
        have tk6 : Tk K H5' H6 := by
          rw [← k6]
          exact Tk.lst eD
        refine ⟨fun b o n => ?_, acc ++ [.ref al], ps ++ [l], by rw [← k6]; exact upd_same, pApp (pImp (fun _ _ (z : PartAt K H5' _ _) => z.tk tk6) pp) (.cons (hpa.tk tk6) .nil), by rw [List.length_append, List.length_singleton]; omega, fun l' m => ?_⟩
        · rw [← k6, upd_ne (ne_of_none n fD4)]
          exact s5 _ _ n
        · rcases List.mem_append.mp m with m | m
          · exact gl l' m
          · rw [List.mem_singleton.mp m]
            exact ⟨g, by omega⟩
      · refine difF h2 ?_
        exact ⟨s5, acc, ps, eD, pp, by omega, gl⟩
    · rintro H5 ⟨s5, acc, ps, eD, pp, lp, gl⟩
      have l3 := gp.len
      have lxs := pLen hxs
      walk_at "go"
      refine ⟨D4, acc, rfl, .inl ⟨seqL eD, fun p6 f6 => ?_⟩⟩
      generalize k6 : upd _ _ _ = H6
      have ⟨s6, e6⟩ := nwT k6 f6
      exact hN _ _ (s3.trans (s5.trans s6)) ⟨ps, ⟨p6, acc, rfl, e6 K, pImp (fun _ _ (z : PartAt K H5 _ _) => z.tk (Same.tk s6)) pp⟩, ⟨by omega, fun l m => (gl l m).1⟩, fun l m => (gl l m).2⟩
  · intro H2 acc s2 ea la ra
    replace la : acc.length = 3 := la
    match acc, la with
    | [v1, v2, v3], _ =>
    obtain ⟨p1, q1, h1⟩ := ra 0 _ rfl
    obtain ⟨p2, q2, h2⟩ := ra 1 _ rfl
    obtain ⟨p3, q3, h3⟩ := ra 2 _ rfl
    walk_at "go"
    refine ⟨by decide, by decide, ?_⟩
    intro D3 fD3
    refine lc_all (K := K) walk_range fD3 (by have := sz1000; show (2 : Nat) ≤ _; omega) (fun _ v _ => ∃ o, v = .str (S (lW o))) (fun _ _ _ _ _ _ h => h) (fun _ _ => trivial) ?_ ?_
    · rintro k x H3 H3' N M hk sh ⟨rfl, hx0⟩ hN
      have hk2 : k < 2 := hk
      obtain rfl : x = V.int (k : Int) := by
        rw [hx0]
        show V.int (0 + (k : Int)) = _
        rw [Int.zero_add]
      walk_at "go"
      intro l5 f5
      generalize k5 : upd _ _ _ = H5
      have ⟨s5, e5⟩ := nw k5 f5
      walk_at "go"
      refine ⟨ns, 200 + k, 2, hs.same (s2.trans (sh.trans s5)), rfl, rfl, by omega, by omega, by decide, fun r H6 r0 r2 s6 => ?_⟩
      obtain ⟨j, rfl⟩ := Int.eq_ofNat_of_zero_le r0
      have e6 := s6 _ _ e5
      have : j = 0 ∨ j = 1 := by omega
      rcases this with rfl | rfl
      · refine r_ixL (seqL e6) at0 ?_
        exact hN _ _ (s5.trans s6) ⟨false, congrArg V.str (SX.S_tl _).symm⟩
      · refine r_ixL (seqL e6) at1 ?_
        exact hN _ _ (s5.trans s6) ⟨true, congrArg V.str (SX.S_tl _).symm⟩
    · intro H3 acc3 s3 ea3 la3 ra3
      replace la3 : acc3.length = 2 := la3
      match acc3, la3 with
      | [w1, w2], _ =>
      obtain ⟨o1, rfl⟩ := ra3 0 _ rfl
      obtain ⟨o2, rfl⟩ := ra3 1 _ rfl
      walk_at "go"
      intro l4 f4
      generalize k4 : upd _ _ _ = H4
      have ⟨s4, e4⟩ := nw k4 f4
      walk_at "go"
      refine ⟨ns, 202, 2, hs.same (s2.trans (s3.trans s4)), rfl, rfl, by decide, by decide, by decide, fun r H5 r0 r2 s5 => ?_⟩
      obtain ⟨j, rfl⟩ := Int.eq_ofNat_of_zero_le r0
      have e5 := s5 _ _ e4
      have hrule : ∃ o3 : Bool, atI ([V.str (Str.ofString "fill"), V.str (Str.ofString "eofill")] : List V) (j : Int) = some (.str (S (lU o3))) := by
        have : j = 0 ∨ j = 1 := by omega
        rcases this with rfl | rfl
        · exact ⟨false, at0.trans (congrArg (fun z => some (V.str z)) (SX.S_tl _).symm)⟩
        · exact ⟨true, at1.trans (congrArg (fun z => some (V.str z)) (SX.S_tl _).symm)⟩
      obtain ⟨o3, hrule⟩ := hrule
      refine r_ixL (seqL e5) hrule ?_
      have s35 := s4.trans s5
      have ea5 := (s3.trans s35) _ _ ea
      walk_at "go"
      refine r_ll ea5 ?_
      intro D6 fD6
      refine lc_all (K := K) (walk_list (xs := [v1, v2, v3])) fD6 (by have := sz1000; show (3 : Nat) ≤ _; omega) (fun i v _ => ∀ p, [p1, p2, p3][i]? = some p → v = .str (S (walkT p))) (fun _ _ _ _ _ _ h => h) (fun H' s' => seqL (s' _ _ ea5)) ?_ ?_
      · rintro i x H6 H6' N M hi sh ⟨rfl, hx⟩ hN
        have hx2 : ∃ p, [p1, p2, p3][i]? = some p ∧ PathAt K H6' x p ∧ GPath p := by
          have tk := Same.tk (K := K) ((s3.trans s35).trans sh)
          rcases i with _ | _ | _ | i
          · cases hx
            exact ⟨p1, rfl, q1.tk tk, h1.g⟩
          · cases hx
            exact ⟨p2, rfl, q2.tk tk, h2.g⟩
          · cases hx
            exact ⟨p3, rfl, q3.tk tk, h3.g⟩
          · simp at hx
        obtain ⟨p, hp, hpa, gp⟩ := hx2
        walk_at "go"
        refine ⟨p, hpa, gp, fun H7 s7 => ?_⟩
        refine hN _ _ s7 fun p' e => ?_
        rw [hp] at e
        cases e
        rfl
      · intro H6 acc6 s6 ea6 la6 ra6
        replace la6 : acc6.length = 3 := la6
        match acc6, la6 with
        | [t1, t2, t3], _ =>
        obtain rfl := ra6 0 _ rfl _ rfl
        obtain rfl := ra6 1 _ rfl _ rfl
        obtain rfl := ra6 2 _ rfl _ rfl
        walk_at "go"
        exact htl p1 p2 p3 o1 o2 o3 _ _ _ _ _ _ _ _ _ _ _ _ _ _ _ _ D3 H6 h1 h2 h3 ((s35.trans s6) _ _ ea3)
theorem cal_law (T : Tx w K mg A) : Cal P w K mg base 16 "law" (spLaw K) [] :=
  calOf T.f_law sc_law (fun _ _ _ _ _ _ us hl => match us, hl with | [_], _ => rfl) Sp1.len (body_law T)
end
end Pg
noncomputable section
namespace Hd
open PySem PySem.W PySem.Calls PyProof.Rows HandSHeadRun
theorem hd_t (w : World) (os : OsState) : (preQ w os).map (·.2) = some ⟨denQ tabQ cE, cE, default, stkE⟩ := by kernel_rfl
theorem hd_t2 (w : World) (os : OsState) : ((preQ w os).bind fun r => blkQ w 60 r.1 r.2.pos).map (·.2.1) = some cE := by kernel_rfl
theorem hd_h (w : World) : boot_heap w.params = absHeap (T12 (bootF w) 11) 11 (boot_heap w.params).life := by kernel_rfl
theorem hd_b (w : World) (os : OsState) : bootA w os = (bootS w os).abs := by
  show (⟨boot_heap w.params, #[], boot_drawn, boot_toks, os⟩ : Shared) = ⟨absHeap (T12 (bootF w) 11) 11 (boot_heap w.params).life, #[], boot_drawn, boot_toks, os⟩
  rw [← hd_h]
theorem hd_n (w : World) : (boot_heap w.params).objs.size = 11 := by kernel_rfl
theorem hd_a (w : World) : bootAnn w = some (.ref 6) := by kernel_rfl
theorem hd_rest : bE.drop 250 = [] := by kernel_rfl
theorem hd_all : behindTheImports pr = pr.main.body := by kernel_rfl
end Hd
end
noncomputable section
namespace Hd
open PySem PySem.Spec PySem.W PySem.Calls PyProof.Rows L2 HandSHeadRun He Pg
/-! ### from a state to a later one -/
theorem fin_ok (w : World) (s : Shared) (p : Pos) : topQ w 4 s (restOf [] envE cE p stkE) = some s := by
  obtain ⟨h, g, d, k, os⟩ := s
  have : ∀ (h : Heap) (g : Array GenState) (d : Drawn) (k : Nat) (os : OsState) (p : Pos), topQ w 4 ⟨h, g, d, k, os⟩ ⟨doneF .next, cE, p, stkE⟩ = some ⟨h, g, d, k, os⟩ := by
    intros
    kernel_rfl
  exact piece_nil (this h g d k os p)
structure Ext (n : Nat) (f : Nat → Obj) (n' : Nat) (f' : Nat → Obj) (is : List Nat) : Prop where
  le : n ≤ n'
  kept : Kept n f f'
  vals : ∀ i ∈ is, valF f' i = valF f i
section
variable {n n' n'' : Nat} {f f' f'' : Nat → Obj} {is is' : List Nat}
theorem Ext.trans (a : Ext n f n' f' is) (b : Ext n' f' n'' f'' is') : Ext n f n'' f'' (is.filter is'.contains) :=
  ⟨Nat.le_trans a.le b.le, Kept.trans a.le a.kept b.kept, fun i hi => by
    obtain ⟨h1, h2⟩ := List.mem_filter.mp hi
    exact (b.vals i (List.contains_iff_mem.mp h2)).trans (a.vals i h1)⟩
theorem Un.ext {K : Frag} (e : Ext n f n' f' is) (u : Un K (gF n f)) : Un K (gF n' f') := fun a o h => Kept.gF e.le e.kept (u a o h)
theorem FSpec.Is.ext (e : Ext n f n' f' is) {d : FSpec} (m : d.i ∈ is) (h : d.Is n f) : d.Is n' f' := by
  obtain ⟨a, K, fd, h1, h2, h3⟩ := h
  exact ⟨a, K, fd, (e.vals _ m).trans h1, h2.ext e, h3⟩
theorem CSpec.Is.ext (e : Ext n f n' f' is) {d : CSpec} (m : d.i ∈ is) (h : d.Is n f) : d.Is n' f' := by
  obtain ⟨C, K, h1, h2, h3⟩ := h
  exact ⟨C, K, (e.vals _ m).trans h1, h2.ext e, h3⟩
theorem TabIs.ext (e : Ext n f n' f' is) {i : Nat} {ns : List Str} {hs : List Int} {look : Frag → Addr → Bool} (m : i ∈ is) (h : TabIs n f i ns hs look) : TabIs n' f' i ns hs look := by
  obtain ⟨d, es, ep, K, h1, h2, h3⟩ := h
  exact ⟨d, es, ep, K, (e.vals _ m).trans h1, h2.ext e, h3⟩
theorem TabIs.look {i : Nat} {ns : List Str} {hs : List Int} {look look' : Frag → Addr → Bool} (c : ∀ K d, look K d = true → look' K d = true) (h : TabIs n f i ns hs look) : TabIs n f i ns hs look' := by
  obtain ⟨d, es, ep, K, h1, h2, h3, h4, h5, h6, h7⟩ := h
  exact ⟨d, es, ep, K, h1, h2, h3, h4, h5, h6, c K d h7⟩
theorem draw_ext (e : Ext n f n' f' is) (m : (drawL.all fun q => is.contains q.2) = true) {K : Frag} {d : Addr} (h : lookDraw f K d = true) : lookDraw f' K d = true := by
  refine List.all_eq_true.mpr fun q hq => ?_
  rw [e.vals _ (List.contains_iff_mem.mp (List.all_eq_true.mp m q hq))]
  exact List.all_eq_true.mp h q hq
theorem fs_of {fs : List FSpec} (h : fs.map (FSpec.obs n f) = fs.map FSpec.val) (e : Ext n f n' f' is) (m : (fs.all fun d => is.contains d.i) = true) : ∀ d ∈ fs, d.Is n' f' := fun d hd =>
  FSpec.Is.ext e (List.contains_iff_mem.mp (List.all_eq_true.mp m d hd)) (FSpec.of (List.map_inj_left.mp h d hd))
theorem cs_of {cs : List CSpec} (h : cs.map (CSpec.obs n f) = cs.map CSpec.val) (e : Ext n f n' f' is) (m : (cs.all fun d => is.contains d.i) = true) : ∀ d ∈ cs, d.Is n' f' := fun d hd =>
  CSpec.Is.ext e (List.contains_iff_mem.mp (List.all_eq_true.mp m d hd)) (CSpec.of (List.map_inj_left.mp h d hd))
theorem ks_of {ks : List (Nat × V)} (h : (ks.all fun q => relB q.2 (valF f q.1)) = true) (e : Ext n f n' f' is) (m : (ks.all fun q => is.contains q.1) = true) : ∀ q ∈ ks, RelV q.2 (valF f' q.1) := fun q hq => by
  rw [e.vals _ (List.contains_iff_mem.mp (List.all_eq_true.mp m q hq))]
  exact relB_ok (List.all_eq_true.mp h q hq)
end
/-! ### the last state's part of the heap -/
theorem frG_lookup {g : Addr → Option Obj} {a : Addr} {o : Obj} (e : g a = some o) : ∀ {as : List Addr}, a ∈ as → (frG g as).lookup a = some o
  | [], h => by cases h
  | b :: r, h => by
    unfold frG
    cases hb : g b with
    | none =>
      rw [List.filterMap_cons, hb]
      rcases List.mem_cons.mp h with h | h
      · subst h
        rw [e] at hb
        cases hb
      · exact frG_lookup e h
    | some ob =>
      rw [List.filterMap_cons, hb]
      show (match a == b with | true => some ob | false => (frG g r).lookup a) = some o
      cases q : (a == b) with
      | true =>
        rw [← beq_iff_eq.mp q, e] at hb
        exact hb.symm
      | false =>
        rcases List.mem_cons.mp h with h | h
        · rw [h] at q
          exact absurd (beq_iff_eq.mpr rfl) (by rw [q]; decide)
        · exact frG_lookup e h
/-- the heap of a state -/
abbrev hpF (w : World) (n : Nat) (f : Nat → Obj) : Heap := absHeap (T12 f n) n (boot_heap w.params).life
def KF (w : World) (n : Nat) (f : Nat → Obj) : Frag := frG (hpF w n f).get? (List.range n)
section
variable {w : World} {n : Nat} {f : Nat → Obj}
theorem KF_in : (KF w n f).In (hpF w n f) := frG_in
theorem hp_get (hn : n ≤ 4094) {a : Addr} (h : a < n) : (hpF w n f).get? a = alive (f a) := abs_get h (T12_get hn h)
theorem KF_get (hn : n ≤ 4094) {a : Addr} {o : Obj} (h : a < n) (e : alive (f a) = some o) : (KF w n f).lookup a = some o := frG_lookup ((hp_get hn h).trans e) (List.mem_range.mpr h)
theorem KF_of (hn : n ≤ 4094) {a : Addr} {o : Obj} (e : gF n f a = some o) : (KF w n f).lookup a = some o := by
  unfold gF at e
  cases q : isOff a with
  | true =>
    rw [q] at e
    cases e
  | false =>
    rw [q] at e
    cases b : Nat.blt a n with
    | false =>
      rw [b] at e
      cases e
    | true =>
      rw [b] at e
      exact KF_get hn (Nat.le_of_ble_eq_true b) e
theorem KF_le (hn : n ≤ 4094) {K : Frag} (u : Un K (gF n f)) : Le K (KF w n f) := fun a o h => KF_of hn (u a o h)
theorem KF_md {names : List Str} (hn : n ≤ 4094) (h3 : 3 < n) (M : MdIs names f) : ∃ h tk ep, (KF w n f).lookup 3 = some (mdO names h tk (valF f) ep) := by
  obtain ⟨h, tk, ep, e⟩ := M
  refine ⟨h, tk, ep, KF_get hn h3 ?_⟩
  rw [e]
  rfl
theorem nsIn_md {K : Frag} {a : Addr} {names : List Str} {h : Nat → Int} {tk : Nat → Nat} {v : Nat → Value} {ep : Nat} (e : K.lookup a = some (mdO names h tk v ep)) (x : Str) : nsIn K a x = some ((names.findIdx? (· == x)).map v) := by
  unfold nsIn
  rw [e]
  show (match (entsOf names 0 h tk v).find? (·.key.isStr x) with
    | some e => some (some e.val)
    | none => if (entsOf names 0 h tk v).any (·.refKey) then none else some none) = _
  rw [ents_find, ents_refKey]
  cases names.findIdx? (· == x) with
  | none => rfl
  | some j =>
    show some (some (v (0 + j))) = some (some (v j))
    rw [Nat.zero_add]
end
/-! ### what the hook tells -/
def Says (w : World) (h : Heap) : Prop := ∃ (K : Frag) (A : Ad), K.In h ∧ ∀ mg : Str → Option Value, (∀ x r, nsIn K mainGlobals x = some r → mg x = r) → Tx w K mg A
def hashesAt (h : Heap) (x : Str) : List Int := match nsIn (frG h.get? [3]) 3 x with
  | some (some (.ref d)) => (match h.get? d with
    | some ⟨_, _, .dict es _, _⟩ => es.toList.map (·.hash)
    | _ => [])
  | _ => []
def tabH (h : Heap) : List (List Int) := [hashesAt h "TABLE_stackops", hashesAt h "TABLE_sumops", hashesAt h "TABLE_flowops", hashesAt h "TABLE_drawops"]
def hv (w : World) : List (List Int) := [tk_stackops.map (PyData.keyHash w.params), tk_sumops.map (PyData.keyHash w.params), tk_flowops.map (PyData.keyHash w.params), tk_drawops.map (PyData.keyHash w.params)]
def hkA : Hook where
  α := Prop × List (List Int)
  obs := fun s => (∀ w, tabH s.heap = hv w → Says w s.heap, tabH s.heap)
  val := fun w => (True, hv w)
  says := Says
  of := fun w s e => by
    obtain ⟨e1, e2⟩ := Prod.mk.inj e
    exact (show ∀ w, tabH s.heap = hv w → Says w s.heap by rw [e1]; trivial) w e2
  keeps := fun w h h' s k => by
    obtain ⟨K, A, a, b⟩ := s
    exact ⟨K, A, Frag.In.keeps a k, b⟩
theorem hashesAt_of {w : World} {n : Nat} {f : Nat → Obj} (hn : n ≤ 4094) (h3 : 3 < n) {names : List Str} (M : MdIs names f) {x : Str} {i : Nat} (ei : names.findIdx? (· == x) = some i) {ns : List Str} {hs : List Int} {look : Frag → Addr → Bool} (T : TabIs n f i ns hs look) : hashesAt (hpF w n f) x = hs := by
  obtain ⟨h, tk, ep, e⟩ := M
  have e3 : (hpF w n f).get? 3 = some (mdO names h tk (valF f) ep) := by
    rw [hp_get hn h3, e]
    rfl
  obtain ⟨d, es, ep2, K, h1, h2, h4, h5, h6, h7, h8⟩ := T
  unfold hashesAt
  rw [nsIn_md (frG_lookup e3 (List.mem_singleton.mpr rfl)) x, ei]
  show (match some (some (valF f i)) with
    | some (some (.ref d)) => (match (hpF w n f).get? d with
      | some ⟨_, _, .dict es _, _⟩ => es.toList.map (·.hash)
      | _ => [])
    | _ => []) = hs
  rw [h1]
  show (match (hpF w n f).get? d with
      | some ⟨_, _, .dict es _, _⟩ => es.toList.map (·.hash)
      | _ => []) = hs
  rw [KF_in _ _ (KF_le (w := w) hn h2 _ _ h4)]
  exact h6
end Hd
end
noncomputable section
namespace Hd
open PySem PySem.Spec PySem.W PySem.Calls PyProof.Rows L2 HandSHeadRun He Pg
def nF : Nat := 2015
theorem spl1 : bE.drop 0 = ls1 ++ bE.drop 58 := by
  unfold ls1
  rw [show (58 : Nat) = 0 + 58 from rfl, ← List.drop_drop]
  exact (List.take_append_drop ..).symm
theorem spl2 : bE.drop 58 = ls2 ++ bE.drop 76 := by
  unfold ls2
  rw [show (76 : Nat) = 58 + 18 from rfl, ← List.drop_drop]
  exact (List.take_append_drop ..).symm
theorem spl3 : bE.drop 76 = ls3 ++ bE.drop 135 := by
  unfold ls3
  rw [show (135 : Nat) = 76 + 59 from rfl, ← List.drop_drop]
  exact (List.take_append_drop ..).symm
theorem spl4 : bE.drop 135 = ls4 ++ bE.drop 200 := by
  unfold ls4
  rw [show (200 : Nat) = 135 + 65 from rfl, ← List.drop_drop]
  exact (List.take_append_drop ..).symm
theorem spl5 : bE.drop 200 = ls5 ++ bE.drop 235 := by
  unfold ls5
  rw [show (235 : Nat) = 200 + 35 from rfl, ← List.drop_drop]
  exact (List.take_append_drop ..).symm
theorem spl6 : bE.drop 235 = ls6 ++ bE.drop 250 := by
  unfold ls6
  rw [show (250 : Nat) = 235 + 15 from rfl, ← List.drop_drop]
  exact (List.take_append_drop ..).symm
theorem drop0 : bE = bE.drop 0 := rfl
structure Fin6 (w : World) (f : Nat → Obj) : Prop where
  fs1 : ∀ d ∈ Hd.fs1, d.Is 2015 f
  cs1 : ∀ d ∈ Hd.cs1, d.Is 2015 f
  ks1 : ∀ q ∈ Hd.ks1, RelV q.2 (valF f q.1)
  cs2 : ∀ d ∈ Hd.cs2, d.Is 2015 f
  t_flowops : TabIs 2015 f 79 tk_flowops (tk_flowops.map (PyData.keyHash w.params)) lookNo
  fs3 : ∀ d ∈ Hd.fs3, d.Is 2015 f
  ks3 : ∀ q ∈ Hd.ks3, RelV q.2 (valF f q.1)
  t_drawops : TabIs 2015 f 136 tk_drawops (tk_drawops.map (PyData.keyHash w.params)) (lookDraw f)
  fs4 : ∀ d ∈ Hd.fs4, d.Is 2015 f
  cs4 : ∀ d ∈ Hd.cs4, d.Is 2015 f
  ks4 : ∀ q ∈ Hd.ks4, RelV q.2 (valF f q.1)
  t_stackops : TabIs 2015 f 196 tk_stackops (tk_stackops.map (PyData.keyHash w.params)) lookNo
  ks5 : ∀ q ∈ Hd.ks5, RelV q.2 (valF f q.1)
  t_sumops : TabIs 2015 f 227 tk_sumops (tk_sumops.map (PyData.keyHash w.params)) lookNo
  fs6 : ∀ d ∈ Hd.fs6, d.Is 2015 f
  cs6 : ∀ d ∈ Hd.cs6, d.Is 2015 f
  same : SameIs (KF w 2015 f) (valF f 39)
abbrev stepsM : Nat := 60 + (60 + 20000) + 20000 + 20000 + 20000 + 20000 + 20000
theorem chain (w : World) (os : OsState) : ∃ f k p, MdIs nm6 f ∧ (∀ N' r, topQ w N' (stE w 2015 f k os).abs (restOf (bE.drop 250) envE cE p stkE) = some r → topQ w (stepsM + N') (bootA w os) (topStub pr) = some r) ∧ la w (stE w 2015 f k os).abs = true ∧ lb (stE w 2015 f k os).abs = openGood qv loose ∧ Fin6 w f := by
  obtain ⟨f1, R1, o1⟩ := first_ok (os := os) (l := ls1) (rest := bE.drop 58) (fo := fo1) (fv := fv1 w) (drop0.trans spl1) (hd_b w os) (hd_t w os) (hd_t2 w os) (by decide) (hc1 w os)
  have b1 : _ = true := congrArg (fun z => z.1) o1
  have nb1 : nmB f1 "pageloom.flowops" = true := (ba (ba b1).1).1
  rw [spl2] at R1
  obtain ⟨f2, R2, k2, v2, o2⟩ := next_ok (fo := fo2) (fv := fv2 w) (is := is2) R1 nb1 (by decide) (by decide) (by decide) (by decide +kernel) (hc2 w os)
  have b2 : _ = true := congrArg (fun z => z.1) o2
  have nb2 : nmB f2 "pageloom.flowops" = true := (ba b2).1
  rw [spl3] at R2
  obtain ⟨f3, R3, k3, v3, o3⟩ := next_ok (fo := fo3) (fv := fv3 w) (is := is3) R2 nb2 (by decide) (by decide) (by decide) (by decide +kernel) (hc3 w os)
  have b3 : _ = true := congrArg (fun z => z.1) o3
  have nb3 : nmB f3 "pageloom.drawops" = true := (ba b3).1
  rw [spl4] at R3
  obtain ⟨f4, R4, k4, v4, o4⟩ := next_ok (fo := fo4) (fv := fv4 w) (is := is4) R3 nb3 (by decide) (by decide) (by decide) (by decide +kernel) (hc4 w os)
  have b4 : _ = true := congrArg (fun z => z.1) o4
  have nb4 : nmB f4 "pageloom.stackops" = true := (ba b4).1
  rw [spl5] at R4
  obtain ⟨f5, R5, k5, v5, o5⟩ := next_ok (fo := fo5) (fv := fv5 w) (is := is5) R4 nb4 (by decide) (by decide) (by decide) (by decide +kernel) (hc5 w os)
  have b5 : _ = true := congrArg (fun z => z.1) o5
  have nb5 : nmB f5 "pageloom.machines" = true := (ba b5).1
  rw [spl6] at R5
  obtain ⟨f6, k, p, M, R, k6, v6, o6, A, B⟩ := last_ok (fo := fo6) (fv := fv6 w) (is := is6) (la := la w) (lb := lb) R5 nb5 (by decide) (by decide) (hc6 w os) (hc6a w os) (hc6b w os)
  have b6 : _ = true := congrArg (fun z => z.1) o6
  have e6 : Ext 2015 f6 2015 f6 (List.range 244) := ⟨Nat.le_refl _, fun _ _ _ => rfl, fun _ _ => rfl⟩
  have e5 := Ext.trans (⟨by decide, k6, v6⟩ : Ext 1743 f5 2015 f6 is6) e6
  have e4 := Ext.trans (⟨by decide, k5, v5⟩ : Ext 1543 f4 1743 f5 is5) e5
  have e3 := Ext.trans (⟨by decide, k4, v4⟩ : Ext 1139 f3 1543 f4 is4) e4
  have e2 := Ext.trans (⟨by decide, k3, v3⟩ : Ext 707 f2 1139 f3 is3) e3
  have e1 := Ext.trans (⟨by decide, k2, v2⟩ : Ext 463 f1 707 f2 is2) e2
  refine ⟨f6, k, p, M, R, A, B, ?_⟩
  constructor
  · exact fs_of (congrArg (fun z => z.2.1) o1) e1 (by kernel_rfl)
  · exact cs_of (congrArg (fun z => z.2.2.1) o1) e1 (by kernel_rfl)
  · exact ks_of ((ba (ba b1).1).2) e1 (by kernel_rfl)
  · exact cs_of (congrArg (fun z => z.2.2.1) o2) e2 (by kernel_rfl)
  · exact TabIs.ext e2 (by decide +kernel) (tabO_ok ((List.cons.inj (congrArg (fun z => z.2.2.2) o2)).1))
  · exact fs_of (congrArg (fun z => z.2.1) o3) e3 (by kernel_rfl)
  · exact ks_of ((ba b3).2) e3 (by kernel_rfl)
  · refine TabIs.look (fun K d h => ?_) (TabIs.ext e3 (by decide +kernel) (tabO_ok ((List.cons.inj (congrArg (fun z => z.2.2.2) o3)).1)))
    exact draw_ext e3 (by kernel_rfl) h
  · exact fs_of (congrArg (fun z => z.2.1) o4) e4 (by kernel_rfl)
  · exact cs_of (congrArg (fun z => z.2.2.1) o4) e4 (by kernel_rfl)
  · exact ks_of ((ba b4).2) e4 (by kernel_rfl)
  · exact TabIs.ext e4 (by decide +kernel) (tabO_ok ((List.cons.inj (congrArg (fun z => z.2.2.2) o4)).1))
  · exact ks_of ((ba b5).2) e5 (by kernel_rfl)
  · exact TabIs.ext e5 (by decide +kernel) (tabO_ok ((List.cons.inj (congrArg (fun z => z.2.2.2) o5)).1))
  · exact fs_of (congrArg (fun z => z.2.1) o6) e6 (by kernel_rfl)
  · exact cs_of (congrArg (fun z => z.2.2.1) o6) e6 (by kernel_rfl)
  · rw [e1.vals 39 (by decide +kernel)]
    exact SameB_ok (ba b1).2 fun a o h => KF_of (by decide) (Kept.gF e1.le e1.kept h)
end Hd
end
noncomputable section
namespace Hd
open PySem PySem.Spec PySem.W PySem.Calls PyProof.Rows L2 HandSHeadRun He Pg
section
variable {w : World} {f : Nat → Obj} {mg : Str → Option Value}
theorem mem_at {α : Type} {P : α → Prop} {l : List α} (h : ∀ d ∈ l, P d) (j : Nat) {d : α} (e : l[j]? = some d) : P d := h d (List.mem_of_getElem? e)
/-- the module's names under mg -/
structure Gm (w : World) (f : Nat → Obj) (mg : Str → Option Value) : Prop where
  md : MdIs nm6 f
  mg : ∀ x r, nsIn (KF w nF f) mainGlobals x = some r → mg x = r
theorem Gm.at (G : Gm w f mg) (x : Str) : mg x = (nm6.findIdx? (· == x)).map (valF f) := by
  obtain ⟨h, tk, ep, e⟩ := KF_md (w := w) (n := nF) (by decide) (by decide) G.md
  exact G.mg x _ (nsIn_md e x)
theorem Gm.v (G : Gm w f mg) {x : Str} {i : Nat} (e : nm6.findIdx? (· == x) = some i) : mg x = some (valF f i) := by
  rw [G.at, e]
  rfl
theorem Gm.n (G : Gm w f mg) {x : Str} (e : nm6.findIdx? (· == x) = none) : mg x = none := by
  rw [G.at, e]
  rfl
theorem Gm.fn (G : Gm w f mg) {x : Str} {d : FSpec} (h : d.Is nF f) (e : nm6.findIdx? (· == x) = some d.i) : GFn (KF w nF f) mg x d.x d.st := by
  obtain ⟨a, K, fd, h1, h2, h3⟩ := h
  exact ⟨a, fd, (G.v e).trans (congrArg some h1), FunD.mono (KF_le (by decide) h2) h3⟩
theorem Gm.cls (G : Gm w f mg) {x : Str} {d : CSpec} (h : d.Is nF f) (e : nm6.findIdx? (· == x) = some d.i) : ∃ C, (∀ mg : Str → Option Value, Gm w f mg → mg x = some (.ref C)) ∧ d.At (KF w nF f) C := by
  obtain ⟨C, K, h1, h2, h3⟩ := h
  exact ⟨C, fun mg G => (G.v e).trans (congrArg some h1), CSpec.At.mono (KF_le (by decide) h2) h3⟩
theorem Gm.val (G : Gm w f mg) {x : Str} {q : Nat × V} (h : RelV q.2 (valF f q.1)) (e : nm6.findIdx? (· == x) = some q.1) : ∃ u, mg x = some u ∧ RelV q.2 u := ⟨_, G.v e, h⟩
theorem Gm.tab (G : Gm w f mg) {x : Str} {i : Nat} {ns : List Str} {hs : List Int} {look : Frag → Addr → Bool} (T : TabIs nF f i ns hs look) (e : nm6.findIdx? (· == x) = some i) {w' : World} (eh : hs = ns.map (PyData.keyHash w'.params)) :
    ∃ d es n, mg x = some (.ref d) ∧ KDict (KF w nF f) w' d es n ∧ ∃ K, Le K (KF w nF f) ∧ look K d = true := by
  obtain ⟨d, es, ep, K, h1, h2, h3, h4, h5, h6, h7⟩ := T
  have le := KF_le (w := w) (by decide) h2
  exact ⟨d, es, ep, (G.v e).trans (congrArg some h1), ⟨le _ _ h3, keysLit_of h4 (h5.trans eh), h6⟩, K, le, h7⟩
theorem Gm.tabNo (G : Gm w f mg) {x : Str} {i : Nat} {ns : List Str} {hs : List Int} (T : TabIs nF f i ns hs lookNo) (e : nm6.findIdx? (· == x) = some i) {w' : World} (eh : hs = ns.map (PyData.keyHash w'.params)) :
    ∃ d es n, mg x = some (.ref d) ∧ KDict (KF w nF f) w' d es n ∧ ∀ p ∈ opTab, nsIn (KF w nF f) d p.1 = some none := by
  obtain ⟨d, es, n, a, b, K, le, h⟩ := G.tab T e eh
  exact ⟨d, es, n, a, b, fun p hp => ns_mono le (eqO_ok (List.all_eq_true.mp h p hp))⟩
theorem Gm.tabDraw (G : Gm w f mg) {x : Str} {i : Nat} {ns : List Str} {hs : List Int} (T : TabIs nF f i ns hs (lookDraw f)) (e : nm6.findIdx? (· == x) = some i) {w' : World} (eh : hs = ns.map (PyData.keyHash w'.params)) :
    ∃ d es n, mg x = some (.ref d) ∧ KDict (KF w nF f) w' d es n ∧ ∀ p ∈ opTab, ∃ g, nsIn (KF w nF f) d p.1 = some (some (.ref g)) ∧ mg p.2 = some (.ref g) := by
  obtain ⟨d, es, n, a, b, K, le, h⟩ := G.tab T e eh
  refine ⟨d, es, n, a, b, fun p hp => ?_⟩
  have c : (opTab.all fun p => drawL.any fun q => decide (q.1 = p.1) && decide (nm6.findIdx? (· == p.2) = some q.2)) = true := by kernel_rfl
  obtain ⟨q, hq, hc⟩ := List.any_eq_true.mp (List.all_eq_true.mp c p hp)
  obtain ⟨c1, c2⟩ := ba hc
  obtain ⟨l1, l2⟩ := ba (List.all_eq_true.mp h q hq)
  have n1 := eqO_ok l1
  rw [of_decide_eq_true c1] at n1
  have m1 := G.v (of_decide_eq_true c2)
  cases r : valF f q.2 with
  | ref g =>
    rw [r] at n1 m1
    exact ⟨g, ns_mono le n1, m1⟩
  | _ =>
    rw [r] at l2
    cases l2
end
theorem tx_of {w w' : World} {f : Nat → Obj} (F : Fin6 w f) (M : MdIs nm6 f) (eh : hv w = hv w') : Says w' (hpF w nF f) := by
  unfold hv at eh
  simp only [List.cons.injEq] at eh
  obtain ⟨eh1, eh2, eh3, eh4, _⟩ := eh
  have G0 : Gm w f fun x => (nm6.findIdx? (· == x)).map (valF f) := ⟨M, fun x r hr => by
    obtain ⟨h, tk, ep, e⟩ := KF_md (w := w) (n := nF) (by decide) (by decide) M
    exact Option.some.inj ((nsIn_md e x).symm.trans hr)⟩
  obtain ⟨CLook, gLook, cLook⟩ := G0.cls (x := "Look") (mem_at F.cs1 0 rfl) (by kernel_rfl)
  obtain ⟨CWorld, gWorld, cWorld⟩ := G0.cls (x := "World") (mem_at F.cs1 1 rfl) (by kernel_rfl)
  obtain ⟨CItems, gItems, cItems⟩ := G0.cls (x := "Items") (mem_at F.cs2 0 rfl) (by kernel_rfl)
  obtain ⟨CReader, gReader, cReader⟩ := G0.cls (x := "Reader") (mem_at F.cs4 0 rfl) (by kernel_rfl)
  obtain ⟨CMachine, gMachine, cMachine⟩ := G0.cls (x := "Machine") (mem_at F.cs6 0 rfl) (by kernel_rfl)
  refine ⟨KF w nF f, ⟨CLook, CWorld, CItems, CReader, CMachine⟩, KF_in, fun mg hm => ?_⟩
  have G : Gm w f mg := ⟨M, hm⟩
  clear G0
  constructor
  · exact G.fn (mem_at F.fs1 0 rfl) (by kernel_rfl)
  · exact G.fn (mem_at F.fs1 1 rfl) (by kernel_rfl)
  · exact G.fn (mem_at F.fs1 2 rfl) (by kernel_rfl)
  · exact G.fn (mem_at F.fs1 3 rfl) (by kernel_rfl)
  · exact G.fn (mem_at F.fs1 4 rfl) (by kernel_rfl)
  · exact G.fn (mem_at F.fs1 5 rfl) (by kernel_rfl)
  · exact G.fn (mem_at F.fs1 6 rfl) (by kernel_rfl)
  · exact G.fn (mem_at F.fs1 7 rfl) (by kernel_rfl)
  · exact G.fn (mem_at F.fs1 8 rfl) (by kernel_rfl)
  · exact G.fn (mem_at F.fs1 9 rfl) (by kernel_rfl)
  · exact G.fn (mem_at F.fs1 10 rfl) (by kernel_rfl)
  · exact G.fn (mem_at F.fs1 11 rfl) (by kernel_rfl)
  · exact G.fn (mem_at F.fs1 12 rfl) (by kernel_rfl)
  · exact G.fn (mem_at F.fs1 13 rfl) (by kernel_rfl)
  · exact G.fn (mem_at F.fs1 14 rfl) (by kernel_rfl)
  · exact G.fn (mem_at F.fs3 0 rfl) (by kernel_rfl)
  · exact G.fn (mem_at F.fs3 1 rfl) (by kernel_rfl)
  · exact G.fn (mem_at F.fs3 2 rfl) (by kernel_rfl)
  · exact G.fn (mem_at F.fs3 3 rfl) (by kernel_rfl)
  · exact G.fn (mem_at F.fs3 4 rfl) (by kernel_rfl)
  · exact G.fn (mem_at F.fs3 5 rfl) (by kernel_rfl)
  · exact G.fn (mem_at F.fs3 6 rfl) (by kernel_rfl)
  · exact G.fn (mem_at F.fs3 7 rfl) (by kernel_rfl)
  · exact G.fn (mem_at F.fs3 8 rfl) (by kernel_rfl)
  · exact G.fn (mem_at F.fs3 9 rfl) (by kernel_rfl)
  · exact G.fn (mem_at F.fs3 10 rfl) (by kernel_rfl)
  · exact G.fn (mem_at F.fs3 11 rfl) (by kernel_rfl)
  · exact G.fn (mem_at F.fs3 12 rfl) (by kernel_rfl)
  · exact G.fn (mem_at F.fs3 13 rfl) (by kernel_rfl)
  · exact G.fn (mem_at F.fs3 14 rfl) (by kernel_rfl)
  · exact G.fn (mem_at F.fs3 15 rfl) (by kernel_rfl)
  · exact G.fn (mem_at F.fs3 16 rfl) (by kernel_rfl)
  · exact G.fn (mem_at F.fs3 17 rfl) (by kernel_rfl)
  · exact G.fn (mem_at F.fs3 18 rfl) (by kernel_rfl)
  · exact G.fn (mem_at F.fs3 19 rfl) (by kernel_rfl)
  · exact G.fn (mem_at F.fs3 20 rfl) (by kernel_rfl)
  · exact G.fn (mem_at F.fs3 21 rfl) (by kernel_rfl)
  · exact G.fn (mem_at F.fs4 0 rfl) (by kernel_rfl)
  · exact G.fn (mem_at F.fs4 1 rfl) (by kernel_rfl)
  · exact G.fn (mem_at F.fs4 2 rfl) (by kernel_rfl)
  · exact G.fn (mem_at F.fs4 3 rfl) (by kernel_rfl)
  · exact G.fn (mem_at F.fs4 4 rfl) (by kernel_rfl)
  · exact G.fn (mem_at F.fs4 5 rfl) (by kernel_rfl)
  · exact G.fn (mem_at F.fs4 6 rfl) (by kernel_rfl)
  · exact G.fn (mem_at F.fs4 7 rfl) (by kernel_rfl)
  · exact G.fn (mem_at F.fs4 8 rfl) (by kernel_rfl)
  · exact G.fn (mem_at F.fs4 9 rfl) (by kernel_rfl)
  · exact G.fn (mem_at F.fs4 10 rfl) (by kernel_rfl)
  · exact G.fn (mem_at F.fs4 11 rfl) (by kernel_rfl)
  · exact G.fn (mem_at F.fs4 12 rfl) (by kernel_rfl)
  · exact G.fn (mem_at F.fs4 13 rfl) (by kernel_rfl)
  · exact G.fn (mem_at F.fs6 0 rfl) (by kernel_rfl)
  · exact G.fn (mem_at F.fs6 1 rfl) (by kernel_rfl)
  · exact G.fn (mem_at F.fs6 2 rfl) (by kernel_rfl)
  · exact G.fn (mem_at F.fs6 3 rfl) (by kernel_rfl)
  · exact G.fn (mem_at F.fs6 4 rfl) (by kernel_rfl)
  · exact G.fn (mem_at F.fs6 5 rfl) (by kernel_rfl)
  · exact G.fn (mem_at F.fs6 6 rfl) (by kernel_rfl)
  · exact G.fn (mem_at F.fs6 7 rfl) (by kernel_rfl)
  · exact G.fn (mem_at F.fs6 8 rfl) (by kernel_rfl)
  · exact G.fn (mem_at F.fs6 9 rfl) (by kernel_rfl)
  · exact G.fn (mem_at F.fs6 10 rfl) (by kernel_rfl)
  · exact G.fn (mem_at F.fs6 11 rfl) (by kernel_rfl)
  · exact gLook mg G
  · exact cLook.cls
  · exact cLook.init
  · exact mem_at cLook.ms 0 rfl
  · exact mem_at cLook.no 0 rfl
  · exact mem_at cLook.no 1 rfl
  · exact mem_at cLook.no 2 rfl
  · exact mem_at cLook.no 3 rfl
  · exact mem_at cLook.no 4 rfl
  · exact mem_at cLook.no 5 rfl
  · exact gWorld mg G
  · exact cWorld.cls
  · exact cWorld.init
  · exact mem_at cWorld.ms 0 rfl
  · exact mem_at cWorld.no 0 rfl
  · exact mem_at cWorld.no 1 rfl
  · exact mem_at cWorld.no 2 rfl
  · exact mem_at cWorld.no 3 rfl
  · exact mem_at cWorld.no 4 rfl
  · exact mem_at cWorld.no 5 rfl
  · exact mem_at cWorld.no 6 rfl
  · exact mem_at cWorld.no 7 rfl
  · exact mem_at cWorld.no 8 rfl
  · exact gItems mg G
  · exact cItems.cls
  · exact cItems.init
  · exact mem_at cItems.ms 0 rfl
  · exact mem_at cItems.ms 1 rfl
  · exact mem_at cItems.no 0 rfl
  · exact mem_at cItems.no 1 rfl
  · exact gReader mg G
  · exact cReader.cls
  · exact cReader.init
  · exact mem_at cReader.ms 0 rfl
  · exact mem_at cReader.ms 1 rfl
  · exact mem_at cReader.ms 2 rfl
  · exact mem_at cReader.ms 3 rfl
  · exact mem_at cReader.ms 4 rfl
  · exact mem_at cReader.no 0 rfl
  · exact mem_at cReader.no 1 rfl
  · exact mem_at cReader.no 2 rfl
  · exact mem_at cReader.no 3 rfl
  · exact mem_at cReader.no 4 rfl
  · exact gMachine mg G
  · exact cMachine.cls
  · exact cMachine.init
  · exact mem_at cMachine.ms 0 rfl
  · exact mem_at cMachine.ms 1 rfl
  · exact mem_at cMachine.ms 2 rfl
  · exact mem_at cMachine.ms 3 rfl
  · exact mem_at cMachine.ms 4 rfl
  · exact mem_at cMachine.ms 5 rfl
  · exact mem_at cMachine.ms 6 rfl
  · exact mem_at cMachine.ms 7 rfl
  · exact mem_at cMachine.ms 8 rfl
  · exact mem_at cMachine.ms 9 rfl
  · exact mem_at cMachine.no 0 rfl
  · exact mem_at cMachine.no 1 rfl
  · exact mem_at cMachine.no 2 rfl
  · exact mem_at cMachine.no 3 rfl
  · exact mem_at cMachine.no 4 rfl
  · exact mem_at cMachine.no 5 rfl
  · exact mem_at cMachine.no 6 rfl
  · exact mem_at cMachine.no 7 rfl
  · exact mem_at cMachine.no 8 rfl
  · exact mem_at cMachine.no 9 rfl
  · exact mem_at cMachine.no 10 rfl
  · exact G.val (mem_at F.ks1 0 rfl) (by kernel_rfl)
  · exact G.val (mem_at F.ks4 0 rfl) (by kernel_rfl)
  · exact G.val (mem_at F.ks5 0 rfl) (by kernel_rfl)
  · exact G.val (mem_at F.ks3 0 rfl) (by kernel_rfl)
  · exact G.val (mem_at F.ks1 1 rfl) (by kernel_rfl)
  · exact G.val (mem_at F.ks4 1 rfl) (by kernel_rfl)
  · exact G.val (mem_at F.ks4 2 rfl) (by kernel_rfl)
  · exact G.val (mem_at F.ks4 3 rfl) (by kernel_rfl)
  · exact G.val (mem_at F.ks4 4 rfl) (by kernel_rfl)
  · exact G.n (by kernel_rfl)
  · exact G.n (by kernel_rfl)
  · exact G.n (by kernel_rfl)
  · exact G.n (by kernel_rfl)
  · exact G.n (by kernel_rfl)
  · exact G.n (by kernel_rfl)
  · exact G.n (by kernel_rfl)
  · exact G.n (by kernel_rfl)
  · exact G.n (by kernel_rfl)
  · exact G.n (by kernel_rfl)
  · exact G.n (by kernel_rfl)
  · exact G.n (by kernel_rfl)
  · exact G.n (by kernel_rfl)
  · exact G.n (by kernel_rfl)
  · exact (by
    obtain ⟨a, o, z, e, h⟩ := F.same
    exact ⟨a, o, z, (G.v (x := "SAME") (by kernel_rfl)).trans (congrArg some e), h⟩)
  · exact G.tabNo F.t_stackops (by kernel_rfl) eh1
  · exact G.tabNo F.t_sumops (by kernel_rfl) eh2
  · exact G.tabNo F.t_flowops (by kernel_rfl) eh3
  · exact G.tabDraw F.t_drawops (by kernel_rfl) eh4
theorem tabs_of {w : World} {f : Nat → Obj} (F : Fin6 w f) (M : MdIs nm6 f) : tabH (hpF w nF f) = hv w := by
  unfold tabH hv
  rw [hashesAt_of (n := nF) (by decide) (by decide) M (by kernel_rfl) F.t_stackops, hashesAt_of (n := nF) (by decide) (by decide) M (by kernel_rfl) F.t_sumops, hashesAt_of (n := nF) (by decide) (by decide) M (by kernel_rfl) F.t_flowops, hashesAt_of (n := nF) (by decide) (by decide) M (by kernel_rfl) F.t_drawops]
theorem obs_of {w : World} {f : Nat → Obj} {k : Nat} {os : OsState} (F : Fin6 w f) (M : MdIs nm6 f) : hkA.obs (stE w nF f k os).abs = hkA.val w := by
  show ((∀ w', tabH (hpF w nF f) = hv w' → Says w' (hpF w nF f), tabH (hpF w nF f)) : Prop × List (List Int)) = (True, hv w)
  rw [tabs_of F M]
  exact congrArg (fun z => (z, hv w)) (eq_true fun w' e => tx_of F M e)
end Hd
end
noncomputable section
namespace Hd
open PySem PySem.Spec PySem.W PySem.Calls PyProof.Rows L2 HandSHeadRun He Pg
/-! ### what the top leaves -/
theorem top_end (w : World) (os : OsState) : ∃ z : Shared, topRun treeTable pr w (boot_heap w.params).objs.size (bootAnn w) (stepsM + 604) (bootA w os) (topStub pr) = some z ∧ la w z = true ∧
    openSeen qv loose (importedModules pr.main.body) Xt true z = openGood qv loose ∧ hkA.obs z = hkA.val w := by
  obtain ⟨f, k, p, M, R, A, B, F⟩ := chain w os
  rw [hd_rest] at R
  have r4 := R 4 _ (fin_ok w _ p)
  refine ⟨_, ?_, A, ?_, obs_of F M⟩
  · rw [hd_n, hd_a]
    exact topRun_mono 600 _ _ _ _ r4
  · rw [seenQ_eq]
    exact B
end Hd
end
noncomputable section
namespace Hd
open PySem PySem.Spec PySem.W PySem.Calls PyProof.Rows L2 HandSHeadRun He Pg
/-- the left side of a law, of a run from the boot -/
theorem left_gen {p q : Program} {loose : List Str} {Xt : Shared → Bool} {α : Type} {Yf : Shared → α} {Ya : World → α} {N : Nat} (e : opening p = plainProg p.main.scope.names) (hN : Nat.ble 600 N = true) (f : ∀ s, fenceModules? p s = some s)
    (run : ∀ (w : World) (os : OsState), ∃ z : Shared, topRun treeTable p w (boot_heap w.params).objs.size (bootAnn w) N (bootA w os) (topStub p) = some z ∧ looksF p (boot_heap w.params) z = true ∧ openSeen q loose (importedModules p.main.body) Xt true z = openGood q loose ∧ Yf z = Ya w) :
    LeftO p q loose Xt Yf Ya N true := by
  intro w
  have bo := boot_open e hN f w
  obtain ⟨⟨h0, g0, d0, k0, os⟩, c1, c2⟩ := Option.map_eq_some_iff.mp bo
  simp only [Prod.mk.injEq] at c2
  obtain ⟨e1, e2, e3, e4⟩ := c2
  subst e1 e2 e3 e4
  obtain ⟨z, t1, t2, t3, t4⟩ := run w os
  have t5 : (staticsOk (importedModules p.main.body) (boot_heap w.params) z.heap && namesBound p z.heap && gensDone z && laidKept (boot_heap w.params) z.heap) = true := t2
  have t6 : topFrom treeTable p w N (bootA w os) = some z := by
    unfold topFrom
    rw [show ((bootA w os).heap.isNs mainGlobals && (bootA w os).gens.size == 0) = true by
      rw [boot_ns]
      rfl]
    show Option.bind (topRun treeTable p w (boot_heap w.params).objs.size (bootAnn w) N (bootA w os) (topStub p)) _ = _
    rw [t1]
    show (match (staticsOk (importedModules p.main.body) (boot_heap w.params) z.heap && namesBound p z.heap && gensDone z && laidKept (boot_heap w.params) z.heap) with
      | true => some z
      | false => none) = _
    rw [t5]
  unfold openEnds
  rw [c1]
  show Option.map _ (topFrom treeTable p w N (bootA w os)) = _
  rw [t6]
  exact congrArg some (Prod.ext t3 t4)
theorem left_pg : LeftO pr qv loose Xt hkA.obs hkA.val (stepsM + 604) true := left_gen (by kernel_rfl) (by decide) (fun s => by kernel_rfl) top_end
end Hd
end
open PySem PySem.W PySem.Calls PyProof.Rows
theorem PySem.Challenge.cw_pageloom_k52_whole_clips_holds : PySem.Challenge.rw_pageloom_k52_whole_clips.Holds := by
  refine Hd.said_pg fun said => ?_
  refine holds_open (r := OpenLaw.row PySem.Challenge.rw_pageloom_k52_whole_clips) (q := Hd.qv) (loose := Hd.loose) (XP := XL Hd.qv []) (YP := Hd.Says) (d := HandSHeadRun.topDef Hd.pr 249) (kwd := []) (Xt := Hd.Xt)
    Hd.left_pg Hd.hkA.of Hd.hkA.keeps (fun s z => xl_of s (Bool.and_eq_true_iff.mp z).1) XL.keeps (by kernel_rfl) (by kernel_rfl) (by kernel_rfl) (fun s z => recFacts_of (Bool.and_eq_true_iff.mp z).2)
    (by rfl) said (by decide +kernel) Hd.bare_pg ?hw ?hc
  case hw => w_witness2
  case hc =>
    refine L2.walk_ofE (l := PySem.Challenge.rw_pageloom_k52_whole_clips) (n := 63) (k := 16) (x := "_law_script") (CX := C8.CX0) rfl (by decide) (by kernel_rfl) ⟨rfl, by decide, by decide⟩ ?F (fun _ _ _ _ z => z)
    intro w mg fa h Y G hmg0
    obtain ⟨K, A, KX, hT⟩ := Y
    have T := hT mg fun x r e => by
      cases r with
      | none => exact mg_none_of KX G e
      | some v => exact mg_of KX G e
    obtain ⟨f, fd, gl, F⟩ := T.f_law
    have hmg : mg ("law" : PySem.Str) = some (.ref fa) := by
      have e : (HandSHeadRun.topDef Hd.pr 249).name = ("law" : PySem.Str) := by kernel_rfl
      rw [← e]
      exact hmg0
    have ef := gl.symm.trans hmg
    cases ef
    have b := L2.FunD.bindsA (ps := ["_law_script"]) F fun _ _ _ _ _ _ us hl => match us, hl with | [_], _ => rfl
    refine ⟨K, fd, Pg.spLaw K, KX, fun s v => b s [v] rfl, fun H a ns hl _ hS => ⟨_, rfl, ns, ⟨a, rfl, hS, hl⟩, fun _ => rfl⟩, fun base _ _ => ?_⟩
    exact F.ok Pg.sc_law Pg.Sp1.len fun cdv A outer s H vs Q E hr h => by
      obtain ⟨t, a, b⟩ := Pg.body_law T _ cdv A outer s H vs Q E hr h
      exact ⟨t, a.nox, b⟩
