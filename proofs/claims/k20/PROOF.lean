import PyProof.Rows.All
import Wide.All
import OpenK.AllK
import Wide.FinOn
import KE.KStateDown
import HandS.ForMost
import HandS.ForExc
import HandS.Defaults
import HandS.DictTup
import HandS.TupAny
import HandS.TupLe
import HandS.TupLen
import HandS.Conv
import HandS.IsInst
import HandS.Wide
import HandS.StrMore
import HandS.ExcInit
import HandS.ExcField
import HandS.RaiseOp
import HandS.Flow
import HandS.Walk
import HandS.Replace
import HandS.More
import HandS.SortInts
import HandS.EndBits
import HandS.Head0
import HandS.Head1
import HandS.Head2
import HandS.HeadEnd
import HandS.HeadHook1
import HandS.HeadHook2
import HandS.HeadHook3
import HandS.HeadHook4
import PySem.Challenge.RW_stemshelf_k20_whole_one_copy_is_enough
import KE.KSortedM
set_option Elab.async false
set_option linter.all false
set_option maxRecDepth 100000
set_option maxHeartbeats 4000000
namespace Sk
open PySem PySem.Spec PyProof.Rows L2
/-! ### the text by places -/
def top (i : Nat) : Stmt := PySem.Challenge.pw_stemshelf_k20_whole_one_copy_is_enough.main.body.getD i (.Pass ⟨0, 0, 0, 0⟩)
abbrev s_number_of : Stmt := top 3
abbrev s_sign_of : Stmt := top 4
abbrev s_is_text : Stmt := top 5
abbrev s_numbers_of : Stmt := top 6
abbrev s_is_number : Stmt := top 18
abbrev s_words_of : Stmt := top 19
abbrev s_text_at : Stmt := top 20
abbrev s_thing_at : Stmt := top 21
abbrev s_thing_of : Stmt := top 22
abbrev s_is_name : Stmt := top 33
abbrev s_is_tag : Stmt := top 34
abbrev s_is_row : Stmt := top 35
abbrev s_is_entry : Stmt := top 36
abbrev s_is_folder : Stmt := top 37
abbrev s_is_block : Stmt := top 38
abbrev s_told_of : Stmt := top 39
abbrev s_sum_of : Stmt := top 40
abbrev s_mark_of : Stmt := top 43
abbrev s_sealed : Stmt := top 44
abbrev s_unsealed : Stmt := top 45
abbrev s_lay : Stmt := top 47
abbrev s_thing_in : Stmt := top 48
abbrev s_copy_on : Stmt := top 49
abbrev s_right_copies : Stmt := top 50
abbrev s_fetched : Stmt := top 51
abbrev s__law_cell_at : Stmt := top 57
abbrev s__law_numbers : Stmt := top 58
abbrev s__law_signs : Stmt := top 59
abbrev s__law_tag : Stmt := top 60
abbrev s__law_name : Stmt := top 61
abbrev s__law_block : Stmt := top 62
abbrev s__law_told : Stmt := top 63
abbrev s__law_sum : Stmt := top 64
abbrev s__law_laid : Stmt := top 65
abbrev s__law_spoilt : Stmt := top 66
abbrev s__law_is_lost : Stmt := top 67
abbrev s__law_all_told : Stmt := top 68
abbrev s_law : Stmt := top 69
abbrev sB___init__ : Stmt := inClass (top 55) 0
abbrev sB_many : Stmt := inClass (top 55) 1
abbrev sB_write : Stmt := inClass (top 55) 2
abbrev sB_cell : Stmt := inClass (top 55) 3
abbrev sB_spoil : Stmt := inClass (top 55) 4
abbrev sB_lose : Stmt := inClass (top 55) 5
abbrev sB_twins : Stmt := inClass (top 55) 8
abbrev sL_init : Stmt := inClass (top 12) 0
abbrev FnP (K : PySem.W.Frag) (x : Str) (st : Stmt) (f : Addr) (fd : FuncData) : Prop := FunD K x x (defArgs st) (defBody st) (defScope st) [] [] f fd
abbrev FnM (K : PySem.W.Frag) (x q : Str) (st : Stmt) (f : Addr) (fd : FuncData) : Prop := FunD K x q (defArgs st) (defBody st) (defScope st) [] [] f fd
def tSIGNS : Str := " !\"#$&'()*+,-./0123456789:;<=>?@ABCDEFGHIJKLMNOPQRSTUVWXYZ[\\]^_`abcdefghijklmnopqrstuvwxyz{|}~"
def tNAMED : Str := "abcdefghijklmnopqrstuvwxyz0123456789"
/-- a module's name holds this value -/
def Glb (mg : Str → Option Value) (x : Str) (v : V) : Prop := ∃ u, mg x = some u ∧ RelV v u
/-- what the top has written: the constants; the built-ins' names are free -/
structure Txt (mg : Str → Option Value) : Prop where
  n_isinstance : mg "isinstance" = none
  n_int : mg "int" = none
  n_bool : mg "bool" = none
  n_str : mg "str" = none
  n_tuple : mg "tuple" = none
  n_len : mg "len" = none
  n_all : mg "all" = none
  n_range : mg "range" = none
  n_sum : mg "sum" = none
  n_enumerate : mg "enumerate" = none
  n_list : mg "list" = none
  n_sorted : mg "sorted" = none
  n_max : mg "max" = none
  c_GREATEST : Glb mg "GREATEST" (.int 999999999)
  c_MOST_SIGNS : Glb mg "MOST_SIGNS" (.int 400)
  c_MOST_THINGS : Glb mg "MOST_THINGS" (.int 100)
  c_MOST_DEEP : Glb mg "MOST_DEEP" (.int 8)
  c_MOST_NAMED : Glb mg "MOST_NAMED" (.int 8)
  c_MOST_PIECE : Glb mg "MOST_PIECE" (.int 8)
  c_MOST_TAGS : Glb mg "MOST_TAGS" (.int 8)
  c_MOST_LEVEL : Glb mg "MOST_LEVEL" (.int 9)
  c_MOST_ENTRIES : Glb mg "MOST_ENTRIES" (.int 16)
  c_MOST_CELLS : Glb mg "MOST_CELLS" (.int 999999)
  c_BY : Glb mg "BY" (.int 997)
  c_TURN : Glb mg "TURN" (.int 31)
  c_PRIME : Glb mg "PRIME" (.int 2147483647)
  c_LEAST : Glb mg "LEAST" (.int 2)
  c_MOST : Glb mg "MOST" (.int 4)
  c_SIGNS : Glb mg "SIGNS" (.str tSIGNS)
  c_NAMED : Glb mg "NAMED" (.str tNAMED)
/-- a def of the top by its name: it keeps the promise sp -/
def Has (P : Program) (w : World) (K : PySem.W.Frag) (mg : Str → Option Value) (base : Heap) (CX : CXT) (k : Nat) (x : Str) (ps : List Str) (sp : Sp) : Prop :=
  ∃ (f : Addr) (fd : FuncData), mg x = some (.ref f) ∧ PySem.W.keepIn K (.ref f) = true ∧ Binds K fd ps [] ∧ FnOk P w K mg base CX k f fd ps sp
/-- a method of the class at C -/
def HasM (P : Program) (w : World) (K : PySem.W.Frag) (mg : Str → Option Value) (base : Heap) (CX : CXT) (k : Nat) (C : Addr) (m : Str) (ps : List Str) (sp : Sp) : Prop :=
  ∃ (f : Addr) (fd : FuncData), Meth K C m f ∧ Binds K fd ps [] ∧ FnOk P w K mg base CX k f fd ps sp
section
variable {X : Cx} {CX : CXT} {k : Nat} {C : Addr} {ps : List Str} {sp : Sp} {E : XK} {x m : Str} {v : V} {p pos apos : Pos} {e o : Expr} {es : List Expr} {ta : TE} {t : TA}
theorem Has.mono {P : Program} {w : World} {K : PySem.W.Frag} {mg : Str → Option Value} {base : Heap} {k k' : Nat} (G : Has P w K mg base CX k x ps sp) (h : k ≤ k') : Has P w K mg base CX k' x ps sp := by
  obtain ⟨f, fd, a, b, c, d⟩ := G
  exact ⟨f, fd, a, b, c, d.mono h⟩
theorem pe_gl (h : Glb X.mg x v) (hg : Gl X x := by rfl) (hd : (x == ("__debug__" : Str)) = false := by decide) : PE X (.Name x pos) (tC v) := by
  obtain ⟨u, hm, r⟩ := h
  exact pe_glob hg hm r hd
theorem pe_has (G : Has X.prog X.w X.K X.mg X.base CX k x ps sp) (hr : Room k X.A) (hx : Passes CX X E) (ha : PA X (e :: es) t) (hg : Gl X x := by rfl) (hdb : (x == ("__debug__" : Str)) = false := by decide)
    (he : starEach (e :: es) X.env = (false, eval e X.env) :: starEach es X.env := by rfl) (hpl : (backTo pos (starEach es X.env)).any (·.1) = false := by rfl) :
    PE X (.Call (.Name x p) (e :: es) [] pos) (tCall sp [] E t) := by
  obtain ⟨f, fd, hm, kp, hb, F⟩ := G
  exact pe_call F hr hg hm kp hb .nil hx ha hdb he hpl
theorem pe_has0 (G : Has X.prog X.w X.K X.mg X.base CX k x ps sp) (hr : Room k X.A) (hx : Passes CX X E) (hg : Gl X x := by rfl) (hdb : (x == ("__debug__" : Str)) = false := by decide) :
    PE X (.Call (.Name x p) [] [] pos) (tCall sp [] E tNil) := by
  obtain ⟨f, fd, hm, kp, hb, F⟩ := G
  exact pe_call0 F hr hg hm kp hb .nil hx hdb
theorem pe_hasM {pl : Sem Bool} (he : PE X o ta) (c : Cls X.K C) (G : HasM X.prog X.w X.K X.mg X.base CX k C m ps sp) (hr : Room k X.A) (hx : Passes CX X E) (ha : PA X (e :: es) t)
    (hst : starEach (e :: es) X.env = (false, eval e X.env) :: starEach es X.env := by rfl) (hpl : (backTo pos (starEach es X.env)).any (·.1) = false := by rfl)
    (ht : eval (.Call (.Attribute o m apos) (e :: es) [] pos) X.env = (do
      let ov ← eval o X.env
      standAt apos.atName
      let (f, first) ← holding [ov] (getMethod ov m pl)
      callWith pos f first (backTo pos (starEach (e :: es) X.env)) (backToKw pos (keywordEach [] X.env))) := by rfl) :
    PE X (.Call (.Attribute o m apos) (e :: es) [] pos) (tMeth C m sp [] E ta t) := by
  obtain ⟨f, fd, hm, hb, F⟩ := G
  exact pe_meth he c hm F hr hb .nil hx ha hst hpl ht
theorem pe_hasM0 {pl : Sem Bool} (he : PE X o ta) (c : Cls X.K C) (G : HasM X.prog X.w X.K X.mg X.base CX k C m ps sp) (hr : Room k X.A) (hx : Passes CX X E)
    (ht : eval (.Call (.Attribute o m apos) [] [] pos) X.env = (do
      let ov ← eval o X.env
      standAt apos.atName
      let (f, first) ← holding [ov] (getMethod ov m pl)
      callWith pos f first (backTo pos (starEach [] X.env)) (backToKw pos (keywordEach [] X.env))) := by rfl) :
    PE X (.Call (.Attribute o m apos) [] [] pos) (tMeth C m sp [] E ta tNil) := by
  obtain ⟨f, fd, hm, hb, F⟩ := G
  exact pe_meth0 he c hm F hr hb .nil hx ht
end
end Sk

set_option Elab.async false
set_option linter.all false
set_option maxRecDepth 100000
set_option maxHeartbeats 0
namespace Sk
open PySem PySem.Spec PyProof.Rows L2
/-! ### the head: facts by names, the run -/
def d_number_of : He.DefD := ⟨("number_of", none), "number_of", "number_of", defArgs s_number_of, defBody s_number_of, defScope s_number_of, [], []⟩
def d_sign_of : He.DefD := ⟨("sign_of", none), "sign_of", "sign_of", defArgs s_sign_of, defBody s_sign_of, defScope s_sign_of, [], []⟩
def d_is_text : He.DefD := ⟨("is_text", none), "is_text", "is_text", defArgs s_is_text, defBody s_is_text, defScope s_is_text, [], []⟩
def d_numbers_of : He.DefD := ⟨("numbers_of", none), "numbers_of", "numbers_of", defArgs s_numbers_of, defBody s_numbers_of, defScope s_numbers_of, [], []⟩
def d_is_number : He.DefD := ⟨("is_number", none), "is_number", "is_number", defArgs s_is_number, defBody s_is_number, defScope s_is_number, [], []⟩
def d_words_of : He.DefD := ⟨("words_of", none), "words_of", "words_of", defArgs s_words_of, defBody s_words_of, defScope s_words_of, [], []⟩
def d_text_at : He.DefD := ⟨("text_at", none), "text_at", "text_at", defArgs s_text_at, defBody s_text_at, defScope s_text_at, [], []⟩
def d_thing_at : He.DefD := ⟨("thing_at", none), "thing_at", "thing_at", defArgs s_thing_at, defBody s_thing_at, defScope s_thing_at, [], []⟩
def d_thing_of : He.DefD := ⟨("thing_of", none), "thing_of", "thing_of", defArgs s_thing_of, defBody s_thing_of, defScope s_thing_of, [], []⟩
def d_is_name : He.DefD := ⟨("is_name", none), "is_name", "is_name", defArgs s_is_name, defBody s_is_name, defScope s_is_name, [], []⟩
def d_is_tag : He.DefD := ⟨("is_tag", none), "is_tag", "is_tag", defArgs s_is_tag, defBody s_is_tag, defScope s_is_tag, [], []⟩
def d_is_row : He.DefD := ⟨("is_row", none), "is_row", "is_row", defArgs s_is_row, defBody s_is_row, defScope s_is_row, [], []⟩
def d_is_entry : He.DefD := ⟨("is_entry", none), "is_entry", "is_entry", defArgs s_is_entry, defBody s_is_entry, defScope s_is_entry, [], []⟩
def d_is_folder : He.DefD := ⟨("is_folder", none), "is_folder", "is_folder", defArgs s_is_folder, defBody s_is_folder, defScope s_is_folder, [], []⟩
def d_is_block : He.DefD := ⟨("is_block", none), "is_block", "is_block", defArgs s_is_block, defBody s_is_block, defScope s_is_block, [], []⟩
def d_told_of : He.DefD := ⟨("told_of", none), "told_of", "told_of", defArgs s_told_of, defBody s_told_of, defScope s_told_of, [], []⟩
def d_sum_of : He.DefD := ⟨("sum_of", none), "sum_of", "sum_of", defArgs s_sum_of, defBody s_sum_of, defScope s_sum_of, [], []⟩
def d_mark_of : He.DefD := ⟨("mark_of", none), "mark_of", "mark_of", defArgs s_mark_of, defBody s_mark_of, defScope s_mark_of, [], []⟩
def d_sealed : He.DefD := ⟨("sealed", none), "sealed", "sealed", defArgs s_sealed, defBody s_sealed, defScope s_sealed, [], []⟩
def d_unsealed : He.DefD := ⟨("unsealed", none), "unsealed", "unsealed", defArgs s_unsealed, defBody s_unsealed, defScope s_unsealed, [], []⟩
def d_lay : He.DefD := ⟨("lay", none), "lay", "lay", defArgs s_lay, defBody s_lay, defScope s_lay, [], []⟩
def d_thing_in : He.DefD := ⟨("thing_in", none), "thing_in", "thing_in", defArgs s_thing_in, defBody s_thing_in, defScope s_thing_in, [], []⟩
def d_copy_on : He.DefD := ⟨("copy_on", none), "copy_on", "copy_on", defArgs s_copy_on, defBody s_copy_on, defScope s_copy_on, [], []⟩
def d_right_copies : He.DefD := ⟨("right_copies", none), "right_copies", "right_copies", defArgs s_right_copies, defBody s_right_copies, defScope s_right_copies, [], []⟩
def d_fetched : He.DefD := ⟨("fetched", none), "fetched", "fetched", defArgs s_fetched, defBody s_fetched, defScope s_fetched, [], []⟩
def d__law_cell_at : He.DefD := ⟨("_law_cell_at", none), "_law_cell_at", "_law_cell_at", defArgs s__law_cell_at, defBody s__law_cell_at, defScope s__law_cell_at, [], []⟩
def d__law_numbers : He.DefD := ⟨("_law_numbers", none), "_law_numbers", "_law_numbers", defArgs s__law_numbers, defBody s__law_numbers, defScope s__law_numbers, [], []⟩
def d__law_signs : He.DefD := ⟨("_law_signs", none), "_law_signs", "_law_signs", defArgs s__law_signs, defBody s__law_signs, defScope s__law_signs, [], []⟩
def d__law_tag : He.DefD := ⟨("_law_tag", none), "_law_tag", "_law_tag", defArgs s__law_tag, defBody s__law_tag, defScope s__law_tag, [], []⟩
def d__law_name : He.DefD := ⟨("_law_name", none), "_law_name", "_law_name", defArgs s__law_name, defBody s__law_name, defScope s__law_name, [], []⟩
def d__law_block : He.DefD := ⟨("_law_block", none), "_law_block", "_law_block", defArgs s__law_block, defBody s__law_block, defScope s__law_block, [], []⟩
def d__law_told : He.DefD := ⟨("_law_told", none), "_law_told", "_law_told", defArgs s__law_told, defBody s__law_told, defScope s__law_told, [], []⟩
def d__law_sum : He.DefD := ⟨("_law_sum", none), "_law_sum", "_law_sum", defArgs s__law_sum, defBody s__law_sum, defScope s__law_sum, [], []⟩
def d__law_laid : He.DefD := ⟨("_law_laid", none), "_law_laid", "_law_laid", defArgs s__law_laid, defBody s__law_laid, defScope s__law_laid, [], []⟩
def d__law_spoilt : He.DefD := ⟨("_law_spoilt", none), "_law_spoilt", "_law_spoilt", defArgs s__law_spoilt, defBody s__law_spoilt, defScope s__law_spoilt, [], []⟩
def d__law_is_lost : He.DefD := ⟨("_law_is_lost", none), "_law_is_lost", "_law_is_lost", defArgs s__law_is_lost, defBody s__law_is_lost, defScope s__law_is_lost, [], []⟩
def d__law_all_told : He.DefD := ⟨("_law_all_told", none), "_law_all_told", "_law_all_told", defArgs s__law_all_told, defBody s__law_all_told, defScope s__law_all_told, [], []⟩
def d_law : He.DefD := ⟨("law", none), "law", "law", defArgs s_law, defBody s_law, defScope s_law, [], []⟩
def dB___init__ : He.DefD := ⟨("Boards", some "__init__"), "__init__", "Boards.__init__", defArgs sB___init__, defBody sB___init__, defScope sB___init__, [], []⟩
def dB_many : He.DefD := ⟨("Boards", some "many"), "many", "Boards.many", defArgs sB_many, defBody sB_many, defScope sB_many, [], []⟩
def dB_write : He.DefD := ⟨("Boards", some "write"), "write", "Boards.write", defArgs sB_write, defBody sB_write, defScope sB_write, [], []⟩
def dB_cell : He.DefD := ⟨("Boards", some "cell"), "cell", "Boards.cell", defArgs sB_cell, defBody sB_cell, defScope sB_cell, [], []⟩
def dB_spoil : He.DefD := ⟨("Boards", some "spoil"), "spoil", "Boards.spoil", defArgs sB_spoil, defBody sB_spoil, defScope sB_spoil, [], []⟩
def dB_lose : He.DefD := ⟨("Boards", some "lose"), "lose", "Boards.lose", defArgs sB_lose, defBody sB_lose, defScope sB_lose, [], []⟩
def dB_twins : He.DefD := ⟨("Boards", some "twins"), "twins", "Boards.twins", defArgs sB_twins, defBody sB_twins, defScope sB_twins, [], []⟩
def dL_init : He.DefD := ⟨("Lost", some "__init__"), "__init__", "Lost.__init__", defArgs sL_init, defBody sL_init, defScope sL_init, [], []⟩
def fn1 : List He.DefD := [d_number_of, d_sign_of, d_is_text, d_numbers_of, d_is_number, d_words_of, d_text_at, d_thing_at, d_thing_of, d_is_name, d_is_tag, d_is_row, d_is_entry, d_is_folder, d_is_block, d_told_of, d_sum_of, d_mark_of, d_sealed, d_unsealed, d_lay, d_thing_in, d_copy_on, d_right_copies, d_fetched]
def fn2 : List He.DefD := [d__law_cell_at, d__law_numbers, d__law_signs, d__law_tag, d__law_name, d__law_block, d__law_told, d__law_sum, d__law_laid, d__law_spoilt, d__law_is_lost, d__law_all_told, d_law, dB___init__, dB_many, dB_write, dB_cell, dB_spoil, dB_lose, dB_twins, dL_init]
def fn : List He.DefD := fn1 ++ fn2
def fa1 : List He.Fa := [.glo "number_of", .glo "sign_of", .glo "is_text", .glo "numbers_of", .glo "is_number", .glo "words_of", .glo "text_at", .glo "thing_at", .glo "thing_of", .glo "is_name", .glo "is_tag", .glo "is_row", .glo "is_entry", .glo "is_folder", .glo "is_block", .glo "told_of", .glo "sum_of", .glo "mark_of", .glo "sealed", .glo "unsealed", .glo "lay", .glo "thing_in", .glo "copy_on", .glo "right_copies", .glo "fetched", .glo "_law_cell_at", .glo "_law_numbers", .glo "_law_signs", .glo "_law_tag", .glo "_law_name"]
def fa2 : List He.Fa := [.glo "_law_block", .glo "_law_told", .glo "_law_sum", .glo "_law_laid", .glo "_law_spoilt", .glo "_law_is_lost", .glo "_law_all_told", .glo "law", .glo "Boards", .glo "Lost"]
def fa3 : List He.Fa := [.free "isinstance", .free "int", .free "bool", .free "str", .free "tuple", .free "len", .free "all", .free "range", .free "sum", .free "enumerate", .free "list", .free "sorted", .free "max", .int "GREATEST" 999999999, .int "MOST_SIGNS" 400, .int "MOST_THINGS" 100, .int "MOST_DEEP" 8, .int "MOST_NAMED" 8, .int "MOST_PIECE" 8, .int "MOST_TAGS" 8, .int "MOST_LEVEL" 9, .int "MOST_ENTRIES" 16, .int "MOST_CELLS" 999999, .int "BY" 997, .int "TURN" 31, .int "PRIME" 2147483647, .int "LEAST" 2, .int "MOST" 4, .str "SIGNS" tSIGNS, .str "NAMED" tNAMED]
def fa4 : List He.Fa := [.cls "Boards", .mkr "Boards", .noat "Boards" "rows_kept", .noat "Boards" "writes_done", .noat "Boards" "writes_left", .meth "Boards" "many", .meth "Boards" "write", .meth "Boards" "cell", .meth "Boards" "spoil", .meth "Boards" "lose", .meth "Boards" "twins", .exm "Lost" "Lost" true, .keep "Lost"]
def fa : List He.Fa := fa1 ++ (fa2 ++ (fa3 ++ fa4))
def nm1 : List Str := ["_wall", "SIGNS", "number_of", "sign_of", "is_text", "numbers_of", "StemError", "NoThing", "NoBoards", "Stopped", "Lost", "GREATEST", "MOST_SIGNS", "MOST_THINGS", "MOST_DEEP", "is_number", "words_of", "text_at", "thing_at", "thing_of", "NAMED", "MOST_NAMED", "MOST_PIECE", "MOST_TAGS", "MOST_LEVEL", "MOST_ENTRIES", "MOST_CELLS", "BY", "TURN", "is_name"]
def nm2 : List Str := ["is_tag", "is_row", "is_entry", "is_folder", "is_block", "told_of", "sum_of", "PRIME", "mark_of", "sealed", "unsealed", "lay", "thing_in", "copy_on", "right_copies", "fetched", "LEAST", "MOST", "Boards", "_law_cell_at", "_law_numbers", "_law_signs", "_law_tag", "_law_name", "_law_block", "_law_told", "_law_sum", "_law_laid", "_law_spoilt", "_law_is_lost", "_law_all_told"]
def names : List Str := nm1 ++ nm2
/-- Lost: its class as the written part has it -/
def oexB (K : PySem.W.Frag) (C : Addr) : Bool := match K.lookup C with
  | some ⟨.type "type", _, .cls cd, sl⟩ => (match cd.mro, sl.toList with
    | .ref C' :: bm, [_, _, _, _, some (.builtin n), _] => C' == C && (n == "ValueError.__new__" && (!cd.hasDel && (cd.hasDict && PySem.HandSPX.refsVE bm)))
    | _, _ => false)
  | _ => false
def exL (K : PySem.W.Frag) : Bool := oexB K (He.ga K "Lost") && (He.eqO (PySem.W.findIn K (.ref (He.ga K "Lost")) "__setattr__") (some (some (.builtin "object.__setattr__"))) && (decide (PySem.W.subIn K (.ref (He.ga K "Lost")) (.type "BaseException") = some true) &&
  (decide (PySem.W.typeIn K (.ref (He.ga K "Lost")) = some (.type "type")) && (He.eqO (PySem.W.findIn K (.ref (He.ga K "Lost")) "number") (some none) && (He.eqO (PySem.W.findIn K (.ref (He.ga K "Lost")) "__init__") (some (some (.ref (He.ma K (He.ga K "Lost") "__init__")))) &&
  (decide (PySem.W.typeIn K (.ref (He.ma K (He.ga K "Lost") "__init__")) = some (.type "function")) && (PySem.W.hasDictIn K (He.ga K "Lost") && (He.eqO (PySem.W.findIn K (.ref (He.ga K "Lost")) "__getattribute__") (some (some (.builtin "BaseException.__getattribute__"))) &&
  (He.eqO (PySem.W.findIn K (.ref (He.ga K "Lost")) "__getattr__") (some none) && PySem.W.isClsIn K (He.ga K "Lost"))))))))))
abbrev R : PySem.W.OpenRow := PySem.W.OpenLaw.row PySem.Challenge.rw_stemshelf_k20_whole_one_copy_is_enough
abbrev hk : PySem.W.Hook := He.hookX 5 fa fn [] [] exL
def ob (s : PySem.W.SharedT) : He.AlX := He.obsX 5 fa fn [] [] exL (HandSHeadRun.getT s)
theorem ob_eq (s : PySem.W.SharedT) : ob s = hk.obs s.abs := He.obsX_eq (HandSHeadRun.getT_eq s)
theorem run (w : World) : HandSHeadRun.RunEq R (PySem.W.view R.prog [69]) hk ob 4000 names w := by
  intro os
  kernel_rfl
end Sk

set_option Elab.async false
set_option linter.all false
set_option maxRecDepth 100000
set_option maxHeartbeats 4000000
namespace Sk
open PySem PySem.Spec PyProof.Rows L2
/-! ### things: data, their words, how they stand in the heap -/
inductive Th where
  | n (i : Int)
  | s (z : Str)
  | t (l : List Th)
def sgL : List Nat := tSIGNS.cps.toList
def nmL : List Nat := tNAMED.cps.toList
def nums (z : Str) : List Int := z.cps.toList.map fun c => ((sgL.idxOf c : Nat) : Int)
mutual
def words : Th → List Int
  | .n i => [0, i]
  | .s z => 1 :: (z.length : Int) :: nums z
  | .t l => 2 :: (l.length : Int) :: wordsAll l
def wordsAll : List Th → List Int
  | [] => []
  | d :: r => words d ++ wordsAll r
end
/-- a thing, at most k deep -/
def okT : Nat → Th → Prop
  | 0, _ => False
  | _ + 1, .n i => 0 ≤ i ∧ i ≤ 999999999
  | _ + 1, .s z => z.length ≤ 400 ∧ ∀ c ∈ z.cps.toList, c ∈ sgL
  | k + 1, .t l => l.length ≤ 100 ∧ ∀ d ∈ l, okT k d
mutual
def Rp (H : Hp) : Th → V → Prop
  | .n i, v => v = .int i
  | .s z, v => v = .str z
  | .t l, v => ∃ a xs, v = .ref a ∧ H a = some (.tup xs) ∧ RpAll H l xs
def RpAll (H : Hp) : List Th → List V → Prop
  | [], xs => xs = []
  | d :: r, xs => ∃ v ys, xs = v :: ys ∧ Rp H d v ∧ RpAll H r ys
end
/-- the tuples stay -/
def Tups (H H' : Hp) : Prop := ∀ a xs, H a = some (.tup xs) → H' a = some (.tup xs)
theorem Tups.of {H H' : Hp} (s : Same H H') : Tups H H' := fun a xs h => s a _ h
theorem Tups.refl (H : Hp) : Tups H H := fun _ _ h => h
theorem Tups.trans {H H1 H2 : Hp} (a : Tups H H1) (b : Tups H1 H2) : Tups H H2 := fun c o h => b c o (a c o h)
mutual
theorem Rp.mono {H H' : Hp} (k : Tups H H') : ∀ (d : Th) (v : V), Rp H d v → Rp H' d v
  | .n _, _, h => h
  | .s _, _, h => h
  | .t l, v, h => by
    obtain ⟨a, xs, e, ha, hr⟩ := (show ∃ a xs, v = .ref a ∧ H a = some (.tup xs) ∧ RpAll H l xs from h)
    exact ⟨a, xs, e, k _ _ ha, RpAll.mono k l xs hr⟩
theorem RpAll.mono {H H' : Hp} (k : Tups H H') : ∀ (l : List Th) (xs : List V), RpAll H l xs → RpAll H' l xs
  | [], _, h => h
  | d :: r, xs, h => by
    obtain ⟨v, ys, e, h1, h2⟩ := (show ∃ v ys, xs = v :: ys ∧ Rp H d v ∧ RpAll H r ys from h)
    exact ⟨v, ys, e, Rp.mono k d v h1, RpAll.mono k r ys h2⟩
end
theorem RpAll.length {H : Hp} : ∀ {l : List Th} {xs : List V}, RpAll H l xs → xs.length = l.length
  | [], _, h => by
    have e : _ = [] := h
    rw [e]
    all_goals rfl
  | _ :: r, xs, h => by
    obtain ⟨v, ys, e, _, h2⟩ := h
    have q := RpAll.length h2
    rw [e, List.length_cons, List.length_cons, q]
theorem RpAll.get {H : Hp} : ∀ {l : List Th} {xs : List V} {i : Nat} {x : V}, RpAll H l xs → xs[i]? = some x → ∃ d, l[i]? = some d ∧ Rp H d x
  | [], _, _, _, h, e => by
    have z : _ = [] := h
    rw [z] at e
    cases e
  | d :: r, xs, 0, x, h, e => by
    obtain ⟨v, ys, ex, h1, h2⟩ := h
    rw [ex] at e
    obtain rfl : v = x := Option.some.inj e
    exact ⟨d, rfl, h1⟩
  | d :: r, xs, i + 1, x, h, e => by
    obtain ⟨v, ys, ex, h1, h2⟩ := h
    rw [ex] at e
    have q := RpAll.get (i := i) h2 e
    exact q
theorem RpAll.at {H : Hp} : ∀ {l : List Th} {xs : List V} {i : Nat} {d : Th}, RpAll H l xs → l[i]? = some d → ∃ x, xs[i]? = some x ∧ Rp H d x
  | [], _, _, _, h, e => by cases e
  | d :: r, xs, 0, x, h, e => by
    obtain ⟨v, ys, ex, h1, h2⟩ := h
    obtain rfl : d = x := Option.some.inj e
    exact ⟨v, by rw [ex]; rfl, h1⟩
  | d :: r, xs, i + 1, x, h, e => by
    obtain ⟨v, ys, ex, h1, h2⟩ := h
    obtain ⟨y, e1, e2⟩ := RpAll.at (i := i) h2 e
    exact ⟨y, by rw [ex]; exact e1, e2⟩
theorem RpAll.snoc {H : Hp} {d : Th} {x : V} (hx : Rp H d x) : ∀ {l : List Th} {xs : List V}, RpAll H l xs → RpAll H (l ++ [d]) (xs ++ [x])
  | [], xs, h => by
    have e : xs = [] := h
    subst e
    exact ⟨x, [], rfl, hx, rfl⟩
  | c :: r, xs, h => by
    obtain ⟨v, ys, e, h1, h2⟩ := h
    subst e
    exact ⟨v, ys ++ [x], rfl, h1, RpAll.snoc hx h2⟩
theorem okT_mono : ∀ {k k' : Nat} {d : Th}, okT k d → k ≤ k' → okT k' d
  | 0, _, _, h, _ => h.elim
  | k + 1, 0, _, _, l => by omega
  | k + 1, k' + 1, .n _, h, _ => h
  | k + 1, k' + 1, .s _, h, _ => h
  | k + 1, k' + 1, .t l, h, hk => ⟨h.1, fun d hd => okT_mono (h.2 d hd) (by omega)⟩
/-! ### data for comparisons -/
mutual
def py : Th → PyData
  | .n i => .int i
  | .s z => .str z
  | .t l => .tuple (pyAll l)
def pyAll : List Th → List PyData
  | [] => []
  | d :: r => py d :: pyAll r
end
mutual
theorem Rp.dp {K : PySem.W.Frag} {H : Hp} : ∀ (d : Th) (v : V), Rp H d v → Dp K H v (py d)
  | .n i, v, h => by
    obtain rfl : v = .int i := h
    rw [py]
    exact .int i
  | .s z, v, h => by
    obtain rfl : v = .str z := h
    rw [py]
    exact .str z
  | .t l, v, h => by
    obtain ⟨a, xs, e, ha, hr⟩ := (show ∃ a xs, v = .ref a ∧ H a = some (.tup xs) ∧ RpAll H l xs from h)
    subst e
    rw [py]
    exact .tup (SqT.of ha) (RpAll.dp l xs hr)
theorem RpAll.dp {K : PySem.W.Frag} {H : Hp} : ∀ (l : List Th) (xs : List V), RpAll H l xs → DpAll K H xs (pyAll l)
  | [], xs, h => by
    obtain rfl : xs = [] := h
    rw [pyAll]
    exact .nil
  | d :: r, xs, h => by
    obtain ⟨v, ys, e, h1, h2⟩ := (show ∃ v ys, xs = v :: ys ∧ Rp H d v ∧ RpAll H r ys from h)
    subst e
    rw [pyAll]
    exact .cons (Rp.dp d v h1) (RpAll.dp r ys h2)
end
end Sk

set_option Elab.async false
set_option linter.all false
set_option maxRecDepth 100000
set_option maxHeartbeats 4000000
namespace Sk
open PySem PySem.Spec PyProof.Rows L2
section
variable {P : Program} {w : World} {K : PySem.W.Frag} {mg : Str → Option Value} {base : Heap}
/-- a def that lets nothing out -/
theorem ok0 {x qual : Str} {params : Arguments} {body : List Stmt} {scope : Scope} {dvs : List V} {kws : List (Str × V)} {f : Addr} {fd : FuncData} {N ps : List Str} {k : Nat} {sp : Sp} (F : FunD K x qual params body scope dvs kws f fd) (S : FnScope N ps scope)
    (len : ∀ vs H Q E, sp vs H Q E → vs.length = ps.length)
    (hbody : ∀ (cdv : Value) (A : Around) (outer : List Env) (s : Shared) (H : Hp) (vs : List V) (Q : VK) (E : XK), Room k (A.deeper (envOfC qual scope s.heap.objs.size f cdv)) → sp vs H Q E →
      ∃ t, PSs (cxOf CX0 P w K mg base N qual scope f cdv A outer s H E).nox body t ∧ t { nx := fun _ H' => Q .non H', rt := Q } (start N vs) H) : FnOk P w K mg base CX0 (k + 1) f fd ps sp :=
  F.ok S len fun cdv A outer s H vs Q E hr h => by
    obtain ⟨t, a, b⟩ := hbody cdv A outer s H vs Q E hr h
    exact ⟨t, a.nox, b⟩
/-- such a def, by its name -/
theorem has0 {x qual : Str} {params : Arguments} {body : List Stmt} {scope : Scope} {f : Addr} {fd : FuncData} {ps : List Str} {k : Nat} {sp : Sp} {CX : CXT} (F : FunD K x qual params body scope [] [] f fd) (gm : mg x = some (.ref f)) (ok : FnOk P w K mg base CX k f fd ps sp)
    (h : ∀ (kV doc pm : Value) (an : Option Addr) (cdv ct : Value) (us : List Value), us.length = ps.length → bindArgs (PySem.W.fnOf x qual params body scope .none kV doc pm an cdv ct) ⟨us, []⟩ = pure (ps.zip us)) : Has P w K mg base CX k x ps sp :=
  ⟨f, fd, gm, F.kp, F.bindsN h, ok⟩
end
/-! ### isinstance of a built-in type -/
def rIsiB (K : PySem.W.Frag) (n : String) : List V → Hp → VK → Prop := fun xs H Q => ∃ (x : V) (t : String) (b : Bool), xs = [x, .ty n] ∧ TyX K H x (.type t) ∧ kitB t n = some b ∧ Q (.bl b) H
theorem kb_int_int : kitB "int" "int" = some true := by decide +kernel
theorem kb_str_int : kitB "str" "int" = some false := by decide +kernel
theorem kb_tup_int : kitB "tuple" "int" = some false := by decide +kernel
theorem kb_int_bool : kitB "int" "bool" = some false := by decide +kernel
theorem kb_str_str : kitB "str" "str" = some true := by decide +kernel
theorem kb_tup_str : kitB "tuple" "str" = some false := by decide +kernel
theorem kb_tup_tup : kitB "tuple" "tuple" = some true := by decide +kernel
theorem kb_non_tup : kitB "NoneType" "tuple" = some false := by decide +kernel
theorem boot_isi : bootBuiltins "isinstance" = some (.builtin "isinstance") := by decide +kernel
theorem boot_tint : bootBuiltins "int" = some (.type "int") := by decide +kernel
theorem boot_tbool : bootBuiltins "bool" = some (.type "bool") := by decide +kernel
theorem boot_tstr : bootBuiltins "str" = some (.type "str") := by decide +kernel
theorem boot_ttup : bootBuiltins "tuple" = some (.type "tuple") := by decide +kernel
theorem boot_tlist : bootBuiltins "list" = some (.type "list") := by decide +kernel
theorem boot_all : bootBuiltins "all" = some (.builtin "all") := by decide +kernel
theorem boot_sum : bootBuiltins "sum" = some (.builtin "sum") := by decide +kernel
theorem boot_sorted : bootBuiltins "sorted" = some (.builtin "sorted") := by decide +kernel
theorem boot_max : bootBuiltins "max" = some (.builtin "max") := by decide +kernel
section
variable {X : Cx}
theorem call_isiB {n : String} : CallR X (.builtin "isinstance") (rIsiB X.K n) := by
  intro pins s σ H xs us Q I r h
  obtain ⟨x, t, b, rfl, ty, e, q⟩ := h
  exact call_isi pins s σ H [x, .ty n] us Q I r ⟨x, .ty n, .type t, .type n, b, rfl, .ty n, ty, kit_ty e, q⟩
/-- isinstance(e, T) -/
theorem pe_isi {e : Expr} {te : TE} {T : Str} {n : String} {p p2 pos : Pos} (hm : X.mg "isinstance" = none) (hT : X.mg T = none) (hv : bootBuiltins T = some (.type n)) (he : PE X e te) (hg : Gl X "isinstance" := by rfl) (hgT : Gl X T := by rfl)
    (hnT : T ≠ "__name__" := by decide) (hdT : (T == ("__debug__" : Str)) = false := by decide)
    (h1 : starEach [e, .Name T p2] X.env = (false, eval e X.env) :: starEach [.Name T p2] X.env := by rfl) (h2 : starEach [.Name T p2] X.env = (false, eval (.Name T p2) X.env) :: starEach [] X.env := by rfl)
    (h3 : (backTo pos (starEach [.Name T p2] X.env)).any (·.1) = false := by rfl) :
    PE X (.Call (.Name "isinstance" p) [e, .Name T p2] [] pos) (tCB (rIsiB X.K n) (tCons te (tCons (tC (.ty n)) tNil))) :=
  pe_callB call_isiB hg hm boot_isi (pa_cons he (pa_cons (pe_bltn hgT hT hv rfl hnT hdT) pa_nil h2) h1) (by decide) (by decide) h1 h3
end
/-! ### comprehensions that leave what was there -/
section
variable {J : It} {n : Nat} {G : Hp → Prop} {Y : Nat → Hp → V → Hp → Prop}
theorem range_snoc {α : Type} (f : Nat → α) (i : Nat) : (List.range (i + 1)).map f = (List.range i).map f ++ [f i] := by
  rw [List.range_succ, List.map_append]
  rfl
/-- [e for ..]: the i-th is f i -/
theorem lc_pure (w : Walk J n G Y) {g : TG} {te : TE} {vs : List Nat} {σ : L2.St} {H1 : Hp} {D : Addr} {Qd : Hp → Prop} (f : Nat → V) (hD : H1 D = none) (hn : n ≤ sizeLine) (hG : ∀ H, Same H1 H → G H)
    (hs : ∀ (i : Nat) (x : V) (H H' : Hp) (k : V → Hp → Prop), i < n → Same H1 H → Y i H x H' → (∀ H4, Same H H4 → k (f i) H4) → g x (wipe σ vs) H' fun σ2 H2 => wipe σ2 vs = wipe σ vs ∧ te σ2 H2 k)
    (hd : ∀ H, Same H1 H → H D = some (.lst ((List.range n).map f)) → Qd H) :
    ∃ W : Nat → Nat → Hp → Prop, (∃ m, W 0 m (upd H1 D (.lst []))) ∧ ∀ i m H, W i m H →
      (J.stop i H ∧ Qd H) ∨ (J.go i H ∧ ∃ Nx : Hp → Prop, (∀ H', Nx H' → ∃ m', m' < m ∧ W (i + 1) m' H') ∧ ∀ x H', J.yld i H x H' → g x (wipe σ vs) H' fun σ2 H2 => wipe σ2 vs = wipe σ vs ∧ tYes σ2 H2 fun b H3 =>
        if b = true then te σ2 H3 fun y H4 => ∃ acc, H4 D = some (.lst acc) ∧ acc.length < sizeLine ∧ Nx (upd H4 D (.lst (acc ++ [y]))) else Nx H3) := by
  have ne : ∀ {b : Addr} {o : HO}, H1 b = some o → b ≠ D := fun e => ne_of_none e hD
  refine lc_it w (fun i H => Same H1 H ∧ H D = some (.lst ((List.range i).map f))) ⟨fun b o e => by rw [upd_ne (ne e)]; exact e, upd_same⟩ (fun i H _ p => hG H p.1) (fun i x H H' hi p y => ?_) fun H p => hd H p.1 p.2
  have z := hs i x H H' (fun y H4 => ∃ acc, H4 D = some (.lst acc) ∧ acc.length < sizeLine ∧ (Same H1 (upd H4 D (.lst (acc ++ [y]))) ∧ (upd H4 D (.lst (acc ++ [y]))) D = some (.lst ((List.range (i + 1)).map f)))) hi p.1 y fun H4 s4 =>
    ⟨_, s4 _ _ p.2, by rw [List.length_map, List.length_range]; omega, fun b o e => by rw [upd_ne (ne e)]; exact s4 _ _ (p.1 _ _ e), by rw [upd_same, range_snoc]⟩
  exact z
end
theorem map_range {α β : Type} (l : List α) (g : α → β) (f : Nat → β) (h : ∀ i x, l[i]? = some x → f i = g x) : (List.range l.length).map f = l.map g := by
  apply List.ext_getElem?
  intro i
  rw [List.getElem?_map, List.getElem?_map]
  by_cases hi : i < l.length
  · have e : l[i]? = some l[i] := List.getElem?_eq_getElem hi
    rw [e, List.getElem?_range hi]
    exact congrArg some (h i _ e)
  · rw [List.getElem?_eq_none (by simpa using hi), List.getElem?_eq_none (by simpa using hi)]
    rfl
end Sk

set_option Elab.async false
set_option linter.all false
set_option maxRecDepth 100000
set_option maxHeartbeats 4000000
namespace Sk
open PySem PySem.Spec PyProof.Rows L2
/-! ### the promises -/
/-- number_of(sign) -/
def sp_number_of : Sp := fun vs H Q _ => ∃ c : Nat, vs = [.str ⟨#[c]⟩] ∧ c ∈ sgL ∧ Q (.int (sgL.idxOf c : Nat)) H
/-- sign_of(number) -/
def sp_sign_of : Sp := fun vs H Q _ => ∃ (i c : Nat), vs = [.int i] ∧ sgL[i]? = some c ∧ Q (.str ⟨#[c]⟩) H
/-- numbers_of(text) -/
def sp_numbers_of : Sp := fun vs H Q _ => ∃ z : Str, vs = [.str z] ∧ z.length ≤ 1000 ∧ (∀ c ∈ z.cps.toList, c ∈ sgL) ∧ ∀ H' p, Same H H' → H p = none → H' p = some (.lst ((nums z).map V.int)) → Q (.ref p) H'
/-- is_text(thing, most) of a text -/
def sp_is_text : Sp := fun vs H Q _ => ∃ (z : Str) (m : Int), vs = [.str z, .int m] ∧ z.length ≤ 1000 ∧ (z.length : Int) ≤ m ∧ (∀ c ∈ z.cps.toList, c ∈ sgL) ∧ ∀ H', Same H H' → Q (.bl true) H'
/-- is_number(thing) of a number within the bounds -/
def sp_is_number : Sp := fun vs H Q _ => ∃ i : Int, vs = [.int i] ∧ 0 ≤ i ∧ i ≤ 999999999 ∧ Q (.bl true) H
/-- words_of(thing), at most k deep -/
def sp_words_of (k : Nat) : Sp := fun vs H Q _ => ∃ (d : Th) (v : V), vs = [v] ∧ Rp H d v ∧ okT k d ∧ (words d).length ≤ 100000 ∧ ∀ H' p, Same H H' → H p = none → H' p = some (.lst ((words d).map V.int)) → Q (.ref p) H'
/-- text_at(words, at, many) where the words are a text's -/
def sp_text_at : Sp := fun vs H Q _ => ∃ (L : Addr) (ws : List Int) (a : Nat) (ai m : Int) (z : Str), vs = [.ref L, .int ai, .int m] ∧ ai = a ∧ m = z.length ∧ H L = some (.lst (ws.map V.int)) ∧ a + z.length ≤ ws.length ∧ (ws.drop a).take z.length = nums z ∧
  z.length ≤ 400 ∧ (∀ c ∈ z.cps.toList, c ∈ sgL) ∧ ∀ H', Same H H' → Q (.str z) H'
/-- thing_at(words, at, k) where the words of d stand there, d at most k deep -/
def sp_thing_at (k : Nat) : Sp := fun vs H Q _ => ∃ (L : Addr) (ws rest : List Int) (a : Nat) (ai ki : Int) (d : Th), vs = [.ref L, .int ai, .int ki] ∧ ai = a ∧ ki = k ∧ H L = some (.lst (ws.map V.int)) ∧ ws.length ≤ 100000 ∧ okT k d ∧ ws.drop a = words d ++ rest ∧
  ∀ H' p v, Same H H' → H' p = some (.tup [v, .int ((a + (words d).length : Nat) : Int)]) → Rp H' d v → Q (.ref p) H'
/-- thing_of(words) of a thing's words -/
def sp_thing_of : Sp := fun vs H Q _ => ∃ (L : Addr) (d : Th), vs = [.ref L] ∧ H L = some (.lst ((words d).map V.int)) ∧ (words d).length ≤ 100000 ∧ okT 8 d ∧ ∀ H' v, Same H H' → Rp H' d v → Q v H'
/-! ### lemmas about words -/
theorem wordsAll_app : ∀ (l m : List Th), wordsAll (l ++ m) = wordsAll l ++ wordsAll m
  | [], m => rfl
  | d :: r, m => by
    show wordsAll (d :: (r ++ m)) = _
    rw [wordsAll, wordsAll_app r m, wordsAll, List.append_assoc]
theorem wordsAll_one (d : Th) : wordsAll [d] = words d := by
  rw [wordsAll, wordsAll, List.append_nil]
theorem take_snoc {α : Type} {l : List α} {i : Nat} {x : α} (h : l[i]? = some x) : l.take (i + 1) = l.take i ++ [x] := by
  rw [List.take_add_one, h]
  rfl
theorem wordsAll_take_le (l : List Th) (i : Nat) : (wordsAll (l.take i)).length ≤ (wordsAll l).length := by
  have e : wordsAll l = wordsAll (l.take i) ++ wordsAll (l.drop i) := by rw [← wordsAll_app, List.take_append_drop]
  rw [e, List.length_append]
  omega
theorem sigLE : (100000 : Nat) ≤ sizeLine := by decide
theorem sgL_len : sgL.length = 94 := by decide +kernel
theorem sgL_lt : ∀ c ∈ sgL, sgL.idxOf c < 94 := fun c hc => by
  have h := List.idxOf_lt_length_of_mem hc
  rw [sgL_len] at h
  exact h
theorem nums_len (z : Str) : (nums z).length = z.length := by
  unfold nums
  rw [List.length_map]
  exact Array.length_toList
theorem iteD {c A B : Prop} [Decidable c] (h : c) (a : A) : if decide c = true then A else B := by
  rw [decide_eq_true h]
  exact iteT a
theorem iteDn {c A B : Prop} [Decidable c] (h : ¬ c) (b : B) : if decide c = true then A else B := by
  rw [decide_eq_false h]
  exact iteF b
/-- a call's answer that is known to be true -/
theorem ret_dec {c : Prop} [Decidable c] {Q : VK} {H : Hp} (h : c) (q : Q (.bl true) H) : Q (.bl (decide c)) H := by
  rw [decide_eq_true h]
  exact q
end Sk

set_option Elab.async false
set_option linter.all false
set_option maxRecDepth 100000
set_option maxHeartbeats 4000000
namespace Sk
open PySem PySem.Spec PyProof.Rows L2
theorem sgL_occ : ∀ c ∈ sgL, Builtin.Str.occurrences tSIGNS ⟨#[c]⟩ 0 tSIGNS.length 1 = [sgL.idxOf c] := by decide +kernel
end Sk

set_option Elab.async false
set_option linter.all false
set_option maxRecDepth 100000
set_option maxHeartbeats 4000000
namespace Sk
open PySem PySem.Spec PyProof.Rows L2
/-! ### blocks -/
abbrev Tg := Int × Int × Int
def tgT (g : Tg) : Th := .t [.n g.1, .n g.2.1, .n g.2.2]
def okG (g : Tg) : Prop := 1 ≤ g.1 ∧ g.1 ≤ 999999 ∧ 0 ≤ g.2.1 ∧ g.2.1 ≤ 999999999 ∧ 0 ≤ g.2.2 ∧ g.2.2 ≤ 996
def okN (z : Str) : Prop := 1 ≤ z.length ∧ z.length ≤ 8 ∧ ∀ c ∈ z.cps.toList, c ∈ nmL
abbrev En := Str × Int × Tg
def enT (e : En) : Th := .t [.s e.1, .n e.2.1, tgT e.2.2]
def okE (e : En) : Prop := okN e.1 ∧ 1 ≤ e.2.1 ∧ e.2.1 ≤ 2 ∧ okG e.2.2
inductive Blk where
  | piece (z : Str)
  | row (lv : Int) (gs : List Tg)
  | folder (es : List En)
def Blk.th : Blk → Th
  | .piece z => .t [.n 0, .s z]
  | .row lv gs => .t [.n 1, .n lv, .t (gs.map tgT)]
  | .folder es => .t [.n 2, .t (es.map enT)]
def Blk.ok : Blk → Prop
  | .piece z => 1 ≤ z.length ∧ z.length ≤ 8 ∧ ∀ c ∈ z.cps.toList, c ∈ sgL
  | .row lv gs => 1 ≤ lv ∧ lv ≤ 9 ∧ gs.length ≤ 8 ∧ (gs.length = 0 → lv ≤ 1) ∧ ∀ g ∈ gs, okG g
  | .folder es => es.length ≤ 16 ∧ (∀ e ∈ es, okE e) ∧ ∀ (i : Nat) (a b : En), es[i]? = some a → es[i + 1]? = some b → a.1.cps.toList < b.1.cps.toList
def enTold (e : En) : List Int := nums e.1 ++ [e.2.1, e.2.2.2.2]
def Blk.kind : Blk → Int
  | .piece _ => 0
  | .row _ _ => 1
  | .folder _ => 2
def Blk.told : Blk → List Int
  | .piece z => nums z
  | .row lv gs => lv :: gs.map fun g => g.2.2
  | .folder es => es.flatMap enTold
def turnS (f n : Int) : Int := (31 * f + n + 1) % 997
def Blk.sum (b : Blk) : Int := b.told.foldl turnS (b.kind + 1)
theorem nm_sg : ∀ c ∈ nmL, c ∈ sgL := by decide +kernel
theorem okN_sg {z : Str} (h : okN z) : ∀ c ∈ z.cps.toList, c ∈ sgL := fun c hc => nm_sg c (h.2.2 c hc)
theorem sum_rng (l : List Int) : ∀ f : Int, l ≠ [] → 0 ≤ l.foldl turnS f ∧ l.foldl turnS f ≤ 996 := by
  induction l with
  | nil => intro f h; exact absurd rfl h
  | cons n r ih =>
    intro f _
    rw [List.foldl_cons]
    by_cases hr : r = []
    · subst hr
      rw [List.foldl_nil]
      unfold turnS
      omega
    · exact ih _ hr
theorem sum_rng' (l : List Int) (f : Int) (h0 : 0 ≤ f) (h1 : f ≤ 996) : 0 ≤ l.foldl turnS f ∧ l.foldl turnS f ≤ 996 := by
  by_cases h : l = []
  · subst h
    exact ⟨h0, h1⟩
  · exact sum_rng l f h
theorem Blk.sum_ok (b : Blk) : 0 ≤ b.sum ∧ b.sum ≤ 996 := by
  unfold Blk.sum
  apply sum_rng' <;> cases b <;> simp [Blk.kind]
/-! ### words of blocks: deep, long -/
theorem tgT_ok {g : Tg} (h : okG g) (k : Nat) : okT (k + 2) (tgT g) := by
  obtain ⟨h1, h2, h3, h4, h5, h6⟩ := h
  refine ⟨by simp, fun d hd => ?_⟩
  simp only [List.mem_cons, List.not_mem_nil, or_false] at hd
  rcases hd with rfl | rfl | rfl
  · exact ⟨by omega, by omega⟩
  · exact ⟨by omega, by omega⟩
  · exact ⟨by omega, by omega⟩
theorem enT_ok {e : En} (h : okE e) (k : Nat) : okT (k + 3) (enT e) := by
  obtain ⟨hn, h1, h2, hg⟩ := h
  refine ⟨by simp, fun d hd => ?_⟩
  simp only [List.mem_cons, List.not_mem_nil, or_false] at hd
  rcases hd with rfl | rfl | rfl
  · exact ⟨by have := hn.2.1; omega, okN_sg hn⟩
  · exact ⟨by omega, by omega⟩
  · exact tgT_ok hg k
theorem Blk.th_ok {b : Blk} (h : b.ok) (k : Nat) : okT (k + 5) b.th := by
  cases b with
  | piece z =>
    obtain ⟨h1, h2, h3⟩ := h
    refine ⟨by simp, fun d hd => ?_⟩
    simp only [List.mem_cons, List.not_mem_nil, or_false] at hd
    rcases hd with rfl | rfl
    · exact ⟨by omega, by omega⟩
    · exact ⟨by omega, h3⟩
  | row lv gs =>
    obtain ⟨h1, h2, h3, h4, h5⟩ := h
    refine ⟨by simp, fun d hd => ?_⟩
    simp only [List.mem_cons, List.not_mem_nil, or_false] at hd
    rcases hd with rfl | rfl | rfl
    · exact ⟨by omega, by omega⟩
    · exact ⟨by omega, by omega⟩
    · refine ⟨by rw [List.length_map]; omega, fun d hd => ?_⟩
      obtain ⟨g, hg, rfl⟩ := List.mem_map.mp hd
      exact tgT_ok (h5 g hg) (k + 1)
  | folder es =>
    obtain ⟨h1, h2, h3⟩ := h
    refine ⟨by simp, fun d hd => ?_⟩
    simp only [List.mem_cons, List.not_mem_nil, or_false] at hd
    rcases hd with rfl | rfl
    · exact ⟨by omega, by omega⟩
    · refine ⟨by rw [List.length_map]; omega, fun d hd => ?_⟩
      obtain ⟨e, he, rfl⟩ := List.mem_map.mp hd
      exact enT_ok (h2 e he) k
theorem wordsAll_len {α : Type} (g : α → Th) (m : Nat) : ∀ l : List α, (∀ x ∈ l, (words (g x)).length ≤ m) → (wordsAll (l.map g)).length ≤ m * l.length
  | [], _ => by simp [wordsAll]
  | x :: r, h => by
    have h1 := h x List.mem_cons_self
    have h2 := wordsAll_len g m r fun y hy => h y (List.mem_cons_of_mem _ hy)
    rw [List.map_cons, wordsAll, List.length_append, List.length_cons, Nat.mul_succ]
    omega
theorem tgT_len (g : Tg) : (words (tgT g)).length = 8 := by
  simp [tgT, words, wordsAll]
theorem enT_len {e : En} (h : okE e) : (words (enT e)).length ≤ 22 := by
  have := h.1.2.1
  simp only [enT, words, wordsAll, tgT, List.length_cons, List.length_append, List.length_nil, nums_len]
  omega
theorem Blk.th_len {b : Blk} (h : b.ok) : (words b.th).length ≤ 400 := by
  cases b with
  | piece z =>
    have := h.2.1
    simp only [Blk.th, words, wordsAll, List.length_cons, List.length_append, List.length_nil, nums_len]
    omega
  | row lv gs =>
    have h1 := h.2.2.1
    have h2 := wordsAll_len tgT 8 gs fun g _ => Nat.le_of_eq (tgT_len g)
    simp only [Blk.th, words, wordsAll, List.length_cons, List.length_append, List.length_nil]
    omega
  | folder es =>
    have h1 := h.1
    have h2 := wordsAll_len enT 22 es fun e he => enT_len (h.2.1 e he)
    simp only [Blk.th, words, wordsAll, List.length_cons, List.length_append, List.length_nil]
    omega
/-- what a cell holds of a block: (number, birth, block) -/
def cellT (n b : Int) (k : Blk) : Th := .t [.n n, .n b, k.th]
theorem cellT_ok {n b : Int} {k : Blk} (h1 : 0 ≤ n ∧ n ≤ 999999999) (h2 : 0 ≤ b ∧ b ≤ 999999999) (hk : k.ok) : okT 8 (cellT n b k) := by
  refine ⟨by simp, fun d hd => ?_⟩
  simp only [List.mem_cons, List.not_mem_nil, or_false] at hd
  rcases hd with rfl | rfl | rfl
  · exact h1
  · exact h2
  · exact Blk.th_ok hk 2
theorem cellT_len {n b : Int} {k : Blk} (hk : k.ok) : (words (cellT n b k)).length ≤ 410 := by
  have := Blk.th_len hk
  simp only [cellT, words, wordsAll, List.length_cons, List.length_append, List.length_nil]
  omega
/-! ### shaped data -/
theorem sg_small : ∀ c ∈ sgL, c < 1114112 := by decide +kernel
mutual
theorem py_lay : ∀ (k : Nat) (d : Th), okT k d → (py d).canLay0 = true
  | 0, _, h => h.elim
  | k + 1, .n i, h => by rw [py]; rfl
  | k + 1, .s z, h => by
    rw [py]
    show PyData.strOk z = true
    unfold PyData.strOk
    rw [Array.all_eq_true']
    intro c hc
    exact decide_eq_true (sg_small c (h.2 c (Array.mem_toList_iff.mpr hc)))
  | k + 1, .t l, h => by
    rw [py]
    exact py_layAll k l h.2
theorem py_layAll : ∀ (k : Nat) (l : List Th), (∀ d ∈ l, okT k d) → PyData.canLayAll0 (pyAll l) = true
  | _, [], _ => by rw [pyAll]; rfl
  | k, d :: r, h => by
    rw [pyAll, PyData.canLayAll0, py_lay k d (h d List.mem_cons_self), py_layAll k r fun x hx => h x (List.mem_cons_of_mem _ hx)]
    rfl
end
mutual
theorem py_deep : ∀ (k : Nat) (d : Th), okT k d → (py d).depth ≤ k
  | 0, _, h => h.elim
  | k + 1, .n i, h => by rw [py]; exact Nat.zero_le _
  | k + 1, .s z, h => by rw [py]; exact Nat.zero_le _
  | k + 1, .t l, h => by
    rw [py, PyData.depth]
    have := py_deepAll k l h.2
    omega
theorem py_deepAll : ∀ (k : Nat) (l : List Th), (∀ d ∈ l, okT k d) → PyData.depthAll (pyAll l) ≤ k
  | _, [], _ => by rw [pyAll]; exact Nat.zero_le _
  | k, d :: r, h => by
    rw [pyAll, PyData.depthAll]
    have h1 := py_deep k d (h d List.mem_cons_self)
    have h2 := py_deepAll k r fun x hx => h x (List.mem_cons_of_mem _ hx)
    omega
end
theorem py_shaped {k : Nat} {d : Th} (h : okT k d) (hk : k ≤ 64) : SeqAt.shaped (py d) = true := by
  unfold SeqAt.shaped
  rw [py_lay k d h, decide_eq_true (Nat.le_trans (py_deep k d h) hk)]
  rfl
theorem py_refl {k : Nat} {d : Th} (h : okT k d) : PyData.eqv (py d) (py d) = true := SeqAt.eqv_refl _ (py_lay k d h)
end Sk

set_option Elab.async false
set_option linter.all false
set_option maxRecDepth 100000
set_option maxHeartbeats 4000000
namespace Sk
open PySem PySem.Spec PyProof.Rows L2
/-! ### the promises about blocks -/
/-- is_name(thing) of a name -/
def sp_is_name : Sp := fun vs H Q _ => ∃ z : Str, vs = [.str z] ∧ okN z ∧ ∀ H', Same H H' → Q (.bl true) H'
/-- is_tag(thing) of a tag -/
def sp_is_tag : Sp := fun vs H Q _ => ∃ (g : Tg) (v : V), vs = [v] ∧ Rp H (tgT g) v ∧ okG g ∧ ∀ H', Same H H' → Q (.bl true) H'
/-- is_row(thing) of a row -/
def sp_is_row : Sp := fun vs H Q _ => ∃ (lv : Int) (gs : List Tg) (v : V), vs = [v] ∧ Rp H (Blk.row lv gs).th v ∧ (Blk.row lv gs).ok ∧ ∀ H', Same H H' → Q (.bl true) H'
/-- is_entry(thing) of an entry -/
def sp_is_entry : Sp := fun vs H Q _ => ∃ (e : En) (v : V), vs = [v] ∧ Rp H (enT e) v ∧ okE e ∧ ∀ H', Same H H' → Q (.bl true) H'
/-- is_folder(entries) of a folder's entries -/
def sp_is_folder : Sp := fun vs H Q _ => ∃ (es : List En) (v : V), vs = [v] ∧ Rp H (.t (es.map enT)) v ∧ (Blk.folder es).ok ∧ ∀ H', Same H H' → Q (.bl true) H'
/-- is_block(thing) of a block -/
def sp_is_block : Sp := fun vs H Q _ => ∃ (b : Blk) (v : V), vs = [v] ∧ Rp H b.th v ∧ b.ok ∧ ∀ H', Same H H' → Q (.bl true) H'
/-- told_of(block) -/
def sp_told_of : Sp := fun vs H Q _ => ∃ (b : Blk) (v : V), vs = [v] ∧ Rp H b.th v ∧ b.ok ∧ ∀ H' p, Same H H' → H p = none → H' p = some (.lst (b.told.map V.int)) → Q (.ref p) H'
/-- sum_of(block) -/
def sp_sum_of : Sp := fun vs H Q _ => ∃ (b : Blk) (v : V), vs = [v] ∧ Rp H b.th v ∧ b.ok ∧ ∀ H', Same H H' → Q (.int b.sum) H'
/-! ### marks -/
def wsum : Nat → List Int → Int
  | _, [] => 0
  | i, x :: r => ((i : Int) + 1) * x + wsum (i + 1) r
def mark (ws : List Int) : Int := wsum 0 ws % 2147483647
/-- sealed words -/
def sealW (ws : List Int) : List Int := ws ++ [mark ws]
/-- a sound list -/
def sound (r : List Int) : Bool := !r.isEmpty && (r.all fun x => decide (0 ≤ x) && decide (x < 2147483647)) && decide (r.getLast? = some (mark r.dropLast))
/-- mark_of(words) -/
def sp_mark_of : Sp := fun vs H Q _ => ∃ (L : Addr) (ws : List Int), vs = [.ref L] ∧ H L = some (.lst (ws.map V.int)) ∧ ws.length ≤ 200000 ∧ ∀ H', Same H H' → Q (.int (mark ws)) H'
/-- sealed(words) -/
def sp_sealed : Sp := fun vs H Q _ => ∃ (L : Addr) (ws : List Int), vs = [.ref L] ∧ H L = some (.lst (ws.map V.int)) ∧ ws.length ≤ 100000 ∧ ∀ H' p, Same H H' → H p = none → H' p = some (.lst ((sealW ws).map V.int)) → Q (.ref p) H'
/-- unsealed(row) -/
def sp_unsealed : Sp := fun vs H Q _ => ∃ (L : Addr) (r : List Int), vs = [.ref L] ∧ H L = some (.lst (r.map V.int)) ∧ r.length ≤ 150000 ∧
  (sound r = false → ∀ H', Same H H' → Q .non H') ∧ (sound r = true → ∀ H' p, Same H H' → H p = none → H' p = some (.lst (r.dropLast.map V.int)) → Q (.ref p) H')
end Sk

set_option Elab.async false
set_option linter.all false
set_option maxRecDepth 100000
set_option maxHeartbeats 4000000
namespace Sk
open PySem PySem.Spec PyProof.Rows L2
/-! ### blocks as they stand in the heap -/
section
variable {H : Hp} {v : V}
theorem Rp.tg {g : Tg} (h : Rp H (tgT g) v) : ∃ a, v = .ref a ∧ H a = some (.tup [.int g.1, .int g.2.1, .int g.2.2]) := by
  obtain ⟨a, xs, e, ha, v1, y1, e1, h1, v2, y2, e2, h2, v3, y3, e3, h3, h4⟩ := h
  obtain rfl : v1 = _ := h1
  obtain rfl : v2 = _ := h2
  obtain rfl : v3 = _ := h3
  obtain rfl : y3 = [] := h4
  subst e3 e2 e1
  exact ⟨a, e, ha⟩
theorem Rp.en {e : En} (h : Rp H (enT e) v) : ∃ a u, v = .ref a ∧ H a = some (.tup [.str e.1, .int e.2.1, u]) ∧ Rp H (tgT e.2.2) u := by
  obtain ⟨a, xs, e, ha, v1, y1, e1, h1, v2, y2, e2, h2, v3, y3, e3, h3, h4⟩ := h
  obtain rfl : v1 = _ := h1
  obtain rfl : v2 = _ := h2
  obtain rfl : y3 = [] := h4
  subst e3 e2 e1
  exact ⟨a, v3, e, ha, h3⟩
theorem Rp.piece {z : Str} (h : Rp H (Blk.piece z).th v) : ∃ a, v = .ref a ∧ H a = some (.tup [.int 0, .str z]) := by
  obtain ⟨a, xs, e, ha, v1, y1, e1, h1, v2, y2, e2, h2, h4⟩ := h
  obtain rfl : v1 = _ := h1
  obtain rfl : v2 = _ := h2
  obtain rfl : y2 = [] := h4
  subst e2 e1
  exact ⟨a, e, ha⟩
theorem Rp.row {lv : Int} {gs : List Tg} (h : Rp H (Blk.row lv gs).th v) : ∃ a u, v = .ref a ∧ H a = some (.tup [.int 1, .int lv, u]) ∧ Rp H (.t (gs.map tgT)) u := by
  obtain ⟨a, xs, e, ha, v1, y1, e1, h1, v2, y2, e2, h2, v3, y3, e3, h3, h4⟩ := h
  obtain rfl : v1 = _ := h1
  obtain rfl : v2 = _ := h2
  obtain rfl : y3 = [] := h4
  subst e3 e2 e1
  exact ⟨a, v3, e, ha, h3⟩
theorem Rp.folder {es : List En} (h : Rp H (Blk.folder es).th v) : ∃ a u, v = .ref a ∧ H a = some (.tup [.int 2, u]) ∧ Rp H (.t (es.map enT)) u := by
  obtain ⟨a, xs, e, ha, v1, y1, e1, h1, v2, y2, e2, h2, h4⟩ := h
  obtain rfl : v1 = _ := h1
  obtain rfl : y2 = [] := h4
  subst e2 e1
  exact ⟨a, v2, e, ha, h2⟩
theorem Rp.seq {α : Type} {g : α → Th} {l : List α} (h : Rp H (.t (l.map g)) v) : ∃ a xs, v = .ref a ∧ H a = some (.tup xs) ∧ xs.length = l.length ∧ (∀ (i : Nat) (x : V), xs[i]? = some x → ∃ e : α, l[i]? = some e ∧ Rp H (g e) x) ∧ ∀ (i : Nat) (e : α), l[i]? = some e → ∃ x : V, xs[i]? = some x ∧ Rp H (g e) x := by
  obtain ⟨a, xs, e, ha, hx⟩ := h
  refine ⟨a, xs, e, ha, by rw [RpAll.length hx, List.length_map], fun i x hi => ?_, fun i e hi => ?_⟩
  · obtain ⟨d, hd, hr⟩ := RpAll.get hx hi
    rw [List.getElem?_map] at hd
    cases q : l[i]? with
    | none =>
      rw [q] at hd
      cases hd
    | some y =>
      rw [q] at hd
      obtain rfl : g y = d := Option.some.inj hd
      exact ⟨y, rfl, hr⟩
  · exact RpAll.at hx (by rw [List.getElem?_map, hi]; rfl)
theorem Rp.ref {l : List Th} (h : Rp H (.t l) v) : ∃ a xs, v = .ref a ∧ H a = some (.tup xs) ∧ xs.length = l.length := by
  obtain ⟨a, xs, e, ha, hx⟩ := h
  exact ⟨a, xs, e, ha, RpAll.length hx⟩
end
theorem getE {α : Type} {l : List α} {i : Nat} {x : α} (h : l[i]? = some x) : x ∈ l := List.mem_of_getElem? h
end Sk

set_option Elab.async false
set_option linter.all false
set_option maxRecDepth 100000
set_option maxHeartbeats 4000000
namespace Sk
open PySem PySem.Spec PyProof.Rows L2
/-! ### boards: how they stand in the heap -/
structure TxB (K : PySem.W.Frag) (mg : Str → Option Value) (C : Addr) : Prop where
  cl : Cls K C
  nR : NoAttr K C "rows_kept"
  nD : NoAttr K C "writes_done"
  nL : NoAttr K C "writes_left"
  mgC : mg "Boards" = some (.ref C)
def bF (L : Addr) (n : Int) : List (Str × V) := [("rows_kept", .ref L), ("writes_done", .int n), ("writes_left", .non)]
theorem ne_rd : ¬ (("rows_kept" : Str) = "writes_done") := by decide +kernel
theorem ne_dr : ¬ (("writes_done" : Str) = "rows_kept") := by decide +kernel
theorem ne_rl : ¬ (("rows_kept" : Str) = "writes_left") := by decide +kernel
theorem ne_lr : ¬ (("writes_left" : Str) = "rows_kept") := by decide +kernel
theorem ne_dl : ¬ (("writes_done" : Str) = "writes_left") := by decide +kernel
theorem ne_ld : ¬ (("writes_left" : Str) = "writes_done") := by decide +kernel
theorem bF_rows (L : Addr) (n : Int) : (bF L n).lookup ("rows_kept" : Str) = some (.ref L) := by
  unfold bF
  rw [lookup_put, if_pos rfl]
theorem bF_done (L : Addr) (n : Int) : (bF L n).lookup ("writes_done" : Str) = some (.int n) := by
  unfold bF
  rw [lookup_put, if_neg ne_dr, lookup_put, if_pos rfl]
theorem bF_left (L : Addr) (n : Int) : (bF L n).lookup ("writes_left" : Str) = some .non := by
  unfold bF
  rw [lookup_put, if_neg ne_lr, lookup_put, if_neg ne_ld, lookup_put, if_pos rfl]
theorem bF_no (L : Addr) (n : Int) {m : Str} (h1 : ¬ m = "rows_kept") (h2 : ¬ m = "writes_done") (h3 : ¬ m = "writes_left") : (bF L n).lookup m = none := by
  unfold bF
  rw [lookup_put, if_neg h1, lookup_put, if_neg h2, lookup_put, if_neg h3]
  rfl
theorem bF_put (L : Addr) (n k : Int) : putF "writes_done" (.int k) (bF L n) = bF L k := by
  unfold bF
  show (if ("rows_kept" : Str) = "writes_done" then _ else (("rows_kept" : Str), V.ref L) :: (if ("writes_done" : Str) = "writes_done" then (("writes_done" : Str), V.int k) :: _ else _)) = _
  rw [if_neg ne_rd, if_pos rfl]
theorem bF_new (L : Addr) : putF "writes_left" .non (putF "writes_done" (.int 0) (putF "rows_kept" (.ref L) [])) = bF L 0 := by
  unfold bF
  show putF "writes_left" .non (if ("rows_kept" : Str) = "writes_done" then _ else (("rows_kept" : Str), V.ref L) :: [(("writes_done" : Str), V.int 0)]) = _
  rw [if_neg ne_rd]
  show (if ("rows_kept" : Str) = "writes_left" then _ else (("rows_kept" : Str), V.ref L) :: (if ("writes_done" : Str) = "writes_left" then _ else (("writes_done" : Str), V.int 0) :: [(("writes_left" : Str), V.non)])) = _
  rw [if_neg ne_rl, if_neg ne_dl]
/-- a cell's dict entry against its list -/
def CellIs (H : Hp) : Option V → Option (List Int) → Prop
  | none, none => True
  | some v, some ws => ∃ r, v = .ref r ∧ H r = some (.lst (ws.map V.int))
  | _, _ => False
abbrev Bds := Nat → Int → Option (List Int)
/-- m boards stand at p, the i-th's cell n holding B i n, fewer than cap entries each -/
def BdAt (C p : Addr) (m : Nat) (H : Hp) (B : Bds) (cap : Nat) : Prop :=
  ∃ (dx L : Addr) (n : Int) (ds : List Addr), H p = some (.ins C dx (bF L n)) ∧ H L = some (.lst (ds.map V.ref)) ∧ ds.length = m ∧ 2 ≤ m ∧ m ≤ 4 ∧ ds.Nodup ∧
    ∀ (i : Nat) (d : Addr), ds[i]? = some d → ∃ kvs : List (L2.Key × V), H d = some (.dK kvs) ∧ kvs.length ≤ cap ∧ ∀ n : Int, CellIs H (valV kvs (Sum.inl n)) (B i n)
/-- what no deed of the boards touches: tuples, dicts by tuples, what is locked, lists of ints, lists of tuples -/
def Solid (H : Hp) : HO → Prop
  | .tup _ => True
  | .dT _ => True
  | .frz _ _ => True
  | .lst xs => (∃ ns : List Int, xs = ns.map V.int) ∨ ∃ as : List Addr, xs = as.map V.ref ∧ ∀ a ∈ as, ∃ ys, H a = some (.tup ys)
  | _ => False
def SKeep (H H' : Hp) : Prop := ∀ b o, H b = some o → Solid H o → H' b = some o
theorem SKeep.of {H H' : Hp} (s : Same H H') : SKeep H H' := fun b o e _ => s b o e
theorem Solid.mono {H H' : Hp} (k : SKeep H H') {o : HO} (h : Solid H o) : Solid H' o := by
  cases o with
  | tup _ => trivial
  | dT _ => trivial
  | frz _ _ => trivial
  | lst xs =>
    rcases h with h | ⟨as, e, h⟩
    · exact .inl h
    · refine .inr ⟨as, e, fun a ha => ?_⟩
      obtain ⟨ys, q⟩ := h a ha
      exact ⟨ys, k _ _ q trivial⟩
  | dK _ => exact h.elim
  | set _ _ => exact h.elim
  | ins _ _ _ => exact h.elim
  | own _ => exact h.elim
  | xd _ => exact h.elim
  | met _ _ => exact h.elim
  | rng _ _ => exact h.elim
  | tbl _ => exact h.elim
  | ext _ => exact h.elim
theorem SKeep.trans {H H1 H2 : Hp} (a : SKeep H H1) (b : SKeep H1 H2) : SKeep H H2 := fun c o e s => b c o (a c o e s) (s.mono a)
theorem SKeep.tups {H H' : Hp} (k : SKeep H H') : Tups H H' := fun a xs e => k a _ e trivial
theorem SKeep.ints {H H' : Hp} (k : SKeep H H') {a : Addr} {ns : List Int} (e : H a = some (.lst (ns.map V.int))) : H' a = some (.lst (ns.map V.int)) := k a _ e (.inl ⟨ns, rfl⟩)
theorem SKeep.refl (H : Hp) : SKeep H H := fun _ _ e _ => e
theorem SKeep.seq {H H' : Hp} (k : SKeep H H') {K : PySem.W.Frag} {a : Addr} {ns : List Int} (e : SqL K H a (ns.map V.int)) : SqL K H' a (ns.map V.int) := by
  rcases e with (e | ⟨o, e⟩) | e
  · exact .inl (.inl (k.ints e))
  · exact .inl (.inr ⟨o, k _ _ e trivial⟩)
  · exact .inr e
theorem CellIs.mono {H H' : Hp} (k : ∀ (r : Addr) (ws : List Int), H r = some (.lst (ws.map V.int)) → H' r = some (.lst (ws.map V.int))) : ∀ {v : Option V} {c : Option (List Int)}, CellIs H v c → CellIs H' v c
  | none, none, _ => trivial
  | some v, some ws, h => by
    obtain ⟨r, e, h⟩ := h
    exact ⟨r, e, k _ _ h⟩
  | none, some _, h => h.elim
  | some _, none, h => h.elim
theorem BdAt.mono {C p : Addr} {m : Nat} {H H' : Hp} {B : Bds} {cap : Nat} (h : BdAt C p m H B cap) (s : Same H H') : BdAt C p m H' B cap := by
  obtain ⟨dx, L, n, ds, h1, h2, h3, h4, h5, h6, h7⟩ := h
  refine ⟨dx, L, n, ds, s _ _ h1, s _ _ h2, h3, h4, h5, h6, fun i d hd => ?_⟩
  obtain ⟨kvs, e, l, c⟩ := h7 i d hd
  exact ⟨kvs, s _ _ e, l, fun n => (c n).mono fun r ws q => s _ _ q⟩
theorem BdAt.cap {C p : Addr} {m : Nat} {H : Hp} {B : Bds} {cap cap' : Nat} (h : BdAt C p m H B cap) (l : cap ≤ cap') : BdAt C p m H B cap' := by
  obtain ⟨dx, L, n, ds, h1, h2, h3, h4, h5, h6, h7⟩ := h
  refine ⟨dx, L, n, ds, h1, h2, h3, h4, h5, h6, fun i d hd => ?_⟩
  obtain ⟨kvs, e, l2, c⟩ := h7 i d hd
  exact ⟨kvs, e, Nat.le_trans l2 l, c⟩
def bset (B : Bds) (i : Nat) (n : Int) (c : Option (List Int)) : Bds := fun j k => if j = i ∧ k = n then c else B j k
def blose (B : Bds) (i : Nat) : Bds := fun j k => if j = i then none else B j k
theorem valV_drop {κ : Type} [DecidableEq κ] (kvs : List (κ × V)) (k j : κ) : valV (dropK kvs k) j = if j = k then none else valV kvs j := by
  induction kvs with
  | nil => by_cases e : j = k <;> simp [dropK, valV_nil, e]
  | cons p r ih =>
    by_cases e : p.1 = k
    · rw [dropK_pos e, ih]
      by_cases q : j = k
      · rw [if_pos q, if_pos q]
      · rw [if_neg q, if_neg q, valV_neg (fun z => q (z.symm.trans e))]
    · rw [dropK_neg e]
      by_cases q : p.1 = j
      · rw [valV_pos q, if_neg (fun z => e (q.trans z)), valV_pos q]
      · rw [valV_neg q, ih, valV_neg q]
/-! ### the promises of the boards' methods -/
def sp_B_init (C : Addr) : Sp := fun vs H Q _ => ∃ (p dx : Addr) (m : Nat), vs = [.ref p, .int m] ∧ H p = some (.ins C dx []) ∧ 2 ≤ m ∧ m ≤ 4 ∧ ∀ H', (∀ b o, H b = some o → b ≠ p → H' b = some o) → BdAt C p m H' (fun _ _ => none) 0 → Q .non H'
def sp_many (C : Addr) : Sp := fun vs H Q _ => ∃ (p : Addr) (m : Nat) (B : Bds) (cap : Nat), vs = [.ref p] ∧ BdAt C p m H B cap ∧ Q (.int m) H
def sp_twins (C : Addr) : Sp := fun vs H Q _ => ∃ (p : Addr) (n : Int) (m : Nat) (B : Bds) (cap : Nat), vs = [.ref p, .int n] ∧ BdAt C p m H B cap ∧ ∀ H' t, Same H H' → H' t = some (.tup [.int (n % m), .int ((n + 1) % m)]) → Q (.ref t) H'
def sp_cell (C : Addr) : Sp := fun vs H Q _ => ∃ (p : Addr) (i : Nat) (n : Int) (m : Nat) (B : Bds) (cap : Nat), vs = [.ref p, .int i, .int n] ∧ BdAt C p m H B cap ∧ i < m ∧
  (B i n = none → Q .non H) ∧ ∀ ws, B i n = some ws → ∀ H' q, Same H H' → H q = none → H' q = some (.lst (ws.map V.int)) → Q (.ref q) H'
def sp_write (C : Addr) : Sp := fun vs H Q _ => ∃ (p : Addr) (i : Nat) (n : Int) (r : Addr) (ws : List Int) (m : Nat) (B : Bds) (cap : Nat), vs = [.ref p, .int i, .int n, .ref r] ∧ BdAt C p m H B cap ∧ i < m ∧ cap < 1000 ∧ H r = some (.lst (ws.map V.int)) ∧
  ∀ H', BdAt C p m H' (bset B i n (some ws)) (cap + 1) → SKeep H H' → Q .non H'
def sp_spoil (C : Addr) : Sp := fun vs H Q _ => ∃ (p : Addr) (i : Nat) (n : Int) (x : V) (c : Option (List Int)) (m : Nat) (B : Bds) (cap : Nat), vs = [.ref p, .int i, .int n, x] ∧ BdAt C p m H B cap ∧ i < m ∧ cap < 1000 ∧
  ((x = .non ∧ c = none) ∨ ∃ r ws, x = .ref r ∧ c = some ws ∧ H r = some (.lst (ws.map V.int))) ∧ ∀ H', BdAt C p m H' (bset B i n c) (cap + 1) → SKeep H H' → Q .non H'
def sp_lose (C : Addr) : Sp := fun vs H Q _ => ∃ (p : Addr) (i : Nat) (m : Nat) (B : Bds) (cap : Nat), vs = [.ref p, .int i] ∧ BdAt C p m H B cap ∧ i < m ∧ ∀ H', BdAt C p m H' (blose B i) cap → SKeep H H' → Q .non H'
end Sk

set_option Elab.async false
set_option linter.all false
set_option maxRecDepth 100000
set_option maxHeartbeats 4000000
namespace Sk
open PySem PySem.Spec PyProof.Rows L2
/-! ### the words of things are sound behind their mark -/
def inR (x : Int) : Prop := 0 ≤ x ∧ x < 2147483647
mutual
theorem words_rng : ∀ (k : Nat) (d : Th), okT k d → ∀ x ∈ words d, inR x
  | 0, _, h => h.elim
  | k + 1, .n i, h => by
    rw [words]
    intro x hx
    obtain ⟨h1, h2⟩ := (show 0 ≤ i ∧ i ≤ 999999999 from h)
    simp only [List.mem_cons, List.not_mem_nil, or_false] at hx
    unfold inR
    rcases hx with rfl | rfl <;> omega
  | k + 1, .s z, h => by
    rw [words]
    intro x hx
    obtain ⟨h1, h2⟩ := (show z.length ≤ 400 ∧ ∀ c ∈ z.cps.toList, c ∈ sgL from h)
    unfold inR
    rcases List.mem_cons.mp hx with rfl | hx
    · omega
    · rcases List.mem_cons.mp hx with rfl | hx
      · omega
      · unfold nums at hx
        obtain ⟨c, hc, rfl⟩ := List.mem_map.mp hx
        have := sgL_lt c (h2 c hc)
        omega
  | k + 1, .t l, h => by
    rw [words]
    intro x hx
    obtain ⟨h1, h2⟩ := (show l.length ≤ 100 ∧ ∀ d ∈ l, okT k d from h)
    rcases List.mem_cons.mp hx with rfl | hx
    · unfold inR
      omega
    · rcases List.mem_cons.mp hx with rfl | hx
      · unfold inR
        omega
      · exact words_rngAll k l h2 x hx
theorem words_rngAll : ∀ (k : Nat) (l : List Th), (∀ d ∈ l, okT k d) → ∀ x ∈ wordsAll l, inR x
  | _, [], _ => by
    rw [wordsAll]
    intro x hx
    cases hx
  | k, d :: r, h => by
    rw [wordsAll]
    intro x hx
    rcases List.mem_append.mp hx with hx | hx
    · exact words_rng k d (h d List.mem_cons_self) x hx
    · exact words_rngAll k r (fun y hy => h y (List.mem_cons_of_mem _ hy)) x hx
end
theorem mark_rng (ws : List Int) : inR (mark ws) := by
  unfold inR mark
  omega
theorem seal_rng {ws : List Int} (h : ∀ x ∈ ws, inR x) : ∀ x ∈ sealW ws, inR x := fun x hx => by
  rcases List.mem_append.mp hx with hx | hx
  · exact h x hx
  · rw [List.mem_singleton.mp hx]
    exact mark_rng ws
theorem sound_iff (ys : List Int) (y : Int) : sound (ys ++ [y]) = true ↔ (∀ x ∈ ys ++ [y], inR x) ∧ y = mark ys := by
  unfold sound
  have e1 : (ys ++ [y]).isEmpty = false := by cases ys <;> rfl
  rw [e1, List.dropLast_concat, List.getLast?_concat]
  simp only [Bool.not_false, Bool.true_and, Option.some.injEq, Bool.and_eq_true, List.all_eq_true, decide_eq_true_eq]
  rfl
theorem sound_seal {ws : List Int} (h : ∀ x ∈ ws, inR x) : sound (sealW ws) = true := (sound_iff ws (mark ws)).mpr ⟨seal_rng h, rfl⟩
theorem seal_drop (ws : List Int) : (sealW ws).dropLast = ws := List.dropLast_concat
theorem seal_len (ws : List Int) : (sealW ws).length = ws.length + 1 := by
  unfold sealW
  rw [List.length_append]
  rfl
/-! ### one changed word is seen -/
theorem wsum_set : ∀ (i : Nat) (ws : List Int) (j : Nat) (v : Int) (hj : j < ws.length), wsum i (ws.set j v) = wsum i ws + (((i + j : Nat) : Int) + 1) * (v - ws[j])
  | i, [], j, v, hj => by simp at hj
  | i, x :: r, 0, v, hj => by
    show wsum i (v :: r) = wsum i (x :: r) + ((i : Int) + 1) * (v - x)
    rw [wsum, wsum, Int.mul_sub]
    omega
  | i, x :: r, j + 1, v, hj => by
    have hj2 : j < r.length := by
      rw [List.length_cons] at hj
      omega
    show wsum i (x :: r.set j v) = wsum i (x :: r) + (((i + (j + 1) : Nat) : Int) + 1) * (v - r[j])
    rw [wsum, wsum, wsum_set (i + 1) r j v hj2, show i + 1 + j = i + (j + 1) by omega]
    omega
theorem cop : ∀ k < 1000, 0 < k → Nat.gcd k 2147483647 = 1 := by decide +kernel
theorem no_mul {k : Nat} (h0 : 0 < k) (h1 : k < 1000) {d : Int} (hd : d ≠ 0) (h2 : -2147483647 < d) (h3 : d < 2147483647) : ¬ ((k : Int) * d) % 2147483647 = 0 := fun z => by
  have h4 : (2147483647 : Int) ∣ (k : Int) * d := Int.dvd_of_emod_eq_zero z
  have h5 : (2147483647 : Nat) ∣ k * d.natAbs := by
    have := Int.natAbs_dvd_natAbs.mpr h4
    rw [Int.natAbs_mul] at this
    exact this
  have h6 : Nat.Coprime 2147483647 k := by
    have := cop k h1 h0
    unfold Nat.Coprime
    rw [Nat.gcd_comm]
    exact this
  have h7 : (2147483647 : Nat) ∣ d.natAbs := h6.dvd_of_dvd_mul_left h5
  have h8 := Nat.le_of_dvd (by omega) h7
  omega
/-- a list sealed, one word of it changed, isn't sound -/
theorem spoilt_unsound {ws : List Int} (hr : ∀ x ∈ ws, inR x) (hl : ws.length < 900) {i : Nat} (hi : i < (sealW ws).length) {v : Int} (hv : v ≠ (sealW ws)[i]) : sound ((sealW ws).set i v) = false := by
  have hs := sound_seal hr
  cases c : sound ((sealW ws).set i v) with
  | false => rfl
  | true =>
    exfalso
    rw [seal_len] at hi
    by_cases h : i < ws.length
    · have e : (sealW ws).set i v = ws.set i v ++ [mark ws] := by
        unfold sealW
        rw [List.set_append_left _ _ h]
      have ev : (sealW ws)[i] = ws[i] := by
        unfold sealW
        exact List.getElem_append_left h
      rw [e] at c
      rw [ev] at hv
      obtain ⟨c1, c2⟩ := (sound_iff _ _).mp c
      have hvr : inR v := c1 v (List.mem_append_left _ (List.mem_set h v))
      have hwr := hr ws[i] (List.getElem_mem h)
      unfold mark at c2
      rw [wsum_set 0 ws i v h, Nat.zero_add] at c2
      have key := no_mul (k := i + 1) (by omega) (by omega) (d := v - ws[i]) (by omega) (by unfold inR at hvr hwr; omega) (by unfold inR at hvr hwr; omega)
      apply key
      have e3 : ((i + 1 : Nat) : Int) = (i : Int) + 1 := by omega
      rw [e3]
      omega
    · have hi2 : i = ws.length := by omega
      subst hi2
      have e : (sealW ws).set ws.length v = ws ++ [v] := by
        unfold sealW
        rw [List.set_append_right _ _ (Nat.le_refl _), Nat.sub_self]
        rfl
      have ev : (sealW ws)[ws.length]'(by rw [seal_len]; omega) = mark ws := by
        unfold sealW
        simp
      rw [e] at c
      rw [ev] at hv
      exact hv ((sound_iff _ _).mp c).2
/-! ### cells -/
def cellW (n b : Int) (k : Blk) : List Int := sealW (words (cellT n b k))
def okNum (n : Int) : Prop := 0 ≤ n ∧ n ≤ 999999999
/-- a copy that is not right for the number n -/
def Bad (n : Int) (c : Option (List Int)) : Prop :=
  c = none ∨ (∃ r, c = some r ∧ r.length ≤ 150000 ∧ sound r = false) ∨ ∃ (n' b' : Int) (k' : Blk), c = some (cellW n' b' k') ∧ n' ≠ n ∧ okNum n' ∧ okNum b' ∧ k'.ok
theorem cellW_rng {n b : Int} {k : Blk} (hn : okNum n) (hb : okNum b) (hk : k.ok) : ∀ x ∈ words (cellT n b k), inR x := words_rng 8 _ (cellT_ok hn hb hk)
theorem cellW_len {n b : Int} {k : Blk} (hk : k.ok) : (cellW n b k).length ≤ 411 := by
  unfold cellW
  rw [seal_len]
  have := cellT_len (n := n) (b := b) hk
  omega
/-! ### the promises about copies -/
def tw0 (n : Int) (m : Nat) : Nat := (n % m).toNat
def tw1 (n : Int) (m : Nat) : Nat := ((n + 1) % m).toNat
theorem tw0_eq {n : Int} {m : Nat} (hm : 2 ≤ m) : n % (m : Int) = (tw0 n m : Nat) := by
  unfold tw0
  have := Int.emod_nonneg n (by omega : (m : Int) ≠ 0)
  omega
theorem tw1_eq {n : Int} {m : Nat} (hm : 2 ≤ m) : (n + 1) % (m : Int) = (tw1 n m : Nat) := by
  unfold tw1
  have := Int.emod_nonneg (n + 1) (by omega : (m : Int) ≠ 0)
  omega
theorem tw0_lt {n : Int} {m : Nat} (hm : 2 ≤ m) : tw0 n m < m := by
  unfold tw0
  have h1 := Int.emod_nonneg n (by omega : (m : Int) ≠ 0)
  have h2 := Int.emod_lt_of_pos n (by omega : (0 : Int) < m)
  omega
theorem tw1_lt {n : Int} {m : Nat} (hm : 2 ≤ m) : tw1 n m < m := by
  unfold tw1
  have h1 := Int.emod_nonneg (n + 1) (by omega : (m : Int) ≠ 0)
  have h2 := Int.emod_lt_of_pos (n + 1) (by omega : (0 : Int) < m)
  omega
theorem tw_ne {n : Int} {m : Nat} (hm : 2 ≤ m) : tw0 n m ≠ tw1 n m := fun z => by
  have h1 := tw0_eq (n := n) hm
  have h2 := tw1_eq (n := n) hm
  rw [z] at h1
  have h3 : n % (m : Int) = (n + 1) % (m : Int) := h1.trans h2.symm
  have h4 : ((n + 1) - n) % (m : Int) = 0 := by
    rw [Int.sub_emod, ← h3, Int.sub_self, Int.zero_emod]
  rw [show n + 1 - n = 1 by omega, Int.emod_eq_of_lt (by omega) (by omega)] at h4
  omega
/-- both twins laid -/
def blay (B : Bds) (n : Int) (m : Nat) (ws : List Int) : Bds := bset (bset B (tw0 n m) n (some ws)) (tw1 n m) n (some ws)
/-- lay(boards, number, birth, block) -/
def sp_lay (C : Addr) : Sp := fun vs H Q _ => ∃ (p : Addr) (n b : Int) (v : V) (k : Blk) (m : Nat) (B : Bds) (cap : Nat), vs = [.ref p, .int n, .int b, v] ∧ BdAt C p m H B cap ∧ cap < 900 ∧ okNum n ∧ okNum b ∧ k.ok ∧ Rp H k.th v ∧
  ∀ H', BdAt C p m H' (blay B n m (cellW n b k)) (cap + 2) → SKeep H H' → Q .non H'
/-- thing_in(row) -/
def sp_thing_in : Sp := fun vs H Q _ => ∃ x : V, vs = [x] ∧ ((x = .non ∧ ∀ H', Same H H' → Q .non H') ∨
  (∃ (L : Addr) (r : List Int), x = .ref L ∧ H L = some (.lst (r.map V.int)) ∧ r.length ≤ 150000 ∧ sound r = false ∧ ∀ H', Same H H' → Q .non H') ∨
  ∃ (L : Addr) (d : Th), x = .ref L ∧ H L = some (.lst ((sealW (words d)).map V.int)) ∧ (words d).length ≤ 100000 ∧ okT 8 d ∧ ∀ H' v, Same H H' → Rp H' d v → Q v H')
/-- copy_on(boards, board, tag) -/
def sp_copy_on (C : Addr) : Sp := fun vs H Q _ => ∃ (p t : Addr) (i : Nat) (n b s : Int) (m : Nat) (B : Bds) (cap : Nat), vs = [.ref p, .int i, .ref t] ∧ BdAt C p m H B cap ∧ i < m ∧ H t = some (.tup [.int n, .int b, .int s]) ∧ okNum n ∧ okNum b ∧
  ((Bad n (B i n) ∧ ∀ H', Same H H' → Q .non H') ∨ ∃ k : Blk, B i n = some (cellW n b k) ∧ k.ok ∧ s = k.sum ∧ ∀ H' v, Same H H' → Rp H' k.th v → Q v H')
/-- what is known of a tag's two copies: g says which are right -/
def Copies (B : Bds) (n b : Int) (k : Blk) (m : Nat) (g : Nat → Bool) : Prop :=
  ∀ i, i = tw0 n m ∨ i = tw1 n m → (g i = true → B i n = some (cellW n b k)) ∧ (g i = false → Bad n (B i n))
def goods (n : Int) (m : Nat) (g : Nat → Bool) : List Nat := [tw0 n m, tw1 n m].filter g
/-- right_copies(boards, tag) -/
def sp_right_copies (C : Addr) : Sp := fun vs H Q _ => ∃ (p t : Addr) (n b : Int) (k : Blk) (g : Nat → Bool) (m : Nat) (B : Bds) (cap : Nat), vs = [.ref p, .ref t] ∧ BdAt C p m H B cap ∧ H t = some (.tup [.int n, .int b, .int k.sum]) ∧ okNum n ∧ okNum b ∧ k.ok ∧ Copies B n b k m g ∧
  ∀ (H' : Hp) (q : Addr) (ns : List Int), Same H H' → H q = none → H' q = some (.lst (ns.map V.int)) → ns.Perm ((goods n m g).map fun i : Nat => (i : Int)) → ns.Pairwise (· ≤ ·) → Q (.ref q) H'
/-- fetched(boards, tag), a copy right -/
def sp_fetched (C : Addr) : Sp := fun vs H Q _ => ∃ (p t : Addr) (n b : Int) (k : Blk) (g : Nat → Bool) (m : Nat) (B : Bds) (cap : Nat), vs = [.ref p, .ref t] ∧ BdAt C p m H B cap ∧ H t = some (.tup [.int n, .int b, .int k.sum]) ∧ okNum n ∧ okNum b ∧ k.ok ∧ Copies B n b k m g ∧
  goods n m g ≠ [] ∧ ∀ H' v, Same H H' → Rp H' k.th v → Q v H'
/-- fetched(boards, tag), none right: Lost with the number -/
def sp_fetched_lost (C CL : Addr) : Sp := fun vs H Q E => ∃ (p t : Addr) (n b : Int) (k : Blk) (g : Nat → Bool) (m : Nat) (B : Bds) (cap : Nat), vs = [.ref p, .ref t] ∧ BdAt C p m H B cap ∧ H t = some (.tup [.int n, .int b, .int k.sum]) ∧ okNum n ∧ okNum b ∧ k.ok ∧ Copies B n b k m g ∧
  goods n m g = [] ∧ ∀ H' (d : Addr), Same H H' → H' d = some (.xd [("number", .int n)]) → E (.ref CL) (some d) H'
/-- Lost.__init__(self, number) -/
def sp_L_init (CL : Addr) : Sp := fun vs H Q _ => ∃ (a : Addr) (v : V), vs = [.ref a, v] ∧ H a = some (exo a CL none) ∧ ∀ dx, H dx = none → dx ≠ a → Q .non (upd (upd H dx (exd dx [("number", v)])) a (exo a CL (some dx)))
end Sk

set_option Elab.async false
set_option linter.all false
set_option maxRecDepth 100000
set_option maxHeartbeats 4000000
namespace Sk
open PySem PySem.Spec PyProof.Rows L2
/-! ### Lost -/
/-- what the top has written of Lost (class at CL, its __init__ at fI) -/
structure TxL (K : PySem.W.Frag) (mg : Str → Option Value) (CL fI : Addr) : Prop where
  mgL : mg "Lost" = some (.ref CL)
  oex : OexC K CL
  noN : PySem.W.findIn K (.ref CL) "number" = some none
  iC : PySem.W.findIn K (.ref CL) "__init__" = some (some (.ref fI))
  tI : PySem.W.typeIn K (.ref fI) = some (.type "function")
  xf : XfC K CL
  exm : PySem.W.exmOne K (.ref CL) (.ref CL) = some true
/-- _law_is_lost(boards, tag), no copy right -/
def sp_is_lost (C : Addr) : Sp := fun vs H Q _ => ∃ (p t : Addr) (n b : Int) (k : Blk) (g : Nat → Bool) (m : Nat) (B : Bds) (cap : Nat), vs = [.ref p, .ref t] ∧ BdAt C p m H B cap ∧ H t = some (.tup [.int n, .int b, .int k.sum]) ∧ okNum n ∧ okNum b ∧ k.ok ∧ Copies B n b k m g ∧
  goods n m g = [] ∧ ∀ H', Same H H' → Q (.bl true) H'
end Sk

set_option Elab.async false
set_option linter.all false
set_option maxRecDepth 100000
set_option maxHeartbeats 4000000
namespace Sk
open PySem PySem.Spec PyProof.Rows L2
theorem lt0 {j : Int} (h : decide (0 < j) = true) : 0 < j := of_decide_eq_true h
/-! ### the promises of the law's own helpers -/
def posR (x : Int) : Prop := 0 ≤ x ∧ x < 2147483647
/-- _law_cell_at(script, k): some number -/
def sp_cell_at (K : PySem.W.Frag) : Sp := fun vs H Q _ => ∃ (a : Addr) (ns : List Int) (k : Nat), vs = [.ref a, .int k] ∧ SqL K H a (ns.map V.int) ∧ ∀ z : Int, Q (.int z) H
/-- _law_numbers(cell, many): so many numbers from 0 on -/
def sp_numbers : Sp := fun vs H Q _ => ∃ (z : Int) (m : Nat), vs = [.int z, .int m] ∧ m ≤ 100 ∧ ∀ (H' : Hp) (p : Addr) (ns : List Int), Same H H' → H p = none → H' p = some (.lst (ns.map V.int)) → ns.length = m → (∀ x ∈ ns, posR x) → Q (.ref p) H'
/-- _law_signs() -/
def sp_signs : Sp := fun vs H Q _ => vs = [] ∧ Q (.str tSIGNS) H
/-- _law_tag(number): a tag -/
def sp_tag : Sp := fun vs H Q _ => ∃ x : Int, vs = [.int x] ∧ posR x ∧ ∀ (H' : Hp) (a : Addr) (g : Tg), Same H H' → H' a = some (.tup [.int g.1, .int g.2.1, .int g.2.2]) → okG g → Q (.ref a) H'
/-- _law_name(number): a name -/
def sp_name : Sp := fun vs H Q _ => ∃ x : Int, vs = [.int x] ∧ posR x ∧ ∀ (H' : Hp) (z : Str), Same H H' → okN z → Q (.str z) H'
/-- _law_block(some): a block -/
def sp_block : Sp := fun vs H Q _ => ∃ (L : Addr) (ns : List Int), vs = [.ref L] ∧ H L = some (.lst (ns.map V.int)) ∧ ns.length = 24 ∧ (∀ x ∈ ns, posR x) ∧ ∀ (H' : Hp) (v : V) (b : Blk), Same H H' → Rp H' b.th v → b.ok → Q v H'
/-- _law_told, _law_sum: as told_of, sum_of -/
def sp_law_told : Sp := sp_told_of
def sp_law_sum : Sp := sp_sum_of
end Sk

set_option Elab.async false
set_option linter.all false
set_option maxRecDepth 100000
set_option maxHeartbeats 4000000
namespace Sk
open PySem PySem.Spec PyProof.Rows L2
/-! ### the law's own state -/
/-- a block that was laid: its number, its birth, the block -/
structure Rec where
  n : Int
  b : Int
  k : Blk
def Rec.key (r : Rec) : List L2.Key := [Sum.inl r.n, Sum.inl r.b, Sum.inl r.k.sum]
def Rec.tup (r : Rec) : HO := .tup [.int r.n, .int r.b, .int r.k.sum]
def Rec.ok (r : Rec) : Prop := okNum r.n ∧ okNum r.b ∧ r.k.ok
theorem key_tup (r : Rec) : HO.tup (r.key.map kV) = r.tup := rfl
theorem key_inj {a b : Rec} (h : a.key = b.key) : a.n = b.n := by
  have h1 := (List.cons.inj h).1
  exact Sum.inl.inj h1
/-- the records: some, at most nine, of unlike numbers -/
structure RecsOk (rs : List Rec) : Prop where
  len : rs.length ≤ 9
  ok : ∀ r ∈ rs, r.ok
  nd : (rs.map Rec.n).Nodup
def kvz (rs : List Rec) (vs : List V) : List (List L2.Key × V) := List.zipWith (fun r v => (r.key, v)) rs vs
theorem kvz_len {rs : List Rec} {vs : List V} (h : vs.length = rs.length) : (kvz rs vs).length = rs.length := by
  unfold kvz
  rw [List.length_zipWith, h, Nat.min_self]
theorem kvz_at {rs : List Rec} {vs : List V} {i : Nat} {r : Rec} {v : V} (hr : rs[i]? = some r) (hv : vs[i]? = some v) : (kvz rs vs)[i]? = some (r.key, v) := by
  unfold kvz
  rw [List.getElem?_zipWith, hr, hv]
theorem kvz_of {rs : List Rec} {vs : List V} {i : Nat} {k : List L2.Key} {v : V} (h : (kvz rs vs)[i]? = some (k, v)) : ∃ r, rs[i]? = some r ∧ vs[i]? = some v ∧ k = r.key := by
  unfold kvz at h
  rw [List.getElem?_zipWith] at h
  cases e : rs[i]? with
  | none =>
    rw [e] at h
    cases h
  | some r =>
    rw [e] at h
    cases e2 : vs[i]? with
    | none =>
      rw [e2] at h
      cases h
    | some u =>
      rw [e2] at h
      have h2 := Option.some.inj h
      exact ⟨r, rfl, congrArg some (congrArg Prod.snd h2), (congrArg Prod.fst h2).symm⟩
theorem rec_ix {rs : List Rec} (hn : (rs.map Rec.n).Nodup) {i j : Nat} {a b : Rec} (ha : rs[i]? = some a) (hb : rs[j]? = some b) (e : a.n = b.n) : i = j := by
  refine nd_ix hn (x := a.n) (by rw [List.getElem?_map, ha]; rfl) (by rw [List.getElem?_map, hb, e]; rfl)
theorem val_kvz : ∀ {rs : List Rec} {vs : List V} {i : Nat} {r : Rec} {v : V}, (rs.map Rec.n).Nodup → rs[i]? = some r → vs[i]? = some v → valV (kvz rs vs) r.key = some v
  | [], _, _, _, _, _, hr, _ => by cases hr
  | a :: rs, [], _, _, _, _, _, hv => by cases hv
  | a :: rs, u :: vs, 0, r, v, hn, hr, hv => by
    obtain rfl : a = r := Option.some.inj hr
    obtain rfl : u = v := Option.some.inj hv
    exact valV_pos rfl
  | a :: rs, u :: vs, i + 1, r, v, hn, hr, hv => by
    obtain ⟨h1, h2⟩ := List.nodup_cons.mp hn
    have hr' : rs[i]? = some r := hr
    have hv' : vs[i]? = some v := hv
    have ne : ¬ a.key = r.key := fun e => h1 (by rw [key_inj e]; exact List.mem_map.mpr ⟨r, List.mem_of_getElem? hr', rfl⟩)
    show valV ((a.key, u) :: kvz rs vs) r.key = some v
    rw [valV_neg ne]
    exact val_kvz h2 hr' hv'
theorem val_kvz_no {rs : List Rec} {r : Rec} (h : ¬ r.n ∈ rs.map Rec.n) : ∀ vs : List V, valV (kvz rs vs) r.key = none := by
  induction rs with
  | nil => intro vs; cases vs <;> rfl
  | cons a rs ih =>
    intro vs
    cases vs with
    | nil => rfl
    | cons u vs =>
      have ne : ¬ a.key = r.key := fun e => h (by rw [← key_inj e]; exact List.mem_cons_self)
      show valV ((a.key, u) :: kvz rs vs) r.key = none
      rw [valV_neg ne]
      exact ih (fun z => h (List.mem_cons_of_mem _ z)) vs
theorem kvz_snoc {rs : List Rec} {vs : List V} (h : vs.length = rs.length) (r : Rec) (v : V) : kvz (rs ++ [r]) (vs ++ [v]) = kvz rs vs ++ [(r.key, v)] := by
  unfold kvz
  rw [List.zipWith_append h.symm]
  rfl
theorem put_kvz_new {rs : List Rec} {vs : List V} (hl : vs.length = rs.length) {r : Rec} (h : ¬ r.n ∈ rs.map Rec.n) (v : V) : putK (kvz rs vs) r.key v = kvz (rs ++ [r]) (vs ++ [v]) := by
  rw [putK_new v (val_kvz_no h vs), kvz_snoc hl]
theorem put_map {rs : List Rec} {vs : List V} {i : Nat} {r : Rec} (hn : (rs.map Rec.n).Nodup) (hr : rs[i]? = some r) (v : V) : (kvz rs vs).map (fun kv => if kv.1 = r.key then (kv.1, v) else kv) = kvz rs (vs.set i v) := by
  apply List.ext_getElem?
  intro j
  unfold kvz
  rw [List.getElem?_map, List.getElem?_zipWith, List.getElem?_zipWith, List.getElem?_set]
  cases e : rs[j]? with
  | none => rfl
  | some a =>
    by_cases c : i = j
    · subst c
      rw [hr] at e
      obtain rfl : r = a := Option.some.inj e
      rw [if_pos rfl]
      cases e2 : vs[i]? with
      | none =>
        rw [if_neg (by
          have := List.getElem?_eq_none_iff.mp e2
          omega)]
        rfl
      | some u =>
        rw [if_pos (by
          have := (List.getElem?_eq_some_iff.mp e2).1
          exact this)]
        show some (if r.key = r.key then (r.key, v) else (r.key, u)) = some (r.key, v)
        rw [if_pos rfl]
    · rw [if_neg c]
      cases e2 : vs[j]? with
      | none => rfl
      | some u =>
        show some (if a.key = r.key then (a.key, v) else (a.key, u)) = some (a.key, u)
        rw [if_neg fun z => c (rec_ix hn hr e (key_inj z).symm)]
theorem put_kvz {rs : List Rec} {vs : List V} {i : Nat} {r : Rec} (hn : (rs.map Rec.n).Nodup) (hl : vs.length = rs.length) (hr : rs[i]? = some r) (v : V) : putK (kvz rs vs) r.key v = kvz rs (vs.set i v) := by
  have hi : i < vs.length := by
    have := (List.getElem?_eq_some_iff.mp hr).1
    omega
  unfold putK
  rw [if_pos (by rw [valV_any, val_kvz hn hr (List.getElem?_eq_getElem hi)]; rfl)]
  exact put_map hn hr v
/-! ### the law's objects in the heap -/
/-- the dict of what was laid -/
def LaidAt (H : Hp) (a : Addr) (rs : List Rec) : Prop := ∃ vs : List V, vs.length = rs.length ∧ H a = some (.dT (kvz rs vs)) ∧ ∀ (i : Nat) (r : Rec) (v : V), rs[i]? = some r → vs[i]? = some v → Rp H r.k.th v
/-- the list of the tags -/
def TagsAt (H : Hp) (a : Addr) (rs : List Rec) : Prop := ∃ ts : List Addr, ts.length = rs.length ∧ H a = some (.lst (ts.map V.ref)) ∧ ∀ (i : Nat) (r : Rec) (t : Addr), rs[i]? = some r → ts[i]? = some t → H t = some r.tup
/-- the lists of the boards whose copy is right -/
def RightAt (H : Hp) (a : Addr) (rs : List Rec) (m : Nat) (g : Nat → Nat → Bool) : Prop := ∃ ls : List Addr, ls.length = rs.length ∧ ls.Nodup ∧ H a = some (.dT (kvz rs (ls.map V.ref))) ∧
  ∀ (i : Nat) (r : Rec) (l : Addr), rs[i]? = some r → ls[i]? = some l → H l = some (.lst (((goods r.n m (g i)).map fun j : Nat => (j : Int)).map V.int))
/-- the lists as laid -/
def RowsAt (H : Hp) (a : Addr) (rs : List Rec) : Prop := ∃ ls : List Addr, ls.length = rs.length ∧ H a = some (.dT (kvz rs (ls.map V.ref))) ∧
  ∀ (i : Nat) (r : Rec) (l : Addr), rs[i]? = some r → ls[i]? = some l → H l = some (.lst ((cellW r.n r.b r.k).map V.int))
def CopiesAll (B : Bds) (rs : List Rec) (m : Nat) (g : Nat → Nat → Bool) : Prop := ∀ (i : Nat) (r : Rec), rs[i]? = some r → Copies B r.n r.b r.k m (g i)
theorem LaidAt.mono {H H' : Hp} {a : Addr} {rs : List Rec} (k : SKeep H H') (h : LaidAt H a rs) : LaidAt H' a rs := by
  obtain ⟨vs, l, e, q⟩ := h
  exact ⟨vs, l, k _ _ e trivial, fun i r v h1 h2 => Rp.mono k.tups _ _ (q i r v h1 h2)⟩
theorem TagsAt.mono {H H' : Hp} {a : Addr} {rs : List Rec} (k : SKeep H H') (h : TagsAt H a rs) : TagsAt H' a rs := by
  obtain ⟨ts, l, e, q⟩ := h
  refine ⟨ts, l, k _ _ e (.inr ⟨ts, rfl, fun t ht => ?_⟩), fun i r t h1 h2 => k _ _ (q i r t h1 h2) trivial⟩
  obtain ⟨i, hi⟩ := List.mem_iff_getElem?.mp ht
  have hil : i < rs.length := by
    have := (List.getElem?_eq_some_iff.mp hi).1
    omega
  exact ⟨_, q i _ t (List.getElem?_eq_getElem hil) hi⟩
theorem RightAt.mono {H H' : Hp} {a : Addr} {rs : List Rec} {m : Nat} {g : Nat → Nat → Bool} (k : SKeep H H') (h : RightAt H a rs m g) : RightAt H' a rs m g := by
  obtain ⟨ls, l, nd, e, q⟩ := h
  exact ⟨ls, l, nd, k _ _ e trivial, fun i r l h1 h2 => k.ints (q i r l h1 h2)⟩
theorem RowsAt.mono {H H' : Hp} {a : Addr} {rs : List Rec} (k : SKeep H H') (h : RowsAt H a rs) : RowsAt H' a rs := by
  obtain ⟨ls, l, e, q⟩ := h
  exact ⟨ls, l, k _ _ e trivial, fun i r l h1 h2 => k.ints (q i r l h1 h2)⟩
theorem bset_other {B : Bds} {i j : Nat} {n k : Int} {c : Option (List Int)} (h : k ≠ n) : bset B i n c j k = B j k := by
  unfold bset
  rw [if_neg fun z => h z.2]
theorem bset_same {B : Bds} {i : Nat} {n : Int} {c : Option (List Int)} : bset B i n c i n = c := by
  unfold bset
  rw [if_pos ⟨rfl, rfl⟩]
theorem bset_else {B : Bds} {i j : Nat} {n k : Int} {c : Option (List Int)} (h : j ≠ i) : bset B i n c j k = B j k := by
  unfold bset
  rw [if_neg fun z => h z.1]
theorem blay_other {B : Bds} {n k : Int} {m : Nat} {ws : List Int} (h : k ≠ n) (j : Nat) : blay B n m ws j k = B j k := by
  unfold blay
  rw [bset_other h, bset_other h]
theorem blay_tw0 {B : Bds} {n : Int} {m : Nat} {ws : List Int} : blay B n m ws (tw0 n m) n = some ws := by
  unfold blay
  by_cases h : tw0 n m = tw1 n m
  · rw [h]
    exact bset_same
  · rw [bset_else h]
    exact bset_same
theorem blay_tw1 {B : Bds} {n : Int} {m : Nat} {ws : List Int} : blay B n m ws (tw1 n m) n = some ws := by
  unfold blay
  exact bset_same
/-- laid on both twins: both right -/
theorem copies_laid {B : Bds} {r : Rec} {m : Nat} : Copies (blay B r.n m (cellW r.n r.b r.k)) r.n r.b r.k m (fun _ => true) := fun i hi => by
  refine ⟨fun _ => ?_, fun z => by cases z⟩
  rcases hi with rfl | rfl
  · exact blay_tw0
  · exact blay_tw1
theorem copies_same {B B' : Bds} {n b : Int} {k : Blk} {m : Nat} {g : Nat → Bool} (h : Copies B n b k m g) (e : ∀ j, B' j n = B j n) : Copies B' n b k m g := fun i hi => by
  rw [e]
  exact h i hi
/-- what is told of a copy that is none -/
theorem bad_none (n : Int) : Bad n none := .inl rfl
theorem bad_nil (n : Int) : Bad n (some []) := .inr (.inl ⟨[], rfl, by decide, rfl⟩)
theorem bad_nine (n : Int) : Bad n (some [9]) := .inr (.inl ⟨[9], rfl, by decide, by decide⟩)
/-- no cell holds two words -/
def NoTwo (B : Bds) : Prop := ∀ (i : Nat) (n : Int) (ws : List Int), B i n = some ws → ws.length ≠ 2
theorem cellW_two (n b : Int) (k : Blk) : (cellW n b k).length ≠ 2 := by
  unfold cellW cellT
  rw [seal_len]
  simp only [words, wordsAll, List.length_cons, List.length_append, List.length_nil]
  omega
theorem NoTwo.set {B : Bds} {i : Nat} {n : Int} {c : Option (List Int)} (h : NoTwo B) (hc : ∀ ws, c = some ws → ws.length ≠ 2) : NoTwo (bset B i n c) := fun j k ws e => by
  unfold bset at e
  split at e
  · exact hc ws e
  · exact h j k ws e
theorem NoTwo.lay {B : Bds} {n b : Int} {k : Blk} {m : Nat} {n0 : Int} (h : NoTwo B) : NoTwo (blay B n0 m (cellW n b k)) := by
  have c : ∀ ws, some (cellW n b k) = some ws → ws.length ≠ 2 := fun ws e => by
    rw [← Option.some.inj e]
    exact cellW_two n b k
  exact (h.set c).set c
theorem NoTwo.lose {B : Bds} {i : Nat} (h : NoTwo B) : NoTwo (blose B i) := fun j k ws e => by
  unfold blose at e
  split at e
  · cases e
  · exact h j k ws e
/-- all stays but at q -/
def Put (q : Addr) (H H' : Hp) : Prop := ∀ b o, H b = some o → b ≠ q → H' b = some o
def Odd2 (u : HO) : Prop := (∃ kvs : List (List L2.Key × V), u = .dT kvs) ∨ ∃ x y : Int, u = .lst [.int x, .int y]
theorem Odd2.tup {u : HO} (h : Odd2 u) {xs : List V} : u ≠ .tup xs := by
  rcases h with ⟨kvs, rfl⟩ | ⟨x, y, rfl⟩
  · intro z; cases z
  · intro z; cases z
theorem Odd2.ints {u : HO} (h : Odd2 u) {ns : List Int} (l : ns.length ≠ 2) : u ≠ .lst (ns.map V.int) := by
  rcases h with ⟨kvs, rfl⟩ | ⟨x, y, rfl⟩
  · intro z; cases z
  · intro z
    have z2 := congrArg List.length (HO.lst.inj z)
    rw [List.length_map] at z2
    exact l z2.symm
theorem Odd2.refs {u : HO} (h : Odd2 u) {ds : List Addr} : u ≠ .lst (ds.map V.ref) := by
  rcases h with ⟨kvs, rfl⟩ | ⟨x, y, rfl⟩
  · intro z; cases z
  · intro z
    have z2 := HO.lst.inj z
    cases ds with
    | nil => cases z2
    | cons d r =>
      have z3 := (List.cons.inj z2).1
      cases z3
theorem put_ne {H : Hp} {b q : Addr} {o u : HO} (hb : H b = some o) (hq : H q = some u) (n : u ≠ o) : b ≠ q := fun z => by
  rw [z, hq] at hb
  exact n (Option.some.inj hb)
theorem Put.tups {q : Addr} {H H' : Hp} {u : HO} (h : Put q H H') (hq : H q = some u) (o : Odd2 u) : Tups H H' := fun b xs e => h b _ e (put_ne e hq o.tup)
theorem BdAt.put {C p q : Addr} {m : Nat} {H H' : Hp} {B : Bds} {cap : Nat} {u : HO} (h : BdAt C p m H B cap) (s : Put q H H') (hq : H q = some u) (o : Odd2 u) (hB : NoTwo B) : BdAt C p m H' B cap := by
  obtain ⟨dx, L, n, ds, h1, h2, h3, h4, h5, h6, h7⟩ := h
  refine ⟨dx, L, n, ds, s _ _ h1 (put_ne h1 hq fun z => ?_), s _ _ h2 (put_ne h2 hq o.refs), h3, h4, h5, h6, fun i d hd => ?_⟩
  · rcases o with ⟨kvs, rfl⟩ | ⟨x, y, rfl⟩ <;> cases z
  · obtain ⟨kvs, e, l, c⟩ := h7 i d hd
    refine ⟨kvs, s _ _ e (put_ne e hq fun z => ?_), l, fun n => ?_⟩
    · rcases o with ⟨kvs, rfl⟩ | ⟨x, y, rfl⟩ <;> cases z
    · have c1 := c n
      have nb := hB i n
      generalize valV kvs (Sum.inl n) = v0 at c1 ⊢
      generalize B i n = b0 at c1 nb ⊢
      cases v0 with
      | none =>
        cases b0 with
        | none => trivial
        | some ws => exact c1.elim
      | some v =>
        cases b0 with
        | none => exact c1.elim
        | some ws =>
          obtain ⟨r, e1, e2⟩ := c1
          exact ⟨r, e1, s _ _ e2 (put_ne e2 hq (o.ints (nb ws rfl)))⟩
theorem LaidAt.put {H H' : Hp} {a q : Addr} {rs : List Rec} {u : HO} (h : LaidAt H a rs) (s : Put q H H') (hq : H q = some u) (o : Odd2 u) (ne : a ≠ q) : LaidAt H' a rs := by
  obtain ⟨vs, l, e, x⟩ := h
  exact ⟨vs, l, s _ _ e ne, fun i r v h1 h2 => Rp.mono (s.tups hq o) _ _ (x i r v h1 h2)⟩
theorem TagsAt.put {H H' : Hp} {a q : Addr} {rs : List Rec} {u : HO} (h : TagsAt H a rs) (s : Put q H H') (hq : H q = some u) (o : Odd2 u) : TagsAt H' a rs := by
  obtain ⟨ts, l, e, x⟩ := h
  exact ⟨ts, l, s _ _ e (put_ne e hq o.refs), fun i r t h1 h2 => s.tups hq o _ _ (x i r t h1 h2)⟩
theorem RowsAt.put {H H' : Hp} {a q : Addr} {rs : List Rec} {u : HO} (h : RowsAt H a rs) (s : Put q H H') (hq : H q = some u) (o : Odd2 u) (ne : a ≠ q) : RowsAt H' a rs := by
  obtain ⟨ls, l, e, x⟩ := h
  exact ⟨ls, l, s _ _ e ne, fun i r t h1 h2 => s _ _ (x i r t h1 h2) (put_ne (x i r t h1 h2) hq (o.ints (cellW_two _ _ _)))⟩
theorem upd_put {H : Hp} {q : Addr} {o : HO} : Put q H (upd H q o) := fun b u e n => by
  rw [upd_ne n]
  exact e
/-- one more laid -/
theorem laid_put {H : Hp} {a t : Addr} {rs : List Rec} {r : Rec} {v : V} (h : LaidAt H a rs) (hn : ¬ r.n ∈ rs.map Rec.n) (hv : Rp H r.k.th v) (ht : H t = some r.tup) (hl : rs.length < 1000) :
    ∃ (H' : Hp) (u : HO), DPut H a (.ref t) v H' ∧ LaidAt H' a (rs ++ [r]) ∧ Put a H H' ∧ H a = some u ∧ Odd2 u := by
  obtain ⟨vs, l, e, x⟩ := h
  have o : Odd2 (.dT (kvz rs vs)) := .inl ⟨_, rfl⟩
  refine ⟨_, _, DPut.t (k := r.key) e ht (by rw [kvz_len l]; exact small1000 (Nat.le_of_lt hl)), ⟨vs ++ [v], by rw [List.length_append, List.length_append, l]; rfl, by rw [upd_same, put_kvz_new l hn], fun i r' v' h1 h2 => ?_⟩, upd_put, e, o⟩
  refine Rp.mono (upd_put.tups e o) _ _ ?_
  by_cases c : i < rs.length
  · rw [List.getElem?_append_left c] at h1
    rw [List.getElem?_append_left (by omega)] at h2
    exact x i r' v' h1 h2
  · rw [List.getElem?_append_right (by omega)] at h1
    rw [List.getElem?_append_right (by omega)] at h2
    have : i - rs.length = 0 := by
      have := (List.getElem?_eq_some_iff.mp h1).1
      simp at this
      omega
    rw [this] at h1
    rw [show i - vs.length = 0 by omega] at h2
    obtain rfl := Option.some.inj h1
    obtain rfl := Option.some.inj h2
    exact hv
/-! ### the promises of the law's own defs -/
/-- _law_laid(boards, cells), the boards empty -/
def sp_laid (C : Addr) : Sp := fun vs H Q _ => ∃ (p c : Addr) (ns : List Int) (m : Nat), vs = [.ref p, .ref c] ∧ H c = some (.lst (ns.map V.int)) ∧ ns.length ≤ 9 ∧ BdAt C p m H (fun _ _ => none) 0 ∧
  ∀ (H' : Hp) (a : Addr) (rs : List Rec) (B : Bds), SKeep H H' → BdAt C p m H' B 18 → LaidAt H' a rs → RecsOk rs → rs.length = ns.length → CopiesAll B rs m (fun _ _ => true) → NoTwo B → Q (.ref a) H'
/-- _law_spoilt(boards, board, tag, some, rows) -/
def sp_spoilt (C : Addr) : Sp := fun vs H Q _ => ∃ (p t s q : Addr) (i j : Nat) (r : Rec) (ns : List Int) (rs : List Rec) (m : Nat) (B : Bds) (cap : Nat), vs = [.ref p, .int i, .ref t, .ref s, .ref q] ∧ BdAt C p m H B cap ∧ i < m ∧ cap < 900 ∧ H t = some r.tup ∧ rs[j]? = some r ∧ RecsOk rs ∧
  H s = some (.lst (ns.map V.int)) ∧ ns.length = 4 ∧ (∀ x ∈ ns, posR x) ∧ RowsAt H q rs ∧ ∀ (H' : Hp) (c : Option (List Int)), Bad r.n c → (∀ ws, c = some ws → ws.length ≠ 2) → BdAt C p m H' (bset B i r.n c) (cap + 1) → SKeep H H' → Q .non H'
/-- _law_all_told(boards, laid, right, but) -/
def sp_all_told (C : Addr) : Sp := fun vs H Q _ => ∃ (p a q : Addr) (x : V) (rs : List Rec) (g : Nat → Nat → Bool) (m : Nat) (B : Bds) (cap : Nat), vs = [.ref p, .ref a, .ref q, x] ∧ a ≠ q ∧ BdAt C p m H B cap ∧ LaidAt H a rs ∧ RightAt H q rs m g ∧ RecsOk rs ∧ CopiesAll B rs m g ∧
  ((x = .non ∧ ∀ (i : Nat) (r : Rec), rs[i]? = some r → goods r.n m (g i) ≠ []) ∨
    ∃ (t : Addr) (j : Nat) (r : Rec), x = .ref t ∧ rs[j]? = some r ∧ H t = some r.tup ∧ goods r.n m (g j) = [] ∧ ∀ (i : Nat) (r : Rec), rs[i]? = some r → i ≠ j → goods r.n m (g i) ≠ []) ∧
  ∀ H', Same H H' → Q (.bl true) H'
/-- law(script) -/
def sp_law (K : PySem.W.Frag) : Sp := fun vs H Q _ => ∃ (a : Addr) (ns : List Int), vs = [.ref a] ∧ SqL K H a (ns.map V.int) ∧ ns.length ≤ 63 ∧ ∀ H', Q (.bl true) H'
end Sk

set_option Elab.async false
set_option linter.all false
set_option maxRecDepth 100000
set_option maxHeartbeats 4000000
namespace Sk
open PySem PySem.Spec PyProof.Rows L2
theorem paired_at {α β : Type} {F : α → β → Prop} : ∀ {l : List α} {m : List β} {i : Nat} {a : α}, Paired F l m → l[i]? = some a → ∃ b, m[i]? = some b ∧ F a b
  | _, _, _, _, .nil, h => by cases h
  | _, _, 0, _, .cons r _, h => by
    obtain rfl := Option.some.inj h
    exact ⟨_, rfl, r⟩
  | _, _, i + 1, _, .cons _ t, h => paired_at (i := i) t h
theorem sh_tri (x y z : Int) : SeqAt.shaped (.tuple [.int x, .int y, .int z]) = true := by
  unfold SeqAt.shaped
  simp [PyData.canLay0, PyData.canLayAll0, PyData.depth, PyData.depthAll]
theorem eqv_tri (a b c x y z : Int) : PyData.eqv (.tuple [.int a, .int b, .int c]) (.tuple [.int x, .int y, .int z]) = (a == x && (b == y && c == z)) := by
  simp [PyData.eqv, PyData.eqvAll]
theorem dp_tri {K : PySem.W.Frag} {H : Hp} {t : Addr} {r : Rec} (h : H t = some r.tup) : Dp K H (.ref t) (.tuple [.int r.n, .int r.b, .int r.k.sum]) := .tup (SqT.of h) (.cons (.int _) (.cons (.int _) (.cons (.int _) .nil)))
theorem tri_same (r : Rec) : PyData.eqv (.tuple [.int r.n, .int r.b, .int r.k.sum]) (.tuple [.int r.n, .int r.b, .int r.k.sum]) = true := by
  rw [eqv_tri]
  simp
theorem tri_other {r s : Rec} (h : r.n ≠ s.n) : PyData.eqv (.tuple [.int r.n, .int r.b, .int r.k.sum]) (.tuple [.int s.n, .int s.b, .int s.k.sum]) = false := by
  rw [eqv_tri, show (r.n == s.n) = false from beq_false_of_ne h]
  rfl
theorem BdAt.ins2 {C p : Addr} {m : Nat} {H : Hp} {B : Bds} {cap : Nat} (h : BdAt C p m H B cap) : ∃ (dx : Addr) (fs : List (Str × V)), H p = some (.ins C dx fs) ∧ ∀ x : Str, ¬ x = "rows_kept" → ¬ x = "writes_done" → ¬ x = "writes_left" → fs.lookup x = none := by
  obtain ⟨dx, L, n, ds, h1, _⟩ := h
  exact ⟨dx, _, h1, fun x a b c => bF_no _ _ a b c⟩
theorem BdAt.two2 {C p : Addr} {m : Nat} {H : Hp} {B : Bds} {cap : Nat} (h : BdAt C p m H B cap) : 2 ≤ m ∧ m ≤ 4 := by
  obtain ⟨dx, L, n, ds, _, _, _, a, b, _⟩ := h
  exact ⟨a, b⟩
theorem cellW_pos (n b : Int) (k : Blk) : 0 < (cellW n b k).length := by
  unfold cellW
  rw [seal_len]
  omega
theorem cellW_bad {r : Rec} (hr : r.ok) {i : Nat} (hi : i < (cellW r.n r.b r.k).length) {v : Int} (hv : v ≠ (cellW r.n r.b r.k)[i]) : Bad r.n (some ((cellW r.n r.b r.k).set i v)) := by
  refine .inr (.inl ⟨_, rfl, ?_, ?_⟩)
  · rw [List.length_set]
    have := cellW_len (n := r.n) (b := r.b) hr.2.2
    omega
  · exact spoilt_unsound (cellW_rng hr.1 hr.2.1 hr.2.2) (by have := cellT_len (n := r.n) (b := r.b) hr.2.2; omega) hi hv
theorem cellW_other {r s : Rec} (hs : s.ok) (h : s.n ≠ r.n) : Bad r.n (some (cellW s.n s.b s.k)) := .inr (.inr ⟨s.n, s.b, s.k, rfl, h, hs.1, hs.2.1, hs.2.2⟩)
theorem same_nw {H : Hp} {p : Addr} {o : HO} (hp : H p = none) : Same H (upd H p o) := fun b u e => by
  rw [upd_ne (ne_of_none e hp)]
  exact e
theorem BdAt.putT {C p q : Addr} {m : Nat} {H H' : Hp} {B : Bds} {cap : Nat} {kvs0 : List (List L2.Key × V)} (h : BdAt C p m H B cap) (s : Put q H H') (hq : H q = some (.dT kvs0)) : BdAt C p m H' B cap := by
  obtain ⟨dx, L, n, ds, h1, h2, h3, h4, h5, h6, h7⟩ := h
  refine ⟨dx, L, n, ds, s _ _ h1 (ne_of h1 hq (by intro z; cases z)), s _ _ h2 (ne_of h2 hq (by intro z; cases z)), h3, h4, h5, h6, fun i d hd => ?_⟩
  obtain ⟨kvs, e, l, c⟩ := h7 i d hd
  exact ⟨kvs, s _ _ e (ne_of e hq (by intro z; cases z)), l, fun n => (c n).mono fun r ws e2 => s _ _ e2 (ne_of e2 hq (by intro z; cases z))⟩
theorem dp_ints7 {K : PySem.W.Frag} {H : Hp} : ∀ ns : List Int, DpAll K H (ns.map V.int) (ns.map PyData.int)
  | [] => .nil
  | n :: r => .cons (.int n) (dp_ints7 r)
theorem lay_ints7 : ∀ ns : List Int, PyData.canLayAll0 (ns.map PyData.int) = true
  | [] => rfl
  | n :: r => by
    rw [List.map_cons, PyData.canLayAll0, lay_ints7 r]
    rfl
theorem deep_ints7 : ∀ ns : List Int, PyData.depthAll (ns.map PyData.int) = 0
  | [] => rfl
  | n :: r => by
    rw [List.map_cons, PyData.depthAll, deep_ints7 r]
    rfl
theorem sh_ints7 (ns : List Int) : SeqAt.shaped (.list (ns.map PyData.int)) = true := by
  unfold SeqAt.shaped
  rw [PyData.canLay0, lay_ints7, PyData.depth, deep_ints7]
  rfl
theorem eqv_ints7 (ns : List Int) : PyData.eqv (.list (ns.map PyData.int)) (.list (ns.map PyData.int)) = true := SeqAt.eqv_refl _ (by rw [PyData.canLay0]; exact lay_ints7 ns)
theorem eqv_tri_non (x y z : Int) : PyData.eqv (.tuple [.int x, .int y, .int z]) .none = false := by
  simp [PyData.eqv]
theorem same_sorted {a b : List Int} (hp : a.Perm b) (ha : a.Pairwise (· ≤ ·)) (hb : b.Pairwise (· ≤ ·)) : a = b := PySem.W.ksm_same hp ha hb
end Sk

set_option Elab.async false
set_option linter.all false
set_option maxRecDepth 100000
set_option maxHeartbeats 4000000
namespace Sk
open PySem PySem.Spec PyProof.Rows L2
abbrev intsN (ns : List Nat) : List V := (ns.map fun j : Nat => (j : Int)).map V.int
theorem last_at {α : Type} {l : List α} {x y : α} {i : Nat} (h : (l ++ [x])[i]? = some y) : (i < l.length ∧ l[i]? = some y) ∨ (i = l.length ∧ y = x) := by
  by_cases c : i < l.length
  · rw [List.getElem?_append_left c] at h
    exact .inl ⟨c, h⟩
  · rw [List.getElem?_append_right (by omega)] at h
    have hz : i - l.length = 0 := by
      have := (List.getElem?_eq_some_iff.mp h).1
      simp at this
      omega
    rw [hz] at h
    exact .inr ⟨by omega, (Option.some.inj h).symm⟩
def RightIs (H : Hp) (a : Addr) (ls : List Addr) (rs : List Rec) (m : Nat) (g : Nat → Nat → Bool) : Prop := ls.length = rs.length ∧ ls.Nodup ∧ H a = some (.dT (kvz rs (ls.map V.ref))) ∧
  ∀ (i : Nat) (r : Rec) (l : Addr), rs[i]? = some r → ls[i]? = some l → H l = some (.lst (intsN (goods r.n m (g i))))
theorem RightIs.at {H : Hp} {a : Addr} {ls : List Addr} {rs : List Rec} {m : Nat} {g : Nat → Nat → Bool} (h : RightIs H a ls rs m g) : RightAt H a rs m g := ⟨ls, h⟩
theorem RightIs.mono {H H' : Hp} {a : Addr} {ls : List Addr} {rs : List Rec} {m : Nat} {g : Nat → Nat → Bool} (k : SKeep H H') (h : RightIs H a ls rs m g) : RightIs H' a ls rs m g := by
  obtain ⟨l, nd, e, q⟩ := h
  exact ⟨l, nd, k _ _ e trivial, fun i r l h1 h2 => k.ints (q i r l h1 h2)⟩
theorem RightIs.put {H H' : Hp} {q w : Addr} {ls : List Addr} {rs : List Rec} {m : Nat} {g : Nat → Nat → Bool} {kvs : List (List L2.Key × V)} (h : RightIs H q ls rs m g) (s : Put w H H') (hw : H w = some (.dT kvs)) (ne : q ≠ w) : RightIs H' q ls rs m g := by
  obtain ⟨l, nd, e, x⟩ := h
  exact ⟨l, nd, s _ _ e ne, fun i r t h1 h2 => s _ _ (x i r t h1 h2) (ne_of (x i r t h1 h2) hw (by intro z; cases z))⟩
/-- the tags, ts their tuples -/
def TagsIs (H : Hp) (a : Addr) (ts : List Addr) (rs : List Rec) : Prop := H a = some (.lst (ts.map V.ref)) ∧ ts.length = rs.length ∧ ∀ (i : Nat) (r : Rec) (t : Addr), rs[i]? = some r → ts[i]? = some t → H t = some r.tup
theorem TagsIs.at {H : Hp} {a : Addr} {ts : List Addr} {rs : List Rec} (h : TagsIs H a ts rs) : TagsAt H a rs := ⟨ts, h.2.1, h.1, h.2.2⟩
theorem TagsIs.mono {H H' : Hp} {a : Addr} {ts : List Addr} {rs : List Rec} (k : SKeep H H') (h : TagsIs H a ts rs) : TagsIs H' a ts rs := by
  obtain ⟨e, l, q⟩ := h
  refine ⟨k _ _ e (.inr ⟨ts, rfl, fun t ht => ?_⟩), l, fun i r t h1 h2 => k _ _ (q i r t h1 h2) trivial⟩
  obtain ⟨i, hi⟩ := List.mem_iff_getElem?.mp ht
  have hil : i < rs.length := by
    have := (List.getElem?_eq_some_iff.mp hi).1
    omega
  exact ⟨_, q i _ t (List.getElem?_eq_getElem hil) hi⟩
theorem TagsIs.put {H H' : Hp} {a q : Addr} {ts : List Addr} {rs : List Rec} {u : HO} (h : TagsIs H a ts rs) (s : Put q H H') (hq : H q = some u) (o : Odd2 u) : TagsIs H' a ts rs := by
  obtain ⟨e, l, x⟩ := h
  exact ⟨s _ _ e (put_ne e hq o.refs), l, fun i r t h1 h2 => s.tups hq o _ _ (x i r t h1 h2)⟩
theorem RightAt.put {H H' : Hp} {q w : Addr} {rs : List Rec} {m : Nat} {g : Nat → Nat → Bool} {kvs : List (List L2.Key × V)} (h : RightAt H q rs m g) (s : Put w H H') (hw : H w = some (.dT kvs)) (ne : q ≠ w) : RightAt H' q rs m g := by
  obtain ⟨ls, l, nd, e, x⟩ := h
  exact ⟨ls, l, nd, s _ _ e ne, fun i r t h1 h2 => s _ _ (x i r t h1 h2) (ne_of (x i r t h1 h2) hw (by intro z; cases z))⟩
theorem RightAt.congr {H : Hp} {q : Addr} {rs : List Rec} {m : Nat} {g g' : Nat → Nat → Bool} (h : RightAt H q rs m g) (e : ∀ (i : Nat) (r : Rec), rs[i]? = some r → goods r.n m (g i) = goods r.n m (g' i)) : RightAt H q rs m g' := by
  obtain ⟨ls, l, nd, e1, x⟩ := h
  refine ⟨ls, l, nd, e1, fun i r t h1 h2 => ?_⟩
  rw [← e i r h1]
  exact x i r t h1 h2
theorem RightAt.dict {H : Hp} {q : Addr} {rs : List Rec} {m : Nat} {g : Nat → Nat → Bool} (h : RightAt H q rs m g) : ∃ kvs, H q = some (.dT kvs) := by
  obtain ⟨ls, l, nd, e, x⟩ := h
  exact ⟨_, e⟩
theorem RowsAt.dict {H : Hp} {q : Addr} {rs : List Rec} (h : RowsAt H q rs) : ∃ kvs, H q = some (.dT kvs) := by
  obtain ⟨ls, l, e, x⟩ := h
  exact ⟨_, e⟩
theorem LaidAt.dict {H : Hp} {q : Addr} {rs : List Rec} (h : LaidAt H q rs) : ∃ kvs, H q = some (.dT kvs) := by
  obtain ⟨ls, l, e, x⟩ := h
  exact ⟨_, e⟩
/-- one more list in right -/
theorem right_new {H0 H : Hp} {q l t : Addr} {ls : List Addr} {rs : List Rec} {m : Nat} {g : Nat → Nat → Bool} {r : Rec} (h : RightIs H0 q ls rs m g) (s : Same H0 H) (hl0 : H0 l = none) (hl : H l = some (.lst (intsN (goods r.n m (g rs.length))))) (ht : H t = some r.tup) (hn : ¬ r.n ∈ rs.map Rec.n)
    (len : rs.length < 1000) : ∃ H', DPut H q (.ref t) (.ref l) H' ∧ RightIs H' q (ls ++ [l]) (rs ++ [r]) m g ∧ Put q H H' := by
  obtain ⟨ll, nd, e, x⟩ := h
  have e' := s _ _ e
  have lv : (ls.map V.ref).length = rs.length := by rw [List.length_map]; exact ll
  have hlq : l ≠ q := fun z => by
    rw [z, e] at hl0
    cases hl0
  refine ⟨_, DPut.t (k := r.key) e' ht (by rw [kvz_len lv]; exact small1000 (Nat.le_of_lt len)), ⟨by rw [List.length_append, List.length_append, ll]; rfl, nd_snoc nd fun z => ?_, ?_, fun i r' l' h1 h2 => ?_⟩, upd_put⟩
  · obtain ⟨i, hi⟩ := List.mem_iff_getElem?.mp z
    have hil : i < rs.length := by
      have := (List.getElem?_eq_some_iff.mp hi).1
      omega
    have := x i _ l (List.getElem?_eq_getElem hil) hi
    rw [hl0] at this
    cases this
  · rw [upd_same, put_kvz_new lv hn, List.map_append]
    rfl
  · rcases last_at h1 with ⟨c, h1⟩ | ⟨c, rfl⟩
    · rcases last_at h2 with ⟨_, h2⟩ | ⟨c2, _⟩
      · have z := s _ _ (x i r' l' h1 h2)
        rw [upd_ne (ne_of z e' (by intro z; cases z))]
        exact z
      · omega
    · rcases last_at h2 with ⟨c2, h2⟩ | ⟨_, rfl⟩
      · omega
      · rw [upd_ne hlq, c]
        exact hl
/-- one more list in rows -/
theorem rows_new {H : Hp} {q l t : Addr} {rs : List Rec} {r : Rec} (h : RowsAt H q rs) (hl : H l = some (.lst ((cellW r.n r.b r.k).map V.int))) (ht : H t = some r.tup) (hn : ¬ r.n ∈ rs.map Rec.n)
    (len : rs.length < 1000) : ∃ H', DPut H q (.ref t) (.ref l) H' ∧ RowsAt H' q (rs ++ [r]) ∧ Put q H H' := by
  obtain ⟨ls, ll, e, x⟩ := h
  have lv : (ls.map V.ref).length = rs.length := by rw [List.length_map]; exact ll
  refine ⟨_, DPut.t (k := r.key) e ht (by rw [kvz_len lv]; exact small1000 (Nat.le_of_lt len)), ⟨ls ++ [l], by rw [List.length_append, List.length_append, ll]; rfl, ?_, fun i r' l' h1 h2 => ?_⟩, upd_put⟩
  · rw [upd_same, put_kvz_new lv hn, List.map_append]
    rfl
  · rcases last_at h1 with ⟨c, h1⟩ | ⟨c, rfl⟩
    · rcases last_at h2 with ⟨_, h2⟩ | ⟨c2, _⟩
      · have z := x i r' l' h1 h2
        rw [upd_ne (ne_of z e (by intro z; cases z))]
        exact z
      · omega
    · rcases last_at h2 with ⟨c2, h2⟩ | ⟨_, rfl⟩
      · omega
      · rw [upd_ne (ne_of hl e (by intro z; cases z))]
        exact hl
/-- a list in right exchanged -/
theorem right_set {H0 H : Hp} {q l t : Addr} {rs : List Rec} {m i : Nat} {g : Nat → Nat → Bool} {g0 : Nat → Bool} {r : Rec} (h : RightAt H0 q rs m g) (s : Same H0 H) (hl0 : H0 l = none) (hl : H l = some (.lst (intsN (goods r.n m g0)))) (ht : H t = some r.tup) (hn : (rs.map Rec.n).Nodup) (hr : rs[i]? = some r)
    (len : rs.length < 1000) : ∃ H', DPut H q (.ref t) (.ref l) H' ∧ RightAt H' q rs m (fun j => if j = i then g0 else g j) ∧ Put q H H' := by
  obtain ⟨ls, ll, nd, e, x⟩ := h
  have e' := s _ _ e
  have lv : (ls.map V.ref).length = rs.length := by rw [List.length_map]; exact ll
  have hlq : l ≠ q := fun z => by
    rw [z, e] at hl0
    cases hl0
  have nm : ¬ l ∈ ls := fun z => by
    obtain ⟨i, hi⟩ := List.mem_iff_getElem?.mp z
    have hil : i < rs.length := by
      have := (List.getElem?_eq_some_iff.mp hi).1
      omega
    have := x i _ l (List.getElem?_eq_getElem hil) hi
    rw [hl0] at this
    cases this
  refine ⟨_, DPut.t (k := r.key) e' ht (by rw [kvz_len lv]; exact small1000 (Nat.le_of_lt len)), ⟨ls.set i l, by rw [List.length_set]; exact ll, ?_, ?_, fun j r' l' h1 h2 => ?_⟩, upd_put⟩
  · clear x lv e e' hr ll hlq hl hl0 s
    induction ls generalizing i with
    | nil => exact nd
    | cons a as ih =>
      obtain ⟨n1, n2⟩ := List.nodup_cons.mp nd
      cases i with
      | zero => exact List.nodup_cons.mpr ⟨fun z => nm (List.mem_cons_of_mem _ z), n2⟩
      | succ i =>
        refine List.nodup_cons.mpr ⟨fun z => ?_, ih n2 fun z => nm (List.mem_cons_of_mem _ z)⟩
        rcases List.mem_or_eq_of_mem_set z with y | y
        · exact n1 y
        · exact nm (by rw [← y]; exact List.mem_cons_self)
  · rw [upd_same, put_kvz hn lv hr, List.map_set]
  · rw [List.getElem?_set] at h2
    by_cases c : i = j
    · subst c
      rw [if_pos rfl] at h2
      rw [hr] at h1
      obtain rfl := Option.some.inj h1
      split at h2
      · obtain rfl := Option.some.inj h2
        rw [upd_ne hlq]
        dsimp only
        rw [if_pos rfl]
        exact hl
      · cases h2
    · rw [if_neg c] at h2
      have z := s _ _ (x j r' l' h1 h2)
      rw [upd_ne (ne_of z e' (by intro z; cases z))]
      dsimp only
      rw [if_neg (fun y : j = i => c y.symm)]
      exact z
/-- a list of right -/
theorem right_get {H : Hp} {q : Addr} {rs : List Rec} {m i : Nat} {g : Nat → Nat → Bool} {r : Rec} (h : RightAt H q rs m g) (hn : (rs.map Rec.n).Nodup) (hr : rs[i]? = some r) :
    ∃ l, (∀ t, H t = some r.tup → DGet H q (.ref t) (some (.ref l))) ∧ H l = some (.lst (intsN (goods r.n m (g i)))) := by
  obtain ⟨ls, ll, nd, e, x⟩ := h
  obtain ⟨l, hl⟩ : ∃ l, ls[i]? = some l := ⟨_, List.getElem?_eq_getElem (by have := (List.getElem?_eq_some_iff.mp hr).1; omega)⟩
  refine ⟨l, fun t ht => ?_, x i r l hr hl⟩
  have g0 := DGet.t (k := r.key) e ht
  rw [val_kvz hn hr (by rw [List.getElem?_map, hl]; rfl)] at g0
  exact g0
/-- the deed of a pop -/
theorem right_pop {H : Hp} {q : Addr} {ls : List Addr} {rs : List Rec} {m i : Nat} {g : Nat → Nat → Bool} {r : Rec} (h : RightIs H q ls rs m g) (hn : (rs.map Rec.n).Nodup) (hr : rs[i]? = some r) (hg : g i = fun _ => true) (hm : 2 ≤ m) :
    ∃ l, l ∈ ls ∧ (∀ t, H t = some r.tup → DGet H q (.ref t) (some (.ref l))) ∧ H l = some (.lst [.int (tw0 r.n m : Nat), .int (tw1 r.n m : Nat)]) ∧
      RightIs (upd H l (.lst [.int (tw1 r.n m : Nat)])) q ls rs m (fun j x => if j = i ∧ x = tw0 r.n m then false else g j x) ∧ RightIs (upd H l (.lst [.int (tw0 r.n m : Nat)])) q ls rs m (fun j x => if j = i ∧ x = tw1 r.n m then false else g j x) := by
  obtain ⟨ll, nd, e, x⟩ := h
  obtain ⟨l, hl⟩ : ∃ l, ls[i]? = some l := ⟨_, List.getElem?_eq_getElem (by have := (List.getElem?_eq_some_iff.mp hr).1; omega)⟩
  have hlH := x i r l hr hl
  rw [hg] at hlH
  have hne := tw_ne (n := r.n) hm
  have key : ∀ (b c : Nat), [tw0 r.n m, tw1 r.n m].filter (fun x => if x = b then false else true) = [c] → RightIs (upd H l (.lst [.int (c : Nat)])) q ls rs m (fun j x => if j = i ∧ x = b then false else g j x) := fun b c hf => by
    refine ⟨ll, nd, ?_, fun j r' l' h1 h2 => ?_⟩
    · rw [upd_ne (ne_of e hlH (by intro z; cases z))]
      exact e
    · by_cases cj : j = i
      · subst cj
        rw [hr] at h1
        obtain rfl := Option.some.inj h1
        rw [hl] at h2
        obtain rfl := Option.some.inj h2
        have e2 : goods r.n m (fun x => if j = j ∧ x = b then false else g j x) = [c] := by
          unfold goods
          rw [hg, ← hf]
          refine List.filter_congr fun x _ => ?_
          by_cases cx : x = b
          · rw [if_pos ⟨rfl, cx⟩, if_pos cx]
          · rw [if_neg fun z => cx z.2, if_neg cx]
        rw [upd_same, e2]
        rfl
      · have z := x j r' l' h1 h2
        have hll : l' ≠ l := fun y => cj (nd_ix nd (y ▸ h2) hl)
        have e2 : goods r'.n m (fun x => if j = i ∧ x = b then false else g j x) = goods r'.n m (g j) := by
          unfold goods
          refine List.filter_congr fun x _ => ?_
          rw [if_neg fun z => cj z.1]
        rw [upd_ne hll, e2]
        exact z
  refine ⟨l, getE hl, fun t ht => ?_, hlH, key _ _ ?_, key _ _ ?_⟩
  · have g0 := DGet.t (k := r.key) e ht
    rw [val_kvz hn hr (by rw [List.getElem?_map, hl]; rfl)] at g0
    exact g0
  · rw [List.filter_cons, if_neg (by rw [if_pos rfl]; exact Bool.false_ne_true), List.filter_cons, if_pos (by rw [if_neg hne.symm])]
    rfl
  · rw [List.filter_cons, if_pos (by rw [if_neg hne]), List.filter_cons, if_neg (by rw [if_pos rfl]; exact Bool.false_ne_true)]
    rfl
/-- all the law keeps in hand -/
structure LawSt (C : Addr) (H : Hp) (p a tg q w : Addr) (ts : List Addr) (rs : List Rec) (m : Nat) (B : Bds) (cap : Nat) (g : Nat → Nat → Bool) : Prop where
  hB : BdAt C p m H B cap
  nt : NoTwo B
  la : LaidAt H a rs
  ta : TagsIs H tg ts rs
  ri : RightAt H q rs m g
  ro : RowsAt H w rs
  co : CopiesAll B rs m g
theorem LawSt.same {C : Addr} {H H' : Hp} {p a tg q w : Addr} {ts : List Addr} {rs : List Rec} {m : Nat} {B : Bds} {cap : Nat} {g : Nat → Nat → Bool} (h : LawSt C H p a tg q w ts rs m B cap g) (s : Same H H') : LawSt C H' p a tg q w ts rs m B cap g :=
  ⟨h.hB.mono s, h.nt, h.la.mono (SKeep.of s), h.ta.mono (SKeep.of s), h.ri.mono (SKeep.of s), h.ro.mono (SKeep.of s), h.co⟩
/-- the boards' deed -/
theorem LawSt.deed {C : Addr} {H H' : Hp} {p a tg q w : Addr} {ts : List Addr} {rs : List Rec} {m : Nat} {B B' : Bds} {cap cap' : Nat} {g : Nat → Nat → Bool} (h : LawSt C H p a tg q w ts rs m B cap g) (s : SKeep H H') (hB : BdAt C p m H' B' cap') (nt : NoTwo B') :
    LaidAt H' a rs ∧ TagsIs H' tg ts rs ∧ RightAt H' q rs m g ∧ RowsAt H' w rs ∧ BdAt C p m H' B' cap' ∧ NoTwo B' :=
  ⟨h.la.mono s, h.ta.mono s, h.ri.mono s, h.ro.mono s, hB, nt⟩
/-- the right dict's deed -/
theorem LawSt.put {C : Addr} {H H' : Hp} {p a tg q w : Addr} {ts : List Addr} {rs : List Rec} {m : Nat} {B : Bds} {cap : Nat} {g g' : Nat → Nat → Bool} (h : LawSt C H p a tg q w ts rs m B cap g) (s : Put q H H') (aq : a ≠ q) (wq : w ≠ q) (ri : RightAt H' q rs m g') :
    LaidAt H' a rs ∧ TagsIs H' tg ts rs ∧ RightAt H' q rs m g' ∧ RowsAt H' w rs ∧ BdAt C p m H' B cap ∧ NoTwo B := by
  obtain ⟨kvs, e⟩ := h.ri.dict
  have o : Odd2 (.dT kvs) := .inl ⟨_, rfl⟩
  exact ⟨h.la.put s e o aq, h.ta.put s e o, ri, h.ro.put s e o wq, h.hB.putT s e, h.nt⟩
/-- what stands for gone -/
def GoneIs (m : Nat) (gv : V) : Prop := gv = .non ∨ ∃ gi : Nat, gi < m ∧ gv = .int gi
/-- a record in the second loop: untouched, or one right and gone none of the two -/
def GoodSt (gv : V) (r : Rec) (m : Nat) (gj : Nat → Bool) : Prop := (gj (tw0 r.n m) = true ∧ gj (tw1 r.n m) = true) ∨ ((∀ gi : Nat, gv = .int gi → gi ≠ tw0 r.n m ∧ gi ≠ tw1 r.n m) ∧ (gj (tw0 r.n m) = true ∨ gj (tw1 r.n m) = true))
theorem goods_ne {n : Int} {m : Nat} {gj : Nat → Bool} (h : gj (tw0 n m) = true ∨ gj (tw1 n m) = true) : goods n m gj ≠ [] := fun z => by
  unfold goods at z
  have z2 := List.filter_eq_nil_iff.mp z
  rcases h with h | h
  · exact z2 _ List.mem_cons_self h
  · exact z2 _ (List.mem_cons_of_mem _ List.mem_cons_self) h
theorem GoodSt.some {gv : V} {r : Rec} {m : Nat} {gj : Nat → Bool} (h : GoodSt gv r m gj) : goods r.n m gj ≠ [] := goods_ne (by
  rcases h with ⟨h, _⟩ | ⟨_, h⟩
  · exact .inl h
  · exact h)
theorem GoodSt.lose {gi m : Nat} {r : Rec} {gj : Nat → Bool} (h : GoodSt (.int gi) r m gj) (hm : 2 ≤ m) : goods r.n m (fun b => gj b && decide (b ≠ gi)) ≠ [] := goods_ne (by
  have hne := tw_ne (n := r.n) hm
  rcases h with ⟨h1, h2⟩ | ⟨h0, h⟩
  · by_cases c : tw0 r.n m = gi
    · right
      rw [h2, decide_eq_true (by rw [← c]; exact hne.symm)]
      rfl
    · left
      rw [h1, decide_eq_true c]
      rfl
  · obtain ⟨n0, n1⟩ := h0 gi rfl
    rcases h with h | h
    · left
      rw [h, decide_eq_true n0.symm]
      rfl
    · right
      rw [h, decide_eq_true n1.symm]
      rfl)
theorem copies_lose {B : Bds} {n b : Int} {k : Blk} {m gi : Nat} {g : Nat → Bool} (h : Copies B n b k m g) : Copies (blose B gi) n b k m (fun x => g x && decide (x ≠ gi)) := fun i hi => by
  unfold blose
  dsimp only
  by_cases c : i = gi
  · have e : decide (i ≠ gi) = false := decide_eq_false fun y => y c
    rw [if_pos c, e, Bool.and_false]
    exact ⟨fun z => (nomatch z), fun _ => bad_none n⟩
  · have e : decide (i ≠ gi) = true := decide_eq_true c
    rw [if_neg c, e, Bool.and_true]
    exact h i hi
theorem copies_set {B : Bds} {n b : Int} {k : Blk} {m i : Nat} {c : Option (List Int)} {g : Nat → Bool} (h : Copies B n b k m g) (hc : Bad n c) : Copies (bset B i n c) n b k m (fun x => if x = i then false else g x) := fun j hj => by
  dsimp only
  by_cases e : j = i
  · subst e
    rw [if_pos rfl, bset_same]
    exact ⟨fun z => (nomatch z), fun _ => hc⟩
  · rw [if_neg e, bset_else e]
    exact h j hj
theorem copies_cg {B : Bds} {n b : Int} {k : Blk} {m : Nat} {g g' : Nat → Bool} (h : Copies B n b k m g) (e : ∀ x, g x = g' x) : Copies B n b k m g' := fun j hj => by
  rw [← e]
  exact h j hj
theorem rec_fresh {rs : List Rec} (hn : (rs.map Rec.n).Nodup) {i : Nat} {r : Rec} (hr : rs[i]? = some r) : ¬ r.n ∈ (rs.take i).map Rec.n := fun z => by
  obtain ⟨r2, h1, h2⟩ := List.mem_map.mp z
  obtain ⟨j, hj⟩ := List.mem_iff_getElem?.mp h1
  have hjl := (List.getElem?_eq_some_iff.mp hj).1
  rw [List.length_take] at hjl
  rw [List.getElem?_take, if_pos (by omega)] at hj
  have := rec_ix hn hj hr h2
  omega
theorem RightIs.some {H : Hp} {a : Addr} {ls : List Addr} {rs : List Rec} {m : Nat} {g : Nat → Nat → Bool} (h : RightIs H a ls rs m g) {l : Addr} (hl : l ∈ ls) : ∃ o, H l = some o := by
  obtain ⟨ll, nd, e, x⟩ := h
  obtain ⟨i, hi⟩ := List.mem_iff_getElem?.mp hl
  have hil : i < rs.length := by
    have := (List.getElem?_eq_some_iff.mp hi).1
    omega
  exact ⟨_, x i _ l (List.getElem?_eq_getElem hil) hi⟩
/-- one of the two is popped -/
theorem pop_of {H : Hp} {q l : Addr} {ls : List Addr} {rs : List Rec} {m i : Nat} {g : Nat → Nat → Bool} {n : Int} (h0 : RightIs (upd H l (.lst [.int (tw1 n m : Nat)])) q ls rs m (fun j x => if j = i ∧ x = tw0 n m then false else g j x))
    (h1 : RightIs (upd H l (.lst [.int (tw0 n m : Nat)])) q ls rs m (fun j x => if j = i ∧ x = tw1 n m then false else g j x)) {y : Int} (hy : y = 0 ∨ y = 1) :
    ∃ (k b c : Nat), seqIndex? y [V.int (tw0 n m : Nat), V.int (tw1 n m : Nat)].length = some k ∧ [V.int (tw0 n m : Nat), V.int (tw1 n m : Nat)][k]? = some (.int (b : Nat)) ∧ [V.int (tw0 n m : Nat), V.int (tw1 n m : Nat)].eraseIdx k = [.int (c : Nat)] ∧
      RightIs (upd H l (.lst [.int (c : Nat)])) q ls rs m (fun j x => if j = i ∧ x = b then false else g j x) ∧ ((b = tw0 n m ∧ c = tw1 n m) ∨ (b = tw1 n m ∧ c = tw0 n m)) := by
  rcases hy with rfl | rfl
  · exact ⟨0, _, _, rfl, rfl, rfl, h0, .inl ⟨rfl, rfl⟩⟩
  · exact ⟨1, _, _, rfl, rfl, rfl, h1, .inr ⟨rfl, rfl⟩⟩
theorem gone_not {m : Nat} {gv : V} (h : GoneIs m gv) {a b : Nat} (hn : inV gv [.int (a : Nat), .int (b : Nat)] = false) : ∀ gi : Nat, gv = .int gi → gi ≠ a ∧ gi ≠ b := by
  rintro gi rfl
  have h2 : (((a : Int) == (gi : Int)) || (((b : Int) == (gi : Int)) || false)) = false := hn
  rw [Bool.or_false, Bool.or_eq_false_iff] at h2
  obtain ⟨h3, h4⟩ := h2
  have h5 := ne_of_beq_false h3
  have h6 := ne_of_beq_false h4
  omega
theorem gone_flat {m : Nat} {gv : V} (h : GoneIs m gv) : flatV gv = true := by
  rcases h with rfl | ⟨gi, _, rfl⟩ <;> rfl
/-- after the pop and the spoil -/
theorem popped {B : Bds} {rs : List Rec} {m i b c : Nat} {g : Nat → Nat → Bool} {r : Rec} {o : Option (List Int)} {gv : V} (hn : (rs.map Rec.n).Nodup) (hr : rs[i]? = some r) (co : CopiesAll B rs m g) (hb : Bad r.n o) (hm : 2 ≤ m) (hg : g i = fun _ => true)
    (hbc : (b = tw0 r.n m ∧ c = tw1 r.n m) ∨ (b = tw1 r.n m ∧ c = tw0 r.n m)) (hgo : ∀ gi : Nat, gv = .int gi → gi ≠ tw0 r.n m ∧ gi ≠ tw1 r.n m) (hgd : ∀ (j : Nat) (r : Rec), rs[j]? = some r → GoodSt gv r m (g j)) :
    CopiesAll (bset B b r.n o) rs m (fun j x => if j = i ∧ x = b then false else g j x) ∧ ∀ (j : Nat) (r : Rec), rs[j]? = some r → GoodSt gv r m ((fun j x => if j = i ∧ x = b then false else g j x) j) := by
  have hne := tw_ne (n := r.n) hm
  refine ⟨fun j r2 hj => ?_, fun j r2 hj => ?_⟩
  · by_cases cj : j = i
    · subst cj
      rw [hr] at hj
      obtain rfl := Option.some.inj hj
      refine copies_cg (copies_set (co j r hr) hb) fun x => ?_
      dsimp only
      by_cases cx : x = b
      · rw [if_pos cx, if_pos ⟨rfl, cx⟩]
      · rw [if_neg cx, if_neg fun z => cx z.2]
    · refine copies_cg (copies_same (co j r2 hj) fun x => bset_other fun z => cj (rec_ix hn hj hr z)) fun x => ?_
      dsimp only
      rw [if_neg fun z => cj z.1]
  · by_cases cj : j = i
    · subst cj
      rw [hr] at hj
      obtain rfl := Option.some.inj hj
      refine .inr ⟨hgo, ?_⟩
      dsimp only
      rcases hbc with ⟨rfl, _⟩ | ⟨rfl, _⟩
      · right
        rw [if_neg fun z => hne z.2.symm, hg]
      · left
        rw [if_neg fun z => hne z.2, hg]
    · have e : (fun x => if j = i ∧ x = b then false else g j x) = g j := by
        funext x
        rw [if_neg fun z => cj z.1]
      dsimp only
      rw [e]
      exact hgd j r2 hj
/-- what the law keeps in hand, but for what is told of the copies -/
structure LawH (C : Addr) (H : Hp) (p a tg q w : Addr) (ts : List Addr) (rs : List Rec) (m : Nat) (B : Bds) (cap : Nat) (g : Nat → Nat → Bool) : Prop where
  hB : BdAt C p m H B cap
  nt : NoTwo B
  la : LaidAt H a rs
  ta : TagsIs H tg ts rs
  ri : RightAt H q rs m g
  ro : RowsAt H w rs
theorem LawSt.hh {C : Addr} {H : Hp} {p a tg q w : Addr} {ts : List Addr} {rs : List Rec} {m : Nat} {B : Bds} {cap : Nat} {g : Nat → Nat → Bool} (h : LawSt C H p a tg q w ts rs m B cap g) : LawH C H p a tg q w ts rs m B cap g := ⟨h.hB, h.nt, h.la, h.ta, h.ri, h.ro⟩
theorem LawH.st {C : Addr} {H : Hp} {p a tg q w : Addr} {ts : List Addr} {rs : List Rec} {m : Nat} {B : Bds} {cap : Nat} {g : Nat → Nat → Bool} (h : LawH C H p a tg q w ts rs m B cap g) (co : CopiesAll B rs m g) : LawSt C H p a tg q w ts rs m B cap g := ⟨h.hB, h.nt, h.la, h.ta, h.ri, h.ro, co⟩
theorem LawH.same {C : Addr} {H H' : Hp} {p a tg q w : Addr} {ts : List Addr} {rs : List Rec} {m : Nat} {B : Bds} {cap : Nat} {g : Nat → Nat → Bool} (h : LawH C H p a tg q w ts rs m B cap g) (s : Same H H') : LawH C H' p a tg q w ts rs m B cap g :=
  ⟨h.hB.mono s, h.nt, h.la.mono (SKeep.of s), h.ta.mono (SKeep.of s), h.ri.mono (SKeep.of s), h.ro.mono (SKeep.of s)⟩
theorem LawH.deed {C : Addr} {H H' : Hp} {p a tg q w : Addr} {ts : List Addr} {rs : List Rec} {m : Nat} {B B' : Bds} {cap cap' : Nat} {g : Nat → Nat → Bool} (h : LawH C H p a tg q w ts rs m B cap g) (s : SKeep H H') (hB : BdAt C p m H' B' cap') (nt : NoTwo B') :
    LawH C H' p a tg q w ts rs m B' cap' g := ⟨hB, nt, h.la.mono s, h.ta.mono s, h.ri.mono s, h.ro.mono s⟩
theorem LawH.put {C : Addr} {H H' : Hp} {p a tg q w : Addr} {ts : List Addr} {rs : List Rec} {m : Nat} {B : Bds} {cap : Nat} {g g' : Nat → Nat → Bool} (h : LawH C H p a tg q w ts rs m B cap g) (s : Put q H H') (aq : a ≠ q) (wq : w ≠ q) (ri : RightAt H' q rs m g') :
    LawH C H' p a tg q w ts rs m B cap g' := by
  obtain ⟨kvs, e⟩ := h.ri.dict
  have o : Odd2 (.dT kvs) := .inl ⟨_, rfl⟩
  exact ⟨h.hB.putT s e, h.nt, h.la.put s e o aq, h.ta.put s e o, ri, h.ro.put s e o wq⟩
theorem LawH.right {C : Addr} {H : Hp} {p a tg q w : Addr} {ts : List Addr} {rs : List Rec} {m : Nat} {B : Bds} {cap : Nat} {g g' : Nat → Nat → Bool} (h : LawH C H p a tg q w ts rs m B cap g) (e : ∀ (i : Nat) (r : Rec), rs[i]? = some r → goods r.n m (g i) = goods r.n m (g' i)) : LawH C H p a tg q w ts rs m B cap g' :=
  ⟨h.hB, h.nt, h.la, h.ta, h.ri.congr e, h.ro⟩
/-- two deeds, the first in two ways -/
theorem seq_of {A R : TS} {D : Ends} {σ : L2.St} {H : Hp} (J : L2.St → Hp → Prop) (hr : ∀ σ H, J σ H → R D σ H) (h : (∀ σ H, J σ H → R D σ H) → tSeq A R D σ H) : tSeq A R D σ H := h hr
theorem laid_get {H : Hp} {a : Addr} {rs : List Rec} {i : Nat} {r : Rec} (h : LaidAt H a rs) (hn : (rs.map Rec.n).Nodup) (hr : rs[i]? = some r) : ∃ v, (∀ t, H t = some r.tup → DGet H a (.ref t) (some v)) ∧ Rp H r.k.th v := by
  obtain ⟨vs, l, e, x⟩ := h
  obtain ⟨v, hv⟩ : ∃ v, vs[i]? = some v := ⟨_, List.getElem?_eq_getElem (by have := (List.getElem?_eq_some_iff.mp hr).1; omega)⟩
  refine ⟨v, fun t ht => ?_, x i r v hr hv⟩
  have g0 := DGet.t (k := r.key) e ht
  rw [val_kvz hn hr hv] at g0
  exact g0
/-- all that was good is spoilt -/
theorem copies_spoilt {B B' : Bds} {rs : List Rec} {m j : Nat} {g : Nat → Nat → Bool} {r : Rec} (hn : (rs.map Rec.n).Nodup) (hr : rs[j]? = some r) (co : CopiesAll B rs m g) (h1 : ∀ k, k ≠ r.n → ∀ b, B' b k = B b k) (h2 : ∀ b ∈ goods r.n m (g j), B' b r.n = some []) (h3 : ∀ b, ¬ b ∈ goods r.n m (g j) → B' b r.n = B b r.n) :
    CopiesAll B' rs m (fun k => if k = j then fun _ => false else g k) := fun k r2 hk => by
  dsimp only
  by_cases c : k = j
  · subst c
    rw [hr] at hk
    obtain rfl := Option.some.inj hk
    rw [if_pos rfl]
    refine fun b hb => ⟨fun z => (nomatch z), fun _ => ?_⟩
    by_cases d : b ∈ goods r.n m (g k)
    · rw [h2 b d]
      exact bad_nil _
    · rw [h3 b d]
      refine (co k r hr b hb).2 ?_
      cases e : g k b with
      | false => rfl
      | true =>
        refine (d ?_).elim
        unfold goods
        refine List.mem_filter.mpr ⟨?_, e⟩
        rcases hb with rfl | rfl
        · exact List.mem_cons_self
        · exact List.mem_cons_of_mem _ List.mem_cons_self
  · rw [if_neg c]
    exact copies_same (co k r2 hk) (h1 _ fun z => c (rec_ix hn hk hr z))
/-- laid anew -/
theorem copies_anew {B : Bds} {rs : List Rec} {m j : Nat} {g : Nat → Nat → Bool} {r : Rec} (hn : (rs.map Rec.n).Nodup) (hr : rs[j]? = some r) (co : CopiesAll B rs m g) : CopiesAll (blay B r.n m (cellW r.n r.b r.k)) rs m (fun k => if k = j then fun _ => true else g k) := fun k r2 hk => by
  dsimp only
  by_cases c : k = j
  · subst c
    rw [hr] at hk
    obtain rfl := Option.some.inj hk
    rw [if_pos rfl]
    exact copies_laid
  · rw [if_neg c]
    exact copies_same (co k r2 hk) fun b => blay_other (fun z => c (rec_ix hn hk hr z)) b
theorem goods_lose {n : Int} {m gi : Nat} {gj : Nat → Bool} : (goods n m gj).filter (fun b => decide (b ≠ gi)) = goods n m (fun b => gj b && decide (b ≠ gi)) := by
  unfold goods
  rw [List.filter_filter]
  refine List.filter_congr fun x _ => ?_
  rw [Bool.and_comm]
theorem goods_le (n : Int) (m : Nat) (gj : Nat → Bool) : (goods n m gj).length ≤ 2 := by
  have := List.length_filter_le gj [tw0 n m, tw1 n m]
  exact this
theorem goods_lt {n : Int} {m b : Nat} {gj : Nat → Bool} (hm : 2 ≤ m) (h : b ∈ goods n m gj) : b < m := by
  have h2 := (List.mem_filter.mp h).1
  rcases List.mem_cons.mp h2 with rfl | h2
  · exact tw0_lt hm
  · rw [List.mem_singleton.mp h2]
    exact tw1_lt hm
theorem ints_at {l : List Nat} {i : Nat} {x : V} (h : (intsN l)[i]? = some x) : ∃ b, l[i]? = some b ∧ x = .int (b : Nat) := by
  unfold intsN at h
  rw [List.getElem?_map, List.getElem?_map] at h
  cases e : l[i]? with
  | none =>
    rw [e] at h
    cases h
  | some t =>
    rw [e] at h
    exact ⟨t, rfl, (Option.some.inj h).symm⟩
theorem seq_scr {K : PySem.W.Frag} {H : Hp} {a l : Addr} {xs : List V} {u : HO} (h : SqL K H a xs) (c : l ≠ a ∨ ∀ H, SqL K H a xs) : SqL K (upd H l u) a xs := by
  rcases c with c | c
  · rcases h with (e | ⟨o, e⟩) | e
    · exact .inl (.inl (by rw [upd_ne c.symm]; exact e))
    · exact .inl (.inr ⟨o, by rw [upd_ne c.symm]; exact e⟩)
    · exact .inr e
  · exact c _
theorem scr_of {K : PySem.W.Frag} {H : Hp} {a : Addr} {xs : List V} (h : SqL K H a xs) : (∀ l, H l = none → l ≠ a) ∨ ∀ H, SqL K H a xs := by
  rcases h with (e | ⟨o, e⟩) | e
  · exact .inl fun l hl z => by
      rw [z, e] at hl
      cases hl
  · exact .inl fun l hl z => by
      rw [z, e] at hl
      cases hl
  · exact .inr fun _ => .inr e
theorem ref_at {ts : List Addr} {i : Nat} {x : V} (h : (ts.map V.ref)[i]? = some x) : ∃ t, ts[i]? = some t ∧ x = .ref t := by
  rw [List.getElem?_map] at h
  cases e : ts[i]? with
  | none =>
    rw [e] at h
    cases h
  | some t =>
    rw [e] at h
    exact ⟨t, rfl, (Option.some.inj h).symm⟩
end Sk

set_option Elab.async false
set_option linter.all false
set_option maxRecDepth 100000
set_option maxHeartbeats 4000000
namespace Sk
open PySem PySem.Spec PyProof.Rows L2
/-! ### signs -/
section
variable {P : Program} {w : World} {K : PySem.W.Frag} {mg : Str → Option Value} {base : Heap} {f : Addr} {fd : FuncData}
theorem sc_number_of : FnScope ["sign"] ["sign"] (defScope s_number_of) := ⟨rfl, rfl, rfl, by decide +kernel, rfl, by decide +kernel, by decide +kernel⟩
theorem ok_number_of (F : FnP K "number_of" s_number_of f fd) (T : Txt mg) : FnOk P w K mg base CX0 1 f fd ["sign"] sp_number_of := by
  refine ok0 F sc_number_of (fun vs H Q E h => ?_) (fun cdv A outer s H vs Q E hr h => ?_)
  · obtain ⟨c, rfl, _⟩ := h
    rfl
  · obtain ⟨c, rfl, hc, q⟩ := h
    refine ⟨_, pss_one (ps_ret (pe_bm PySem.F.plainAttrs_str PySem.F.slot_str_index PySem.F.type_str_index mt_sindex (pe_gl T.c_SIGNS) (pa_cons (pv 0) pa_nil))), ?_⟩
    exact ⟨rfl, _, rfl, _, _, _, _, rfl, rfl, sgL_occ c hc, q⟩
theorem sc_sign_of : FnScope ["number"] ["number"] (defScope s_sign_of) := ⟨rfl, rfl, rfl, by decide +kernel, rfl, by decide +kernel, by decide +kernel⟩
theorem ok_sign_of (F : FnP K "sign_of" s_sign_of f fd) (T : Txt mg) : FnOk P w K mg base CX0 1 f fd ["number"] sp_sign_of := by
  refine ok0 F sc_sign_of (fun vs H Q E h => ?_) (fun cdv A outer s H vs Q E hr h => ?_)
  · obtain ⟨i, c, rfl, _⟩ := h
    rfl
  · obtain ⟨i, c, rfl, hc, q⟩ := h
    refine ⟨_, pss_one (ps_ret (pe_ix ix_str (pe_gl T.c_SIGNS) (pv 0) (fun _ _ => rfl))), ?_⟩
    exact ⟨_, rfl, tSIGNS, _, c, rfl, rfl, by decide +kernel, atI_nat hc, q⟩
theorem sc_numbers_of : FnScope ["text", "sign"] ["text"] (defScope s_numbers_of) := ⟨rfl, rfl, rfl, by decide +kernel, rfl, by decide +kernel, by decide +kernel⟩
theorem ok_numbers_of (F : FnP K "numbers_of" s_numbers_of f fd) (T : Txt mg) (G : Has P w K mg base CX0 1 "number_of" ["sign"] sp_number_of) : FnOk P w K mg base CX0 2 f fd ["text"] sp_numbers_of := by
  refine ok0 F sc_numbers_of (fun vs H Q E h => ?_) (fun cdv A outer s H vs Q E hr h => ?_)
  · obtain ⟨z, rfl, _⟩ := h
    rfl
  · obtain ⟨z, rfl, hl, hz, q⟩ := h
    refine ⟨_, pss_one (ps_ret (pe_lc (own := [("sign", 1)]) (g := gName 1) (tt := tYes) rfl sc_numbers_of.nd (pi_str (pv 0)) (blkOk_by (own := [("sign", 1)]) (N := ["text", "sign"]) (sc := defScope s_numbers_of) (by decide +kernel))
      (fun _ _ _ _ _ => pg_name (i := 1) sc_numbers_of.nd rfl (Or.inl rfl)) (fun _ _ _ _ _ => pts_nil) (fun _ _ _ _ _ => pe_has G hr pass0 (pa_cons (pv 1) pa_nil)))), ?_⟩
    refine ⟨_, rfl, _, rfl, fun D hD => ?_⟩
    refine lc_pure walk_str (fun i => .int ((sgL.idxOf (z.cps.toList.getD i 0) : Nat))) hD (Nat.le_trans hl (by decide)) (fun _ _ => trivial) (fun i x H1 H' k hi s1 y kk => ?_) (fun H1 s1 e => q H1 D s1 hD ?_)
    · obtain ⟨rfl, c, hc, rfl⟩ := y
      have hc' : z.cps.toList[i]? = some c := by rw [Array.getElem?_toList]; exact hc
      have e : z.cps.toList.getD i 0 = c := by rw [List.getD_eq_getElem?_getD, hc']; rfl
      have z2 := kk H' (Same.refl _)
      rw [e] at z2
      exact ⟨rfl, _, rfl, c, rfl, hz c (List.mem_of_getElem? hc'), z2⟩
    · rw [e]
      have := map_range z.cps.toList (fun c => V.int ((sgL.idxOf c : Nat))) (fun i => .int ((sgL.idxOf (z.cps.toList.getD i 0) : Nat))) (fun i x hx => by rw [List.getD_eq_getElem?_getD, hx]; rfl)
      rw [show z.cps.size = z.cps.toList.length from Array.length_toList.symm, this]
      unfold nums
      rw [List.map_map]
      rfl
theorem sc_is_text : FnScope ["thing", "most", "sign"] ["thing", "most"] (defScope s_is_text) := ⟨rfl, rfl, rfl, by decide +kernel, rfl, by decide +kernel, by decide +kernel⟩
theorem ok_is_text (F : FnP K "is_text" s_is_text f fd) (T : Txt mg) : FnOk P w K mg base CX0 1 f fd ["thing", "most"] sp_is_text := by
  refine ok0 F sc_is_text (fun vs H Q E h => ?_) (fun cdv A outer s H vs Q E hr h => ?_)
  · obtain ⟨z, m, rfl, _⟩ := h
    rfl
  · obtain ⟨z, m, rfl, hl, hm, hz, q⟩ := h
    refine ⟨_, pss_one (ps_ret (pe_and (pe_isi T.n_isinstance T.n_str boot_tstr (pv 0)) (pe_and (pe_cmpR op_le (pe_callB call_len_str rfl T.n_len PySem.boot_len (pa_cons (pv 0) pa_nil)) (pv 1) (nomark _))
      (pe_one (pe_callB (cr_all rfl) rfl T.n_all boot_all (pa_cons (pe_lc (own := [("sign", 2)]) (g := gName 2) (tt := tYes) rfl sc_is_text.nd (pi_str (pv 0)) (blkOk_by (own := [("sign", 2)]) (N := ["thing", "most", "sign"]) (sc := defScope s_is_text) (by decide +kernel))
        (fun _ _ _ _ _ => pg_name (i := 2) sc_is_text.nd rfl (Or.inl rfl)) (fun _ _ _ _ _ => pts_nil) (fun _ _ _ _ _ => pe_cmpR op_in_sign (pv 2) (pe_gl T.c_SIGNS) rfl)) pa_nil)))))), ?_⟩
    refine ⟨_, rfl, _, _, _, rfl, .base (.str _), kb_str_str, _, rfl, iteT ?_⟩
    refine ⟨_, rfl, z, rfl, Nat.le_trans hl (by decide), _, rfl, _, _, rfl, rfl, _, rfl, ?_⟩
    rw [decide_eq_true hm]
    refine iteT ⟨_, rfl, _, rfl, fun D hD => ?_⟩
    refine lc_pure walk_str (fun i => .bl true) hD (Nat.le_trans hl (by decide)) (fun _ _ => trivial) (fun i x H1 H' k hi s1 y kk => ?_) (fun H1 s1 e => ?_)
    · obtain ⟨rfl, c, hc, rfl⟩ := y
      have hc' : z.cps.toList[i]? = some c := by rw [Array.getElem?_toList]; exact hc
      have z2 := kk H' (Same.refl _)
      refine ⟨rfl, _, rfl, c, tSIGNS, rfl, rfl, ?_⟩
      rw [show decide (c ∈ tSIGNS.cps.toList) = true from decide_eq_true (hz c (List.mem_of_getElem? hc'))]
      exact z2
    · refine ⟨D, (List.range z.cps.size).map (fun _ => true), rfl, SqL.of ?_, ?_⟩
      · rw [e, List.map_map]
        rfl
      · have : ((List.range z.cps.size).map (fun _ => true)).all id = true := by simp
        rw [this]
        exact q H1 s1
end
end Sk

set_option Elab.async false
set_option linter.all false
set_option maxRecDepth 100000
set_option maxHeartbeats 4000000
namespace Sk
open PySem PySem.Spec PyProof.Rows L2
section
variable {P : Program} {w : World} {K : PySem.W.Frag} {mg : Str → Option Value} {base : Heap} {f : Addr} {fd : FuncData}
theorem sc_is_number : FnScope ["thing"] ["thing"] (defScope s_is_number) := ⟨rfl, rfl, rfl, by decide +kernel, rfl, by decide +kernel, by decide +kernel⟩
theorem ok_is_number (F : FnP K "is_number" s_is_number f fd) (T : Txt mg) : FnOk P w K mg base CX0 1 f fd ["thing"] sp_is_number := by
  refine ok0 F sc_is_number (fun vs H Q E h => ?_) (fun cdv A outer s H vs Q E hr h => ?_)
  · obtain ⟨i, rfl, _⟩ := h
    rfl
  · obtain ⟨i, rfl, h0, h1, q⟩ := h
    refine ⟨_, pss_one (ps_ret (pe_and (pe_isi T.n_isinstance T.n_int boot_tint (pv 0)) (pe_and (pe_not (pe_isi T.n_isinstance T.n_bool boot_tbool (pv 0))) (pe_one (pe_chain op_le op_le pe_int (pv 0) (pe_gl T.c_GREATEST)))))), ?_⟩
    refine ⟨_, rfl, _, _, _, rfl, .base (.int _), kb_int_int, _, rfl, iteT ?_⟩
    refine ⟨_, rfl, _, _, _, rfl, .base (.int _), kb_int_bool, _, rfl, _, rfl, iteT ?_⟩
    refine ⟨_, rfl, _, _, rfl, rfl, _, rfl, ?_⟩
    rw [decide_eq_true h0]
    refine iteT ⟨_, _, rfl, rfl, ?_⟩
    exact ret_dec h1 q
end
section
variable {P : Program} {w : World} {K : PySem.W.Frag} {mg : Str → Option Value} {base : Heap} {f : Addr} {fd : FuncData}
theorem sc_words_of : FnScope ["thing", "words", "part"] ["thing"] (defScope s_words_of) := ⟨rfl, rfl, rfl, by decide +kernel, rfl, by decide +kernel, by decide +kernel⟩
theorem ok_words_of (F : FnP K "words_of" s_words_of f fd) (T : Txt mg) (gm : mg "words_of" = some (.ref f)) (gN : Has P w K mg base CX0 2 "numbers_of" ["text"] sp_numbers_of) :
    ∀ k : Nat, FnOk P w K mg base CX0 (k + 3) f fd ["thing"] (sp_words_of k)
  | 0 => ⟨fun vs H Q E h => by
      obtain ⟨d, v, _, _, hk, _⟩ := h
      exact hk.elim, fun A outer s H args us vs Q E _ _ _ _ h => by
      obtain ⟨d, v, _, _, hk, _⟩ := h
      exact hk.elim⟩
  | k + 1 => by
    have ih := ok_words_of F T gm gN k
    have gW : Has P w K mg base CX0 (k + 3) "words_of" ["thing"] (sp_words_of k) := has0 F gm ih fun _ _ _ _ _ _ us hl => match us, hl with | [_], _ => rfl
    refine ok0 F sc_words_of (fun vs H Q E h => ?_) (fun cdv A outer s H vs Q E hr h => ?_)
    · obtain ⟨d, v, rfl, _⟩ := h
      rfl
    · obtain ⟨d, v, rfl, hv, hk, hlen, q⟩ := h
      have hr2 : Room 2 _ := hr.mono (by omega)
      refine ⟨_, pss_cons (ps_if (pt_val (pe_isi T.n_isinstance T.n_int boot_tint (pv 0))) (pss_one (ps_ret (pe_lst (pa_cons pe_int (pa_cons (pv 0) pa_nil))))) pss_nil)
        (pss_cons (ps_if (pt_val (pe_isi T.n_isinstance T.n_str boot_tstr (pv 0))) (pss_one (ps_ret (pe_op op_cat (pe_lst (pa_cons pe_int (pa_cons (pe_callB call_len_str rfl T.n_len PySem.boot_len (pa_cons (pv 0) pa_nil)) pa_nil))) (pe_has gN hr2 pass0 (pa_cons (pv 0) pa_nil))))) pss_nil)
        (pss_cons (ps_set (i := 1) sc_words_of.nd rfl (Or.inl rfl) (pe_lst (pa_cons pe_int (pa_cons (pe_callB call_len_seq rfl T.n_len PySem.boot_len (pa_cons (pv 0) pa_nil)) pa_nil))))
        (pss_cons (ps_for PassesOwn.never rfl (pi_tup (pv 0)) (pg_name (i := 2) sc_words_of.nd rfl (Or.inl rfl))
          (pss_one (ps_expr (pe_bm PySem.F.plainAttrs_list PySem.F.slot_list_extend PySem.F.type_list_extend mt_extend (pv 1) (pa_cons (pe_has gW hr pass0 (pa_cons (pv 2) pa_nil)) pa_nil)))))
        (pss_one (ps_ret (pv 1)))))), ?_⟩
      cases d with
      | n i =>
        obtain rfl : v = .int i := hv
        refine ⟨_, rfl, _, _, _, rfl, .base (.int _), kb_int_int, _, rfl, iteT ?_⟩
        refine ⟨_, rfl, (by show 2 ≤ sizeLine; decide), fun p hp => q _ p (fun b o e => by rw [upd_ne (ne_of_none e hp)]; exact e) hp upd_same⟩
      | s z =>
        obtain rfl : v = .str z := hv
        obtain ⟨z1, z2⟩ := (show z.length ≤ 400 ∧ ∀ c ∈ z.cps.toList, c ∈ sgL from hk)
        refine ⟨_, rfl, _, _, _, rfl, .base (.str _), kb_str_int, _, rfl, iteF ?_⟩
        refine ⟨_, rfl, _, _, _, rfl, .base (.str _), kb_str_str, _, rfl, iteT ?_⟩
        refine ⟨_, rfl, z, rfl, Nat.le_trans z1 (by decide), (by show 2 ≤ sizeLine; decide), fun l hl => ?_⟩
        refine ⟨_, rfl, z, rfl, Nat.le_trans z1 (by decide), z2, fun H1 p1 s1 n1 e1 => ?_⟩
        have nl : H1 l = some (.lst [.int 1, .int z.length]) := s1 _ _ upd_same
        refine ⟨l, p1, _, _, rfl, rfl, nl, e1, ?_, fun p hp => q _ p (fun b o e => ?_) ?_ ?_⟩
        · have q1 : (nums z).length = z.length := by
            unfold nums
            rw [List.length_map]
            exact Array.length_toList
          rw [List.length_map, q1]
          show 2 + z.length ≤ sizeLine
          have := sigLE
          omega
        · have h1 : H1 b = some o := s1 _ _ (by rw [upd_ne (ne_of_none e hl)]; exact e)
          rw [upd_ne (ne_of_none h1 hp)]
          exact h1
        · cases e : H p with
          | none => rfl
          | some o =>
            have h1 : H1 p = some o := s1 _ _ (by rw [upd_ne (ne_of_none e hl)]; exact e)
            rw [hp] at h1
            cases h1
        · rw [upd_same, words]
          rfl
      | t l =>
        obtain ⟨a, xs, rfl, ha, hxs⟩ := (show ∃ a xs, v = .ref a ∧ H a = some (.tup xs) ∧ RpAll H l xs from hv)
        obtain ⟨l1, l2⟩ := (show l.length ≤ 100 ∧ ∀ d ∈ l, okT k d from hk)
        have hw : words (.t l) = 2 :: (l.length : Int) :: wordsAll l := by rw [words]
        rw [hw] at hlen q
        have hxl := RpAll.length hxs
        refine ⟨_, rfl, _, _, _, rfl, .base (.tup ha), kb_tup_int, _, rfl, iteF ?_⟩
        refine ⟨_, rfl, _, _, _, rfl, .base (.tup ha), kb_tup_str, _, rfl, iteF ?_⟩
        refine ⟨_, rfl, a, xs, rfl, .inr (SqT.of ha), (by show 2 ≤ sizeLine; decide), fun L hL => ?_⟩
        have sL : ∀ {b : Addr} {o : HO}, H b = some o → (upd H L (.lst [.int 2, .int (xs.length : Nat)])) b = some o := fun e => by
          rw [upd_ne (ne_of_none e hL)]
          exact e
        refine ⟨_, rfl, a, rfl, ⟨_, SqT.of (sL ha)⟩, for_tup (K := K) (a := a) (xs := xs)
          (fun i σ H' => ∃ u, σ = [some (.ref a), some (.ref L), u] ∧ Same H H' ∧ H' L = some (.lst ((2 :: (l.length : Int) :: wordsAll (l.take i)).map V.int)))
          ⟨none, rfl, fun b o e => sL e, ?_⟩ (fun i σ H' _ ⟨_, _, s5, _⟩ => SqT.of (s5 _ _ ha)) ?_ ?_⟩
        · rw [upd_same, hxl]
          rfl
        · rintro i x σ H' hi ⟨u, rfl, s5, eL⟩
          obtain ⟨d, hd, hx⟩ := RpAll.get hxs hi
          have hw2 : wordsAll (l.take (i + 1)) = wordsAll (l.take i) ++ words d := by rw [take_snoc hd, wordsAll_app, wordsAll_one]
          have hle := wordsAll_take_le l (i + 1)
          rw [hw2, List.length_append] at hle
          rw [List.length_cons, List.length_cons] at hlen
          refine ⟨_, rfl, .inl ⟨rfl, _, SqL.of eL⟩, _, rfl, d, x, rfl, Rp.mono (Tups.of s5) d x hx, l2 d (List.mem_of_getElem? hd), by omega, fun H1 p1 s1 n1 e1 => ?_⟩
          refine ⟨L, p1, _, _, rfl, rfl, s1 _ _ eL, e1, ?_, ?_⟩
          · rw [List.length_map, List.length_map, List.length_cons, List.length_cons]
            have := sigLE
            omega
          · refine ⟨_, rfl, fun b o e => ?_, ?_⟩
            · rw [upd_ne (ne_of_none e hL)]
              exact s1 _ _ (s5 _ _ e)
            · rw [upd_same, hw2]
              simp only [List.map_cons, List.map_append, List.cons_append]
        · rintro σ H' ⟨u, rfl, s5, eL⟩
          refine ⟨_, rfl, q _ L s5 hL ?_⟩
          rw [eL, hxl, List.take_length]
end
end Sk

set_option Elab.async false
set_option linter.all false
set_option maxRecDepth 100000
set_option maxHeartbeats 4000000
namespace Sk
open PySem PySem.Spec PyProof.Rows L2
/-! ### words read -/
theorem cut_at (xs : List V) {a m : Nat} (h : a + m ≤ xs.length) : cutV xs (some (a : Int)) (some ((a : Int) + (m : Int))) = (xs.drop a).take m := by
  have e : (a : Int) + (m : Int) = ((a + m : Nat) : Int) := by omega
  unfold cutV
  rw [e, HT.sIx_nat, HT.sIx_nat, Nat.min_eq_left h, Nat.min_eq_left (by omega : a ≤ xs.length), Nat.add_sub_cancel_left]
theorem drop_at {ws r : List Int} {a : Nat} (h : ws.drop a = r) (j : Nat) : ws[a + j]? = r[j]? := by
  rw [← h, List.getElem?_drop]
theorem map_at {ws : List Int} {j : Nat} {x : Int} (h : ws[j]? = some x) : (ws.map V.int)[j]? = some (V.int x) := by
  rw [List.getElem?_map, h]
  rfl
theorem at_int {ws : List Int} {j : Nat} {i x : Int} (e : i = (j : Int)) (h : ws[j]? = some x) : atI (ws.map V.int) i = some (V.int x) := at_of e (map_at h)
section
variable {P : Program} {w : World} {K : PySem.W.Frag} {mg : Str → Option Value} {base : Heap} {f : Addr} {fd : FuncData}
theorem sc_text_at : FnScope ["words", "at", "many", "text", "word"] ["words", "at", "many"] (defScope s_text_at) := ⟨rfl, rfl, rfl, by decide +kernel, rfl, by decide +kernel, by decide +kernel⟩
theorem ok_text_at (F : FnP K "text_at" s_text_at f fd) (T : Txt mg) (G : Has P w K mg base CX0 1 "sign_of" ["number"] sp_sign_of) : FnOk P w K mg base CX0 2 f fd ["words", "at", "many"] sp_text_at := by
  refine ok0 F sc_text_at (fun vs H Q E h => ?_) (fun cdv A outer s H vs Q E hr h => ?_)
  · obtain ⟨L, ws, a, ai, m, z, rfl, _⟩ := h
    rfl
  · obtain ⟨L, ws, a, ai, m, z, rfl, rfl, rfl, hL, hle, hw, hz, hs, q⟩ := h
    refine ⟨_, pss_cons (ps_set (i := 3) sc_text_at.nd rfl (Or.inl rfl) pe_str)
      (pss_cons (ps_for PassesOwn.never rfl (pi_list (pe_slice sl_list (pv 0) (po_some (pv 1)) (po_some (pe_op op_add (pv 1) (pv 2))))) (pg_name (i := 4) sc_text_at.nd rfl (Or.inl rfl))
        (pss_cons (ps_if (pt_not (pt_chain op_le op_lt pe_int (pv 4) (pe_callB call_len_str rfl T.n_len PySem.boot_len (pa_cons (pe_gl T.c_SIGNS) pa_nil)))) pss_never pss_nil)
        (pss_one (ps_set (i := 3) sc_text_at.nd rfl (Or.inl rfl) (pe_op op_add_str (pv 3) (pe_has G hr pass0 (pa_cons (pv 4) pa_nil)))))))
      (pss_one (ps_ret (pv 3)))), ?_⟩
    have hle' : a + z.length ≤ (ws.map V.int).length := by rw [List.length_map]; exact hle
    have hcut : cutV (ws.map V.int) (some (a : Int)) (some ((a : Int) + (z.length : Int))) = (nums z).map V.int := by
      rw [cut_at _ hle', ← List.map_drop, ← List.map_take, hw]
    refine ⟨_, rfl, _, rfl, _, rfl, _, rfl, _, rfl, _, _, rfl, rfl, _, rfl, L, _, rfl, SqL.of hL, fun D hD => ?_⟩
    rw [hcut]
    refine ⟨D, rfl, ⟨_, SqL.of upd_same⟩, for_list (K := K) (a := D) (xs := (nums z).map V.int)
      (fun i σ H' => ∃ u, σ = [some (.ref L), some (.int a), some (.int z.length), some (.str ⟨(z.cps.toList.take i).toArray⟩), u] ∧ Same (upd H D (.lst ((nums z).map V.int))) H')
      ⟨none, rfl, Same.refl _⟩ (fun i σ H' _ ⟨_, _, s5⟩ => SqL.of (s5 _ _ upd_same)) ?_ ?_⟩
    · rintro i x σ H' hi ⟨u, rfl, s5⟩
      obtain ⟨c, hc, rfl⟩ : ∃ c, z.cps.toList[i]? = some c ∧ x = V.int (sgL.idxOf c : Nat) := by
        unfold nums at hi
        rw [List.map_map, List.getElem?_map] at hi
        cases e : z.cps.toList[i]? with
        | none =>
          rw [e] at hi
          cases hi
        | some c =>
          rw [e] at hi
          exact ⟨c, rfl, (Option.some.inj hi).symm⟩
      have hm := hs c (List.mem_of_getElem? hc)
      have hlt := sgL_lt c hm
      have h94 : tSIGNS.length = 94 := by decide +kernel
      refine ⟨_, rfl, _, _, rfl, rfl, _, rfl, ?_⟩
      rw [decide_eq_true (by omega : (0 : Int) ≤ (sgL.idxOf c : Nat))]
      refine iteT ⟨tSIGNS, rfl, by decide +kernel, _, _, rfl, rfl, _, rfl, ?_⟩
      rw [h94, decide_eq_true (by omega : ((sgL.idxOf c : Nat) : Int) < ((94 : Nat) : Int))]
      refine iteF ⟨_, rfl, _, rfl, sgL.idxOf c, c, rfl, ?_, ?_⟩
      · rw [List.getElem?_eq_getElem (List.idxOf_lt_length_of_mem hm)]
        exact congrArg some (List.getElem_idxOf (List.idxOf_lt_length_of_mem hm))
      · refine ⟨_, _, rfl, rfl, ?_, some (.int (sgL.idxOf c : Nat)), ?_, s5⟩
        · have q1 : (z.cps.toList.take i).length ≤ z.cps.toList.length := by rw [List.length_take]; exact Nat.min_le_right _ _
          have q2 : z.cps.toList.length = z.length := Array.length_toList
          have q3 : (⟨(z.cps.toList.take i).toArray⟩ : Str).length = (z.cps.toList.take i).length := List.size_toArray
          have q4 : (⟨#[c]⟩ : Str).length = 1 := rfl
          have := sigLE
          rw [q3, q4]
          omega
        · have e : (⟨(z.cps.toList.take i).toArray⟩ : Str) ++ (⟨#[c]⟩ : Str) = ⟨(z.cps.toList.take (i + 1)).toArray⟩ := by
            show Str.append _ _ = _
            unfold Str.append
            rw [take_snoc hc]
            simp
          rw [e]
          rfl
    · rintro σ H' ⟨u, rfl, s5⟩
      refine ⟨_, rfl, ?_⟩
      have e : (⟨(z.cps.toList.take ((nums z).map V.int).length).toArray⟩ : Str) = z := by
        rw [List.length_map, nums_len, show z.length = z.cps.toList.length from Array.length_toList.symm, List.take_length]
      rw [e]
      exact q H' fun b o h => s5 _ _ (by rw [upd_ne (ne_of_none h hD)]; exact h)
theorem sc_thing_at : FnScope ["words", "at", "deep", "many", "parts", "k", "part"] ["words", "at", "deep"] (defScope s_thing_at) := ⟨rfl, rfl, rfl, by decide +kernel, rfl, by decide +kernel, by decide +kernel⟩
theorem ok_thing_at (F : FnP K "thing_at" s_thing_at f fd) (T : Txt mg) (gm : mg "thing_at" = some (.ref f)) (gT : Has P w K mg base CX0 2 "text_at" ["words", "at", "many"] sp_text_at) :
    ∀ k : Nat, FnOk P w K mg base CX0 (k + 3) f fd ["words", "at", "deep"] (sp_thing_at k)
  | 0 => ⟨fun vs H Q E h => by
      obtain ⟨L, ws, rest, a, ai, ki, d, _, _, _, _, _, hk, _⟩ := h
      exact hk.elim, fun A outer s H args us vs Q E _ _ _ _ h => by
      obtain ⟨L, ws, rest, a, ai, ki, d, _, _, _, _, _, hk, _⟩ := h
      exact hk.elim⟩
  | k + 1 => by
    have ih := ok_thing_at F T gm gT k
    have gA : Has P w K mg base CX0 (k + 3) "thing_at" ["words", "at", "deep"] (sp_thing_at k) := has0 F gm ih fun _ _ _ _ _ _ us hl => match us, hl with | [_, _, _], _ => rfl
    refine ok0 F sc_thing_at (fun vs H Q E h => ?_) (fun cdv A outer s H vs Q E hr h => ?_)
    · obtain ⟨L, ws, rest, a, ai, ki, d, rfl, _⟩ := h
      rfl
    · obtain ⟨L, ws, rest, a, ai, ki, d, rfl, rfl, rfl, hL, hlen, hk, hd, q⟩ := h
      have hr2 : Room 2 _ := hr.mono (by omega)
      refine ⟨_, pss_cons (ps_if (PW.pt (pw_or (pt_cmpR op_lt (pv 2) pe_int (nomark _)) (pw_or1 (pt_cmpR op_gt (pe_op op_add (pv 1) pe_int) (pe_callB call_len_seq rfl T.n_len PySem.boot_len (pa_cons (pv 0) pa_nil)) (nomark _))))) pss_never pss_nil)
        (pss_cons (ps_set (i := 3) sc_thing_at.nd rfl (Or.inl rfl) (pe_ix ix_list (pv 0) (pe_op op_add (pv 1) pe_int) (fun _ _ => rfl)))
        (pss_cons (ps_if (PW.pt (pw_and (pt_cmpR op_eq (pe_ix ix_list (pv 0) (pv 1) (fun _ _ => rfl)) pe_int (nomark _)) (pw_and1 (pt_chain op_le op_le pe_int (pv 3) (pe_gl T.c_GREATEST)))))
          (pss_one (ps_ret (pe_tup (pa_cons (pv 3) (pa_cons (pe_op op_add (pv 1) pe_int) pa_nil))))) pss_nil)
        (pss_cons (ps_if (PW.pt (pw_and (pt_cmpR op_eq (pe_ix ix_list (pv 0) (pv 1) (fun _ _ => rfl)) pe_int (nomark _)) (pw_and (pt_chain op_le op_le pe_int (pv 3) (pe_gl T.c_MOST_SIGNS))
            (pw_and1 (pt_cmpR op_le (pe_op op_add (pe_op op_add (pv 1) pe_int) (pv 3)) (pe_callB call_len_seq rfl T.n_len PySem.boot_len (pa_cons (pv 0) pa_nil)) (nomark _))))))
          (pss_one (ps_ret (pe_tup (pa_cons (pe_has gT hr2 pass0 (pa_cons (pv 0) (pa_cons (pe_op op_add (pv 1) pe_int) (pa_cons (pv 3) pa_nil)))) (pa_cons (pe_op op_add (pe_op op_add (pv 1) pe_int) (pv 3)) pa_nil))))) pss_nil)
        (pss_cons (ps_if (PW.pt (pw_or (pt_cmpR op_ne (pe_ix ix_list (pv 0) (pv 1) (fun _ _ => rfl)) pe_int (nomark _)) (pw_or1 (pt_not (pt_chain op_le op_le pe_int (pv 3) (pe_gl T.c_MOST_THINGS)))))) pss_never pss_nil)
        (pss_cons (ps_set (i := 4) sc_thing_at.nd rfl (Or.inl rfl) (pe_lst pa_nil))
        (pss_cons (ps_set (i := 1) sc_thing_at.nd rfl (Or.inl rfl) (pe_op op_add (pv 1) pe_int))
        (pss_cons (ps_for PassesOwn.never rfl (pi_range1 rfl T.n_range (pa_cons (pv 3) pa_nil)) (pg_name (i := 5) sc_thing_at.nd rfl (Or.inl rfl))
          (pss_cons (ps_asg (pe_has gA hr pass0 (pa_cons (pv 0) (pa_cons (pv 1) (pa_cons (pe_op op_sub (pv 2) pe_int) pa_nil)))) (pg_tup rfl (pgs_cons (pg_name (i := 6) sc_thing_at.nd rfl (Or.inl rfl)) (pgs_cons (pg_name (i := 1) sc_thing_at.nd rfl (Or.inl rfl)) pgs_nil))))
          (pss_one (ps_expr (pe_bm PySem.F.plainAttrs_list PySem.F.slot_list_append PySem.F.type_list_append mt_append (pv 4) (pa_cons (pv 6) pa_nil))))))
        (pss_one (ps_ret (pe_tup (pa_cons (pe_callTy call_tuple_of rfl T.n_tuple boot_ttup (pa_cons (pv 4) pa_nil)) (pa_cons (pv 1) pa_nil)))))))))))), ?_⟩
      have hLs : SqL K H L (ws.map V.int) := SqL.of hL
      have h2 : 2 ≤ (words d).length := by cases d <;> rw [words] <;> simp
      have hdl := congrArg List.length hd
      rw [List.length_drop, List.length_append] at hdl
      -- the first test
      refine ⟨_, rfl, _, _, rfl, rfl, _, rfl, ?_⟩
      rw [decide_eq_false (by omega : ¬ ((k + 1 : Nat) : Int) < 1)]
      refine iteF ⟨_, rfl, _, _, rfl, rfl, _, rfl, L, _, rfl, .inl hLs, _, _, rfl, rfl, _, rfl, ?_⟩
      rw [List.length_map, decide_eq_false (by omega : ¬ ((ws.length : Nat) : Int) < (a : Int) + 2)]
      refine iteF ?_
      cases d with
      | n i =>
        obtain ⟨i0, i1⟩ := (show 0 ≤ i ∧ i ≤ 999999999 from hk)
        have w0 : ws[a]? = some 0 := (drop_at hd 0).trans (by rw [words]; rfl)
        have w1 : ws[a + 1]? = some i := (drop_at hd 1).trans (by rw [words]; rfl)
        refine ⟨_, rfl, _, rfl, _, _, rfl, rfl, L, _, _, _, rfl, rfl, hLs, at_int (by omega) w1, ?_⟩
        refine ⟨_, rfl, _, rfl, L, _, _, _, rfl, rfl, hLs, at_int rfl w0, rfl, _, rfl, ?_⟩
        refine iteT ⟨_, rfl, _, _, rfl, rfl, _, rfl, ?_⟩
        rw [decide_eq_true i0]
        refine iteT ⟨_, _, rfl, rfl, _, rfl, ?_⟩
        rw [decide_eq_true i1]
        refine iteT ⟨_, rfl, _, rfl, _, _, rfl, rfl, (by show 2 ≤ sizeLine; decide), fun p hp => ?_⟩
        refine q _ p (.int i) (fun b o e => by rw [upd_ne (ne_of_none e hp)]; exact e) ?_ rfl
        rw [upd_same, words]
        rfl
      | s z =>
        obtain ⟨z1, z2⟩ := (show z.length ≤ 400 ∧ ∀ c ∈ z.cps.toList, c ∈ sgL from hk)
        have hwz : words (.s z) = 1 :: (z.length : Int) :: nums z := by rw [words]
        rw [hwz] at hd hdl q
        rw [List.length_cons, List.length_cons, nums_len] at hdl q
        have w0 : ws[a]? = some 1 := drop_at hd 0
        have w1 : ws[a + 1]? = some (z.length : Int) := drop_at hd 1
        refine ⟨_, rfl, _, rfl, _, _, rfl, rfl, L, _, _, _, rfl, rfl, hLs, at_int (by omega) w1, ?_⟩
        refine ⟨_, rfl, _, rfl, L, _, _, _, rfl, rfl, hLs, at_int rfl w0, rfl, _, rfl, ?_⟩
        refine iteF ?_
        refine ⟨_, rfl, _, rfl, L, _, _, _, rfl, rfl, hLs, at_int rfl w0, rfl, _, rfl, ?_⟩
        refine iteT ⟨_, rfl, _, _, rfl, rfl, _, rfl, ?_⟩
        rw [decide_eq_true (by omega : (0 : Int) ≤ (z.length : Nat))]
        refine iteT ⟨_, _, rfl, rfl, _, rfl, ?_⟩
        rw [decide_eq_true (by omega : ((z.length : Nat) : Int) ≤ 400)]
        refine iteT ⟨_, rfl, _, _, rfl, rfl, _, rfl, _, _, rfl, rfl, _, rfl, L, _, rfl, .inl hLs, _, _, rfl, rfl, _, rfl, ?_⟩
        rw [List.length_map, decide_eq_true (by omega : (a : Int) + 2 + (z.length : Int) ≤ (ws.length : Nat))]
        refine iteT ⟨_, rfl, _, rfl, _, _, rfl, rfl, _, rfl, L, ws, a + 2, _, _, z, rfl, (by omega), rfl, hL, by omega, ?_, z1, z2, fun H1 s1 => ?_⟩
        · have e : ws.drop (a + 2) = nums z ++ rest := by
            rw [← List.drop_drop, hd]
            rfl
          rw [e, List.take_append_of_le_length (by rw [nums_len]; exact Nat.le_refl _), List.take_of_length_le (by rw [nums_len]; exact Nat.le_refl _)]
        · refine ⟨_, rfl, _, _, rfl, rfl, _, rfl, _, _, rfl, rfl, (by show 2 ≤ sizeLine; decide), fun p hp => ?_⟩
          refine q _ p (.str z) (fun b o e => by rw [upd_ne (ne_of_none (s1 _ _ e) hp)]; exact s1 _ _ e) ?_ rfl
          rw [upd_same]
          have e : (a : Int) + 2 + (z.length : Int) = ((a + (z.length + 1 + 1) : Nat) : Int) := by omega
          show some (HO.tup [V.str z, V.int ((a : Int) + 2 + (z.length : Int))]) = _
          rw [e]
      | t l =>
        obtain ⟨l1, l2⟩ := (show l.length ≤ 100 ∧ ∀ d ∈ l, okT k d from hk)
        have hwl : words (.t l) = 2 :: (l.length : Int) :: wordsAll l := by rw [words]
        rw [hwl] at hd hdl q
        rw [List.length_cons, List.length_cons] at hdl q
        have w0 : ws[a]? = some 2 := drop_at hd 0
        have w1 : ws[a + 1]? = some (l.length : Int) := drop_at hd 1
        have hd2 : ws.drop (a + 2) = wordsAll l ++ rest := by
          rw [← List.drop_drop, hd]
          rfl
        refine ⟨_, rfl, _, rfl, _, _, rfl, rfl, L, _, _, _, rfl, rfl, hLs, at_int (by omega) w1, ?_⟩
        refine ⟨_, rfl, _, rfl, L, _, _, _, rfl, rfl, hLs, at_int rfl w0, rfl, _, rfl, ?_⟩
        refine iteF ?_
        refine ⟨_, rfl, _, rfl, L, _, _, _, rfl, rfl, hLs, at_int rfl w0, rfl, _, rfl, ?_⟩
        refine iteF ?_
        refine ⟨_, rfl, _, rfl, L, _, _, _, rfl, rfl, hLs, at_int rfl w0, rfl, _, rfl, ?_⟩
        refine iteF ⟨_, rfl, _, _, rfl, rfl, _, rfl, ?_⟩
        rw [decide_eq_true (by omega : (0 : Int) ≤ (l.length : Nat))]
        refine iteT ⟨_, _, rfl, rfl, _, rfl, ?_⟩
        rw [decide_eq_true (by omega : ((l.length : Nat) : Int) ≤ 100)]
        refine iteF ⟨Nat.zero_le _, fun p hp => ?_⟩
        have sP : ∀ {b : Addr} {o : HO}, H b = some o → (upd H p (.lst [])) b = some o := fun e => by
          rw [upd_ne (ne_of_none e hp)]
          exact e
        refine ⟨_, rfl, _, _, rfl, rfl, ?_⟩
        refine ⟨_, rfl, _, rfl, (by omega), (by omega), for_range (lo := 0) (n := l.length)
          (fun i σ H' => ∃ u1 u2 xs, σ = [some (.ref L), some (.int ((a + 2 + (wordsAll (l.take i)).length : Nat) : Int)), some (.int ((k + 1 : Nat) : Int)), some (.int l.length), some (.ref p), u1, u2] ∧ Same H H' ∧ H' p = some (.lst xs) ∧ RpAll H' (l.take i) xs)
          ⟨none, none, [], rfl, fun b o e => sP e, upd_same, rfl⟩ ?_ ?_⟩
        · rintro i σ H' hi ⟨u1, u2, xs, rfl, s5, ep, hx⟩
          obtain ⟨d, hdi⟩ : ∃ d, l[i]? = some d := ⟨l[i], List.getElem?_eq_getElem hi⟩
          have hw2 : wordsAll (l.take (i + 1)) = wordsAll (l.take i) ++ words d := by rw [take_snoc hdi, wordsAll_app, wordsAll_one]
          have e3 : wordsAll l = wordsAll (l.take i) ++ (words d ++ wordsAll (l.drop (i + 1))) := by
            rw [← List.append_assoc, ← hw2, ← wordsAll_app, List.take_append_drop]
          refine ⟨_, rfl, _, rfl, _, rfl, _, _, rfl, rfl, L, ws, wordsAll (l.drop (i + 1)) ++ rest, a + 2 + (wordsAll (l.take i)).length, _, _, d, rfl, rfl, (by omega), s5 _ _ hL, hlen, l2 d (List.mem_of_getElem? hdi), ?_, fun H1 p1 v s1 e1 rv => ?_⟩
          · rw [← List.drop_drop, hd2, e3, List.append_assoc, List.drop_left, List.append_assoc]
          · refine ⟨p1, _, rfl, SqT.of e1, rfl, _, _, rfl, _, _, rfl, rfl, ?_⟩
            have ep1 := s1 _ _ ep
            refine ⟨_, rfl, .inl ⟨rfl, _, SqL.of ep1⟩, _, rfl, p, xs, v, rfl, rfl, ep1, ?_, ?_⟩
            · have z := RpAll.length hx
              have := sigLE
              rw [z, List.length_take]
              omega
            · have nep : ∀ {b : Addr} {ys : List V}, H1 b = some (.tup ys) → b ≠ p := fun {b ys} e z => by
                rw [z, ep1] at e
                cases e
              have tu : Tups H1 (upd H1 p (.lst (xs ++ [v]))) := fun b ys e => by
                rw [upd_ne (nep e)]
                exact e
              refine ⟨some (.int (0 + (i : Int))), some v, xs ++ [v], ?_, fun b o e => ?_, upd_same, ?_⟩
              · have e : a + 2 + (wordsAll (l.take i)).length + (words d).length = a + 2 + (wordsAll (l.take (i + 1))).length := by rw [hw2, List.length_append]; omega
                rw [e]
                rfl
              · rw [upd_ne (ne_of_none e hp)]
                exact s1 _ _ (s5 _ _ e)
              · rw [take_snoc hdi]
                exact RpAll.snoc (Rp.mono tu d v rv) (RpAll.mono (Tups.trans (Tups.of s1) tu) _ _ hx)
        · rintro σ H' ⟨u1, u2, xs, rfl, s5, ep, hx⟩
          rw [List.take_length] at hx
          refine ⟨_, rfl, p, xs, rfl, .inl ⟨SqL.of ep, fun t ht => ?_⟩⟩
          have s6 : Same H' (upd H' t (.tup xs)) := fun b o e => by
            rw [upd_ne (ne_of_none e ht)]
            exact e
          refine ⟨_, rfl, (by show 2 ≤ sizeLine; decide), fun t2 ht2 => ?_⟩
          have s7 : Same (upd H' t (.tup xs)) (upd (upd H' t (.tup xs)) t2 (.tup [.ref t, .int ((a + 2 + (wordsAll (l.take l.length)).length : Nat) : Int)])) := fun b o e => by
            rw [upd_ne (ne_of_none e ht2)]
            exact e
          refine q _ t2 (.ref t) ((s5.trans s6).trans s7) ?_ ?_
          · rw [upd_same, List.take_length]
            have e : a + 2 + (wordsAll l).length = a + ((wordsAll l).length + 1 + 1) := by omega
            rw [e]
          · exact ⟨t, xs, rfl, s7 _ _ upd_same, RpAll.mono (Tups.of (s6.trans s7)) _ _ hx⟩
theorem sc_thing_of : FnScope ["words", "thing", "end"] ["words"] (defScope s_thing_of) := ⟨rfl, rfl, rfl, by decide +kernel, rfl, by decide +kernel, by decide +kernel⟩
theorem ok_thing_of (F : FnP K "thing_of" s_thing_of f fd) (T : Txt mg) (G : Has P w K mg base CX0 11 "thing_at" ["words", "at", "deep"] (sp_thing_at 8)) : FnOk P w K mg base CX0 12 f fd ["words"] sp_thing_of := by
  refine ok0 F sc_thing_of (fun vs H Q E h => ?_) (fun cdv A outer s H vs Q E hr h => ?_)
  · obtain ⟨L, d, rfl, _⟩ := h
    rfl
  · obtain ⟨L, d, rfl, hL, hlen, hk, q⟩ := h
    refine ⟨_, pss_cons (ps_asg (pe_has G hr pass0 (pa_cons (pv 0) (pa_cons pe_int (pa_cons (pe_gl T.c_MOST_DEEP) pa_nil)))) (pg_tup rfl (pgs_cons (pg_name (i := 1) sc_thing_of.nd rfl (Or.inl rfl)) (pgs_cons (pg_name (i := 2) sc_thing_of.nd rfl (Or.inl rfl)) pgs_nil))))
      (pss_cons (ps_if (pt_cmpR op_ne (pv 2) (pe_callB call_len_seq rfl T.n_len PySem.boot_len (pa_cons (pv 0) pa_nil)) (nomark _)) pss_never pss_nil)
      (pss_one (ps_ret (pv 1)))), ?_⟩
    refine ⟨_, rfl, L, words d, [], 0, _, _, d, rfl, rfl, rfl, hL, hlen, hk, by rw [List.drop_zero, List.append_nil], fun H1 p v s1 e1 rv => ?_⟩
    refine ⟨p, _, rfl, SqT.of e1, rfl, _, _, rfl, _, _, rfl, rfl, ?_⟩
    refine ⟨_, rfl, _, rfl, L, _, rfl, .inl (SqL.of (s1 _ _ hL)), rfl, _, rfl, ?_⟩
    have e : (!decide (V.int ((0 + (words d).length : Nat) : Int) = V.int (((words d).map V.int).length : Nat))) = false := by
      rw [List.length_map, Nat.zero_add, decide_eq_true rfl]
      rfl
    rw [e]
    exact iteF ⟨_, rfl, q H1 v s1 rv⟩
end
end Sk

set_option Elab.async false
set_option linter.all false
set_option maxRecDepth 100000
set_option maxHeartbeats 4000000
namespace Sk
open PySem PySem.Spec PyProof.Rows L2
theorem all_true (n : Nat) : ((List.range n).map (fun _ => true)).all id = true := by simp
theorem all_bl (n : Nat) : (List.range n).map (fun _ => V.bl true) = ((List.range n).map (fun _ => true)).map V.bl := by
  rw [List.map_map]
  rfl
section
variable {P : Program} {w : World} {K : PySem.W.Frag} {mg : Str → Option Value} {base : Heap} {f : Addr} {fd : FuncData}
theorem sc_is_name : FnScope ["thing", "sign"] ["thing"] (defScope s_is_name) := ⟨rfl, rfl, rfl, by decide +kernel, rfl, by decide +kernel, by decide +kernel⟩
theorem ok_is_name (F : FnP K "is_name" s_is_name f fd) (T : Txt mg) : FnOk P w K mg base CX0 1 f fd ["thing"] sp_is_name := by
  refine ok0 F sc_is_name (fun vs H Q E h => ?_) (fun cdv A outer s H vs Q E hr h => ?_)
  · obtain ⟨z, rfl, _⟩ := h
    rfl
  · obtain ⟨z, rfl, ⟨h1, h2, h3⟩, q⟩ := h
    refine ⟨_, (pss_cons (ps_if (PW.pt (pw_or (pt_not (pt_val (pe_isi T.n_isinstance T.n_str boot_tstr (pv 0)))) (pw_or1 (pt_not (pt_chain op_le op_le pe_int (pe_callB call_len_str rfl T.n_len PySem.boot_len (pa_cons (pv 0) pa_nil)) (pe_gl T.c_MOST_NAMED))))))
      pss_never
      pss_nil)
    (pss_one (ps_ret (pe_callB (cr_all rfl) rfl T.n_all boot_all (pa_cons (pe_lc (own := [("sign", 1)]) (g := gName 1) (tt := tYes) rfl sc_is_name.nd (pi_str (pv 0)) (blkOk_by (own := [("sign", 1)]) (N := ["thing", "sign"]) (sc := defScope s_is_name) (by decide +kernel)) (fun _ _ _ _ _ => (pg_name (i := 1) sc_is_name.nd rfl (Or.inl rfl))) (fun _ _ _ _ _ => pts_nil) (fun _ _ _ _ _ => (pe_cmpR op_in_sign (pv 1) (pe_gl T.c_NAMED) rfl))) pa_nil))))), ?_⟩
    refine ⟨_, rfl, _, _, _, rfl, .base (.str _), kb_str_str, _, rfl, iteF ?_⟩
    refine ⟨_, rfl, z, rfl, Nat.le_trans h2 (by decide), _, _, rfl, rfl, _, rfl, ?_⟩
    rw [decide_eq_true (by omega : (1 : Int) ≤ (z.length : Nat))]
    refine iteT ⟨_, _, rfl, rfl, _, rfl, ?_⟩
    rw [decide_eq_true (by omega : ((z.length : Nat) : Int) ≤ 8)]
    refine iteF ⟨_, rfl, _, rfl, fun D hD => ?_⟩
    refine lc_pure walk_str (fun i => .bl true) hD (Nat.le_trans h2 (by decide)) (fun _ _ => trivial) (fun i x H1 H' k hi s1 y kk => ?_) (fun H1 s1 e => ?_)
    · obtain ⟨rfl, c, hc, rfl⟩ := y
      have hc' : z.cps.toList[i]? = some c := by rw [Array.getElem?_toList]; exact hc
      have z2 := kk H' (Same.refl _)
      refine ⟨rfl, _, rfl, c, tNAMED, rfl, rfl, ?_⟩
      rw [show decide (c ∈ tNAMED.cps.toList) = true from decide_eq_true (h3 c (List.mem_of_getElem? hc'))]
      exact z2
    · rw [all_bl] at e
      refine ⟨D, _, rfl, SqL.of e, ?_⟩
      rw [all_true]
      exact q H1 s1
theorem sc_is_tag : FnScope ["thing", "part"] ["thing"] (defScope s_is_tag) := ⟨rfl, rfl, rfl, by decide +kernel, rfl, by decide +kernel, by decide +kernel⟩
theorem ok_is_tag (F : FnP K "is_tag" s_is_tag f fd) (T : Txt mg) (g_is_number : Has P w K mg base CX0 1 "is_number" ["thing"] sp_is_number) : FnOk P w K mg base CX0 2 f fd ["thing"] sp_is_tag := by
  refine ok0 F sc_is_tag (fun vs H Q E h => ?_) (fun cdv A outer s H vs Q E hr h => ?_)
  · obtain ⟨g, v, rfl, _⟩ := h
    rfl
  · obtain ⟨g, v, rfl, hv, ⟨g1, g2, g3, g4, g5, g6⟩, q⟩ := h
    obtain ⟨a, rfl, ha⟩ := hv.tg
    refine ⟨_, (pss_cons (ps_if (PW.pt (pw_or (pt_not (pt_val (pe_isi T.n_isinstance T.n_tuple boot_ttup (pv 0)))) (pw_or (pt_cmpR op_ne (pe_callB call_len_seq rfl T.n_len PySem.boot_len (pa_cons (pv 0) pa_nil)) pe_int (nomark _)) (pw_or1 (pt_not (pt_val (pe_callB (cr_all rfl) rfl T.n_all boot_all (pa_cons (pe_lc (own := [("part", 1)]) (g := gName 1) (tt := tYes) rfl sc_is_tag.nd (pi_tup (pv 0)) (blkOk_by (own := [("part", 1)]) (N := ["thing", "part"]) (sc := defScope s_is_tag) (by decide +kernel)) (fun _ _ _ _ _ => (pg_name (i := 1) sc_is_tag.nd rfl (Or.inl rfl))) (fun _ _ _ _ _ => pts_nil) (fun _ _ _ _ _ => (pe_has g_is_number hr pass0 (pa_cons (pv 1) pa_nil)))) pa_nil))))))))
      pss_never
      pss_nil)
    (pss_one (ps_ret (pe_and (pe_chain op_le op_le pe_int (pe_ix ix_tup (pv 0) pe_int (fun _ _ => rfl)) (pe_gl T.c_MOST_CELLS)) (pe_one (pe_cmpR op_lt (pe_ix ix_tup (pv 0) pe_int (fun _ _ => rfl)) (pe_gl T.c_BY) (nomark _))))))), ?_⟩
    refine ⟨_, rfl, _, _, _, rfl, .base (.tup ha), kb_tup_tup, _, rfl, iteF ?_⟩
    refine ⟨_, rfl, a, _, rfl, .inr (SqT.of ha), rfl, _, rfl, iteF ?_⟩
    refine ⟨_, rfl, a, rfl, ⟨_, SqT.of ha⟩, fun D hD => ?_⟩
    refine lc_pure walk_tup (fun i => .bl true) hD (by show 3 ≤ sizeLine; decide) (fun H1 s1 => SqT.of (s1 _ _ ha)) (fun i x H1 H' k hi s1 y kk => ?_) (fun H1 s1 e => ?_)
    · obtain ⟨rfl, hx⟩ := y
      have z2 := kk H' (Same.refl _)
      obtain ⟨n, rfl, n0, n1⟩ : ∃ n, x = .int n ∧ 0 ≤ n ∧ n ≤ 999999999 := by
        have hm := List.mem_of_getElem? hx
        simp only [List.mem_cons, List.not_mem_nil, or_false] at hm
        rcases hm with rfl | rfl | rfl
        · exact ⟨_, rfl, by omega, by omega⟩
        · exact ⟨_, rfl, by omega, by omega⟩
        · exact ⟨_, rfl, by omega, by omega⟩
      exact ⟨rfl, _, rfl, n, rfl, n0, n1, z2⟩
    · rw [all_bl] at e
      refine ⟨D, _, rfl, SqL.of e, _, rfl, ?_⟩
      rw [all_true]
      have ha1 := s1 _ _ ha
      refine iteF ⟨_, rfl, a, _, _, .int g.1, rfl, rfl, SqT.of ha1, rfl, _, _, rfl, rfl, _, rfl, ?_⟩
      rw [decide_eq_true g1]
      refine iteT ⟨_, _, rfl, rfl, ?_⟩
      refine ⟨_, rfl, iteD g2 ⟨_, rfl, a, _, _, .int g.2.2, rfl, rfl, SqT.of ha1, rfl, _, _, rfl, rfl, ?_⟩⟩
      exact ret_dec (by omega) (q H1 s1)
theorem sc_is_row : FnScope ["thing", "level", "tags", "tag"] ["thing"] (defScope s_is_row) := ⟨rfl, rfl, rfl, by decide +kernel, rfl, by decide +kernel, by decide +kernel⟩
theorem ok_is_row (F : FnP K "is_row" s_is_row f fd) (T : Txt mg) (g_is_number : Has P w K mg base CX0 2 "is_number" ["thing"] sp_is_number) (g_is_tag : Has P w K mg base CX0 2 "is_tag" ["thing"] sp_is_tag) : FnOk P w K mg base CX0 3 f fd ["thing"] sp_is_row := by
  refine ok0 F sc_is_row (fun vs H Q E h => ?_) (fun cdv A outer s H vs Q E hr h => ?_)
  · obtain ⟨lv, gs, v, rfl, _⟩ := h
    rfl
  · obtain ⟨lv, gs, v, rfl, hv, ⟨h1, h2, h3, h4, h5⟩, q⟩ := h
    obtain ⟨a, u, rfl, ha, hu⟩ := hv.row
    obtain ⟨b, xs, rfl, hb, hl, hx, _⟩ := hu.seq
    refine ⟨_, (pss_cons (ps_asg (pe_slice sl_tup (pv 0) (po_some pe_int) po_none) (pg_tup rfl (pgs_cons (pg_name (i := 1) sc_is_row.nd rfl (Or.inl rfl)) (pgs_cons (pg_name (i := 2) sc_is_row.nd rfl (Or.inl rfl)) pgs_nil))))
    (pss_cons (ps_if (PW.pt (pw_or (pt_not (pt_val (pe_has g_is_number hr pass0 (pa_cons (pv 1) pa_nil)))) (pw_or (pt_not (pt_chain op_le op_le pe_int (pv 1) (pe_gl T.c_MOST_LEVEL))) (pw_or1 (pt_not (pt_val (pe_isi T.n_isinstance T.n_tuple boot_ttup (pv 2))))))))
      pss_never
      pss_nil)
    (pss_cons (ps_if (PW.pt (pw_or (pt_cmpR op_gt (pe_callB call_len_seq rfl T.n_len PySem.boot_len (pa_cons (pv 2) pa_nil)) (pe_gl T.c_MOST_TAGS) (nomark _)) (pw_or1 (PW.pt (pw_and (pt_cmpR op_eq (pe_callB call_len_seq rfl T.n_len PySem.boot_len (pa_cons (pv 2) pa_nil)) pe_int (nomark _)) (pw_and1 (pt_cmpR op_gt (pv 1) pe_int (nomark _))))))))
      pss_never
      pss_nil)
    (pss_one (ps_ret (pe_callB (cr_all rfl) rfl T.n_all boot_all (pa_cons (pe_lc (own := [("tag", 3)]) (g := gName 3) (tt := tYes) rfl sc_is_row.nd (pi_tup (pv 2)) (blkOk_by (own := [("tag", 3)]) (N := ["thing", "level", "tags", "tag"]) (sc := defScope s_is_row) (by decide +kernel)) (fun _ _ _ _ _ => (pg_name (i := 3) sc_is_row.nd rfl (Or.inl rfl))) (fun _ _ _ _ _ => pts_nil) (fun _ _ _ _ _ => (pe_has g_is_tag hr pass0 (pa_cons (pv 3) pa_nil)))) pa_nil))))))), ?_⟩
    refine ⟨_, rfl, _, rfl, a, _, rfl, SqT.of ha, (fun z => absurd z.1 (by show ¬ (HT.sIx 3 0 (some 1) = 0); decide)), fun p hp => ?_⟩
    have s0 : Same H (upd H p (.tup [.int lv, .ref b])) := fun c o e => by
      rw [upd_ne (ne_of_none e hp)]
      exact e
    refine ⟨p, [.int lv, .ref b], rfl, SqT.of upd_same, rfl, _, _, rfl, _, _, rfl, rfl, ?_⟩
    have hb0 := s0 _ _ hb
    refine ⟨_, rfl, lv, rfl, by omega, by omega, _, rfl, iteF ?_⟩
    refine ⟨_, rfl, _, _, rfl, rfl, _, rfl, ?_⟩
    rw [decide_eq_true h1]
    refine iteT ⟨_, _, rfl, rfl, _, rfl, ?_⟩
    rw [decide_eq_true h2]
    refine iteF ⟨_, rfl, _, _, _, rfl, .base (.tup hb0), kb_tup_tup, _, rfl, iteF ?_⟩
    refine ⟨_, rfl, b, xs, rfl, .inr (SqT.of hb0), _, _, rfl, rfl, _, rfl, ?_⟩
    rw [decide_eq_false (by omega : ¬ (8 : Int) < (xs.length : Nat))]
    refine iteF ⟨_, rfl, b, xs, rfl, .inr (SqT.of hb0), rfl, _, rfl, ?_⟩
    have tl : ∀ (D : Ends) (σ : L2.St), True := fun _ _ => trivial
    by_cases c : xs.length = 0
    · rw [show decide (V.int (xs.length : Nat) = V.int 0) = true from decide_eq_true (by rw [c]; rfl)]
      refine iteT ⟨_, rfl, _, _, rfl, rfl, _, rfl, ?_⟩
      rw [decide_eq_false (by have := h4 (by omega); omega : ¬ (1 : Int) < lv)]
      refine iteF ⟨_, rfl, b, rfl, ⟨_, SqT.of hb0⟩, fun D hD => ?_⟩
      refine lc_pure walk_tup (fun i => .bl true) hD (by have := sigLE; omega) (fun H1 s1 => SqT.of (s1 _ _ hb0)) (fun i x H1 H' k hi s1 y kk => by omega) (fun H1 s1 e => ?_)
      rw [all_bl] at e
      refine ⟨D, _, rfl, SqL.of e, ?_⟩
      rw [all_true]
      exact q H1 (s0.trans s1)
    · rw [show decide (V.int (xs.length : Nat) = V.int 0) = false from decide_eq_false (fun z => c (by have := V.int.inj z; omega))]
      refine iteF ⟨_, rfl, b, rfl, ⟨_, SqT.of hb0⟩, fun D hD => ?_⟩
      refine lc_pure walk_tup (fun i => .bl true) hD (by have := sigLE; omega) (fun H1 s1 => SqT.of (s1 _ _ hb0)) (fun i x H1 H' k hi s1 y kk => ?_) (fun H1 s1 e => ?_)
      · obtain ⟨rfl, hxi⟩ := y
        obtain ⟨g, hg, hr2⟩ := hx i x hxi
        exact ⟨rfl, _, rfl, g, x, rfl, Rp.mono (Tups.of (s0.trans s1)) _ _ hr2, h5 g (getE hg), fun H2 s2 => kk H2 s2⟩
      · rw [all_bl] at e
        refine ⟨D, _, rfl, SqL.of e, ?_⟩
        rw [all_true]
        exact q H1 (s0.trans s1)
theorem sc_is_entry : FnScope ["thing"] ["thing"] (defScope s_is_entry) := ⟨rfl, rfl, rfl, by decide +kernel, rfl, by decide +kernel, by decide +kernel⟩
theorem ok_is_entry (F : FnP K "is_entry" s_is_entry f fd) (T : Txt mg) (g_is_name : Has P w K mg base CX0 2 "is_name" ["thing"] sp_is_name) (g_is_number : Has P w K mg base CX0 2 "is_number" ["thing"] sp_is_number) (g_is_tag : Has P w K mg base CX0 2 "is_tag" ["thing"] sp_is_tag) : FnOk P w K mg base CX0 3 f fd ["thing"] sp_is_entry := by
  refine ok0 F sc_is_entry (fun vs H Q E h => ?_) (fun cdv A outer s H vs Q E hr h => ?_)
  · obtain ⟨e, v, rfl, _⟩ := h
    rfl
  · obtain ⟨e, v, rfl, hv, ⟨hn, h1, h2, hg⟩, q⟩ := h
    obtain ⟨a, u, rfl, ha, hu⟩ := hv.en
    refine ⟨_, (pss_cons (ps_if (PW.pt (pw_or (pt_not (pt_val (pe_isi T.n_isinstance T.n_tuple boot_ttup (pv 0)))) (pw_or (pt_cmpR op_ne (pe_callB call_len_seq rfl T.n_len PySem.boot_len (pa_cons (pv 0) pa_nil)) pe_int (nomark _)) (pw_or1 (pt_not (pt_val (pe_has g_is_name hr pass0 (pa_cons (pe_ix ix_tup (pv 0) pe_int (fun _ _ => rfl)) pa_nil))))))))
      pss_never
      pss_nil)
    (pss_one (ps_ret (pe_and (pe_has g_is_number hr pass0 (pa_cons (pe_ix ix_tup (pv 0) pe_int (fun _ _ => rfl)) pa_nil)) (pe_and (pe_chain op_le op_le pe_int (pe_ix ix_tup (pv 0) pe_int (fun _ _ => rfl)) pe_int) (pe_one (pe_has g_is_tag hr pass0 (pa_cons (pe_ix ix_tup (pv 0) pe_int (fun _ _ => rfl)) pa_nil)))))))), ?_⟩
    refine ⟨_, rfl, _, _, _, rfl, .base (.tup ha), kb_tup_tup, _, rfl, iteF ?_⟩
    refine ⟨_, rfl, a, _, rfl, .inr (SqT.of ha), rfl, _, rfl, iteF ?_⟩
    refine ⟨_, rfl, a, _, _, _, rfl, rfl, SqT.of ha, rfl, e.1, rfl, hn, fun H1 s1 => ⟨_, rfl, iteF ?_⟩⟩
    have ha1 := s1 _ _ ha
    refine ⟨_, rfl, a, _, _, _, rfl, rfl, SqT.of ha1, rfl, e.2.1, rfl, by omega, by omega, _, rfl, iteT ?_⟩
    refine ⟨_, rfl, a, _, _, .int e.2.1, rfl, rfl, SqT.of ha1, rfl, _, _, rfl, rfl, _, rfl, ?_⟩
    rw [decide_eq_true h1]
    refine iteT ⟨_, _, rfl, rfl, ?_⟩
    refine ⟨_, rfl, iteD h2 ⟨_, rfl, a, _, _, _, rfl, rfl, SqT.of ha1, rfl, e.2.2, u, rfl, Rp.mono (Tups.of s1) _ _ hu, hg, fun H2 s2 => q H2 (s1.trans s2)⟩⟩
theorem sc_is_folder : FnScope ["entries", "k", "entry"] ["entries"] (defScope s_is_folder) := ⟨rfl, rfl, rfl, by decide +kernel, rfl, by decide +kernel, by decide +kernel⟩
theorem ok_is_folder (F : FnP K "is_folder" s_is_folder f fd) (T : Txt mg) (g_is_entry : Has P w K mg base CX0 3 "is_entry" ["thing"] sp_is_entry) : FnOk P w K mg base CX0 4 f fd ["entries"] sp_is_folder := by
  refine ok0 F sc_is_folder (fun vs H Q E h => ?_) (fun cdv A outer s H vs Q E hr h => ?_)
  · obtain ⟨e, v, rfl, _⟩ := h
    rfl
  · obtain ⟨es, v, rfl, hv, ⟨h1, h2, h3⟩, q⟩ := h
    obtain ⟨b, xs, rfl, hb, hl, hx, _⟩ := hv.seq
    refine ⟨_, (pss_cons (ps_if (PW.pt (pw_or (pt_not (pt_val (pe_isi T.n_isinstance T.n_tuple boot_ttup (pv 0)))) (pw_or1 (pt_cmpR op_gt (pe_callB call_len_seq rfl T.n_len PySem.boot_len (pa_cons (pv 0) pa_nil)) (pe_gl T.c_MOST_ENTRIES) (nomark _)))))
      pss_never
      pss_nil)
    (pss_cons (ps_if (pt_not (pt_val (pe_callB (cr_all rfl) rfl T.n_all boot_all (pa_cons (pe_lc (own := [("entry", 2)]) (g := gName 2) (tt := tYes) rfl sc_is_folder.nd (pi_tup (pv 0)) (blkOk_by (own := [("entry", 2)]) (N := ["entries", "k", "entry"]) (sc := defScope s_is_folder) (by decide +kernel)) (fun _ _ _ _ _ => (pg_name (i := 2) sc_is_folder.nd rfl (Or.inl rfl))) (fun _ _ _ _ _ => pts_nil) (fun _ _ _ _ _ => (pe_has g_is_entry hr pass0 (pa_cons (pv 2) pa_nil)))) pa_nil))))
      pss_never
      pss_nil)
    (pss_one (ps_ret (pe_callB (cr_all rfl) rfl T.n_all boot_all (pa_cons (pe_lc (own := [("k", 1)]) (g := gName 1) (tt := tYes) rfl sc_is_folder.nd (pi_range1 rfl T.n_range (pa_cons (pe_op op_sub (pe_callB call_len_seq rfl T.n_len PySem.boot_len (pa_cons (pv 0) pa_nil)) pe_int) pa_nil)) (blkOk_by (own := [("k", 1)]) (N := ["entries", "k", "entry"]) (sc := defScope s_is_folder) (by decide +kernel)) (fun _ _ _ _ _ => (pg_name (i := 1) sc_is_folder.nd rfl (Or.inl rfl))) (fun _ _ _ _ _ => pts_nil) (fun _ _ _ _ _ => (pe_cmpR op_lt_str (pe_ix (r := rIxT K) ix_tup (pe_ix (r := rIxT K) ix_tup (pv 0) (pv 1) (fun _ _ => rfl)) pe_int (fun _ _ => rfl)) (pe_ix (r := rIxT K) ix_tup (pe_ix (r := rIxT K) ix_tup (pv 0) (pe_op op_add (pv 1) pe_int) (fun _ _ => rfl)) pe_int (fun _ _ => rfl)) (nomark _)))) pa_nil)))))), ?_⟩
    refine ⟨_, rfl, _, _, _, rfl, .base (.tup hb), kb_tup_tup, _, rfl, iteF ?_⟩
    refine ⟨_, rfl, b, xs, rfl, .inr (SqT.of hb), _, _, rfl, rfl, _, rfl, ?_⟩
    rw [decide_eq_false (by omega : ¬ (16 : Int) < (xs.length : Nat))]
    refine iteF ⟨_, rfl, b, rfl, ⟨_, SqT.of hb⟩, fun D hD => ?_⟩
    refine lc_pure walk_tup (fun i => .bl true) hD (by have := sigLE; omega) (fun H1 s1 => SqT.of (s1 _ _ hb)) (fun i x H1 H' k hi s1 y kk => ?_) (fun H1 s1 e => ?_)
    · obtain ⟨rfl, hxi⟩ := y
      obtain ⟨g, hg, hr2⟩ := hx i x hxi
      exact ⟨rfl, _, rfl, g, x, rfl, Rp.mono (Tups.of s1) _ _ hr2, h2 g (getE hg), fun H2 s2 => kk H2 s2⟩
    · rw [all_bl] at e
      refine ⟨D, _, rfl, SqL.of e, _, rfl, ?_⟩
      rw [all_true]
      have hb1 := s1 _ _ hb
      refine iteF ⟨_, rfl, b, xs, rfl, .inr (SqT.of hb1), _, _, rfl, rfl, _, rfl, (by omega), (by omega), fun D2 hD2 => ?_⟩
      have en : ((xs.length : Nat) : Int) - 1 = ((xs.length : Nat) : Int) - 1 := rfl
      refine lc_pure walk_range (fun i => .bl true) hD2 (by have := sigLE; omega) (fun H1 s1 => trivial) (fun i x H2 H' k hi s2 y kk => ?_) (fun H2 s2 e2 => ?_)
      · obtain ⟨rfl, rfl⟩ := y
        have hi2 : i + 1 < xs.length := by omega
        have hb2 := s2 _ _ hb1
        obtain ⟨e0, he0, hr0⟩ := hx i xs[i] (List.getElem?_eq_getElem (by omega))
        obtain ⟨e1, he1, hr1⟩ := hx (i + 1) xs[i + 1] (List.getElem?_eq_getElem hi2)
        obtain ⟨a0, u0, q0, ha0, _⟩ := (Rp.mono (Tups.of (s1.trans s2)) _ _ hr0).en
        obtain ⟨a1, u1, q1, ha1, _⟩ := (Rp.mono (Tups.of (s1.trans s2)) _ _ hr1).en
        refine ⟨rfl, _, rfl, _, rfl, b, xs, _, xs[i], rfl, rfl, SqT.of hb2, at_of (by omega) (List.getElem?_eq_getElem (by omega)), ?_⟩
        refine ⟨a0, _, _, .str e0.1, q0, rfl, SqT.of ha0, rfl, ?_⟩
        refine ⟨_, rfl, _, rfl, _, _, rfl, rfl, b, xs, _, xs[i + 1], rfl, rfl, SqT.of hb2, at_of (by omega) (List.getElem?_eq_getElem hi2), ?_⟩
        refine ⟨a1, _, _, .str e1.1, q1, rfl, SqT.of ha1, rfl, e0.1, e1.1, rfl, rfl, ?_⟩
        rw [decide_eq_true (h3 i e0 e1 he0 he1)]
        exact kk _ (Same.refl _)
      · rw [all_bl] at e2
        refine ⟨D2, _, rfl, SqL.of e2, ?_⟩
        rw [all_true]
        exact q H2 (s1.trans s2)
theorem sc_is_block : FnScope ["thing"] ["thing"] (defScope s_is_block) := ⟨rfl, rfl, rfl, by decide +kernel, rfl, by decide +kernel, by decide +kernel⟩
theorem ok_is_block (F : FnP K "is_block" s_is_block f fd) (T : Txt mg) (g_is_number : Has P w K mg base CX0 4 "is_number" ["thing"] sp_is_number) (g_is_row : Has P w K mg base CX0 4 "is_row" ["thing"] sp_is_row)
    (g_is_text : Has P w K mg base CX0 4 "is_text" ["thing", "most"] sp_is_text) (g_is_folder : Has P w K mg base CX0 4 "is_folder" ["entries"] sp_is_folder) : FnOk P w K mg base CX0 5 f fd ["thing"] sp_is_block := by
  refine ok0 F sc_is_block (fun vs H Q E h => ?_) (fun cdv A outer s H vs Q E hr h => ?_)
  · obtain ⟨b, v, rfl, _⟩ := h
    rfl
  · obtain ⟨b, v, rfl, hv, hk, q⟩ := h
    refine ⟨_, (pss_cons (ps_if (PW.pt (pw_or (pt_not (pt_val (pe_isi T.n_isinstance T.n_tuple boot_ttup (pv 0)))) (pw_or (pt_cmpR op_lt (pe_callB call_len_seq rfl T.n_len PySem.boot_len (pa_cons (pv 0) pa_nil)) pe_int (nomark _)) (pw_or1 (pt_not (pt_val (pe_has g_is_number hr pass0 (pa_cons (pe_ix ix_tup (pv 0) pe_int (fun _ _ => rfl)) pa_nil))))))))
      pss_never
      pss_nil)
    (pss_cons (ps_if (pt_cmpR op_eq (pe_ix ix_tup (pv 0) pe_int (fun _ _ => rfl)) pe_int (nomark _))
      (pss_one (ps_ret (pe_and (pe_cmpR op_eq (pe_callB call_len_seq rfl T.n_len PySem.boot_len (pa_cons (pv 0) pa_nil)) pe_int (nomark _)) (pe_one (pe_has g_is_row hr pass0 (pa_cons (pv 0) pa_nil))))))
      pss_nil)
    (pss_cons (ps_if (pt_cmpR op_ne (pe_callB call_len_seq rfl T.n_len PySem.boot_len (pa_cons (pv 0) pa_nil)) pe_int (nomark _))
      pss_never
      pss_nil)
    (pss_cons (ps_if (pt_cmpR op_eq (pe_ix ix_tup (pv 0) pe_int (fun _ _ => rfl)) pe_int (nomark _))
      (pss_one (ps_ret (pe_and (pe_has g_is_text hr pass0 (pa_cons (pe_ix ix_tup (pv 0) pe_int (fun _ _ => rfl)) (pa_cons (pe_gl T.c_MOST_PIECE) pa_nil))) (pe_one (pe_cmpR op_ne (pe_ix ix_tup (pv 0) pe_int (fun _ _ => rfl)) pe_str (nomark _))))))
      pss_nil)
    (pss_one (ps_ret (pe_and (pe_cmpR op_eq (pe_ix ix_tup (pv 0) pe_int (fun _ _ => rfl)) pe_int (nomark _)) (pe_one (pe_has g_is_folder hr pass0 (pa_cons (pe_ix ix_tup (pv 0) pe_int (fun _ _ => rfl)) pa_nil)))))))))), ?_⟩
    cases b with
    | piece z =>
      obtain ⟨a, rfl, ha⟩ := hv.piece
      obtain ⟨k1, k2, k3⟩ := hk
      refine ⟨_, rfl, _, _, _, rfl, .base (.tup ha), kb_tup_tup, _, rfl, iteF ?_⟩
      refine ⟨_, rfl, a, _, rfl, .inr (SqT.of ha), _, _, rfl, rfl, _, rfl, iteF ?_⟩
      refine ⟨_, rfl, a, _, _, _, rfl, rfl, SqT.of ha, rfl, 0, rfl, by omega, by omega, _, rfl, iteF ?_⟩
      refine ⟨_, rfl, a, _, _, .int 0, rfl, rfl, SqT.of ha, rfl, rfl, _, rfl, iteF ?_⟩
      refine ⟨_, rfl, a, _, rfl, .inr (SqT.of ha), rfl, _, rfl, iteF ?_⟩
      refine ⟨_, rfl, a, _, _, .int 0, rfl, rfl, SqT.of ha, rfl, rfl, _, rfl, iteT ?_⟩
      refine ⟨_, rfl, a, _, _, .str z, rfl, rfl, SqT.of ha, rfl, z, 8, rfl, by omega, by omega, k3, fun H1 s1 => ?_⟩
      refine ⟨_, rfl, iteT ⟨_, rfl, a, _, _, .str z, rfl, rfl, SqT.of (s1 _ _ ha), rfl, rfl, ?_⟩⟩
      have e : (!decide (V.str z = V.str (Str.ofString ""))) = true := by
        rw [decide_eq_false fun y => ?_]
        · rfl
        · have y2 := V.str.inj y
          rw [y2] at k1
          exact absurd k1 (by decide +kernel)
      show Q (V.bl (!decide (V.str z = V.str (Str.ofString "")))) H1
      rw [e]
      exact q H1 s1
    | row lv gs =>
      obtain ⟨a, u, rfl, ha, hu⟩ := id hv.row
      refine ⟨_, rfl, _, _, _, rfl, .base (.tup ha), kb_tup_tup, _, rfl, iteF ?_⟩
      refine ⟨_, rfl, a, _, rfl, .inr (SqT.of ha), _, _, rfl, rfl, _, rfl, iteF ?_⟩
      refine ⟨_, rfl, a, _, _, _, rfl, rfl, SqT.of ha, rfl, 1, rfl, by omega, by omega, _, rfl, iteF ?_⟩
      refine ⟨_, rfl, a, _, _, .int 1, rfl, rfl, SqT.of ha, rfl, rfl, _, rfl, iteT ?_⟩
      refine ⟨_, rfl, a, _, rfl, .inr (SqT.of ha), rfl, _, rfl, iteT ?_⟩
      exact ⟨_, rfl, lv, gs, _, rfl, hv, hk, q⟩
    | folder es =>
      obtain ⟨a, u, rfl, ha, hu⟩ := hv.folder
      refine ⟨_, rfl, _, _, _, rfl, .base (.tup ha), kb_tup_tup, _, rfl, iteF ?_⟩
      refine ⟨_, rfl, a, _, rfl, .inr (SqT.of ha), _, _, rfl, rfl, _, rfl, iteF ?_⟩
      refine ⟨_, rfl, a, _, _, _, rfl, rfl, SqT.of ha, rfl, 2, rfl, by omega, by omega, _, rfl, iteF ?_⟩
      refine ⟨_, rfl, a, _, _, .int 2, rfl, rfl, SqT.of ha, rfl, rfl, _, rfl, iteF ?_⟩
      refine ⟨_, rfl, a, _, rfl, .inr (SqT.of ha), rfl, _, rfl, iteF ?_⟩
      refine ⟨_, rfl, a, _, _, .int 2, rfl, rfl, SqT.of ha, rfl, rfl, _, rfl, iteF ?_⟩
      refine ⟨_, rfl, a, _, _, .int 2, rfl, rfl, SqT.of ha, rfl, rfl, _, rfl, iteT ?_⟩
      exact ⟨_, rfl, a, _, _, u, rfl, rfl, SqT.of ha, rfl, es, u, rfl, hu, hk, q⟩
end
end Sk

set_option Elab.async false
set_option linter.all false
set_option maxRecDepth 100000
set_option maxHeartbeats 4000000
namespace Sk
open PySem PySem.Spec PyProof.Rows L2
theorem flat_take {es : List En} {i : Nat} {e : En} (h : es[i]? = some e) : (es.take (i + 1)).flatMap enTold = (es.take i).flatMap enTold ++ enTold e := by
  rw [take_snoc h, List.flatMap_append]
  simp
theorem enTold_len (e : En) : (enTold e).length = e.1.length + 2 := by
  unfold enTold
  rw [List.length_append, nums_len]
  rfl
theorem flat_len : ∀ (l : List En), (∀ e ∈ l, okE e) → (l.flatMap enTold).length ≤ 10 * l.length
  | [], _ => by simp
  | e :: r, h => by
    have h1 := flat_len r fun x hx => h x (List.mem_cons_of_mem _ hx)
    have h2 := (h e List.mem_cons_self).1.2.1
    rw [List.flatMap_cons, List.length_append, List.length_cons, enTold_len]
    omega
theorem told_len {b : Blk} (h : b.ok) : b.told.length ≤ 1000 := by
  cases b with
  | piece z =>
    have := h.2.1
    show (nums z).length ≤ 1000
    rw [nums_len]
    omega
  | row lv gs =>
    have := h.2.2.1
    show (lv :: gs.map _).length ≤ 1000
    rw [List.length_cons, List.length_map]
    omega
  | folder es =>
    have h1 := h.1
    have := flat_len es h.2.1
    show (es.flatMap enTold).length ≤ 1000
    omega
section
variable {P : Program} {w : World} {K : PySem.W.Frag} {mg : Str → Option Value} {base : Heap} {f : Addr} {fd : FuncData}
theorem sc_told_of : FnScope ["block", "told", "name", "kind", "tag"] ["block"] (defScope s_told_of) := ⟨rfl, rfl, rfl, by decide +kernel, rfl, by decide +kernel, by decide +kernel⟩
theorem ok_told_of (F : FnP K "told_of" s_told_of f fd) (T : Txt mg) (g_numbers_of : Has P w K mg base CX0 2 "numbers_of" ["text"] sp_numbers_of) : FnOk P w K mg base CX0 3 f fd ["block"] sp_told_of := by
  refine ok0 F sc_told_of (fun vs H Q E h => ?_) (fun cdv A outer s H vs Q E hr h => ?_)
  · obtain ⟨b, v, rfl, _⟩ := h
    rfl
  · obtain ⟨b, v, rfl, hv, hk, q⟩ := h
    refine ⟨_, (pss_cons (ps_if (pt_cmpR op_eq (pe_ix ix_tup (pv 0) pe_int (fun _ _ => rfl)) pe_int (nomark _))
      (pss_one (ps_ret (pe_has g_numbers_of hr pass0 (pa_cons (pe_ix ix_tup (pv 0) pe_int (fun _ _ => rfl)) pa_nil))))
      pss_nil)
    (pss_cons (ps_if (pt_cmpR op_eq (pe_ix ix_tup (pv 0) pe_int (fun _ _ => rfl)) pe_int (nomark _))
      (pss_one (ps_ret (pe_op op_cat (pe_lst (pa_cons (pe_ix ix_tup (pv 0) pe_int (fun _ _ => rfl)) pa_nil)) (pe_lc (own := [("tag", 4)]) (g := gName 4) (tt := tYes) rfl sc_told_of.nd (pi_tup (pe_ix ix_tup (pv 0) pe_int (fun _ _ => rfl))) (blkOk_by (own := [("tag", 4)]) (N := ["block", "told", "name", "kind", "tag"]) (sc := defScope s_told_of) (by decide +kernel)) (fun _ _ _ _ _ => (pg_name (i := 4) sc_told_of.nd rfl (Or.inl rfl))) (fun _ _ _ _ _ => pts_nil) (fun _ _ _ _ _ => (pe_ix (r := rIxT K) ix_tup (pv 4) pe_int (fun _ _ => rfl)))))))
      pss_nil)
    (pss_cons (ps_set (i := 1) sc_told_of.nd rfl (Or.inl rfl) (pe_lst pa_nil))
    (pss_cons (ps_for PassesOwn.never rfl (pi_tup (pe_ix ix_tup (pv 0) pe_int (fun _ _ => rfl))) (pg_tup rfl (pgs_cons (pg_name (i := 2) sc_told_of.nd rfl (Or.inl rfl)) (pgs_cons (pg_name (i := 3) sc_told_of.nd rfl (Or.inl rfl)) (pgs_cons (pg_name (i := 4) sc_told_of.nd rfl (Or.inl rfl)) pgs_nil))))
      (pss_one (ps_expr (pe_bm PySem.F.plainAttrs_list PySem.F.slot_list_extend PySem.F.type_list_extend mt_extend (pv 1) (pa_cons (pe_op op_cat (pe_has g_numbers_of hr pass0 (pa_cons (pv 2) pa_nil)) (pe_lst (pa_cons (pv 3) (pa_cons (pe_ix ix_tup (pv 4) pe_int (fun _ _ => rfl)) pa_nil)))) pa_nil)))))
    (pss_one (ps_ret (pv 1))))))), ?_⟩
    cases b with
    | piece z =>
      obtain ⟨a, rfl, ha⟩ := hv.piece
      obtain ⟨k1, k2, k3⟩ := hk
      refine ⟨_, rfl, a, _, _, .int 0, rfl, rfl, SqT.of ha, rfl, rfl, _, rfl, iteT ?_⟩
      exact ⟨_, rfl, a, _, _, .str z, rfl, rfl, SqT.of ha, rfl, z, rfl, by omega, k3, q⟩
    | row lv gs =>
      obtain ⟨a, u, rfl, ha, hu⟩ := hv.row
      obtain ⟨k1, k2, k3, k4, k5⟩ := hk
      obtain ⟨b, xs, rfl, hb, hl, hx, _⟩ := hu.seq
      refine ⟨_, rfl, a, _, _, .int 1, rfl, rfl, SqT.of ha, rfl, rfl, _, rfl, iteF ?_⟩
      refine ⟨_, rfl, a, _, _, .int 1, rfl, rfl, SqT.of ha, rfl, rfl, _, rfl, iteT ?_⟩
      refine ⟨_, rfl, a, _, _, .int lv, rfl, rfl, SqT.of ha, rfl, (by show 1 ≤ sizeLine; decide), fun l hl2 => ?_⟩
      have s1 : Same H (upd H l (.lst [.int lv])) := fun c o e => by
        rw [upd_ne (ne_of_none e hl2)]
        exact e
      refine ⟨_, rfl, a, _, _, .ref b, rfl, rfl, SqT.of (s1 _ _ ha), rfl, b, rfl, ⟨_, SqT.of (s1 _ _ hb)⟩, fun D hD => ?_⟩
      refine lc_pure walk_tup (fun i => .int (gs.getD i (0, 0, 0)).2.2) hD (by have := sigLE; omega) (fun H1 s2 => SqT.of (s2 _ _ (s1 _ _ hb))) (fun i x H1 H' k hi s2 y kk => ?_) (fun H1 s2 e => ?_)
      · obtain ⟨rfl, hxi⟩ := y
        obtain ⟨g, hg, hr2⟩ := hx i x hxi
        obtain ⟨t, rfl, ht⟩ := (Rp.mono (Tups.of (s1.trans s2)) _ _ hr2).tg
        have z := kk H' (Same.refl _)
        have eg : gs.getD i (0, 0, 0) = g := by rw [List.getD_eq_getElem?_getD, hg]; rfl
        rw [eg] at z
        exact ⟨rfl, _, rfl, t, _, _, _, rfl, rfl, SqT.of ht, rfl, z⟩
      · have e3 : ((List.range xs.length).map fun i => V.int (gs.getD i (0, 0, 0)).2.2) = (gs.map fun g => g.2.2).map V.int := by
          rw [hl, List.map_map]
          exact map_range _ _ _ fun i x hx => by
            rw [List.getD_eq_getElem?_getD, hx]
            rfl
        rw [e3] at e
        refine ⟨l, D, _, _, rfl, rfl, s2 _ _ upd_same, e, ?_, fun p hp => ?_⟩
        · rw [List.length_map, List.length_map]
          show 1 + gs.length ≤ sizeLine
          have := sigLE
          omega
        · have s3 : Same H1 (upd H1 p (.lst ([.int lv] ++ (gs.map fun g => g.2.2).map V.int))) := fun c o e => by
            rw [upd_ne (ne_of_none e hp)]
            exact e
          refine q _ p ((s1.trans s2).trans s3) ((s1.trans s2).free hp) ?_
          rw [upd_same]
          rfl
    | folder es =>
      obtain ⟨a, u, rfl, ha, hu⟩ := hv.folder
      obtain ⟨k1, k2, k3⟩ := id hk
      obtain ⟨b, xs, rfl, hb, hl, hx, _⟩ := hu.seq
      refine ⟨_, rfl, a, _, _, .int 2, rfl, rfl, SqT.of ha, rfl, rfl, _, rfl, iteF ?_⟩
      refine ⟨_, rfl, a, _, _, .int 2, rfl, rfl, SqT.of ha, rfl, rfl, _, rfl, iteF ?_⟩
      refine ⟨Nat.zero_le _, fun L hL => ?_⟩
      have s0 : ∀ {b : Addr} {o : HO}, H b = some o → (upd H L (.lst [])) b = some o := fun e => by
        rw [upd_ne (ne_of_none e hL)]
        exact e
      refine ⟨_, rfl, a, _, _, .ref b, rfl, rfl, SqT.of (s0 ha), rfl, b, rfl, ⟨_, SqT.of (s0 hb)⟩, for_tup (K := K) (a := b) (xs := xs)
        (fun i σ H' => ∃ u1 u2 u3, σ = [some (.ref a), some (.ref L), u1, u2, u3] ∧ Same H H' ∧ H' L = some (.lst (((es.take i).flatMap enTold).map V.int)))
        ⟨none, none, none, rfl, fun b o e => s0 e, upd_same⟩ (fun i σ H' _ ⟨_, _, _, _, s5, _⟩ => SqT.of (s5 _ _ hb)) ?_ ?_⟩
      · rintro i x σ H' hi ⟨u1, u2, u3, rfl, s5, eL⟩
        obtain ⟨e, he, hr2⟩ := hx i x hi
        obtain ⟨t, u, rfl, ht, hu2⟩ := (Rp.mono (Tups.of s5) _ _ hr2).en
        obtain ⟨tg, rfl, htg⟩ := hu2.tg
        have hoe := k2 e (getE he)
        refine ⟨t, _, rfl, SqT.of ht, rfl, _, _, rfl, _, _, rfl, _, _, rfl, rfl, ?_⟩
        refine ⟨_, rfl, .inl ⟨rfl, _, SqL.of eL⟩, _, rfl, e.1, rfl, by have := hoe.1.2.1; omega, okN_sg hoe.1, fun H1 p s1 n1 e1 => ?_⟩
        refine ⟨_, rfl, _, rfl, tg, _, _, .int e.2.2.2.2, rfl, rfl, SqT.of (s1 _ _ htg), rfl, (by show 2 ≤ sizeLine; decide), fun m hm => ?_⟩
        have s2 : Same H1 (upd H1 m (.lst [.int e.2.1, .int e.2.2.2.2])) := fun c o e => by
          rw [upd_ne (ne_of_none e hm)]
          exact e
        refine ⟨p, m, _, _, rfl, rfl, s2 _ _ e1, upd_same, ?_, fun r hr3 => ?_⟩
        · rw [List.length_map, nums_len]
          show e.1.length + 2 ≤ sizeLine
          have := sigLE
          have := hoe.1.2.1
          omega
        · have s3 : Same (upd H1 m (.lst [.int e.2.1, .int e.2.2.2.2])) (upd (upd H1 m (.lst [.int e.2.1, .int e.2.2.2.2])) r (.lst ((nums e.1).map V.int ++ [.int e.2.1, .int e.2.2.2.2]))) := fun c o e => by
            rw [upd_ne (ne_of_none e hr3)]
            exact e
          have s4 := (s1.trans s2).trans s3
          have eL2 := s4 _ _ eL
          have hle := flat_len (es.take (i + 1)) fun x hx => k2 x (List.mem_of_mem_take hx)
          rw [flat_take he, List.length_append, List.length_take] at hle
          refine ⟨L, r, _, _, rfl, rfl, eL2, upd_same, ?_, ?_⟩
          · rw [List.length_map, List.length_append, List.length_map, nums_len]
            rw [enTold_len] at hle
            have := sigLE
            show ((es.take i).flatMap enTold).length + (e.1.length + 2) ≤ sizeLine
            omega
          · refine ⟨some (.str e.1), some (.int e.2.1), some (.ref tg), rfl, fun b o h => ?_, ?_⟩
            · rw [upd_ne (ne_of_none h hL)]
              exact s4 _ _ (s5 _ _ h)
            · rw [upd_same, flat_take he, List.map_append]
              show some (HO.lst _) = some (HO.lst _)
              rw [show (enTold e).map V.int = (nums e.1).map V.int ++ [.int e.2.1, .int e.2.2.2.2] by unfold enTold; rw [List.map_append]; rfl]
      · rintro σ H' ⟨u1, u2, u3, rfl, s5, eL⟩
        refine ⟨_, rfl, q _ L s5 hL ?_⟩
        rw [eL, hl, List.take_length]
        rfl
theorem sc_sum_of : FnScope ["block", "found", "number"] ["block"] (defScope s_sum_of) := ⟨rfl, rfl, rfl, by decide +kernel, rfl, by decide +kernel, by decide +kernel⟩
theorem ok_sum_of (F : FnP K "sum_of" s_sum_of f fd) (T : Txt mg) (g_told_of : Has P w K mg base CX0 3 "told_of" ["block"] sp_told_of) : FnOk P w K mg base CX0 4 f fd ["block"] sp_sum_of := by
  refine ok0 F sc_sum_of (fun vs H Q E h => ?_) (fun cdv A outer s H vs Q E hr h => ?_)
  · obtain ⟨b, v, rfl, _⟩ := h
    rfl
  · obtain ⟨b, v, rfl, hv, hk, q⟩ := h
    refine ⟨_, (pss_cons (ps_set (i := 1) sc_sum_of.nd rfl (Or.inl rfl) (pe_op op_add (pe_ix ix_tup (pv 0) pe_int (fun _ _ => rfl)) pe_int))
    (pss_cons (ps_for PassesOwn.never rfl (pi_list (pe_has g_told_of hr pass0 (pa_cons (pv 0) pa_nil))) (pg_name (i := 2) sc_sum_of.nd rfl (Or.inl rfl))
      (pss_one (ps_set (i := 1) sc_sum_of.nd rfl (Or.inl rfl) (pe_op op_mod (pe_op op_add (pe_op op_add (pe_op op_mul (pe_gl T.c_TURN) (pv 1)) (pv 2)) pe_int) (pe_gl T.c_BY)))))
    (pss_one (ps_ret (pv 1))))), ?_⟩
    obtain ⟨a, xs, rfl, ha, h0⟩ : ∃ a xs, v = .ref a ∧ H a = some (.tup xs) ∧ xs[0]? = some (.int b.kind) := by
      cases b with
      | piece z =>
        obtain ⟨a, rfl, ha⟩ := hv.piece
        exact ⟨a, _, rfl, ha, rfl⟩
      | row lv gs =>
        obtain ⟨a, u, rfl, ha, _⟩ := hv.row
        exact ⟨a, _, rfl, ha, rfl⟩
      | folder es =>
        obtain ⟨a, u, rfl, ha, _⟩ := hv.folder
        exact ⟨a, _, rfl, ha, rfl⟩
    refine ⟨_, rfl, a, _, _, .int b.kind, rfl, rfl, SqT.of ha, at_of rfl h0, _, _, rfl, rfl, ?_⟩
    refine ⟨_, rfl, b, _, rfl, hv, hk, fun H1 p s1 n1 e1 => ?_⟩
    refine ⟨p, rfl, ⟨_, SqL.of e1⟩, for_list (K := K) (a := p) (xs := b.told.map V.int)
      (fun i σ H' => ∃ u1, σ = [some (.ref a), some (.int ((b.told.take i).foldl turnS (b.kind + 1))), u1] ∧ Same H1 H')
      ⟨none, rfl, Same.refl _⟩ (fun i σ H' _ ⟨_, _, s5⟩ => SqL.of (s5 _ _ e1)) ?_ ?_⟩
    · rintro i x σ H' hi ⟨u1, rfl, s5⟩
      rw [List.getElem?_map] at hi
      obtain ⟨n, hn, rfl⟩ : ∃ n, b.told[i]? = some n ∧ x = .int n := by
        cases q : b.told[i]? with
        | none =>
          rw [q] at hi
          cases hi
        | some n =>
          rw [q] at hi
          exact ⟨n, rfl, (Option.some.inj hi).symm⟩
      refine ⟨_, rfl, _, _, rfl, rfl, .inl ⟨by decide, by decide⟩, _, rfl, _, _, rfl, rfl, _, _, rfl, rfl, _, _, rfl, rfl, (by show (0 : Int) < 997; decide), ?_⟩
      refine ⟨some (.int n), ?_, s5⟩
      rw [take_snoc hn, List.foldl_append]
      rfl
    · rintro σ H' ⟨u1, rfl, s5⟩
      refine ⟨_, rfl, ?_⟩
      rw [List.length_map, List.take_length]
      exact q H' (s1.trans s5)
end
end Sk

set_option Elab.async false
set_option linter.all false
set_option maxRecDepth 100000
set_option maxHeartbeats 4000000
namespace Sk
open PySem PySem.Spec PyProof.Rows L2
theorem wsum_eq : ∀ (i : Nat) (ws : List Int), wsum i ws = ((List.range ws.length).map fun j => (((i + j : Nat) : Int) + 1) * ws.getD j 0).sum
  | i, [] => rfl
  | i, x :: r => by
    rw [wsum, wsum_eq (i + 1) r, List.length_cons, List.range_succ_eq_map, List.map_cons, List.sum_cons, List.map_map]
    congr 1
    refine congrArg List.sum (List.map_congr_left fun j _ => ?_)
    show (((i + 1 + j : Nat) : Int) + 1) * r.getD j 0 = (((i + (j + 1) : Nat) : Int) + 1) * (x :: r).getD (j + 1) 0
    rw [show i + 1 + j = i + (j + 1) by omega]
    rfl
section
variable {P : Program} {w : World} {K : PySem.W.Frag} {mg : Str → Option Value} {base : Heap} {f : Addr} {fd : FuncData}
theorem sc_mark_of : FnScope ["words", "place", "word"] ["words"] (defScope s_mark_of) := ⟨rfl, rfl, rfl, by decide +kernel, rfl, by decide +kernel, by decide +kernel⟩
theorem ok_mark_of (F : FnP K "mark_of" s_mark_of f fd) (T : Txt mg) : FnOk P w K mg base CX0 1 f fd ["words"] sp_mark_of := by
  refine ok0 F sc_mark_of (fun vs H Q E h => ?_) (fun cdv A outer s H vs Q E hr h => ?_)
  · obtain ⟨L, ws, rfl, _⟩ := h
    rfl
  · obtain ⟨L, ws, rfl, hL, hlen, q⟩ := h
    refine ⟨_, pss_one (ps_ret (pe_op op_mod (pe_callB (cr_sum rfl) rfl T.n_sum boot_sum (pa_cons (pe_lc (own := [("place", 1), ("word", 2)]) (g := gTup K 2 (gCons (gName 1) (gCons (gName 2) gNil))) (tt := tYes) rfl sc_mark_of.nd (pi_enum rfl T.n_enumerate (pa_cons (pv 0) pa_nil))
      (blkOk_by (own := [("place", 1), ("word", 2)]) (N := ["words", "place", "word"]) (sc := defScope s_mark_of) (by decide +kernel))
      (fun _ _ _ _ _ => pg_tup rfl (pgs_cons (pg_name (i := 1) sc_mark_of.nd rfl (Or.inl rfl)) (pgs_cons (pg_name (i := 2) sc_mark_of.nd rfl (Or.inl rfl)) pgs_nil))) (fun _ _ _ _ _ => pts_nil)
      (fun _ _ _ _ _ => pe_op op_mul (pe_op op_add (pv 1) pe_int) (pv 2))) pa_nil)) (pe_gl T.c_PRIME))), ?_⟩
    refine ⟨_, rfl, L, _, rfl, SqL.of hL, fun D hD => ?_⟩
    refine lc_pure walk_enum (fun i => .int ((((i : Nat) : Int) + 1) * ws.getD i 0)) hD (by rw [List.length_map]; exact Nat.le_trans hlen (by decide)) (fun H1 s1 => SqL.of (s1 _ _ hL)) (fun i x H1 H' k hi s1 y kk => ?_) (fun H1 s1 e => ?_)
    · obtain ⟨t, x1, x2, rfl, ht, rfl, e1, e2⟩ := y
      rw [List.length_map] at hi
      have e2' : ws[i]? = some ws[i] := List.getElem?_eq_getElem hi
      have e2 : (ws.map V.int)[i]? = some x2 := e2
      rw [List.getElem?_map, e2'] at e2
      obtain rfl : V.int (i : Nat) = x1 := Option.some.inj e1
      obtain rfl : V.int ws[i] = x2 := Option.some.inj e2
      have s4 : Same H1 (upd H1 t (.tup [.int (i : Nat), .int ws[i]])) := fun b o e => by
        rw [upd_ne (ne_of_none e ht)]
        exact e
      have eg : ws.getD i 0 = ws[i] := by rw [List.getD_eq_getElem?_getD, e2']; rfl
      have z := kk _ s4
      rw [eg] at z
      refine ⟨t, _, rfl, SqT.of upd_same, rfl, _, _, rfl, _, _, rfl, rfl, ?_⟩
      refine ⟨rfl, _, rfl, _, _, rfl, rfl, _, rfl, _, _, rfl, rfl, .inl ⟨?_, ?_⟩, z⟩
      · show -(2 ^ 64) < ((i : Nat) : Int) + 1
        omega
      · show ((i : Nat) : Int) + 1 < 2 ^ 64
        omega
    · rw [List.length_map] at e
      refine ⟨D, (List.range ws.length).map (fun i => (((i : Nat) : Int) + 1) * ws.getD i 0), rfl, SqL.of ?_, _, _, rfl, rfl, (by show (0 : Int) < 2147483647; decide), ?_⟩
      · rw [e, List.map_map]
        rfl
      · have e3 : wsum 0 ws = ((List.range ws.length).map (fun i => (((i : Nat) : Int) + 1) * ws.getD i 0)).sum := by
          rw [wsum_eq]
          refine congrArg List.sum (List.map_congr_left fun j _ => ?_)
          rw [Nat.zero_add]
        have z := q H1 s1
        unfold mark at z
        rw [e3] at z
        exact z
theorem sc_sealed : FnScope ["words"] ["words"] (defScope s_sealed) := ⟨rfl, rfl, rfl, by decide +kernel, rfl, by decide +kernel, by decide +kernel⟩
theorem ok_sealed (F : FnP K "sealed" s_sealed f fd) (T : Txt mg) (G : Has P w K mg base CX0 1 "mark_of" ["words"] sp_mark_of) : FnOk P w K mg base CX0 2 f fd ["words"] sp_sealed := by
  refine ok0 F sc_sealed (fun vs H Q E h => ?_) (fun cdv A outer s H vs Q E hr h => ?_)
  · obtain ⟨L, ws, rfl, _⟩ := h
    rfl
  · obtain ⟨L, ws, rfl, hL, hlen, q⟩ := h
    refine ⟨_, pss_one (ps_ret (pe_op op_cat (pe_callTy call_list_of rfl T.n_list boot_tlist (pa_cons (pv 0) pa_nil)) (pe_lst (pa_cons (pe_has G hr pass0 (pa_cons (pv 0) pa_nil)) pa_nil)))), ?_⟩
    refine ⟨_, rfl, L, _, rfl, .inl (SqL.of hL), fun l hl => ?_⟩
    have s1 : Same H (upd H l (.lst (ws.map V.int))) := fun b o e => by
      rw [upd_ne (ne_of_none e hl)]
      exact e
    refine ⟨_, rfl, L, ws, rfl, s1 _ _ hL, by omega, fun H1 s2 => ?_⟩
    refine ⟨(by show 1 ≤ sizeLine; decide), fun m hm => ?_⟩
    have s3 : Same H1 (upd H1 m (.lst [.int (mark ws)])) := fun b o e => by
      rw [upd_ne (ne_of_none e hm)]
      exact e
    have e1 : H1 l = some (.lst (ws.map V.int)) := s2 _ _ upd_same
    refine ⟨l, m, _, _, rfl, rfl, s3 _ _ e1, upd_same, ?_, fun p hp => ?_⟩
    · rw [List.length_map]
      show ws.length + 1 ≤ sizeLine
      have := sigLE
      have h2 : (100000 : Nat) + 1 ≤ sizeLine := by decide
      omega
    · have s4 : Same (upd H1 m (.lst [.int (mark ws)])) (upd (upd H1 m (.lst [.int (mark ws)])) p (.lst (ws.map V.int ++ [.int (mark ws)]))) := fun b o e => by
        rw [upd_ne (ne_of_none e hp)]
        exact e
      have s5 := (s1.trans s2).trans s3
      refine q _ p (s5.trans s4) (s5.free hp) ?_
      rw [upd_same]
      unfold sealW
      rw [List.map_append]
      rfl
theorem sc_unsealed : FnScope ["row", "word"] ["row"] (defScope s_unsealed) := ⟨rfl, rfl, rfl, by decide +kernel, rfl, by decide +kernel, by decide +kernel⟩
theorem lay_ints : ∀ r : List Int, PyData.canLayAll0 (r.map PyData.int) = true
  | [] => rfl
  | x :: r => by
    rw [List.map_cons, PyData.canLayAll0, lay_ints r]
    rfl
theorem deep_ints : ∀ r : List Int, PyData.depthAll (r.map PyData.int) = 0
  | [] => rfl
  | x :: r => by
    rw [List.map_cons, PyData.depthAll, deep_ints r]
    rfl
theorem sh_ints (r : List Int) : SeqAt.shaped (.list (r.map PyData.int)) = true := by
  unfold SeqAt.shaped
  have h1 : (PyData.list (r.map PyData.int)).canLay0 = true := by
    rw [PyData.canLay0]
    exact lay_ints r
  have h2 : (PyData.list (r.map PyData.int)).depth ≤ 64 := by
    rw [PyData.depth, deep_ints]
    decide
  rw [h1, decide_eq_true h2]
  rfl
theorem dp_ints (H : Hp) : ∀ r : List Int, DpAll K H (r.map V.int) (r.map PyData.int)
  | [] => .nil
  | x :: r => .cons (.int x) (dp_ints H r)
theorem eqv_nil (r : List Int) : PyData.eqv (.list (r.map PyData.int)) (.list []) = r.isEmpty := by
  cases r with
  | nil => rfl
  | cons x r => rfl
theorem cut_last (xs : List V) (v : V) : cutV (xs ++ [v]) none (some (-1)) = xs := by
  have e : HT.sIx (xs ++ [v]).length (xs ++ [v]).length (some (-1)) = xs.length := by
    rw [List.length_append]
    show (if (-1 : Int) < 0 then ((-1 : Int) + ((xs.length + [v].length : Nat) : Int)).toNat else min (-1 : Int).toNat (xs.length + [v].length)) = xs.length
    rw [if_pos (by decide), List.length_singleton]
    omega
  unfold cutV
  rw [e, HT.sIx_none, List.drop_zero, Nat.sub_zero, List.take_left]
def inW (x : Int) : Bool := decide (0 ≤ x) && decide (x < 2147483647)
theorem sound_snoc (ys : List Int) (y : Int) : sound (ys ++ [y]) = ((ys ++ [y]).all inW && decide (y = mark ys)) := by
  unfold sound
  have e1 : (ys ++ [y]).isEmpty = false := by cases ys <;> rfl
  rw [e1, List.dropLast_concat, List.getLast?_concat]
  simp only [Bool.not_false, Bool.true_and, Option.some.injEq]
  rfl
theorem ok_unsealed (F : FnP K "unsealed" s_unsealed f fd) (T : Txt mg) (G : Has P w K mg base CX0 1 "mark_of" ["words"] sp_mark_of) : FnOk P w K mg base CX0 2 f fd ["row"] sp_unsealed := by
  refine ok0 F sc_unsealed (fun vs H Q E h => ?_) (fun cdv A outer s H vs Q E hr h => ?_)
  · obtain ⟨L, ws, rfl, _⟩ := h
    rfl
  · obtain ⟨L, r, rfl, hL, hlen, qn, qy⟩ := h
    refine ⟨_, pss_cons (ps_if (PW.pt (pw_or (pt_cmpR (op_eqD hr.units) (pv 0) (pe_lst pa_nil) (nomark _)) (pw_or1 (pt_not (pt_val (pe_callB (cr_all rfl) rfl T.n_all boot_all (pa_cons (pe_lc (own := [("word", 1)]) (g := gName 1) (tt := tYes) rfl sc_unsealed.nd (pi_list (pv 0))
          (blkOk_by (own := [("word", 1)]) (N := ["row", "word"]) (sc := defScope s_unsealed) (by decide +kernel))
          (fun _ _ _ _ _ => pg_name (i := 1) sc_unsealed.nd rfl (Or.inl rfl)) (fun _ _ _ _ _ => pts_nil) (fun _ _ _ _ _ => pe_chain op_le op_lt pe_int (pv 1) (pe_gl T.c_PRIME))) pa_nil))))))) (pss_one (ps_ret pe_non)) pss_nil)
      (pss_cons (ps_if (pt_cmpR op_ne (pe_ix ix_list (pv 0) (pe_un un_neg pe_int) (fun _ _ => rfl)) (pe_has G hr pass0 (pa_cons (pe_slice sl_list (pv 0) po_none (po_some (pe_un un_neg pe_int))) pa_nil)) (nomark _)) (pss_one (ps_ret pe_non)) pss_nil)
      (pss_one (ps_ret (pe_slice sl_list (pv 0) po_none (po_some (pe_un un_neg pe_int)))))), ?_⟩
    refine ⟨_, rfl, Nat.zero_le _, fun e he => ?_⟩
    have s1 : Same H (upd H e (.lst [])) := fun b o h => by
      rw [upd_ne (ne_of_none h he)]
      exact h
    refine ⟨.list (r.map PyData.int), .list [], .lst (SqL.of (s1 _ _ hL)) (dp_ints _ r), .lst (SqL.of upd_same) .nil, sh_ints r, sh_ints [], _, rfl, ?_⟩
    rw [eqv_nil]
    rcases List.eq_nil_or_concat r with rfl | ⟨ys, y, er⟩
    · refine iteT (iteT (qn rfl _ s1))
    · have er : r = ys ++ [y] := by rw [er, List.concat_eq_append]
      subst er
      have e1 : (ys ++ [y]).isEmpty = false := by cases ys <;> rfl
      rw [e1]
      refine iteF ⟨_, rfl, L, rfl, ⟨_, SqL.of (s1 _ _ hL)⟩, fun D hD => ?_⟩
      refine lc_pure walk_list (fun i => .bl (inW ((ys ++ [y]).getD i 0))) hD (by rw [List.length_map]; exact Nat.le_trans hlen (by decide)) (fun H1 s2 => SqL.of (s2 _ _ (s1 _ _ hL))) (fun i x H1 H' k hi s2 yy kk => ?_) (fun H1 s2 e2 => ?_)
      · obtain ⟨rfl, hx⟩ := yy
        rw [List.length_map] at hi
        have hx2 : (ys ++ [y])[i]? = some (ys ++ [y])[i] := List.getElem?_eq_getElem hi
        rw [List.getElem?_map, hx2] at hx
        obtain rfl : V.int (ys ++ [y])[i] = x := Option.some.inj hx
        have eg : (ys ++ [y]).getD i 0 = (ys ++ [y])[i] := by rw [List.getD_eq_getElem?_getD, hx2]; rfl
        have z := kk H' (Same.refl _)
        rw [eg] at z
        refine ⟨rfl, _, rfl, _, _, rfl, rfl, _, rfl, ?_⟩
        unfold inW at z
        by_cases c : (0 : Int) ≤ (ys ++ [y])[i]
        · rw [decide_eq_true c] at z ⊢
          exact iteT ⟨_, _, rfl, rfl, z⟩
        · rw [decide_eq_false c] at z ⊢
          exact iteF z
      · rw [List.length_map] at e2
        have e3 : ((List.range (ys ++ [y]).length).map fun i => V.bl (inW ((ys ++ [y]).getD i 0))) = ((ys ++ [y]).map inW).map V.bl := by
          rw [List.map_map]
          exact map_range _ _ _ fun i x hx => by
            rw [List.getD_eq_getElem?_getD, hx]
            rfl
        rw [e3] at e2
        have sH : Same H H1 := s1.trans s2
        refine ⟨D, _, rfl, SqL.of e2, _, rfl, ?_⟩
        have ss := sound_snoc ys y
        have ea : ((ys ++ [y]).map inW).all id = (ys ++ [y]).all inW := by
          rw [List.all_map]
          rfl
        rw [ea]
        cases c : (ys ++ [y]).all inW with
        | false =>
          rw [c] at ss
          exact iteT (qn ss _ sH)
        | true =>
          rw [c, Bool.true_and] at ss
          refine iteF ⟨_, rfl, _, rfl, L, (ys.map V.int) ++ [.int y], -1, .int y, rfl, rfl, ?_, atI_last _ _, ?_⟩
          · have := SqL.of (K := K) (sH _ _ hL)
            rw [List.map_append] at this
            exact this
          · have hL1 : H1 L = some (.lst ((ys.map V.int) ++ [.int y])) := by
              rw [sH _ _ hL, List.map_append]
              rfl
            refine ⟨_, rfl, _, rfl, _, rfl, L, _, rfl, SqL.of hL1, fun p hp => ?_⟩
            rw [cut_last]
            have s3 : Same H1 (upd H1 p (.lst (ys.map V.int))) := fun b o h => by
              rw [upd_ne (ne_of_none h hp)]
              exact h
            rw [List.length_append] at hlen
            refine ⟨p, ys, rfl, upd_same, by omega, fun H2 s4 => ?_⟩
            refine ⟨rfl, _, rfl, ?_⟩
            have s5 : Same H H2 := (sH.trans s3).trans s4
            by_cases cy : y = mark ys
            · rw [decide_eq_true cy] at ss
              have ed : (!decide (V.int y = V.int (mark ys))) = false := by rw [← cy, decide_eq_true rfl]; rfl
              rw [ed]
              refine iteF ⟨_, rfl, _, rfl, _, rfl, L, _, rfl, SqL.of (s4 _ _ (s3 _ _ hL1)), fun p2 hp2 => ?_⟩
              rw [cut_last]
              have s6 : Same H2 (upd H2 p2 (.lst (ys.map V.int))) := fun b o h => by
                rw [upd_ne (ne_of_none h hp2)]
                exact h
              refine qy ss _ p2 (s5.trans s6) (s5.free hp2) ?_
              rw [upd_same, List.dropLast_concat]
            · rw [decide_eq_false cy] at ss
              have ed : (!decide (V.int y = V.int (mark ys))) = true := by
                rw [decide_eq_false fun z => cy (V.int.inj z)]
                rfl
              rw [ed]
              exact iteT (qn ss _ s5)
end
end Sk

set_option Elab.async false
set_option linter.all false
set_option maxRecDepth 100000
set_option maxHeartbeats 4000000
namespace Sk
open PySem PySem.Spec PyProof.Rows L2
theorem not_solid_refs {H : Hp} {ds : List Addr} (h0 : 0 < ds.length) (hd : ∀ (i : Nat) (d : Addr), ds[i]? = some d → ∃ kvs : List (L2.Key × V), H d = some (.dK kvs)) : ¬ Solid H (.lst (ds.map V.ref)) := by
  obtain ⟨d, r, rfl⟩ : ∃ d r, ds = d :: r := by
    cases ds with
    | nil => simp at h0
    | cons d r => exact ⟨d, r, rfl⟩
  rintro (⟨ns, e⟩ | ⟨as, e, h⟩)
  · cases ns with
    | nil => cases e
    | cons n ns => injection e with e1 e2; cases e1
  · cases as with
    | nil => cases e
    | cons a as =>
      injection e with e1 e2
      obtain rfl : d = a := V.ref.inj e1
      obtain ⟨ys, q⟩ := h d List.mem_cons_self
      obtain ⟨kvs, q2⟩ := hd 0 d rfl
      rw [q] at q2
      cases q2
theorem int_not_refs {ws : List Int} {ds : List Addr} (h0 : 0 < ds.length) : ¬ (HO.lst (ws.map V.int) = HO.lst (ds.map V.ref)) := fun e => by
  have e2 : ws.map V.int = ds.map V.ref := HO.lst.inj e
  cases ds with
  | nil => simp at h0
  | cons d r =>
    cases ws with
    | nil => cases e2
    | cons n ns => injection e2 with e3 e4; cases e3
theorem nodup_set {d : Addr} : ∀ {ds : List Addr} (i : Nat), ds.Nodup → ¬ d ∈ ds → (ds.set i d).Nodup
  | [], _, h, _ => h
  | a :: r, 0, h, hd => by
    obtain ⟨h1, h2⟩ := List.nodup_cons.mp h
    exact List.nodup_cons.mpr ⟨fun z => hd (List.mem_cons_of_mem _ z), h2⟩
  | a :: r, i + 1, h, hd => by
    obtain ⟨h1, h2⟩ := List.nodup_cons.mp h
    refine List.nodup_cons.mpr ⟨fun z => ?_, nodup_set i h2 fun z => hd (List.mem_cons_of_mem _ z)⟩
    rcases List.mem_or_eq_of_mem_set z with y | y
    · exact h1 y
    · exact hd (by rw [← y]; exact List.mem_cons_self)
/-- one dict exchanged -/
theorem bd_put {C p dx L : Addr} {n0 n1 : Int} {ds : List Addr} {m : Nat} {H H' : Hp} {B : Bds} {cap i : Nat} {d : Addr} {kvs kvs' : List (L2.Key × V)} {n : Int} {c : Option (List Int)}
    (h1 : H p = some (.ins C dx (bF L n0))) (h2 : H L = some (.lst (ds.map V.ref))) (h3 : ds.length = m) (h4 : 2 ≤ m) (h5 : m ≤ 4) (h6 : ds.Nodup)
    (h7 : ∀ (i : Nat) (d : Addr), ds[i]? = some d → ∃ kvs : List (L2.Key × V), H d = some (.dK kvs) ∧ kvs.length ≤ cap ∧ ∀ n : Int, CellIs H (valV kvs (Sum.inl n)) (B i n))
    (hd : ds[i]? = some d) (hk : H d = some (.dK kvs)) (g1 : H' p = some (.ins C dx (bF L n1))) (g2 : H' d = some (.dK kvs')) (g3 : kvs'.length ≤ cap + 1)
    (g4 : ∀ k : Int, CellIs H' (valV kvs' (Sum.inl k)) (if k = n then c else B i k)) (g5 : ∀ b o, H b = some o → b ≠ p → b ≠ d → H' b = some o) : BdAt C p m H' (bset B i n c) (cap + 1) ∧ SKeep H H' := by
  have h0 : 0 < ds.length := by omega
  have hLp : L ≠ p := ne_of h2 h1 (by intro z; cases z)
  have hLd : L ≠ d := ne_of h2 hk (by intro z; cases z)
  refine ⟨⟨dx, L, n1, ds, g1, g5 _ _ h2 hLp hLd, h3, h4, h5, h6, fun j e he => ?_⟩, fun b o e so => ?_⟩
  · by_cases hj : j = i
    · subst hj
      rw [hd] at he
      obtain rfl : d = e := Option.some.inj he
      refine ⟨kvs', g2, g3, fun k => ?_⟩
      have z := g4 k
      unfold bset
      by_cases hkn : k = n
      · rw [if_pos hkn] at z
        rw [if_pos ⟨rfl, hkn⟩]
        exact z
      · rw [if_neg hkn] at z
        rw [if_neg fun y => hkn y.2]
        exact z
    · obtain ⟨kv, e1, l1, c1⟩ := h7 j e he
      have hed : e ≠ d := fun z => by
        rw [z] at he
        exact hj (nd_ix h6 he hd)
      have hep : e ≠ p := ne_of e1 h1 (by intro z; cases z)
      refine ⟨kv, g5 _ _ e1 hep hed, Nat.le_trans l1 (Nat.le_succ _), fun k => ?_⟩
      unfold bset
      rw [if_neg fun y => hj y.1]
      exact (c1 k).mono fun r ws q => g5 _ _ q (ne_of q h1 (by intro z; cases z)) (ne_of q hk (by intro z; cases z))
  · refine g5 b o e (fun z => ?_) (fun z => ?_)
    · rw [z, h1] at e
      rw [← Option.some.inj e] at so
      exact so
    · rw [z, hk] at e
      rw [← Option.some.inj e] at so
      exact so
section
variable {P : Program} {w : World} {K : PySem.W.Frag} {mg : Str → Option Value} {base : Heap} {f : Addr} {fd : FuncData} {C : Addr}
theorem sc_B___init__ : FnScope ["self", "many", "board"] ["self", "many"] (defScope sB___init__) := ⟨rfl, rfl, rfl, by decide +kernel, rfl, by decide +kernel, by decide +kernel⟩
theorem ok_B_init (F : FnM K "__init__" "Boards.__init__" sB___init__ f fd) (T : Txt mg) (TB : TxB K mg C) : FnOk P w K mg base CX0 1 f fd ["self", "many"] (sp_B_init C) := by
  refine ok0 F sc_B___init__ (fun vs H Q E h => ?_) (fun cdv A outer s H vs Q E hr h => ?_)
  · obtain ⟨p, dx, m, rfl, _⟩ := h
    rfl
  · obtain ⟨p, dx, m, rfl, hp, h2, h4, q⟩ := h
    refine ⟨_, (pss_cons (ps_if (PW.pt (pw_or (pt_not (pt_val (pe_isi T.n_isinstance T.n_int boot_tint (pv 1)))) (pw_or (pt_val (pe_isi T.n_isinstance T.n_bool boot_tbool (pv 1))) (pw_or1 (pt_not (pt_chain op_le op_le (pe_gl T.c_LEAST) (pv 1) (pe_gl T.c_MOST)))))))
      pss_never
      pss_nil)
    (pss_cons (ps_fld (pv 0) (pe_lc (own := [("board", 2)]) (g := gName 2) (tt := tYes) rfl sc_B___init__.nd (pi_range1 rfl T.n_range (pa_cons (pv 1) pa_nil)) (blkOk_by (own := [("board", 2)]) (N := ["self", "many", "board"]) (sc := defScope sB___init__) (by decide +kernel)) (fun _ _ _ _ _ => (pg_name (i := 2) sc_B___init__.nd rfl (Or.inl rfl))) (fun _ _ _ _ _ => pts_nil) (fun _ _ _ _ _ => pe_dnewK)) rfl)
    (pss_cons (ps_fld (pv 0) pe_int rfl)
    (pss_one (ps_fld (pv 0) pe_non rfl))))), ?_⟩
    refine ⟨_, rfl, _, _, _, rfl, .base (.int _), kb_int_int, _, rfl, iteF ?_⟩
    refine ⟨_, rfl, _, _, _, rfl, .base (.int _), kb_int_bool, _, rfl, iteF ?_⟩
    refine ⟨_, rfl, _, _, rfl, rfl, _, rfl, iteD (by omega) ?_⟩
    refine ⟨_, _, rfl, rfl, _, rfl, ?_⟩
    rw [decide_eq_true (by omega : (m : Int) ≤ 4)]
    refine iteF ⟨_, rfl, _, rfl, (by omega), (by omega), fun D hD => ?_⟩
    have ne : ∀ {b : Addr} {o : HO}, H b = some o → b ≠ D := fun e => ne_of_none e hD
    refine lc_it walk_range (fun i H' => Same H H' ∧ ∃ ds : List Addr, ds.length = i ∧ ds.Nodup ∧ H' D = some (.lst (ds.map V.ref)) ∧ ∀ d ∈ ds, H' d = some (.dK []) ∧ H d = none ∧ d ≠ D)
      ⟨fun b o e => by rw [upd_ne (ne e)]; exact e, [], rfl, List.nodup_nil, upd_same, fun d hd => by cases hd⟩ (fun _ _ _ _ => trivial) (fun i x H1 H' hi pv y => ?_) (fun H1 pv => ?_)
    · obtain ⟨rfl, rfl⟩ := y
      obtain ⟨s1, ds, e1, e2, e3, e4⟩ := pv
      refine ⟨rfl, fun d hd => ?_⟩
      have nD : D ≠ d := ne_of_none e3 hd
      have nm : ¬ d ∈ ds := fun z => by
        rw [(e4 d z).1] at hd
        cases hd
      refine ⟨ds.map V.ref, by rw [upd_ne nD]; exact e3, by rw [List.length_map]; have := sigLE; omega, fun b o e => ?_, ds ++ [d], by rw [List.length_append, e1]; rfl, nd_snoc e2 nm, by rw [upd_same, List.map_append]; rfl, fun c hc => ?_⟩
      · rw [upd_ne (ne e), upd_ne (ne_of_none (s1 _ _ e) hd)]
        exact s1 _ _ e
      · rcases List.mem_append.mp hc with hc | hc
        · obtain ⟨a1, a2, a3⟩ := e4 c hc
          exact ⟨by rw [upd_ne a3, upd_ne (ne_of_none a1 hd)]; exact a1, a2, a3⟩
        · obtain rfl : c = d := List.mem_singleton.mp hc
          refine ⟨by rw [upd_ne nD.symm]; exact upd_same, s1.free hd, nD.symm⟩
    · obtain ⟨s1, ds, e1, e2, e3, e4⟩ := pv
      have hp1 := s1 _ _ hp
      refine ⟨_, rfl, p, C, dx, [], rfl, hp1, TB.cl, TB.nR, (by show 0 < 1000; decide), ?_⟩
      refine ⟨_, rfl, p, C, dx, _, rfl, upd_same, TB.cl, TB.nD, (by show 1 < 1000; decide), ?_⟩
      refine ⟨_, rfl, p, C, dx, _, rfl, upd_same, TB.cl, TB.nL, (by show 2 < 1000; decide), ?_⟩
      have np : ∀ {b : Addr} {o : HO}, H1 b = some o → b ≠ p → (upd (upd (upd H1 p (.ins C dx (putF "rows_kept" (.ref D) []))) p (.ins C dx (putF "writes_done" (.int 0) (putF "rows_kept" (.ref D) [])))) p (.ins C dx (putF "writes_left" .non (putF "writes_done" (.int 0) (putF "rows_kept" (.ref D) []))))) b = some o := fun {b o} e z => by
        rw [upd_ne z, upd_ne z, upd_ne z]
        exact e
      have nDp : D ≠ p := ne_of e3 hp1 (by intro z; cases z)
      refine q _ (fun b o e z => np (s1 _ _ e) z) ⟨dx, D, 0, ds, ?_, np e3 nDp, by omega, h2, h4, e2, fun i d hd => ⟨[], np (e4 d (getE hd)).1 (fun z => ?_), Nat.zero_le _, fun n => trivial⟩⟩
      · rw [upd_same, bF_new]
      · have := (e4 d (getE hd)).1
        rw [z, hp1] at this
        cases this
theorem sc_B_many : FnScope ["self"] ["self"] (defScope sB_many) := ⟨rfl, rfl, rfl, by decide +kernel, rfl, by decide +kernel, by decide +kernel⟩
theorem ok_many (F : FnM K "many" "Boards.many" sB_many f fd) (T : Txt mg) (TB : TxB K mg C) : FnOk P w K mg base CX0 1 f fd ["self"] (sp_many C) := by
  refine ok0 F sc_B_many (fun vs H Q E h => ?_) (fun cdv A outer s H vs Q E hr h => ?_)
  · obtain ⟨p, m, B, cap, rfl, _⟩ := h
    rfl
  · obtain ⟨p, m, B, cap, rfl, ⟨dx, L, n0, ds, h1, h2, h3, h4, h5, h6, h7⟩, q⟩ := h
    refine ⟨_, (pss_one (ps_ret (pe_callB call_len_seq rfl T.n_len PySem.boot_len (pa_cons (pe_fld (pv 0) rfl) pa_nil)))), ?_⟩
    refine ⟨_, rfl, p, C, dx, _, _, rfl, h1, TB.cl, TB.nR, bF_rows _ _, L, _, rfl, .inl (SqL.of h2), ?_⟩
    rw [List.length_map, h3]
    exact q
theorem sc_B_twins : FnScope ["self", "number", "many"] ["self", "number"] (defScope sB_twins) := ⟨rfl, rfl, rfl, by decide +kernel, rfl, by decide +kernel, by decide +kernel⟩
theorem ok_twins (F : FnM K "twins" "Boards.twins" sB_twins f fd) (T : Txt mg) (TB : TxB K mg C) : FnOk P w K mg base CX0 1 f fd ["self", "number"] (sp_twins C) := by
  refine ok0 F sc_B_twins (fun vs H Q E h => ?_) (fun cdv A outer s H vs Q E hr h => ?_)
  · obtain ⟨p, n, m, B, cap, rfl, _⟩ := h
    rfl
  · obtain ⟨p, n, m, B, cap, rfl, ⟨dx, L, n0, ds, h1, h2, h3, h4, h5, h6, h7⟩, q⟩ := h
    refine ⟨_, (pss_cons (ps_set (i := 2) sc_B_twins.nd rfl (Or.inl rfl) (pe_callB call_len_seq rfl T.n_len PySem.boot_len (pa_cons (pe_fld (pv 0) rfl) pa_nil)))
    (pss_one (ps_ret (pe_tup (pa_cons (pe_op op_mod (pv 1) (pv 2)) (pa_cons (pe_op op_mod (pe_op op_add (pv 1) pe_int) (pv 2)) pa_nil)))))), ?_⟩
    refine ⟨_, rfl, p, C, dx, _, _, rfl, h1, TB.cl, TB.nR, bF_rows _ _, L, _, rfl, .inl (SqL.of h2), ?_⟩
    rw [List.length_map, h3]
    refine ⟨_, rfl, _, rfl, _, _, rfl, rfl, (by omega), _, rfl, _, _, rfl, rfl, _, rfl, _, _, rfl, rfl, (by omega), (by show 2 ≤ sizeLine; decide), fun t ht => ?_⟩
    exact q _ t (fun b o e => by rw [upd_ne (ne_of_none e ht)]; exact e) upd_same
theorem sc_B_cell : FnScope ["self", "board", "number"] ["self", "board", "number"] (defScope sB_cell) := ⟨rfl, rfl, rfl, by decide +kernel, rfl, by decide +kernel, by decide +kernel⟩
theorem ok_cell (F : FnM K "cell" "Boards.cell" sB_cell f fd) (T : Txt mg) (TB : TxB K mg C) : FnOk P w K mg base CX0 1 f fd ["self", "board", "number"] (sp_cell C) := by
  refine ok0 F sc_B_cell (fun vs H Q E h => ?_) (fun cdv A outer s H vs Q E hr h => ?_)
  · obtain ⟨p, i, n, m, B, cap, rfl, _⟩ := h
    rfl
  · obtain ⟨p, i, n, m, B, cap, rfl, ⟨dx, L, n0, ds, h1, h2, h3, h4, h5, h6, h7⟩, hi, qn, qy⟩ := h
    have hu := hu_of hr
    refine ⟨_, (pss_cons (ps_if (pt_cmp (pc_dnotin hu (pv 2) (pe_ix ix_list (pe_fld (pv 0) rfl) (pv 1) (fun _ _ => rfl))))
      (pss_one (ps_ret pe_non))
      pss_nil)
    (pss_one (ps_ret (pe_callTy call_list_of rfl T.n_list boot_tlist (pa_cons (pe_dget hu (pe_ix ix_list (pe_fld (pv 0) rfl) (pv 1) (fun _ _ => rfl)) (pv 2) (fun _ _ => rfl)) pa_nil))))), ?_⟩
    obtain ⟨d, hd⟩ : ∃ d, ds[i]? = some d := ⟨_, List.getElem?_eq_getElem (by omega)⟩
    obtain ⟨kvs, hk, hl, hc⟩ := h7 i d hd
    have hix : atI (ds.map V.ref) (i : Int) = some (.ref d) := atI_nat (by rw [List.getElem?_map, hd]; rfl)
    refine ⟨_, rfl, _, rfl, p, C, dx, _, _, rfl, h1, TB.cl, TB.nR, bF_rows _ _, _, rfl, L, _, _, _, rfl, rfl, SqL.of h2, hix, ?_⟩
    refine ⟨d, _, rfl, DGet.k (k := Sum.inl n) hk, _, rfl, ?_⟩
    have cn := hc n
    cases e : B i n with
    | none =>
      rw [e] at cn
      cases e2 : valV kvs (Sum.inl n) with
      | none => exact iteT (qn e)
      | some v =>
        rw [e2] at cn
        exact cn.elim
    | some ws =>
      rw [e] at cn
      cases e2 : valV kvs (Sum.inl n) with
      | none =>
        rw [e2] at cn
        exact cn.elim
      | some v =>
        rw [e2] at cn
        obtain ⟨r, rfl, hr2⟩ := cn
        refine iteF ⟨_, rfl, p, C, dx, _, _, rfl, h1, TB.cl, TB.nR, bF_rows _ _, _, rfl, L, _, _, _, rfl, rfl, SqL.of h2, hix, ?_⟩
        have g := DGet.k (k := Sum.inl n) hk
        rw [e2] at g
        refine ⟨_, rfl, d, .ref r, rfl, g, r, _, rfl, .inl (SqL.of hr2), fun l hl2 => ?_⟩
        exact qy ws e _ l (fun b o e => by rw [upd_ne (ne_of_none e hl2)]; exact e) hl2 upd_same
theorem sc_B_write : FnScope ["self", "board", "number", "row"] ["self", "board", "number", "row"] (defScope sB_write) := ⟨rfl, rfl, rfl, by decide +kernel, rfl, by decide +kernel, by decide +kernel⟩
theorem ok_write (F : FnM K "write" "Boards.write" sB_write f fd) (T : Txt mg) (TB : TxB K mg C) : FnOk P w K mg base CX0 1 f fd ["self", "board", "number", "row"] (sp_write C) := by
  refine ok0 F sc_B_write (fun vs H Q E h => ?_) (fun cdv A outer s H vs Q E hr h => ?_)
  · obtain ⟨p, i, n, r, ws, m, B, cap, rfl, _⟩ := h
    rfl
  · obtain ⟨p, i, n, r, ws, m, B, cap, rfl, ⟨dx, L, n0, ds, h1, h2, h3, h4, h5, h6, h7⟩, hi, hcap, hrow, q⟩ := h
    have hu := hu_of hr
    refine ⟨_, (pss_cons (ps_if (pt_cmpR op_notN (pe_fld (pv 0) rfl) pe_non (nomark _))
      pss_never
      pss_nil)
    (pss_cons (ps_fld (pv 0) (pe_op op_add (pe_fld (pv 0) rfl) pe_int) rfl)
    (pss_one (ps_dput hu (pe_ix ix_list (pe_fld (pv 0) rfl) (pv 1) (fun _ _ => rfl)) (pv 2) (pe_callTy call_list_of rfl T.n_list boot_tlist (pa_cons (pv 3) pa_nil)) rfl)))), ?_⟩
    obtain ⟨d, hd⟩ : ∃ d, ds[i]? = some d := ⟨_, List.getElem?_eq_getElem (by omega)⟩
    obtain ⟨kvs, hk, hl, hc⟩ := h7 i d hd
    have hix : atI (ds.map V.ref) (i : Int) = some (.ref d) := atI_nat (by rw [List.getElem?_map, hd]; rfl)
    refine ⟨_, rfl, p, C, dx, _, _, rfl, h1, TB.cl, TB.nL, bF_left _ _, rfl, _, rfl, iteF ?_⟩
    refine ⟨_, rfl, p, C, dx, _, _, rfl, h1, TB.cl, TB.nD, bF_done _ _, _, _, rfl, rfl, ?_⟩
    refine ⟨_, rfl, p, C, dx, _, rfl, h1, TB.cl, TB.nD, (by show 3 < 1000; decide), ?_⟩
    rw [bF_put]
    have np : ∀ {b : Addr} {o : HO}, H b = some o → b ≠ p → (upd H p (.ins C dx (bF L (n0 + 1)))) b = some o := fun e z => by
      rw [upd_ne z]
      exact e
    have hrp : r ≠ p := ne_of hrow h1 (by intro z; cases z)
    have hLp : L ≠ p := ne_of h2 h1 (by intro z; cases z)
    have hdp : d ≠ p := ne_of hk h1 (by intro z; cases z)
    refine ⟨_, rfl, r, _, rfl, .inl (SqL.of (np hrow hrp)), fun l hl2 => ?_⟩
    have nl : ∀ {b : Addr} {o : HO}, (upd H p (.ins C dx (bF L (n0 + 1)))) b = some o → (upd (upd H p (.ins C dx (bF L (n0 + 1)))) l (.lst (ws.map V.int))) b = some o := fun e => by
      rw [upd_ne (ne_of_none e hl2)]
      exact e
    refine ⟨_, rfl, p, C, dx, _, _, rfl, nl upd_same, TB.cl, TB.nR, bF_rows _ _, _, rfl, L, _, _, _, rfl, rfl, SqL.of (nl (np h2 hLp)), hix, ?_⟩
    refine ⟨_, rfl, d, _, rfl, DPut.k (k := Sum.inl n) (nl (np hk hdp)) (small1000 (by omega)), ?_⟩
    have hlp : l ≠ p := (ne_of_none upd_same hl2).symm
    have hld : l ≠ d := (ne_of_none (np hk hdp) hl2).symm
    have key := bd_put (H' := upd (upd (upd H p (.ins C dx (bF L (n0 + 1)))) l (.lst (ws.map V.int))) d (.dK (putK kvs (Sum.inl n) (.ref l)))) (n1 := n0 + 1) (c := some ws) (n := n) h1 h2 h3 h4 h5 h6 h7 hd hk
      (by rw [upd_ne hdp.symm]; exact nl upd_same) upd_same (Nat.le_trans (length_putK _ _ _) (by omega)) (fun k => ?_) (fun b o e z1 z2 => by rw [upd_ne z2]; exact nl (np e z1))
    · exact q _ key.1 key.2
    · rw [valV_put]
      by_cases hkn : k = n
      · rw [if_pos hkn, if_pos (by rw [hkn])]
        exact ⟨l, rfl, by rw [upd_ne hld]; exact upd_same⟩
      · rw [if_neg hkn, if_neg fun z => hkn (Sum.inl.inj z)]
        exact (hc k).mono fun r ws' e => by
          rw [upd_ne (ne_of e hk (by intro z; cases z))]
          exact nl (np e (ne_of e h1 (by intro z; cases z)))
theorem sc_B_spoil : FnScope ["self", "board", "number", "row"] ["self", "board", "number", "row"] (defScope sB_spoil) := ⟨rfl, rfl, rfl, by decide +kernel, rfl, by decide +kernel, by decide +kernel⟩
theorem ok_spoil (F : FnM K "spoil" "Boards.spoil" sB_spoil f fd) (T : Txt mg) (TB : TxB K mg C) : FnOk P w K mg base CX0 1 f fd ["self", "board", "number", "row"] (sp_spoil C) := by
  refine ok0 F sc_B_spoil (fun vs H Q E h => ?_) (fun cdv A outer s H vs Q E hr h => ?_)
  · obtain ⟨p, i, n, x, c, m, B, cap, rfl, _⟩ := h
    rfl
  · obtain ⟨p, i, n, x, c, m, B, cap, rfl, ⟨dx, L, n0, ds, h1, h2, h3, h4, h5, h6, h7⟩, hi, hcap, hrow, q⟩ := h
    have hu := hu_of hr
    refine ⟨_, (pss_cons (ps_expr (pe_dpop2 (pe_ix ix_list (pe_fld (pv 0) rfl) (pv 1) (fun _ _ => rfl)) (pv 2) pe_non ⟨rfl, rfl, rfl, rfl⟩))
    (pss_one (ps_if (pt_cmpR op_notN (pv 3) pe_non (nomark _))
      (pss_one (ps_dput hu (pe_ix ix_list (pe_fld (pv 0) rfl) (pv 1) (fun _ _ => rfl)) (pv 2) (pe_callTy call_list_of rfl T.n_list boot_tlist (pa_cons (pv 3) pa_nil)) rfl))
      pss_nil))), ?_⟩
    obtain ⟨d, hd⟩ : ∃ d, ds[i]? = some d := ⟨_, List.getElem?_eq_getElem (by omega)⟩
    obtain ⟨kvs, hk, hl, hc⟩ := h7 i d hd
    have hix : atI (ds.map V.ref) (i : Int) = some (.ref d) := atI_nat (by rw [List.getElem?_map, hd]; rfl)
    have hLp : L ≠ p := ne_of h2 h1 (by intro z; cases z)
    have hLd : L ≠ d := ne_of h2 hk (by intro z; cases z)
    have hdp : d ≠ p := ne_of hk h1 (by intro z; cases z)
    refine ⟨_, rfl, p, C, dx, _, _, rfl, h1, TB.cl, TB.nR, bF_rows _ _, _, rfl, L, _, _, _, rfl, rfl, SqL.of h2, hix, ?_⟩
    refine ⟨d, rfl, .inl ⟨kvs, .inl hk⟩, _, rfl, kvs, Sum.inl n, hk, rfl, fun v hv => ?_, fun hv => ?_⟩
    case' refine_1 =>
      have f1 : (upd H d (.dK (dropK kvs (Sum.inl n)))) d = some (.dK (dropK kvs (Sum.inl n))) := upd_same
      have f2 : ∀ b o, H b = some o → b ≠ d → (upd H d (.dK (dropK kvs (Sum.inl n)))) b = some o := fun b o e z => by
        rw [upd_ne z]
        exact e
      have f3 : (dropK kvs (Sum.inl n)).length ≤ cap := Nat.le_trans (dropK_le _ _) hl
      have f4 : ∀ j : L2.Key, valV (dropK kvs (Sum.inl n)) j = if j = Sum.inl n then none else valV kvs j := fun j => valV_drop _ _ _
      generalize upd H d (.dK (dropK kvs (Sum.inl n))) = H1 at f1 f2 ⊢
      generalize dropK kvs (Sum.inl n) = kv1 at f1 f3 f4
    case' refine_2 =>
      have f1 : H d = some (.dK kvs) := hk
      have f2 : ∀ b o, H b = some o → b ≠ d → H b = some o := fun b o e z => e
      have f3 : kvs.length ≤ cap := hl
      have f4 : ∀ j : L2.Key, valV kvs j = if j = Sum.inl n then none else valV kvs j := fun j => by
        by_cases z : j = Sum.inl n
        · rw [if_pos z, z]
          exact hv
        · rw [if_neg z]
      obtain ⟨kv1, ek⟩ : ∃ kv1, kv1 = kvs := ⟨_, rfl⟩
      obtain ⟨H1, eH⟩ : ∃ H1, H1 = H := ⟨_, rfl⟩
      have f1 : H1 d = some (.dK kv1) := by rw [ek, eH]; exact hk
      have f2 : ∀ b o, H b = some o → b ≠ d → H1 b = some o := fun b o e z => by rw [eH]; exact e
      have f3 : kv1.length ≤ cap := by rw [ek]; exact hl
      have f4 : ∀ j : L2.Key, valV kv1 j = if j = Sum.inl n then none else valV kvs j := fun j => by rw [ek]; exact f4 j
      rw [← eH]
    all_goals
      rcases hrow with ⟨rfl, rfl⟩ | ⟨r, ws, rfl, rfl, hr2⟩
      · refine ⟨_, rfl, rfl, _, rfl, iteF ?_⟩
        have key := bd_put (H' := H1) (n1 := n0) (c := none) (n := n) h1 h2 h3 h4 h5 h6 h7 hd hk (f2 _ _ h1 hdp.symm) f1 (Nat.le_trans f3 (Nat.le_succ _)) (fun k => ?_) (fun b o e z1 z2 => f2 _ _ e z2)
        · exact q _ key.1 key.2
        · rw [f4]
          by_cases hkn : k = n
          · rw [if_pos hkn, if_pos (by rw [hkn])]
            trivial
          · rw [if_neg hkn, if_neg fun z => hkn (Sum.inl.inj z)]
            exact (hc k).mono fun r ws' e => f2 _ _ e (ne_of e hk (by intro z; cases z))
      · have hrd : r ≠ d := ne_of hr2 hk (by intro z; cases z)
        refine ⟨_, rfl, rfl, _, rfl, iteT ?_⟩
        refine ⟨_, rfl, r, _, rfl, .inl (SqL.of (f2 _ _ hr2 hrd)), fun l hl2 => ?_⟩
        have nl : ∀ {b : Addr} {o : HO}, H1 b = some o → (upd H1 l (.lst (ws.map V.int))) b = some o := fun e => by
          rw [upd_ne (ne_of_none e hl2)]
          exact e
        refine ⟨_, rfl, p, C, dx, _, _, rfl, nl (f2 _ _ h1 hdp.symm), TB.cl, TB.nR, bF_rows _ _, _, rfl, L, _, _, _, rfl, rfl, SqL.of (nl (f2 _ _ h2 hLd)), hix, ?_⟩
        refine ⟨_, rfl, d, _, rfl, DPut.k (k := Sum.inl n) (nl f1) (small1000 (by omega)), ?_⟩
        have hld : l ≠ d := (ne_of_none f1 hl2).symm
        have key := bd_put (H' := upd (upd H1 l (.lst (ws.map V.int))) d (.dK (putK kv1 (Sum.inl n) (.ref l)))) (n1 := n0) (c := some ws) (n := n) h1 h2 h3 h4 h5 h6 h7 hd hk
          (by rw [upd_ne hdp.symm]; exact nl (f2 _ _ h1 hdp.symm)) upd_same (Nat.le_trans (length_putK _ _ _) (by omega)) (fun k => ?_) (fun b o e z1 z2 => by rw [upd_ne z2]; exact nl (f2 _ _ e z2))
        · exact q _ key.1 key.2
        · rw [valV_put]
          by_cases hkn : k = n
          · rw [if_pos hkn, if_pos (by rw [hkn])]
            exact ⟨l, rfl, by rw [upd_ne hld]; exact upd_same⟩
          · rw [if_neg hkn, if_neg fun z => hkn (Sum.inl.inj z), f4, if_neg fun z => hkn (Sum.inl.inj z)]
            exact (hc k).mono fun r ws' e => by
              have z := ne_of e hk (by intro z; cases z)
              rw [upd_ne z]
              exact nl (f2 _ _ e z)
theorem sc_B_lose : FnScope ["self", "board"] ["self", "board"] (defScope sB_lose) := ⟨rfl, rfl, rfl, by decide +kernel, rfl, by decide +kernel, by decide +kernel⟩
theorem ok_lose (F : FnM K "lose" "Boards.lose" sB_lose f fd) (T : Txt mg) (TB : TxB K mg C) : FnOk P w K mg base CX0 1 f fd ["self", "board"] (sp_lose C) := by
  refine ok0 F sc_B_lose (fun vs H Q E h => ?_) (fun cdv A outer s H vs Q E hr h => ?_)
  · obtain ⟨p, i, m, B, cap, rfl, _⟩ := h
    rfl
  · obtain ⟨p, i, m, B, cap, rfl, ⟨dx, L, n0, ds, h1, h2, h3, h4, h5, h6, h7⟩, hi, q⟩ := h
    refine ⟨_, (pss_one (ps_asg pe_dnewK (pg_sub (pe_fld (pv 0) rfl) (pv 1) set_list))), ?_⟩
    refine fun d hd => ?_
    have nd : ∀ {b : Addr} {o : HO}, H b = some o → (upd H d (.dK [])) b = some o := fun e => by
      rw [upd_ne (ne_of_none e hd)]
      exact e
    have hix : ixN (ds.map V.ref).length (i : Int) = some i := by
      unfold ixN
      rw [List.length_map, if_pos (by omega), if_pos (by omega), Int.toNat_natCast]
    refine ⟨_, rfl, p, C, dx, _, _, rfl, nd h1, TB.cl, TB.nR, bF_rows _ _, _, rfl, L, _, _, i, rfl, rfl, nd h2, hix, ?_⟩
    have hLp : L ≠ p := ne_of h2 h1 (by intro z; cases z)
    have hLd : L ≠ d := ne_of_none h2 hd
    have nL : ∀ {b : Addr} {o : HO}, H b = some o → b ≠ L → (upd (upd H d (.dK [])) L (.lst ((ds.map V.ref).set i (.ref d)))) b = some o := fun e z => by
      rw [upd_ne z]
      exact nd e
    have dn : ¬ d ∈ ds := fun z => by
      obtain ⟨j, hj⟩ := List.mem_iff_getElem?.mp z
      obtain ⟨kvs, e, _⟩ := h7 j d hj
      rw [hd] at e
      cases e
    have hw : ∀ (r : Addr) (ws : List Int), H r = some (.lst (ws.map V.int)) → r ≠ L := fun r ws e => ne_of e h2 (int_not_refs (by omega))
    refine q _ ⟨dx, L, n0, ds.set i d, nL h1 hLp.symm, ?_, by rw [List.length_set]; exact h3, h4, h5, ?_, fun j e he => ?_⟩ (fun b o e so => ?_)
    · rw [upd_same, List.map_set]
    · exact nodup_set i h6 dn
    · rw [List.getElem?_set] at he
      by_cases c1 : i = j
      · rw [if_pos c1, if_pos (by omega)] at he
        obtain rfl : d = e := Option.some.inj he
        refine ⟨[], by rw [upd_ne hLd.symm]; exact upd_same, Nat.zero_le _, fun n => ?_⟩
        unfold blose
        rw [if_pos c1.symm]
        trivial
      · rw [if_neg c1] at he
        obtain ⟨kv, e1, l1, cc⟩ := h7 j e he
        refine ⟨kv, nL e1 (ne_of e1 h2 (by intro z; cases z)), l1, fun n => ?_⟩
        unfold blose
        rw [if_neg fun z => c1 z.symm]
        exact (cc n).mono fun r ws e => nL e (hw r ws e)
    · refine nL e fun z => ?_
      rw [z, h2] at e
      rw [← Option.some.inj e] at so
      exact not_solid_refs (by omega) (fun i d hd => by
        obtain ⟨kvs, e, _⟩ := h7 i d hd
        exact ⟨kvs, e⟩) so
end
end Sk

set_option Elab.async false
set_option linter.all false
set_option maxRecDepth 100000
set_option maxHeartbeats 4000000
namespace Sk
open PySem PySem.Spec PyProof.Rows L2
theorem BdAt.ins {C p : Addr} {m : Nat} {H : Hp} {B : Bds} {cap : Nat} (h : BdAt C p m H B cap) : ∃ (dx : Addr) (fs : List (Str × V)), H p = some (.ins C dx fs) ∧ ∀ x : Str, ¬ x = "rows_kept" → ¬ x = "writes_done" → ¬ x = "writes_left" → fs.lookup x = none := by
  obtain ⟨dx, L, n, ds, h1, _⟩ := h
  exact ⟨dx, _, h1, fun x a b c => bF_no _ _ a b c⟩
theorem BdAt.two {C p : Addr} {m : Nat} {H : Hp} {B : Bds} {cap : Nat} (h : BdAt C p m H B cap) : 2 ≤ m ∧ m ≤ 4 := by
  obtain ⟨dx, L, n, ds, _, _, _, a, b, _⟩ := h
  exact ⟨a, b⟩
theorem cut2 (x y z : V) : cutV [x, y, z] none (some 2) = [x, y] := rfl
theorem nocut2 (x y z : V) : ¬ (HT.sIx [x, y, z].length 0 none = 0 ∧ HT.sIx [x, y, z].length [x, y, z].length (some 2) = [x, y, z].length) := fun h => absurd h.2 (by show ¬ (HT.sIx 3 3 (some 2) = 3); decide)
theorem sh_pair (x y : Int) : SeqAt.shaped (.tuple [.int x, .int y]) = true := by
  unfold SeqAt.shaped
  simp [PyData.canLay0, PyData.canLayAll0, PyData.depth, PyData.depthAll]
theorem eqv_pair (a b c d : Int) : PyData.eqv (.tuple [.int a, .int b]) (.tuple [.int c, .int d]) = (a == c && b == d) := by
  simp [PyData.eqv, PyData.eqvAll]
theorem dp_pair {K : PySem.W.Frag} {H : Hp} {t : Addr} {x y : Int} (h : H t = some (.tup [.int x, .int y])) : Dp K H (.ref t) (.tuple [.int x, .int y]) := .tup (SqT.of h) (.cons (.int x) (.cons (.int y) .nil))
theorem Rp.cell {H : Hp} {v : V} {n b : Int} {k : Blk} (h : Rp H (cellT n b k) v) : ∃ a u, v = .ref a ∧ H a = some (.tup [.int n, .int b, u]) ∧ Rp H k.th u := by
  obtain ⟨a, xs, e, ha, v1, y1, e1, h1, v2, y2, e2, h2, v3, y3, e3, h3, h4⟩ := h
  obtain rfl : v1 = _ := h1
  obtain rfl : v2 = _ := h2
  obtain rfl : y3 = [] := h4
  subst e3 e2 e1
  exact ⟨a, v3, e, ha, h3⟩
theorem Rp.blk {H : Hp} {v : V} {k : Blk} (h : Rp H k.th v) : ∃ a, v = .ref a := by
  cases k with
  | piece z =>
    obtain ⟨a, e, _⟩ := h.piece
    exact ⟨a, e⟩
  | row lv gs =>
    obtain ⟨a, u, e, _⟩ := h.row
    exact ⟨a, e⟩
  | folder es =>
    obtain ⟨a, u, e, _⟩ := h.folder
    exact ⟨a, e⟩
def layB (B : Bds) (n : Int) (m : Nat) (ws : List Int) : Nat → Bds
  | 0 => B
  | 1 => bset B (tw0 n m) n (some ws)
  | _ => blay B n m ws
section
variable {P : Program} {w : World} {K : PySem.W.Frag} {mg : Str → Option Value} {base : Heap} {f : Addr} {fd : FuncData} {C CL : Addr}
theorem sc_lay : FnScope ["boards", "number", "birth", "block", "row", "board"] ["boards", "number", "birth", "block"] (defScope s_lay) := ⟨rfl, rfl, rfl, by decide +kernel, rfl, by decide +kernel, by decide +kernel⟩
theorem ok_lay (F : FnP K "lay" s_lay f fd) (T : Txt mg) (TB : TxB K mg C) (g_words_of : Has P w K mg base CX0 12 "words_of" ["thing"] (sp_words_of 8)) (g_sealed : Has P w K mg base CX0 12 "sealed" ["words"] sp_sealed)
    (g_twins : HasM P w K mg base CX0 12 C "twins" ["self", "number"] (sp_twins C)) (g_write : HasM P w K mg base CX0 12 C "write" ["self", "board", "number", "row"] (sp_write C)) : FnOk P w K mg base CX0 13 f fd ["boards", "number", "birth", "block"] (sp_lay C) := by
  refine ok0 F sc_lay (fun vs H Q E h => ?_) (fun cdv A outer s H vs Q E hr h => ?_)
  · obtain ⟨p, n, b, v, k, m, B, cap, rfl, _⟩ := h
    rfl
  · obtain ⟨p, n, b, v, k, m, B, cap, rfl, hB, hcap, hn, hb, hk, hv, q⟩ := h
    refine ⟨_, (pss_cons (ps_set (i := 4) sc_lay.nd rfl (Or.inl rfl) (pe_has g_sealed hr pass0 (pa_cons (pe_has g_words_of hr pass0 (pa_cons (pe_tup (pa_cons (pv 1) (pa_cons (pv 2) (pa_cons (pv 3) pa_nil)))) pa_nil)) pa_nil)))
    (pss_one (ps_for PassesOwn.never rfl (pi_tup (pe_hasM (pv 0) TB.cl g_twins hr pass0 (pa_cons (pv 1) pa_nil))) (pg_name (i := 5) sc_lay.nd rfl (Or.inl rfl))
      (pss_one (ps_expr (pe_hasM (pv 0) TB.cl g_write hr pass0 (pa_cons (pv 5) (pa_cons (pv 1) (pa_cons (pv 4) pa_nil))))))))), ?_⟩
    obtain ⟨hm2, hm4⟩ := hB.two
    refine ⟨_, rfl, _, rfl, _, rfl, (by show 3 ≤ sizeLine; decide), fun t ht => ?_⟩
    have s1 : Same H (upd H t (.tup [.int n, .int b, v])) := fun c o e => by
      rw [upd_ne (ne_of_none e ht)]
      exact e
    have hl := cellT_len (n := n) (b := b) hk
    refine ⟨cellT n b k, _, rfl, ⟨t, [.int n, .int b, v], rfl, upd_same, .int n, _, rfl, rfl, .int b, _, rfl, rfl, v, [], rfl, Rp.mono (Tups.of s1) _ _ hv, rfl⟩, cellT_ok hn hb hk, by omega, fun H1 p1 s2 n1 e1 => ?_⟩
    refine ⟨p1, _, rfl, e1, by omega, fun H2 r s3 n2 e2 => ?_⟩
    have s4 : Same H H2 := (s1.trans s2).trans s3
    have hB2 := hB.mono s4
    obtain ⟨dx, fs, hins, hno⟩ := hB2.ins
    refine ⟨_, rfl, p, dx, fs, rfl, hins, hno _ (by decide +kernel) (by decide +kernel) (by decide +kernel), _, rfl, p, n, m, B, cap, rfl, hB2, fun H3 tw s5 e3 => ?_⟩
    rw [tw0_eq hm2, tw1_eq hm2] at e3
    have hB3 := hB2.mono s5
    have er := s5 _ _ e2
    refine ⟨tw, rfl, ⟨_, SqT.of e3⟩, for_tup (K := K) (a := tw) (xs := [.int (tw0 n m : Nat), .int (tw1 n m : Nat)])
      (fun i σ H' => ∃ u, σ = [some (.ref p), some (.int n), some (.int b), some v, some (.ref r), u] ∧ BdAt C p m H' (layB B n m (cellW n b k) i) (cap + i) ∧ SKeep H3 H')
      ⟨none, rfl, hB3, SKeep.refl _⟩ (fun i σ H' _ ⟨_, _, _, s6⟩ => SqT.of (s6.tups _ _ e3)) ?_ ?_⟩
    · rintro i x σ H' hi ⟨u, rfl, hBi, s6⟩
      obtain ⟨dx, fs, hins, hno⟩ := hBi.ins
      have hrow : H' r = some (.lst ((cellW n b k).map V.int)) := s6.ints er
      match i, hi with
      | 0, hi =>
        obtain rfl : V.int (tw0 n m : Nat) = x := Option.some.inj hi
        refine ⟨_, rfl, p, dx, fs, rfl, hins, hno _ (by decide +kernel) (by decide +kernel) (by decide +kernel), _, rfl, _, rfl, _, rfl, p, tw0 n m, n, r, cellW n b k, m, _, _, rfl, hBi, tw0_lt hm2, by omega, hrow, fun H4 hB4 s7 => ?_⟩
        exact ⟨_, rfl, hB4, s6.trans s7⟩
      | 1, hi =>
        obtain rfl : V.int (tw1 n m : Nat) = x := Option.some.inj hi
        refine ⟨_, rfl, p, dx, fs, rfl, hins, hno _ (by decide +kernel) (by decide +kernel) (by decide +kernel), _, rfl, _, rfl, _, rfl, p, tw1 n m, n, r, cellW n b k, m, _, _, rfl, hBi, tw1_lt hm2, by omega, hrow, fun H4 hB4 s7 => ?_⟩
        exact ⟨_, rfl, hB4, s6.trans s7⟩
      | i + 2, hi => cases hi
    · rintro σ H' ⟨u, rfl, hBi, s6⟩
      exact q H' hBi ((SKeep.of (s4.trans s5)).trans s6)
theorem sc_thing_in : FnScope ["row", "words", "thing"] ["row"] (defScope s_thing_in) := ⟨rfl, rfl, rfl, by decide +kernel, rfl, by decide +kernel, by decide +kernel⟩
theorem ok_thing_in (F : FnP K "thing_in" s_thing_in f fd) (T : Txt mg) (g_unsealed : Has P w K mg base CX0 12 "unsealed" ["row"] sp_unsealed) (g_thing_of : Has P w K mg base CX0 12 "thing_of" ["words"] sp_thing_of) : FnOk P w K mg base CX0 13 f fd ["row"] sp_thing_in := by
  refine ok0 F sc_thing_in (fun vs H Q E h => ?_) (fun cdv A outer s H vs Q E hr h => ?_)
  · obtain ⟨x, rfl, _⟩ := h
    rfl
  · obtain ⟨x, rfl, h⟩ := h
    refine ⟨_, (pss_cons (ps_if (pt_cmpR op_isN (pv 0) pe_non (nomark _))
      (pss_one (ps_ret pe_non))
      pss_nil)
    (pss_cons (ps_set (i := 1) sc_thing_in.nd rfl (Or.inl rfl) (pe_has g_unsealed hr pass0 (pa_cons (pv 0) pa_nil)))
    (pss_cons (ps_if (pt_cmpR op_isN (pv 1) pe_non (nomark _))
      (pss_one (ps_ret pe_non))
      pss_nil)
    (pss_cons (ps_try_thru0 (pss_one (ps_set (i := 2) sc_thing_in.nd rfl (Or.inl rfl) (pe_has g_thing_of hr pass0 (pa_cons (pv 1) pa_nil)))))
    (pss_one (ps_ret (pv 2))))))), ?_⟩
    rcases h with ⟨rfl, q⟩ | ⟨L, r, rfl, hL, hl, hs, q⟩ | ⟨L, d, rfl, hL, hl, hk, q⟩
    · exact ⟨_, rfl, rfl, _, rfl, iteT (q H (Same.refl H))⟩
    · refine ⟨_, rfl, rfl, _, rfl, iteF ?_⟩
      refine ⟨_, rfl, L, r, rfl, hL, hl, fun _ H1 s1 => ?_, fun z => ?_⟩
      · exact ⟨_, rfl, rfl, _, rfl, iteT (q H1 s1)⟩
      · rw [hs] at z
        cases z
    · have hsd := sound_seal (words_rng 8 d hk)
      refine ⟨_, rfl, rfl, _, rfl, iteF ?_⟩
      refine ⟨_, rfl, L, sealW (words d), rfl, hL, by rw [seal_len]; omega, fun z => ?_, fun _ H1 p s1 n1 e1 => ?_⟩
      · rw [hsd] at z
        cases z
      · rw [seal_drop] at e1
        refine ⟨_, rfl, rfl, _, rfl, iteF ?_⟩
        refine ⟨_, rfl, p, d, rfl, e1, hl, hk, fun H2 v s2 rv => ?_⟩
        exact ⟨_, rfl, q H2 v (s1.trans s2) rv⟩
theorem sc_copy_on : FnScope ["boards", "board", "tag", "thing"] ["boards", "board", "tag"] (defScope s_copy_on) := ⟨rfl, rfl, rfl, by decide +kernel, rfl, by decide +kernel, by decide +kernel⟩
theorem ok_copy_on (F : FnP K "copy_on" s_copy_on f fd) (T : Txt mg) (TB : TxB K mg C) (g_thing_in : Has P w K mg base CX0 13 "thing_in" ["row"] sp_thing_in) (g_is_block : Has P w K mg base CX0 13 "is_block" ["thing"] sp_is_block)
    (g_sum_of : Has P w K mg base CX0 13 "sum_of" ["block"] sp_sum_of) (g_cell : HasM P w K mg base CX0 13 C "cell" ["self", "board", "number"] (sp_cell C)) : FnOk P w K mg base CX0 14 f fd ["boards", "board", "tag"] (sp_copy_on C) := by
  refine ok0 F sc_copy_on (fun vs H Q E h => ?_) (fun cdv A outer s H vs Q E hr h => ?_)
  · obtain ⟨p, t, i, n, b, su, m, B, cap, rfl, _⟩ := h
    rfl
  · obtain ⟨p, t, i, n, b, su, m, B, cap, rfl, hB, hi, ht, hn, hb, h⟩ := h
    refine ⟨_, (pss_cons (ps_set (i := 3) sc_copy_on.nd rfl (Or.inl rfl) (pe_has g_thing_in hr pass0 (pa_cons (pe_hasM (pv 0) TB.cl g_cell hr pass0 (pa_cons (pv 1) (pa_cons (pe_ix ix_tup (pv 2) pe_int (fun _ _ => rfl)) pa_nil))) pa_nil)))
    (pss_cons (ps_if (PW.pt (pw_or (pt_not (pt_val (pe_isi T.n_isinstance T.n_tuple boot_ttup (pv 3)))) (pw_or (pt_cmpR op_ne (pe_callB call_len_seq rfl T.n_len PySem.boot_len (pa_cons (pv 3) pa_nil)) pe_int (nomark _)) (pw_or1 (pt_cmpR (op_neD hr.units) (pe_slice sl_tup (pv 3) po_none (po_some pe_int)) (pe_slice sl_tup (pv 2) po_none (po_some pe_int)) (nomark _))))))
      (pss_one (ps_ret pe_non))
      pss_nil)
    (pss_cons (ps_if (PW.pt (pw_or (pt_not (pt_val (pe_has g_is_block hr pass0 (pa_cons (pe_ix ix_tup (pv 3) pe_int (fun _ _ => rfl)) pa_nil)))) (pw_or1 (pt_cmpR op_ne (pe_has g_sum_of hr pass0 (pa_cons (pe_ix ix_tup (pv 3) pe_int (fun _ _ => rfl)) pa_nil)) (pe_ix ix_tup (pv 2) pe_int (fun _ _ => rfl)) (nomark _)))))
      (pss_one (ps_ret pe_non))
      pss_nil)
    (pss_one (ps_ret (pe_ix ix_tup (pv 3) pe_int (fun _ _ => rfl))))))), ?_⟩
    obtain ⟨dx, fs, hins, hno⟩ := hB.ins
    refine ⟨_, rfl, p, dx, fs, rfl, hins, hno _ (by decide +kernel) (by decide +kernel) (by decide +kernel), _, rfl, _, rfl, t, _, _, .int n, rfl, rfl, SqT.of ht, rfl, p, i, n, m, B, cap, rfl, hB, hi, fun ec => ?_, fun ws ec H1 q1 s1 n1 e1 => ?_⟩
    · -- the cell is empty
      refine ⟨_, rfl, .inl ⟨rfl, fun H1 s1 => ?_⟩⟩
      refine ⟨_, rfl, _, _, _, rfl, .base .non, kb_non_tup, _, rfl, iteT (iteT ?_)⟩
      rcases h with ⟨_, q⟩ | ⟨k, e, _⟩
      · exact q H1 s1
      · rw [ec] at e
        cases e
    · have ht1 := s1 _ _ ht
      rcases h with ⟨hbad, q⟩ | ⟨k, e, hk, hsu, q⟩
      · rcases hbad with hbad | ⟨r, e, hl, hs⟩ | ⟨n', b', k', e, hne, hn', hb', hk'⟩
        · rw [hbad] at ec
          cases ec
        · rw [e] at ec
          obtain rfl : r = ws := Option.some.inj ec
          refine ⟨_, rfl, .inr (.inl ⟨q1, r, rfl, e1, hl, hs, fun H2 s2 => ?_⟩)⟩
          refine ⟨_, rfl, _, _, _, rfl, .base .non, kb_non_tup, _, rfl, iteT (iteT ?_)⟩
          exact q H2 (s1.trans s2)
        · rw [e] at ec
          obtain rfl : cellW n' b' k' = ws := Option.some.inj ec
          have hl := cellT_len (n := n') (b := b') hk'
          refine ⟨_, rfl, .inr (.inr ⟨q1, cellT n' b' k', rfl, e1, by omega, cellT_ok hn' hb' hk', fun H2 v s2 rv => ?_⟩)⟩
          obtain ⟨a, u, rfl, ha, hu⟩ := rv.cell
          have ht2 := s2 _ _ ht1
          refine ⟨_, rfl, _, _, _, rfl, .base (.tup ha), kb_tup_tup, _, rfl, iteF ?_⟩
          refine ⟨_, rfl, a, _, rfl, .inr (SqT.of ha), rfl, _, rfl, iteF ?_⟩
          refine ⟨_, rfl, _, rfl, a, _, rfl, SqT.of ha, nocut2 _ _ _, fun c hc => ?_⟩
          have s3 : Same H2 (upd H2 c (.tup [.int n', .int b'])) := fun x o e => by
            rw [upd_ne (ne_of_none e hc)]
            exact e
          rw [cut2]
          refine ⟨_, rfl, _, rfl, t, _, rfl, SqT.of (s3 _ _ ht2), nocut2 _ _ _, fun d hd => ?_⟩
          have s4 : Same (upd H2 c (.tup [.int n', .int b'])) (upd (upd H2 c (.tup [.int n', .int b'])) d (.tup [.int n, .int b])) := fun x o e => by
            rw [upd_ne (ne_of_none e hd)]
            exact e
          rw [cut2]
          refine ⟨_, _, dp_pair (s4 _ _ upd_same), dp_pair upd_same, sh_pair _ _, sh_pair _ _, _, rfl, ?_⟩
          rw [eqv_pair, show (n' == n) = false from beq_false_of_ne hne]
          exact iteT (q _ (((s1.trans s2).trans s3).trans s4))
      · rw [e] at ec
        obtain rfl : cellW n b k = ws := Option.some.inj ec
        have hl := cellT_len (n := n) (b := b) hk
        refine ⟨_, rfl, .inr (.inr ⟨q1, cellT n b k, rfl, e1, by omega, cellT_ok hn hb hk, fun H2 v s2 rv => ?_⟩)⟩
        obtain ⟨a, u, rfl, ha, hu⟩ := rv.cell
        have ht2 := s2 _ _ ht1
        refine ⟨_, rfl, _, _, _, rfl, .base (.tup ha), kb_tup_tup, _, rfl, iteF ?_⟩
        refine ⟨_, rfl, a, _, rfl, .inr (SqT.of ha), rfl, _, rfl, iteF ?_⟩
        refine ⟨_, rfl, _, rfl, a, _, rfl, SqT.of ha, nocut2 _ _ _, fun c hc => ?_⟩
        have s3 : Same H2 (upd H2 c (.tup [.int n, .int b])) := fun x o e => by
          rw [upd_ne (ne_of_none e hc)]
          exact e
        rw [cut2]
        refine ⟨_, rfl, _, rfl, t, _, rfl, SqT.of (s3 _ _ ht2), nocut2 _ _ _, fun d hd => ?_⟩
        have s4 : Same (upd H2 c (.tup [.int n, .int b])) (upd (upd H2 c (.tup [.int n, .int b])) d (.tup [.int n, .int b])) := fun x o e => by
          rw [upd_ne (ne_of_none e hd)]
          exact e
        rw [cut2]
        refine ⟨_, _, dp_pair (s4 _ _ upd_same), dp_pair upd_same, sh_pair _ _, sh_pair _ _, _, rfl, ?_⟩
        rw [eqv_pair, show (n == n && b == b) = true by simp]
        refine iteF ?_
        have s5 := s3.trans s4
        refine ⟨_, rfl, a, _, _, u, rfl, rfl, SqT.of (s5 _ _ ha), rfl, k, u, rfl, Rp.mono (Tups.of s5) _ _ hu, hk, fun H3 s6 => ?_⟩
        refine ⟨_, rfl, iteF ?_⟩
        refine ⟨_, rfl, a, _, _, u, rfl, rfl, SqT.of (s6 _ _ (s5 _ _ ha)), rfl, k, u, rfl, Rp.mono (Tups.of (s5.trans s6)) _ _ hu, hk, fun H4 s7 => ?_⟩
        have s8 : Same H2 H4 := (s5.trans s6).trans s7
        refine ⟨_, rfl, t, _, _, .int su, rfl, rfl, SqT.of (s8 _ _ ht2), rfl, rfl, _, rfl, ?_⟩
        rw [show (!decide (V.int k.sum = V.int su)) = false by rw [hsu, decide_eq_true rfl]; rfl]
        refine iteF ?_
        exact ⟨_, rfl, a, _, _, u, rfl, rfl, SqT.of (s8 _ _ ha), rfl, q H4 u ((s1.trans s2).trans s8) (Rp.mono (Tups.of s8) _ _ hu)⟩
theorem sc_right_copies : FnScope ["boards", "tag", "board"] ["boards", "tag"] (defScope s_right_copies) := ⟨rfl, rfl, rfl, by decide +kernel, rfl, by decide +kernel, by decide +kernel⟩
theorem ok_right_copies (F : FnP K "right_copies" s_right_copies f fd) (T : Txt mg) (TB : TxB K mg C) (g_copy_on : Has P w K mg base CX0 14 "copy_on" ["boards", "board", "tag"] (sp_copy_on C)) (g_twins : HasM P w K mg base CX0 14 C "twins" ["self", "number"] (sp_twins C)) :
    FnOk P w K mg base CX0 15 f fd ["boards", "tag"] (sp_right_copies C) := by
  refine ok0 F sc_right_copies (fun vs H Q E h => ?_) (fun cdv A outer s H vs Q E hr h => ?_)
  · obtain ⟨p, t, n, b, k, g, m, B, cap, rfl, _⟩ := h
    rfl
  · obtain ⟨p, t, n, b, k, g, m, B, cap, rfl, hB, ht, hn, hb, hk, hc, q⟩ := h
    refine ⟨_, (pss_one (ps_ret (pe_callB cr_sorted rfl T.n_sorted boot_sorted (pa_cons (pe_lc (own := [("board", 2)]) (g := gName 2) rfl sc_right_copies.nd (pi_tup (pe_hasM (pv 0) TB.cl g_twins hr pass0 (pa_cons (pe_ix ix_tup (pv 1) pe_int (fun _ _ => rfl)) pa_nil))) (blkOk_by (own := [("board", 2)]) (N := ["boards", "tag", "board"]) (sc := defScope s_right_copies) (by decide +kernel)) (fun _ _ _ _ _ => (pg_name (i := 2) sc_right_copies.nd rfl (Or.inl rfl))) (fun _ _ _ _ _ => pts_one (pt_cmpR op_notN (pe_has g_copy_on hr pass0 (pa_cons (pv 0) (pa_cons (pv 2) (pa_cons (pv 1) pa_nil)))) pe_non (nomark _))) (fun _ _ _ _ _ => (pv 2))) pa_nil)))), ?_⟩
    obtain ⟨hm2, hm4⟩ := hB.two
    obtain ⟨dx, fs, hins, hno⟩ := hB.ins
    refine ⟨_, rfl, p, dx, fs, rfl, hins, hno _ (by decide +kernel) (by decide +kernel) (by decide +kernel), _, rfl, t, _, _, .int n, rfl, rfl, SqT.of ht, rfl, p, n, m, B, cap, rfl, hB, fun H1 tw s1 e1 => ?_⟩
    rw [tw0_eq hm2, tw1_eq hm2] at e1
    refine ⟨tw, rfl, ⟨_, SqT.of e1⟩, fun D hD => ?_⟩
    have ne : ∀ {b : Addr} {o : HO}, H1 b = some o → b ≠ D := fun e => ne_of_none e hD
    refine lc_it (walk_tup (xs := [.int (tw0 n m : Nat), .int (tw1 n m : Nat)])) (fun i H' => Same H1 H' ∧ H' D = some (.lst (((([tw0 n m, tw1 n m].take i).filter g).map fun j : Nat => (j : Int)).map V.int)))
      ⟨fun b o e => by rw [upd_ne (ne e)]; exact e, upd_same⟩ (fun i H' _ pv => SqT.of (pv.1 _ _ e1)) (fun i x H2 H' hi pv y => ?_) (fun H2 pv => ?_)
    · obtain ⟨rfl, hx⟩ := y
      obtain ⟨s2, eD⟩ := pv
      have sH := s1.trans s2
      obtain ⟨j, hj, rfl, hjt⟩ : ∃ j : Nat, [tw0 n m, tw1 n m][i]? = some j ∧ x = V.int j ∧ (j = tw0 n m ∨ j = tw1 n m) := by
        match i, hx with
        | 0, hx => exact ⟨_, rfl, (Option.some.inj hx).symm, .inl rfl⟩
        | 1, hx => exact ⟨_, rfl, (Option.some.inj hx).symm, .inr rfl⟩
        | i + 2, hx => cases hx
      have hjm : j < m := by
        rcases hjt with rfl | rfl
        · exact tw0_lt hm2
        · exact tw1_lt hm2
      have hf : ([tw0 n m, tw1 n m].take (i + 1)).filter g = ([tw0 n m, tw1 n m].take i).filter g ++ (if g j = true then [j] else []) := by
        rw [take_snoc hj, List.filter_append]
        congr 1
        rw [List.filter_cons]
        rfl
      obtain ⟨c1, c2⟩ := hc j hjt
      refine ⟨rfl, _, rfl, _, rfl, _, rfl, p, t, j, n, b, k.sum, m, B, cap, rfl, hB.mono sH, hjm, sH _ _ ht, hn, hb, ?_⟩
      cases gj : g j with
      | true =>
        refine .inr ⟨k, c1 gj, hk, rfl, fun H3 v s3 rv => ?_⟩
        obtain ⟨a, rfl⟩ := rv.blk
        refine ⟨rfl, _, rfl, iteT ⟨_, rfl, _, s3 _ _ eD, ?_, fun b o e => ?_, ?_⟩⟩
        · rw [List.length_map, List.length_map]
          have z := List.length_filter_le g ([tw0 n m, tw1 n m].take i)
          have z2 : ([tw0 n m, tw1 n m].take i).length ≤ 2 := by
            rw [List.length_take]
            exact Nat.min_le_right _ _
          have := sigLE
          omega
        · rw [upd_ne (ne e)]
          exact s3 _ _ (s2 _ _ e)
        · rw [upd_same, hf, if_pos gj]
          simp only [List.map_append, List.map_cons, List.map_nil]
      | false =>
        refine .inl ⟨c2 gj, fun H3 s3 => ?_⟩
        refine ⟨rfl, _, rfl, iteF ⟨s2.trans s3, ?_⟩⟩
        rw [hf, if_neg (by rw [gj]; exact Bool.false_ne_true), List.append_nil]
        exact s3 _ _ eD
    · obtain ⟨s2, eD⟩ := pv
      refine ⟨D, _, rfl, SqL.of eD, ?_, fun ns q1 hp hs hq => ?_⟩
      · rw [List.length_map]
        have z := List.length_filter_le g ([tw0 n m, tw1 n m].take 2)
        show (([tw0 n m, tw1 n m].take 2).filter g).length < 64
        have z2 : ([tw0 n m, tw1 n m].take 2).length = 2 := rfl
        omega
      · exact q _ q1 ns ((s1.trans s2).trans fun b o e => by rw [upd_ne (ne_of_none e hq)]; exact e) ((s1.trans s2).free hq) upd_same hp hs
theorem sc_fetched : FnScope ["boards", "tag", "board", "block"] ["boards", "tag"] (defScope s_fetched) := ⟨rfl, rfl, rfl, by decide +kernel, rfl, by decide +kernel, by decide +kernel⟩
theorem ok_fetched (F : FnP K "fetched" s_fetched f fd) (T : Txt mg) (TB : TxB K mg C) (g_copy_on : Has P w K mg base CX0 14 "copy_on" ["boards", "board", "tag"] (sp_copy_on C)) (g_twins : HasM P w K mg base CX0 14 C "twins" ["self", "number"] (sp_twins C)) :
    FnOk P w K mg base CX0 15 f fd ["boards", "tag"] (sp_fetched C) := by
  refine ok0 F sc_fetched (fun vs H Q E h => ?_) (fun cdv A outer s H vs Q E hr h => ?_)
  · obtain ⟨p, t, n, b, k, g, m, B, cap, rfl, _⟩ := h
    rfl
  · obtain ⟨p, t, n, b, k, g, m, B, cap, rfl, hB, ht, hn, hb, hk, hc, hg, q⟩ := h
    refine ⟨_, (pss_cons (ps_for PassesOwn.never rfl (pi_tup (pe_hasM (pv 0) TB.cl g_twins hr pass0 (pa_cons (pe_ix ix_tup (pv 1) pe_int (fun _ _ => rfl)) pa_nil))) (pg_name (i := 2) sc_fetched.nd rfl (Or.inl rfl))
      (pss_cons (ps_set (i := 3) sc_fetched.nd rfl (Or.inl rfl) (pe_has g_copy_on hr pass0 (pa_cons (pv 0) (pa_cons (pv 2) (pa_cons (pv 1) pa_nil)))))
    (pss_one (ps_if (pt_cmpR op_notN (pv 3) pe_non (nomark _))
      (pss_one (ps_ret (pv 3)))
      pss_nil))))
    pss_never), ?_⟩
    obtain ⟨hm2, hm4⟩ := hB.two
    obtain ⟨dx, fs, hins, hno⟩ := hB.ins
    refine ⟨_, rfl, p, dx, fs, rfl, hins, hno _ (by decide +kernel) (by decide +kernel) (by decide +kernel), _, rfl, t, _, _, .int n, rfl, rfl, SqT.of ht, rfl, p, n, m, B, cap, rfl, hB, fun H1 tw s1 e1 => ?_⟩
    rw [tw0_eq hm2, tw1_eq hm2] at e1
    refine ⟨tw, rfl, ⟨_, SqT.of e1⟩, for_tup (K := K) (a := tw) (xs := [.int (tw0 n m : Nat), .int (tw1 n m : Nat)])
      (fun i σ H' => ∃ u1 u2, σ = [some (.ref p), some (.ref t), u1, u2] ∧ Same H1 H' ∧ ([tw0 n m, tw1 n m].take i).filter g = [])
      ⟨none, none, rfl, Same.refl _, rfl⟩ (fun i σ H' _ ⟨_, _, _, s5, _⟩ => SqT.of (s5 _ _ e1)) ?_ ?_⟩
    · rintro i x σ H2 hx ⟨u1, u2, rfl, s2, ef⟩
      have sH := s1.trans s2
      obtain ⟨j, hj, rfl, hjt⟩ : ∃ j : Nat, [tw0 n m, tw1 n m][i]? = some j ∧ x = V.int j ∧ (j = tw0 n m ∨ j = tw1 n m) := by
        match i, hx with
        | 0, hx => exact ⟨_, rfl, (Option.some.inj hx).symm, .inl rfl⟩
        | 1, hx => exact ⟨_, rfl, (Option.some.inj hx).symm, .inr rfl⟩
        | i + 2, hx => cases hx
      have hjm : j < m := by
        rcases hjt with rfl | rfl
        · exact tw0_lt hm2
        · exact tw1_lt hm2
      obtain ⟨c1, c2⟩ := hc j hjt
      refine ⟨_, rfl, _, rfl, _, rfl, p, t, j, n, b, k.sum, m, B, cap, rfl, hB.mono sH, hjm, sH _ _ ht, hn, hb, ?_⟩
      cases gj : g j with
      | true =>
        refine .inr ⟨k, c1 gj, hk, rfl, fun H3 v s3 rv => ?_⟩
        obtain ⟨a, rfl⟩ := id rv.blk
        exact ⟨_, rfl, rfl, _, rfl, iteT ⟨_, rfl, q H3 _ (sH.trans s3) rv⟩⟩
      | false =>
        refine .inl ⟨c2 gj, fun H3 s3 => ?_⟩
        refine ⟨_, rfl, rfl, _, rfl, iteF ⟨_, _, rfl, s2.trans s3, ?_⟩⟩
        rw [take_snoc hj, List.filter_append, ef, List.filter_cons, if_neg (by rw [gj]; exact Bool.false_ne_true)]
        rfl
    · rintro σ H' ⟨u1, u2, rfl, s2, ef⟩
      exact (hg ef).elim
end
end Sk

set_option Elab.async false
set_option linter.all false
set_option maxRecDepth 100000
set_option maxHeartbeats 4000000
namespace Sk
open PySem PySem.Spec PyProof.Rows L2
theorem BdAt.ins' {C p : Addr} {m : Nat} {H : Hp} {B : Bds} {cap : Nat} (h : BdAt C p m H B cap) : ∃ (dx : Addr) (fs : List (Str × V)), H p = some (.ins C dx fs) ∧ ∀ x : Str, ¬ x = "rows_kept" → ¬ x = "writes_done" → ¬ x = "writes_left" → fs.lookup x = none := by
  obtain ⟨dx, L, n, ds, h1, _⟩ := h
  exact ⟨dx, _, h1, fun x a b c => bF_no _ _ a b c⟩
theorem BdAt.two' {C p : Addr} {m : Nat} {H : Hp} {B : Bds} {cap : Nat} (h : BdAt C p m H B cap) : 2 ≤ m ∧ m ≤ 4 := by
  obtain ⟨dx, L, n, ds, _, _, _, a, b, _⟩ := h
  exact ⟨a, b⟩
section
variable {P : Program} {w : World} {K : PySem.W.Frag} {mg : Str → Option Value} {base : Heap} {f : Addr} {fd : FuncData} {C CL fI : Addr}
theorem sc_L_init : FnScope ["self", "number"] ["self", "number"] (defScope sL_init) := ⟨rfl, rfl, rfl, by decide +kernel, rfl, by decide +kernel, by decide +kernel⟩
theorem ok_L_init (F : FnM K "__init__" "Lost.__init__" sL_init f fd) (TL : TxL K mg CL fI) : FnOk P w K mg base CX0 1 f fd ["self", "number"] (sp_L_init CL) := by
  refine ok0 F sc_L_init (fun vs H Q E h => ?_) (fun cdv A outer s H vs Q E hr h => ?_)
  · obtain ⟨a, v, rfl, _⟩ := h
    rfl
  · obtain ⟨a, v, rfl, ha, q⟩ := h
    refine ⟨_, pss_one (ps_ost (pv 0) (pv 1)), ?_⟩
    exact ⟨_, rfl, _, rfl, a, CL, rfl, TL.oex, TL.noN, .inl ⟨ha, fun dx n1 n2 => q dx n1 n2⟩⟩
theorem sc_fetched2 : FnScope ["boards", "tag", "board", "block"] ["boards", "tag"] (defScope s_fetched) := ⟨rfl, rfl, rfl, by decide +kernel, rfl, by decide +kernel, by decide +kernel⟩
theorem ok_fetched_lost {fdI : FuncData} (F : FnP K "fetched" s_fetched f fd) (T : Txt mg) (TB : TxB K mg C) (TL : TxL K mg CL fI) (FI : FnM K "__init__" "Lost.__init__" sL_init fI fdI) (g_copy_on : Has P w K mg base CX0 14 "copy_on" ["boards", "board", "tag"] (sp_copy_on C))
    (g_twins : HasM P w K mg base CX0 14 C "twins" ["self", "number"] (sp_twins C)) : FnOk P w K mg base (L2.CX P w) 15 f fd ["boards", "tag"] (sp_fetched_lost C CL) := by
  have GI : FnOk P w K mg base CX0 1 fI fdI ["self", "number"] (sp_L_init CL) := ok_L_init FI TL
  have bI : Binds K fdI ["self", "number"] [] := FI.bindsN fun _ _ _ _ _ _ us hl => match us, hl with | [_, _], _ => rfl
  refine F.ok sc_fetched2 (fun vs H Q E h => ?_) (fun cdv A outer s H vs Q E hr h => ?_)
  · obtain ⟨p, t, n, b, k, g, m, B, cap, rfl, _⟩ := h
    rfl
  · obtain ⟨p, t, n, b, k, g, m, B, cap, rfl, hB, ht, hn, hb, hk, hc, hg, q⟩ := h
    have hr2 : Room 2 _ := hr.mono (by decide)
    refine ⟨_, (pss_cons (ps_for (passes_of rfl) rfl (pi_tup (pe_hasM (pv 0) TB.cl g_twins hr pass0 (pa_cons (pe_ix ix_tup (pv 1) pe_int (fun _ _ => rfl)) pa_nil))) (pg_name (i := 2) sc_fetched2.nd rfl (Or.inl rfl))
      (pss_cons (ps_set (i := 3) sc_fetched2.nd rfl (Or.inl rfl) (pe_has g_copy_on hr pass0 (pa_cons (pv 0) (pa_cons (pv 2) (pa_cons (pv 1) pa_nil)))))
      (pss_one (ps_if (pt_cmpR op_notN (pv 3) pe_non (nomark _))
        (pss_one (ps_ret (pv 3)))
        pss_nil))))
      (pss_one (ps_raise rfl (takes_of (E := E) rfl rfl rfl rfl) (pmk_oex TL.oex TL.iC TL.tI GI hr2 bI .nil pass0 rfl TL.mgL (pa_cons (pe_ix ix_tup (pv 1) pe_int (fun _ _ => rfl)) pa_nil))))), ?_⟩
    obtain ⟨hm2, hm4⟩ := hB.two'
    obtain ⟨dx, fs, hins, hno⟩ := hB.ins'
    refine ⟨_, rfl, p, dx, fs, rfl, hins, hno _ (by decide +kernel) (by decide +kernel) (by decide +kernel), _, rfl, t, _, _, .int n, rfl, rfl, SqT.of ht, rfl, p, n, m, B, cap, rfl, hB, fun H1 tw s1 e1 => ?_⟩
    rw [tw0_eq hm2, tw1_eq hm2] at e1
    refine ⟨tw, rfl, ⟨_, SqT.of e1⟩, for_tup (K := K) (a := tw) (xs := [.int (tw0 n m : Nat), .int (tw1 n m : Nat)])
      (fun i σ H' => ∃ u1 u2, σ = [some (.ref p), some (.ref t), u1, u2] ∧ Same H1 H')
      ⟨none, none, rfl, Same.refl _⟩ (fun i σ H' _ ⟨_, _, _, s5⟩ => SqT.of (s5 _ _ e1)) ?_ ?_⟩
    · rintro i x σ H2 hx ⟨u1, u2, rfl, s2⟩
      have sH := s1.trans s2
      obtain ⟨j, hj, rfl, hjt⟩ : ∃ j : Nat, [tw0 n m, tw1 n m][i]? = some j ∧ x = V.int j ∧ (j = tw0 n m ∨ j = tw1 n m) := by
        match i, hx with
        | 0, hx => exact ⟨_, rfl, (Option.some.inj hx).symm, .inl rfl⟩
        | 1, hx => exact ⟨_, rfl, (Option.some.inj hx).symm, .inr rfl⟩
        | i + 2, hx => cases hx
      have hjm : j < m := by
        rcases hjt with rfl | rfl
        · exact tw0_lt hm2
        · exact tw1_lt hm2
      have gj : g j = false := by
        cases z : g j with
        | false => rfl
        | true =>
          have y : j ∈ goods n m g := List.mem_filter.mpr ⟨List.mem_of_getElem? hj, z⟩
          rw [hg] at y
          cases y
      obtain ⟨c1, c2⟩ := hc j hjt
      refine ⟨_, rfl, _, rfl, _, rfl, p, t, j, n, b, k.sum, m, B, cap, rfl, hB.mono sH, hjm, sH _ _ ht, hn, hb, ?_⟩
      refine .inl ⟨c2 gj, fun H3 s3 => ?_⟩
      exact ⟨_, rfl, rfl, _, rfl, iteF ⟨_, _, rfl, s2.trans s3⟩⟩
    · rintro σ H2 ⟨u1, u2, rfl, s2⟩
      have sH := s1.trans s2
      refine ⟨_, rfl, t, _, _, .int n, rfl, rfl, SqT.of (sH _ _ ht), rfl, (by show 1 ≤ 1000; decide), fun a na => ?_⟩
      refine ⟨a, .int n, rfl, upd_same, fun d nd hda => ⟨rfl, d, [("number", .int n)], upd_same, ?_, ?_, ?_⟩⟩
      · rw [upd_ne hda, upd_same]
      · rw [upd_ne hda] at nd
        exact nd
      · have nd2 : H2 d = none := by
          rw [upd_ne hda] at nd
          exact nd
        refine q _ d (fun c o e => ?_) upd_same
        have e2 := sH _ _ e
        have hca : c ≠ a := ne_of_none e2 na
        have hcd : c ≠ d := ne_of_none e2 nd2
        rw [upd_ne hcd, del_ne hca, upd_ne hca, upd_ne hcd, upd_ne hca]
        exact e2
theorem sc_is_lost : FnScope ["_law_boards", "_law_tag_here", "_law_lost", "e"] ["_law_boards", "_law_tag_here"] (defScope s__law_is_lost) := ⟨rfl, rfl, rfl, by decide +kernel, rfl, by decide +kernel, by decide +kernel⟩
theorem pe_hasS {X : Cx} {CX : CXT} {k : Nat} {ps : List Str} {sp : Sp} {E : L2.St → XK} {x : Str} {p pos : Pos} {e : Expr} {es : List Expr} {t : TA} (G : Has X.prog X.w X.K X.mg X.base CX k x ps sp) (hr : Room k X.A) (hx : ∀ σ, PassesAt CX X σ (E σ)) (ha : PA X (e :: es) t) (hg : Gl X x := by rfl) (hdb : (x == ("__debug__" : Str)) = false := by decide)
    (he : starEach (e :: es) X.env = (false, eval e X.env) :: starEach es X.env := by rfl) (hpl : (backTo pos (starEach es X.env)).any (·.1) = false := by rfl) :
    PE X (.Call (.Name x p) (e :: es) [] pos) (tCallS sp E t) := by
  obtain ⟨f, fd, hm, kp, hb, F⟩ := G
  exact pe_callS F hr hg hm kp hb hx ha hdb he hpl
theorem ok_is_lost (F : FnP K "_law_is_lost" s__law_is_lost f fd) (T : Txt mg) (TL : TxL K mg CL fI) (g_fetched : Has P w K mg base (L2.CX P w) 15 "fetched" ["boards", "tag"] (sp_fetched_lost C CL)) :
    FnOk P w K mg base CX0 16 f fd ["_law_boards", "_law_tag_here"] (sp_is_lost C) := by
  refine ok0 F sc_is_lost (fun vs H Q E h => ?_) (fun cdv A outer s H vs Q E hr h => ?_)
  · obtain ⟨p, t, n, b, k, g, m, B, cap, rfl, _⟩ := h
    rfl
  · obtain ⟨p, t, n, b, k, g, m, B, cap, rfl, hB, ht, hn, hb, hk, hc, hg, q⟩ := h
    refine ⟨_, pss_cons (ps_set (i := 2) sc_is_lost.nd rfl (Or.inl rfl) pe_bl)
      (pss_cons (ps_try_as (i := 3) (c := .ref CL) (tb := fun W => tDrop (tCallS (sp_fetched_lost C CL) (WE W) (tCons (tVar 0) (tCons (tVar 1) tNil)))) (ts := fun a cls d => tAsg (tOp rEq (tXf a cls d CL "number" (tVar 3)) (tOp (rIxT K) (tVar 1) (tC (.int 0)))) (gName 2)) (Wout := fun _ _ _ _ => False)
          rfl rfl sc_is_lost.nd rfl rfl ⟨rfl, by decide, Or.inl TL.mgL⟩ takes0
        (fun W pn xe tk _ => pss_one (ps_expr (pe_hasS g_fetched hr (fun σ => passAt tk σ) (by exact (pa_cons (pv 0) (pa_cons (pv 1) pa_nil))))))
        (fun a oe cls d pn hz hf => pss_one (ps_set (i := 2) sc_is_lost.nd rfl (Or.inl rfl) (pe_cmpR op_eq (pe_xf TL.xf TL.noN hz hf (pv 3)) (pe_ix ix_tup (pv 1) pe_int (fun _ _ => rfl)) (nomark _)))))
      (pss_one (ps_ret (pv 2)))), ?_⟩
    refine ⟨_, rfl, _, rfl, p, t, n, b, k, g, m, B, cap, rfl, hB, ht, hn, hb, hk, hc, hg, fun H1 d s1 e1 => ?_⟩
    refine ⟨true, TL.exm, fun _ a na => ?_, fun z => Bool.noConfusion z⟩
    refine ⟨_, rfl, rfl, rfl, d, _, .int n, rfl, e1, ?_, ?_⟩
    · rw [lookup_put, if_pos rfl]
    · refine ⟨_, rfl, t, _, _, .int n, rfl, rfl, SqT.of (s1 _ _ ht), rfl, rfl, ?_⟩
      refine ⟨_, rfl, ?_⟩
      show Q (V.bl (decide (V.int n = V.int n))) H1
      rw [decide_eq_true rfl]
      exact q H1 s1
end
end Sk

set_option Elab.async false
set_option linter.all false
set_option maxRecDepth 100000
set_option maxHeartbeats 4000000
namespace Sk
open PySem PySem.Spec PyProof.Rows L2
theorem same_upd {H : Hp} {p : Addr} {o : HO} (hp : H p = none) : Same H (upd H p o) := fun b u e => by
  rw [upd_ne (ne_of_none e hp)]
  exact e
theorem nmL_len : nmL.length = 36 := by decide +kernel
theorem joinL_ones : ∀ cs : List Nat, TL.joinL [] (cs.map fun c => [c]) = cs
  | [] => rfl
  | [c] => rfl
  | c :: d :: r => by
    show [c] ++ ([] ++ TL.joinL [] ((d :: r).map fun c => [c])) = _
    rw [joinL_ones (d :: r)]
    rfl
theorem join_ones (cs : List Nat) : Txt.join (Str.ofString "") (cs.map fun c => (⟨#[c]⟩ : Str)) = ⟨cs.toArray⟩ := by
  apply TL.ext_tl
  rw [TL.join_eq, TL.tl_join, List.map_map]
  show TL.joinL (TL.tl (Str.ofString "")) (cs.map fun c => [c]) = cs
  rw [show TL.tl (Str.ofString "") = [] by decide +kernel]
  exact joinL_ones cs
theorem len_ones (cs : List Nat) : ((cs.map fun c => (⟨#[c]⟩ : Str)).map (·.length)).sum = cs.length := by
  induction cs with
  | nil => rfl
  | cons c r ih =>
    rw [List.map_cons, List.map_cons, List.sum_cons, ih, List.length_cons]
    show 1 + r.length = r.length + 1
    omega
section
variable {P : Program} {w : World} {K : PySem.W.Frag} {mg : Str → Option Value} {base : Heap} {f : Addr} {fd : FuncData}
theorem sc__law_cell_at : FnScope ["_law_script", "_law_k"] ["_law_script", "_law_k"] (defScope s__law_cell_at) := ⟨rfl, rfl, rfl, by decide +kernel, rfl, by decide +kernel, by decide +kernel⟩
theorem ok_cell_at (F : FnP K "_law_cell_at" s__law_cell_at f fd) (T : Txt mg) : FnOk P w K mg base CX0 1 f fd ["_law_script", "_law_k"] (sp_cell_at K) := by
  refine ok0 F sc__law_cell_at (fun vs H Q E h => ?_) (fun cdv A outer s H vs Q E hr h => ?_)
  · obtain ⟨a, ns, k, rfl, _⟩ := h
    rfl
  · obtain ⟨a, ns, k, rfl, hS, q⟩ := h
    refine ⟨_, (pss_cons (ps_if (pt_cmpR op_lt (pv 1) (pe_callB call_len_seq rfl T.n_len PySem.boot_len (pa_cons (pv 0) pa_nil)) (nomark _))
      (pss_one (ps_ret (pe_ix ix_list (pv 0) (pv 1) (fun _ _ => rfl))))
      pss_nil)
    (pss_one (ps_ret pe_int))), ?_⟩
    refine ⟨_, rfl, _, rfl, a, _, rfl, .inl hS, _, _, rfl, rfl, _, rfl, ?_⟩
    rw [List.length_map]
    by_cases c : k < ns.length
    · refine iteD (by omega) ⟨_, rfl, _, rfl, a, _, _, .int ns[k], rfl, rfl, hS, atI_nat (by rw [List.getElem?_map, List.getElem?_eq_getElem c]; rfl), q _⟩
    · exact iteDn (by omega) (q 0)
theorem sc__law_numbers : FnScope ["_law_cell", "_law_many", "_law_found", "_law_number", "_law_k"] ["_law_cell", "_law_many"] (defScope s__law_numbers) := ⟨rfl, rfl, rfl, by decide +kernel, rfl, by decide +kernel, by decide +kernel⟩
theorem ok_numbers (F : FnP K "_law_numbers" s__law_numbers f fd) (T : Txt mg) : FnOk P w K mg base CX0 1 f fd ["_law_cell", "_law_many"] sp_numbers := by
  refine ok0 F sc__law_numbers (fun vs H Q E h => ?_) (fun cdv A outer s H vs Q E hr h => ?_)
  · obtain ⟨z, m, rfl, _⟩ := h
    rfl
  · obtain ⟨z, m, rfl, hm, q⟩ := h
    refine ⟨_, (pss_cons (ps_set (i := 2) sc__law_numbers.nd rfl (Or.inl rfl) (pe_lst pa_nil))
    (pss_cons (ps_set (i := 3) sc__law_numbers.nd rfl (Or.inl rfl) (pe_op op_sub (pv 0) (pe_op op_pow pe_int pe_int)))
    (pss_cons (ps_if (pt_cmpR op_ge (pv 3) pe_int (nomark _))
      (pss_cons (ps_for PassesOwn.never rfl (pi_range1 rfl T.n_range (pa_cons (pv 1) pa_nil)) (pg_name (i := 4) sc__law_numbers.nd rfl (Or.inl rfl))
      (pss_cons (ps_expr (pe_bm PySem.F.plainAttrs_list PySem.F.slot_list_append PySem.F.type_list_append mt_append (pv 2) (pa_cons (pe_op op_mod (pv 3) pe_int) pa_nil)))
    (pss_one (ps_set (i := 3) sc__law_numbers.nd rfl (Or.inl rfl) (pe_op op_fdiv (pv 3) pe_int)))))
    (pss_one (ps_ret (pv 2))))
      pss_nil)
    (pss_cons (ps_set (i := 3) sc__law_numbers.nd rfl (Or.inl rfl) (pe_op op_mod (pv 0) pe_int))
    (pss_cons (ps_for PassesOwn.never rfl (pi_range1 rfl T.n_range (pa_cons (pe_op op_add (pv 1) pe_int) pa_nil)) (pg_name (i := 4) sc__law_numbers.nd rfl (Or.inl rfl))
      (pss_cons (ps_set (i := 3) sc__law_numbers.nd rfl (Or.inl rfl) (pe_op op_mod (pe_op op_mul (pe_op op_add (pe_op op_add (pv 3) (pv 4)) pe_int) pe_int) pe_int))
    (pss_one (ps_expr (pe_bm PySem.F.plainAttrs_list PySem.F.slot_list_append PySem.F.type_list_append mt_append (pv 2) (pa_cons (pe_op op_mod (pe_op op_mul (pv 3) pe_int) pe_int) pa_nil))))))
    (pss_one (ps_ret (pe_slice sl_list (pv 2) (po_some pe_int) po_none)))))))), ?_⟩
    refine ⟨Nat.zero_le _, fun p hp => ?_⟩
    have s0 : Same H (upd H p (.lst [])) := same_upd hp
    refine ⟨_, rfl, _, _, rfl, rfl, ⟨by decide, by decide, by decide⟩, _, _, rfl, rfl, ?_⟩
    refine ⟨_, rfl, _, _, rfl, rfl, _, rfl, ite2 (fun c => ?_) (fun c => ?_)⟩
    · refine ⟨_, rfl, _, rfl, (by omega), (by omega), for_range (lo := 0) (n := m)
        (fun i σ H' => ∃ (y : Int) (u : Option V) (ns : List Int), σ = [some (.int z), some (.int m), some (.ref p), some (.int y), u] ∧ 0 ≤ y ∧ Same H H' ∧ H' p = some (.lst (ns.map V.int)) ∧ ns.length = i ∧ ∀ x ∈ ns, posR x)
        ⟨_, none, [], rfl, of_decide_eq_true c, s0, upd_same, rfl, fun x hx => by cases hx⟩ ?_ ?_⟩
      · rintro i σ H' hi ⟨y, u, ns, rfl, hy, s5, e, hl, hr2⟩
        refine ⟨_, rfl, .inl ⟨rfl, _, SqL.of e⟩, _, rfl, _, _, rfl, rfl, lt0 rfl, p, _, _, rfl, rfl, e, (by rw [List.length_map]; have := sigLE; omega), ?_⟩
        refine ⟨_, rfl, _, _, rfl, rfl, ⟨by decide, by decide⟩, ?_⟩
        refine ⟨y / 5040, some (.int (0 + (i : Int))), ns ++ [y % 5040], rfl, by omega, fun b o h => ?_, ?_, by rw [List.length_append, hl]; rfl, fun x hx => ?_⟩
        · rw [upd_ne (ne_of_none h hp)]
          exact s5 _ _ h
        · rw [upd_same, List.map_append]
          rfl
        · rcases List.mem_append.mp hx with hx | hx
          · exact hr2 x hx
          · rw [List.mem_singleton.mp hx]
            unfold posR
            omega
      · rintro σ H' ⟨y, u, ns, rfl, hy, s5, e, hl, hr2⟩
        exact ⟨_, rfl, q H' p ns s5 hp e hl hr2⟩
    · refine ⟨_, rfl, _, _, rfl, rfl, lt0 rfl, ?_⟩
      refine ⟨_, rfl, _, _, rfl, rfl, _, rfl, (by omega), (by omega), for_range (lo := 0) (n := m + 1)
        (fun i σ H' => ∃ (y : Int) (u : Option V) (ns : List Int), σ = [some (.int z), some (.int m), some (.ref p), some (.int y), u] ∧ Same H H' ∧ H' p = some (.lst (ns.map V.int)) ∧ ns.length = i ∧ ∀ x ∈ ns, posR x)
        ⟨_, none, [], rfl, s0, upd_same, rfl, fun x hx => by cases hx⟩ ?_ ?_⟩
      · rintro i σ H' hi ⟨y, u, ns, rfl, s5, e, hl, hr2⟩
        refine ⟨_, rfl, _, rfl, _, _, rfl, rfl, _, _, rfl, rfl, _, _, rfl, rfl, .inr ⟨by decide, by decide⟩, _, _, rfl, rfl, lt0 rfl, ?_⟩
        refine ⟨_, rfl, .inl ⟨rfl, _, SqL.of e⟩, _, rfl, _, _, rfl, rfl, .inr ⟨by decide, by decide⟩, _, _, rfl, rfl, lt0 rfl, p, _, _, rfl, rfl, e, (by rw [List.length_map]; have := sigLE; omega), ?_⟩
        refine ⟨_, some (.int (0 + (i : Int))), ns ++ [(y + (0 + (i : Int)) + 1) * 48271 % 2147483647 * 69621 % 2147483629], rfl, fun b o h => ?_, ?_, by rw [List.length_append, hl]; rfl, fun x hx => ?_⟩
        · rw [upd_ne (ne_of_none h hp)]
          exact s5 _ _ h
        · rw [upd_same, List.map_append]
          rfl
        · rcases List.mem_append.mp hx with hx | hx
          · exact hr2 x hx
          · rw [List.mem_singleton.mp hx]
            unfold posR
            omega
      · rintro σ H' ⟨y, u, ns, rfl, s5, e, hl, hr2⟩
        refine ⟨_, rfl, _, rfl, p, _, rfl, SqL.of e, fun r hr3 => ?_⟩
        have e2 : cutV (ns.map V.int) (some 1) none = ns.tail.map V.int := by
          unfold cutV
          rw [HT.sIx_none, show HT.sIx (ns.map V.int).length 0 (some 1) = min 1 (ns.map V.int).length from HT.sIx_nat _ _ 1, List.length_map, hl, show min 1 (m + 1) = 1 by omega, List.take_of_length_le (by rw [List.length_drop, List.length_map]; omega), List.drop_one, List.map_tail]
        rw [e2]
        exact q _ r ns.tail (fun b o h => by rw [upd_ne (ne_of_none (s5 _ _ h) hr3)]; exact s5 _ _ h) (s5.free hr3) upd_same (by rw [List.length_tail, hl]; rfl) (fun x hx => hr2 x (List.mem_of_mem_tail hx))
theorem sc__law_signs : FnScope ["_law_some"] [] (defScope s__law_signs) := ⟨rfl, rfl, rfl, by decide +kernel, rfl, by decide +kernel, by decide +kernel⟩
theorem ok_signs (F : FnP K "_law_signs" s__law_signs f fd) (T : Txt mg) : FnOk P w K mg base CX0 1 f fd [] sp_signs := by
  refine ok0 F sc__law_signs (fun vs H Q E h => ?_) (fun cdv A outer s H vs Q E hr h => ?_)
  · obtain ⟨rfl, _⟩ := h
    rfl
  · obtain ⟨rfl, q⟩ := h
    refine ⟨_, (pss_cons (ps_set (i := 0) sc__law_signs.nd rfl (Or.inl rfl) pe_str)
    (pss_one (ps_ret (pe_op op_add_str (pv 0) pe_str)))), ?_⟩
    refine ⟨_, rfl, _, _, rfl, rfl, (by decide +kernel), ?_⟩
    have e : (Str.ofString " !\"#$&'()*+,-./0123456789:;<=>?@ABCDEFGHIJKLMNOPQRSTUVWXYZ[\\]^_`") ++ (Str.ofString "abcdefghijklmnopqrstuvwxyz{|}~") = tSIGNS := by decide +kernel
    rw [e]
    exact q
theorem sc__law_tag : FnScope ["_law_number", "_law_found"] ["_law_number"] (defScope s__law_tag) := ⟨rfl, rfl, rfl, by decide +kernel, rfl, by decide +kernel, by decide +kernel⟩
theorem ok_tag (F : FnP K "_law_tag" s__law_tag f fd) (T : Txt mg) : FnOk P w K mg base CX0 1 f fd ["_law_number"] sp_tag := by
  refine ok0 F sc__law_tag (fun vs H Q E h => ?_) (fun cdv A outer s H vs Q E hr h => ?_)
  · obtain ⟨x, rfl, _⟩ := h
    rfl
  · obtain ⟨x, rfl, ⟨hx0, hx1⟩, q⟩ := h
    refine ⟨_, (pss_cons (ps_set (i := 1) sc__law_tag.nd rfl (Or.inl rfl) (pe_tup (pa_cons (pe_op op_add pe_int (pe_op op_mod (pv 0) pe_int)) (pa_cons (pe_op op_mod (pe_op op_mul (pv 0) pe_int) (pe_op op_pow pe_int pe_int)) (pa_cons (pe_op op_mod (pe_op op_fdiv (pv 0) pe_int) pe_int) pa_nil)))))
    (pss_cons (ps_if (pt_cmpR op_eq (pe_op op_mod (pv 0) pe_int) pe_int (nomark _))
      (pss_one (ps_set (i := 1) sc__law_tag.nd rfl (Or.inl rfl) (pe_tup (pa_cons pe_int (pa_cons pe_int (pa_cons (pe_ix ix_list (pe_lst (pa_cons pe_int (pa_cons pe_int pa_nil))) (pe_op op_mod (pe_op op_fdiv (pv 0) pe_int) pe_int) (fun _ _ => rfl)) pa_nil))))))
      pss_nil)
    (pss_cons (ps_if (pt_cmpR op_eq (pe_op op_mod (pv 0) pe_int) pe_int (nomark _))
      (pss_one (ps_set (i := 1) sc__law_tag.nd rfl (Or.inl rfl) (pe_tup (pa_cons (pe_op op_add pe_int (pe_op op_mod (pv 0) pe_int)) (pa_cons (pe_op op_mod (pe_op op_fdiv (pv 0) pe_int) pe_int) (pa_cons (pe_op op_mod (pe_op op_fdiv (pv 0) pe_int) pe_int) pa_nil))))))
      pss_nil)
    (pss_one (ps_ret (pv 1)))))), ?_⟩
    have e9 : (10 : Int) ^ (9 : Int).toNat = 1000000000 := by decide
    refine ⟨_, rfl, _, _, rfl, rfl, lt0 rfl, _, _, rfl, rfl, _, rfl, _, _, rfl, rfl, .inr ⟨by decide, by decide⟩, _, _, rfl, rfl, ⟨by decide, by decide, by decide⟩, _, _, rfl, rfl, lt0 rfl,
      _, rfl, _, _, rfl, rfl, ⟨by decide, by decide⟩, _, _, rfl, rfl, lt0 rfl, (by show 3 ≤ sizeLine; decide), fun t ht => ?_⟩
    have s1 : Same H (upd H t (.tup [.int (1 + x % 999999), .int (x * 48271 % 10 ^ (9 : Int).toNat), .int (x / 5 % 997)])) := same_upd ht
    have g1 : okG (1 + x % 999999, x * 48271 % 10 ^ (9 : Int).toNat, x / 5 % 997) := by
      rw [e9]
      unfold okG
      simp only
      omega
    have e1 : (upd H t (.tup [.int (1 + x % 999999), .int (x * 48271 % 10 ^ (9 : Int).toNat), .int (x / 5 % 997)])) t = some (.tup [.int (1 + x % 999999), .int (x * 48271 % 10 ^ (9 : Int).toNat), .int (x / 5 % 997)]) := upd_same
    generalize upd H t (.tup [.int (1 + x % 999999), .int (x * 48271 % 10 ^ (9 : Int).toNat), .int (x / 5 % 997)]) = H1 at s1 e1 ⊢
    have g2 : okG (1 + x % 9, x / 9 % 2, x / 18 % 997) := by
      unfold okG
      simp only
      omega
    refine ⟨_, rfl, _, _, rfl, rfl, lt0 rfl, rfl, _, rfl, ite2 (fun c3 => ?_) (fun c3 => ?_)⟩
    · obtain ⟨v, hv, hv0, hv1⟩ : ∃ v : Int, atI [V.int 996, V.int 0] (x / 7 % 2) = some (.int v) ∧ 0 ≤ v ∧ v ≤ 996 := by
        have h2 : x / 7 % 2 = 0 ∨ x / 7 % 2 = 1 := by omega
        rcases h2 with h2 | h2
        · rw [h2]
          exact ⟨996, rfl, by decide, by decide⟩
        · rw [h2]
          exact ⟨0, rfl, by decide, by decide⟩
      refine ⟨(by show 2 ≤ sizeLine; decide), fun l hl => ?_⟩
      have s2 : Same H1 (upd H1 l (.lst [.int 996, .int 0])) := same_upd hl
      refine ⟨_, rfl, _, _, rfl, rfl, ⟨by decide, by decide⟩, _, _, rfl, rfl, lt0 rfl, l, _, _, _, rfl, rfl, SqL.of upd_same, hv, (by show 3 ≤ sizeLine; decide), fun t2 ht2 => ?_⟩
      have s3 : Same (upd H1 l (.lst [.int 996, .int 0])) (upd (upd H1 l (.lst [.int 996, .int 0])) t2 (.tup [.int 999999, .int 999999999, .int v])) := same_upd ht2
      have g3 : okG (999999, 999999999, v) := by
        unfold okG
        simp only
        omega
      refine ⟨_, rfl, _, _, rfl, rfl, lt0 rfl, rfl, _, rfl, ite2 (fun c5 => ?_) (fun c5 => ?_)⟩
      · refine ⟨_, rfl, _, _, rfl, rfl, lt0 rfl, _, _, rfl, rfl, _, rfl, _, _, rfl, rfl, ⟨by decide, by decide⟩, _, _, rfl, rfl, lt0 rfl, _, rfl, _, _, rfl, rfl, ⟨by decide, by decide⟩, _, _, rfl, rfl, lt0 rfl, (by show 3 ≤ sizeLine; decide), fun t3 ht3 => ?_⟩
        exact ⟨_, rfl, q _ t3 _ (((s1.trans s2).trans s3).trans (same_upd ht3)) upd_same g2⟩
      · exact ⟨_, rfl, q _ t2 _ ((s1.trans s2).trans s3) upd_same g3⟩
    · refine ⟨_, rfl, _, _, rfl, rfl, lt0 rfl, rfl, _, rfl, ite2 (fun c5 => ?_) (fun c5 => ?_)⟩
      · refine ⟨_, rfl, _, _, rfl, rfl, lt0 rfl, _, _, rfl, rfl, _, rfl, _, _, rfl, rfl, ⟨by decide, by decide⟩, _, _, rfl, rfl, lt0 rfl, _, rfl, _, _, rfl, rfl, ⟨by decide, by decide⟩, _, _, rfl, rfl, lt0 rfl, (by show 3 ≤ sizeLine; decide), fun t3 ht3 => ?_⟩
        exact ⟨_, rfl, q _ t3 _ (s1.trans (same_upd ht3)) upd_same g2⟩
      · exact ⟨_, rfl, q _ t _ s1 e1 g1⟩
theorem sc__law_name : FnScope ["_law_number", "_law_size", "_law_signs_here", "_law_k"] ["_law_number"] (defScope s__law_name) := ⟨rfl, rfl, rfl, by decide +kernel, rfl, by decide +kernel, by decide +kernel⟩
theorem ok_name (F : FnP K "_law_name" s__law_name f fd) (T : Txt mg) : FnOk P w K mg base CX0 1 f fd ["_law_number"] sp_name := by
  refine ok0 F sc__law_name (fun vs H Q E h => ?_) (fun cdv A outer s H vs Q E hr h => ?_)
  · obtain ⟨x, rfl, _⟩ := h
    rfl
  · obtain ⟨x, rfl, ⟨hx0, hx1⟩, q⟩ := h
    refine ⟨_, (pss_cons (ps_set (i := 1) sc__law_name.nd rfl (Or.inl rfl) (pe_op op_add pe_int (pe_op op_mod (pv 0) pe_int)))
    (pss_cons (ps_set (i := 2) sc__law_name.nd rfl (Or.inr rfl) pe_str)
    (pss_one (ps_ret (pe_join pe_str (pe_lc (own := [("_law_k", 3)]) (g := gName 3) (tt := tYes) rfl sc__law_name.nd (pi_range1 rfl T.n_range (pa_cons (pv 1) pa_nil)) (blkOk_by (own := [("_law_k", 3)]) (N := ["_law_number", "_law_size", "_law_signs_here", "_law_k"]) (sc := defScope s__law_name) (by decide +kernel)) (fun _ _ _ _ _ => (pg_name (i := 3) sc__law_name.nd rfl (Or.inl rfl))) (fun _ _ _ _ _ => pts_nil) (fun _ _ _ _ _ => (pe_ix ix_str (pv 2) (pe_op op_mod (pe_op op_add (pe_op op_fdiv (pv 0) pe_int) (pe_op op_mul (pv 3) (pe_op op_mod (pe_op op_fdiv (pv 0) pe_int) pe_int))) pe_int) (fun _ _ => rfl))))))))), ?_⟩
    refine ⟨_, rfl, _, _, rfl, rfl, lt0 rfl, _, _, rfl, rfl, ?_⟩
    have hn8 : (1 + x % 8).toNat ≤ 8 := by omega
    refine ⟨⟨_, rfl⟩, _, rfl, _, rfl, (by omega), (by omega), fun D hD => ?_⟩
    refine lc_pure walk_range (fun i => .str ⟨#[nmL.getD ((x / 8 + (0 + (i : Int)) * (x / 288 % 36)) % 36).toNat 0]⟩) hD (Nat.le_trans hn8 (by decide)) (fun _ _ => trivial) (fun i v H1 H' k hi s1 y kk => ?_) (fun H1 s1 e => ?_)
    · obtain ⟨rfl, rfl⟩ := y
      have hlt : ((x / 8 + (0 + (i : Int)) * (x / 288 % 36)) % 36).toNat < nmL.length := by
        rw [nmL_len]
        omega
      have hat : atI nmL ((x / 8 + (0 + (i : Int)) * (x / 288 % 36)) % 36) = some (nmL.getD ((x / 8 + (0 + (i : Int)) * (x / 288 % 36)) % 36).toNat 0) := by
        have e1 : (x / 8 + (0 + (i : Int)) * (x / 288 % 36)) % 36 = ((((x / 8 + (0 + (i : Int)) * (x / 288 % 36)) % 36).toNat : Nat) : Int) := by omega
        have e3 : nmL[((x / 8 + (0 + (i : Int)) * (x / 288 % 36)) % 36).toNat]? = some (nmL.getD ((x / 8 + (0 + (i : Int)) * (x / 288 % 36)) % 36).toNat 0) := by
          rw [List.getD_eq_getElem?_getD, List.getElem?_eq_getElem hlt]
          rfl
        have e4 := atI_nat e3
        rw [← e1] at e4
        exact e4
      refine ⟨rfl, _, rfl, _, rfl, _, _, rfl, rfl, ⟨by decide, by decide⟩, _, rfl, _, rfl, _, _, rfl, rfl, ⟨by decide, by decide⟩, _, _, rfl, rfl, lt0 rfl, _, _, rfl, rfl, .inl ⟨by omega, by omega⟩, _, _, rfl, rfl, _, _, rfl, rfl, lt0 rfl, tNAMED, _, _, rfl, rfl, by decide +kernel, hat, kk _ (Same.refl _)⟩
    · have e2 : ((List.range (1 + x % 8).toNat).map fun i : Nat => V.str ⟨#[nmL.getD ((x / 8 + (0 + (i : Int)) * (x / 288 % 36)) % 36).toNat 0]⟩) =
          (((List.range (1 + x % 8).toNat).map fun i : Nat => nmL.getD ((x / 8 + (0 + (i : Int)) * (x / 288 % 36)) % 36).toNat 0).map fun c => (⟨#[c]⟩ : Str)).map V.str := by
        rw [List.map_map, List.map_map]
        rfl
      rw [e2] at e
      generalize hcs : ((List.range (1 + x % 8).toNat).map fun i : Nat => nmL.getD ((x / 8 + (0 + (i : Int)) * (x / 288 % 36)) % 36).toNat 0) = cs at e
      have hl : cs.length = (1 + x % 8).toNat := by rw [← hcs, List.length_map, List.length_range]
      refine ⟨_, D, _, rfl, rfl, .inl (SqL.of e), ?_, ?_⟩
      · rw [len_ones, List.length_map]
        show cs.length + cs.length * 0 ≤ 16777216
        omega
      · rw [join_ones]
        refine q H1 _ s1 ⟨?_, ?_, fun c hc => ?_⟩
        · show 1 ≤ cs.toArray.size
          rw [List.size_toArray]
          omega
        · show cs.toArray.size ≤ 8
          rw [List.size_toArray]
          omega
        · have hc2 : c ∈ cs := hc
          rw [← hcs] at hc2
          obtain ⟨i, hi, rfl⟩ := List.mem_map.mp hc2
          have hlt : ((x / 8 + (0 + (i : Int)) * (x / 288 % 36)) % 36).toNat < nmL.length := by
            rw [nmL_len]
            omega
          rw [List.getD_eq_getElem?_getD, List.getElem?_eq_getElem hlt]
          exact List.getElem_mem hlt
end
end Sk

set_option Elab.async false
set_option linter.all false
set_option maxRecDepth 100000
set_option maxHeartbeats 4000000
namespace Sk
open PySem PySem.Spec PyProof.Rows L2
theorem list_tri : ∀ a b : List Nat, a < b ∨ a = b ∨ b < a
  | [], [] => .inr (.inl rfl)
  | [], b :: bs => .inl (List.nil_lt_cons b bs)
  | a :: as, [] => .inr (.inr (List.nil_lt_cons a as))
  | a :: as, b :: bs => by
    rcases Nat.lt_trichotomy a b with h | h | h
    · exact .inl (List.cons_lt_cons_iff.mpr (.inl h))
    · subst h
      rcases list_tri as bs with h | h | h
      · exact .inl (List.cons_lt_cons_iff.mpr (.inr ⟨rfl, h⟩))
      · exact .inr (.inl (by rw [h]))
      · exact .inr (.inr (List.cons_lt_cons_iff.mpr (.inr ⟨rfl, h⟩)))
    · exact .inr (.inr (List.cons_lt_cons_iff.mpr (.inl h)))
theorem rising_next : ∀ (p : Str) (l : List Str), risingS p l = true → (p :: l).Nodup → ∀ (i : Nat) (a b : Str), (p :: l)[i]? = some a → (p :: l)[i + 1]? = some b → a.cps.toList < b.cps.toList
  | p, [], _, _, i, a, b, ha, hb => by
    cases i <;> simp at hb
  | p, x :: r, h, hn, 0, a, b, ha, hb => by
    obtain rfl : p = a := Option.some.inj ha
    obtain rfl : x = b := Option.some.inj hb
    have h1 : (!ltCps x.cps.toList p.cps.toList && risingS x r) = true := h
    obtain ⟨h2, _⟩ := Bool.and_eq_true_iff.mp h1
    rw [PyProof.Rows.ltCps_eq, Bool.not_eq_true'] at h2
    have h3 := of_decide_eq_false h2
    rcases list_tri p.cps.toList x.cps.toList with h4 | h4 | h4
    · exact h4
    · have e : p = x := TL.ext_tl h4
      obtain ⟨h5, _⟩ := List.nodup_cons.mp hn
      exact (h5 (by rw [e]; exact List.mem_cons_self)).elim
    · exact (h3 h4).elim
  | p, x :: r, h, hn, i + 1, a, b, ha, hb => by
    have h1 : (!ltCps x.cps.toList p.cps.toList && risingS x r) = true := h
    obtain ⟨_, h2⟩ := Bool.and_eq_true_iff.mp h1
    exact rising_next x r h2 (List.nodup_cons.mp hn).2 i a b ha hb
theorem sorted_next (l : List Str) (h : sortedS l = true) (hn : l.Nodup) (i : Nat) (a b : Str) (ha : l[i]? = some a) (hb : l[i + 1]? = some b) : a.cps.toList < b.cps.toList := by
  cases l with
  | nil => cases ha
  | cons p r => exact rising_next p r h hn i a b ha hb
theorem put_mem {κ : Type} [DecidableEq κ] {kvs : List (κ × V)} {k : κ} {v : V} {q : κ × V} (h : q ∈ putK kvs k v) : q = (k, v) ∨ q ∈ kvs := by
  unfold putK at h
  split at h
  · obtain ⟨r, hr, e⟩ := List.mem_map.mp h
    by_cases c : r.1 = k
    · rw [if_pos c, c] at e
      exact .inl e.symm
    · rw [if_neg c] at e
      exact .inr (e ▸ hr)
  · rcases List.mem_append.mp h with h | h
    · exact .inr h
    · exact .inl (List.mem_singleton.mp h)
theorem put_keys {κ : Type} [DecidableEq κ] {kvs : List (κ × V)} {k : κ} {v : V} (hn : (kvs.map (·.1)).Nodup) : ((putK kvs k v).map (·.1)).Nodup := by
  cases e : valV kvs k with
  | none => exact nd_putK v hn e
  | some u =>
    have e2 : (putK kvs k v).map (·.1) = kvs.map (·.1) := by
      unfold putK
      rw [if_pos (by rw [valV_any, e]; rfl), List.map_map]
      refine List.map_congr_left fun r _ => ?_
      show (if r.1 = k then (r.1, v) else r).1 = r.1
      by_cases c : r.1 = k
      · rw [if_pos c]
      · rw [if_neg c]
    rw [e2]
    exact hn
theorem keys_texts {kvs : List (L2.Key × V)} (h : ∀ q ∈ kvs, ∃ z : Str, q.1 = Sum.inr z) : ∃ zs : List Str, kvs.map (·.1) = zs.map Sum.inr := by
  induction kvs with
  | nil => exact ⟨[], rfl⟩
  | cons q r ih =>
    obtain ⟨z, e⟩ := h q List.mem_cons_self
    obtain ⟨zs, e2⟩ := ih fun x hx => h x (List.mem_cons_of_mem _ hx)
    exact ⟨z :: zs, by rw [List.map_cons, List.map_cons, e, e2]⟩
theorem nodup_of_map {α β : Type} (f : α → β) : ∀ {l : List α}, (l.map f).Nodup → l.Nodup
  | [], _ => List.nodup_nil
  | a :: r, h => by
    obtain ⟨h1, h2⟩ := List.nodup_cons.mp h
    exact List.nodup_cons.mpr ⟨fun m => h1 (List.mem_map.mpr ⟨a, m, rfl⟩), nodup_of_map f h2⟩
theorem val_mem {κ : Type} [DecidableEq κ] : ∀ {kvs : List (κ × V)} {k : κ} {v : V}, valV kvs k = some v → (k, v) ∈ kvs
  | [], k, v, h => by cases h
  | p :: r, k, v, h => by
    by_cases e : p.1 = k
    · rw [valV_pos e] at h
      obtain rfl : p.2 = v := Option.some.inj h
      rw [← e]
      exact List.mem_cons_self
    · rw [valV_neg e] at h
      exact List.mem_cons_of_mem _ (val_mem h)
theorem val_some {κ : Type} [DecidableEq κ] {kvs : List (κ × V)} {k : κ} (h : k ∈ kvs.map (·.1)) : ∃ v, valV kvs k = some v := by
  cases e : valV kvs k with
  | none => exact (valV_not e h).elim
  | some v => exact ⟨v, rfl⟩
/-- an entry of the dict: a name's text; a tuple of the kind and a tag -/
def EnAt (H : Hp) (q : L2.Key × V) : Prop := ∃ (z : Str) (kd : Int) (g : Tg) (a : Addr) (u : V), q = (Sum.inr z, .ref a) ∧ okE (z, kd, g) ∧ H a = some (.tup [.int kd, u]) ∧ Rp H (tgT g) u
theorem EnAt.mono {H H' : Hp} {q : L2.Key × V} (k : Tups H H') (h : EnAt H q) : EnAt H' q := by
  obtain ⟨z, kd, g, a, u, e, ho, ha, hu⟩ := h
  exact ⟨z, kd, g, a, u, e, ho, k _ _ ha, Rp.mono k _ _ hu⟩
theorem cut_in (xs : List Int) {a b : Nat} (h : a ≤ b) (hb : b ≤ xs.length) {bi : Int} (e : bi = b) {ai : Int} (e2 : ai = a) : cutV (xs.map V.int) (some ai) (some bi) = ((xs.drop a).take (b - a)).map V.int := by
  subst e e2
  unfold cutV
  rw [HT.sIx_nat, HT.sIx_nat, List.length_map, Nat.min_eq_left (by omega : a ≤ xs.length), Nat.min_eq_left hb, List.map_take, List.map_drop]
theorem tuple_at {H : Hp} {a : Addr} {g : Tg} (h : H a = some (.tup [.int g.1, .int g.2.1, .int g.2.2])) : Rp H (tgT g) (.ref a) := ⟨a, _, rfl, h, _, _, rfl, rfl, _, _, rfl, rfl, _, _, rfl, rfl, rfl⟩
section
variable {P : Program} {w : World} {K : PySem.W.Frag} {mg : Str → Option Value} {base : Heap} {f : Addr} {fd : FuncData}
theorem sc__law_block : FnScope ["_law_some", "_law_level", "_law_many", "_law_entries", "_law_number", "_law_name_here"] ["_law_some"] (defScope s__law_block) := ⟨rfl, rfl, rfl, by decide +kernel, rfl, by decide +kernel, by decide +kernel⟩
theorem ok_block (F : FnP K "_law_block" s__law_block f fd) (T : Txt mg) (g_law_signs : Has P w K mg base CX0 1 "_law_signs" [] sp_signs) (g_law_tag : Has P w K mg base CX0 1 "_law_tag" ["_law_number"] sp_tag) (g_law_name : Has P w K mg base CX0 1 "_law_name" ["_law_number"] sp_name) :
    FnOk P w K mg base CX0 2 f fd ["_law_some"] sp_block := by
  refine ok0 F sc__law_block (fun vs H Q E h => ?_) (fun cdv A outer s H vs Q E hr h => ?_)
  · obtain ⟨L, ns, rfl, _⟩ := h
    rfl
  · obtain ⟨L, ns, rfl, hL, hl, hp, q⟩ := h
    have hu := hu_of hr
    refine ⟨_, (pss_cons (ps_if (pt_cmpR op_eq (pe_op op_mod (pe_ix ix_list (pv 0) pe_int (fun _ _ => rfl)) pe_int) pe_int (nomark _))
      (pss_one (ps_ret (pe_tup (pa_cons pe_int (pa_cons (pe_join pe_str (pe_lc (own := [("_law_number", 4)]) (g := gName 4) (tt := tYes) rfl sc__law_block.nd (pi_list (pe_slice sl_list (pv 0) (po_some pe_int) (po_some (pe_op op_add pe_int (pe_op op_mod (pe_ix ix_list (pv 0) pe_int (fun _ _ => rfl)) pe_int))))) (blkOk_by (own := [("_law_number", 4)]) (N := ["_law_some", "_law_level", "_law_many", "_law_entries", "_law_number", "_law_name_here"]) (sc := defScope s__law_block) (by decide +kernel)) (fun _ _ _ _ _ => (pg_name (i := 4) sc__law_block.nd rfl (Or.inl rfl))) (fun _ _ _ _ _ => pts_nil) (fun _ _ _ _ _ => (pe_ix ix_str (pe_has0 g_law_signs hr pass0) (pe_op op_mod (pv 4) pe_int) (fun _ _ => rfl))))) pa_nil)))))
      pss_nil)
    (pss_cons (ps_if (pt_cmpR op_eq (pe_op op_mod (pe_ix ix_list (pv 0) pe_int (fun _ _ => rfl)) pe_int) pe_int (nomark _))
      (pss_cons (ps_set (i := 1) sc__law_block.nd rfl (Or.inl rfl) (pe_op op_add pe_int (pe_op op_mod (pe_ix ix_list (pv 0) pe_int (fun _ _ => rfl)) pe_int)))
    (pss_cons (ps_set (i := 2) sc__law_block.nd rfl (Or.inl rfl) (pe_callB (call_max2 rfl) rfl T.n_max boot_max (pa_cons (pe_callTy call_int1 rfl T.n_int boot_tint (pa_cons (pe_cmpR op_gt (pv 1) pe_int (nomark _)) pa_nil)) (pa_cons (pe_op op_mod (pe_ix ix_list (pv 0) pe_int (fun _ _ => rfl)) pe_int) pa_nil))))
    (pss_one (ps_ret (pe_tup (pa_cons pe_int (pa_cons (pv 1) (pa_cons (pe_callTy call_tuple_of rfl T.n_tuple boot_ttup (pa_cons (pe_lc (own := [("_law_number", 4)]) (g := gName 4) (tt := tYes) rfl sc__law_block.nd (pi_list (pe_slice sl_list (pv 0) (po_some pe_int) (po_some (pe_op op_add pe_int (pv 2))))) (blkOk_by (own := [("_law_number", 4)]) (N := ["_law_some", "_law_level", "_law_many", "_law_entries", "_law_number", "_law_name_here"]) (sc := defScope s__law_block) (by decide +kernel)) (fun _ _ _ _ _ => (pg_name (i := 4) sc__law_block.nd rfl (Or.inl rfl))) (fun _ _ _ _ _ => pts_nil) (fun _ _ _ _ _ => (pe_has g_law_tag hr pass0 (pa_cons (pv 4) pa_nil)))) pa_nil)) pa_nil))))))))
      pss_nil)
    (pss_cons (ps_set (i := 3) sc__law_block.nd rfl (Or.inr rfl) pe_dnewK)
    (pss_cons (ps_for PassesOwn.never rfl (pi_list (pe_slice sl_list (pv 0) (po_some pe_int) (po_some (pe_op op_add pe_int (pe_op op_mod (pe_ix ix_list (pv 0) pe_int (fun _ _ => rfl)) pe_int))))) (pg_name (i := 4) sc__law_block.nd rfl (Or.inl rfl))
      (pss_one (ps_dput hu (pv 3) (pe_has g_law_name hr pass0 (pa_cons (pv 4) pa_nil)) (pe_tup (pa_cons (pe_op op_add pe_int (pe_op op_mod (pe_op op_fdiv (pv 4) pe_int) pe_int)) (pa_cons (pe_has g_law_tag hr pass0 (pa_cons (pe_op op_mod (pe_op op_mul (pv 4) pe_int) pe_int) pa_nil)) pa_nil))) rfl)))
    (pss_one (ps_ret (pe_tup (pa_cons pe_int (pa_cons (pe_callTy call_tuple_of rfl T.n_tuple boot_ttup (pa_cons (pe_lc (own := [("_law_name_here", 5)]) (g := gName 5) (tt := tYes) rfl sc__law_block.nd (pi_list (pe_callB (call_sortedD rfl) rfl T.n_sorted boot_sorted (pa_cons (pv 3) pa_nil))) (blkOk_by (own := [("_law_name_here", 5)]) (N := ["_law_some", "_law_level", "_law_many", "_law_entries", "_law_number", "_law_name_here"]) (sc := defScope s__law_block) (by decide +kernel)) (fun _ _ _ _ _ => (pg_name (i := 5) sc__law_block.nd rfl (Or.inl rfl))) (fun _ _ _ _ _ => pts_nil) (fun _ _ _ _ _ => (pe_op (r := rCatA K) op_catA (pe_tup (pa_cons (pv 5) pa_nil)) (pe_dget hu (pv 3) (pv 5) (fun _ _ => rfl))))) pa_nil)) pa_nil))))))))), ?_⟩
    have hLs : SqL K H L (ns.map V.int) := SqL.of hL
    obtain ⟨n0, h0⟩ : ∃ n, ns[0]? = some n := ⟨_, List.getElem?_eq_getElem (by omega)⟩
    obtain ⟨n1, h1⟩ : ∃ n, ns[1]? = some n := ⟨_, List.getElem?_eq_getElem (by omega)⟩
    obtain ⟨n2, h2⟩ : ∃ n, ns[2]? = some n := ⟨_, List.getElem?_eq_getElem (by omega)⟩
    have p1 := hp n1 (getE h1)
    have p2 := hp n2 (getE h2)
    unfold posR at p1 p2
    have at0 : atI (ns.map V.int) 0 = some (.int n0) := atI_nat (j := 0) (by rw [List.getElem?_map, h0]; rfl)
    have at1 : atI (ns.map V.int) 1 = some (.int n1) := atI_nat (j := 1) (by rw [List.getElem?_map, h1]; rfl)
    have at2 : atI (ns.map V.int) 2 = some (.int n2) := atI_nat (j := 2) (by rw [List.getElem?_map, h2]; rfl)
    refine ⟨_, rfl, L, _, _, _, rfl, rfl, hLs, at0, _, _, rfl, rfl, lt0 rfl, rfl, _, rfl, ite2 (fun c => ?_) (fun c => ?_)⟩
    · -- a piece
      obtain ⟨k, hk⟩ : ∃ k : Nat, n1 % 8 = k := ⟨(n1 % 8).toNat, by omega⟩
      have hcut : cutV (ns.map V.int) (some 2) (some (3 + n1 % 8)) = ((ns.drop 2).take (3 + k - 2)).map V.int := cut_in ns (a := 2) (b := 3 + k) (by omega) (by omega) (by omega) rfl
      refine ⟨⟨_, rfl⟩, _, rfl, _, rfl, _, rfl, L, _, _, _, rfl, rfl, hLs, at1, _, _, rfl, rfl, lt0 rfl, _, _, rfl, rfl, _, rfl, L, _, rfl, hLs, fun S hS => ?_⟩
      rw [hcut]
      have s1 : Same H (upd H S (.lst (((ns.drop 2).take (3 + k - 2)).map V.int))) := same_upd hS
      generalize hms : (ns.drop 2).take (3 + k - 2) = ms at s1 ⊢
      have hml : ms.length = 1 + k := by rw [← hms, List.length_take, List.length_drop]; omega
      have hmp : ∀ x ∈ ms, posR x := fun x hx => hp x (List.mem_of_mem_drop (List.mem_of_mem_take (hms ▸ hx)))
      refine ⟨S, rfl, ⟨_, SqL.of upd_same⟩, fun D hD => ?_⟩
      refine lc_pure walk_list (fun i => .str ⟨#[sgL.getD (ms.getD i 0 % 94).toNat 0]⟩) hD (by rw [List.length_map]; have := sigLE; omega) (fun H1 s2 => SqL.of (s2 _ _ upd_same)) (fun i x H1 H' kk hi s2 y kq => ?_) (fun H1 s2 e => ?_)
      · obtain ⟨rfl, hx⟩ := y
        rw [List.length_map] at hi
        rw [List.getElem?_map, List.getElem?_eq_getElem hi] at hx
        obtain rfl : V.int ms[i] = x := Option.some.inj hx
        have eg : ms.getD i 0 = ms[i] := by rw [List.getD_eq_getElem?_getD, List.getElem?_eq_getElem hi]; rfl
        have z := kq H' (Same.refl _)
        rw [eg] at z
        have pm := hmp ms[i] (List.getElem_mem hi)
        unfold posR at pm
        have hlt : (ms[i] % 94).toNat < sgL.length := by rw [sgL_len]; omega
        have hat : atI tSIGNS.cps.toList (ms[i] % 94) = some (sgL.getD (ms[i] % 94).toNat 0) := by
          have e3 : sgL[(ms[i] % 94).toNat]? = some (sgL.getD (ms[i] % 94).toNat 0) := by
            rw [List.getD_eq_getElem?_getD, List.getElem?_eq_getElem hlt]
            rfl
          have e4 := atI_nat e3
          rw [show (((ms[i] % 94).toNat : Nat) : Int) = ms[i] % 94 by omega] at e4
          exact e4
        refine ⟨rfl, rfl, _, rfl, _, _, rfl, rfl, lt0 rfl, tSIGNS, _, _, rfl, rfl, by decide +kernel, hat, z⟩
      · rw [List.length_map, hml] at e
        have e2 : ((List.range (1 + k)).map fun i : Nat => V.str ⟨#[sgL.getD (ms.getD i 0 % 94).toNat 0]⟩) = (((List.range (1 + k)).map fun i : Nat => sgL.getD (ms.getD i 0 % 94).toNat 0).map fun c => (⟨#[c]⟩ : Str)).map V.str := by
          rw [List.map_map, List.map_map]
          rfl
        rw [e2] at e
        generalize hcs : ((List.range (1 + k)).map fun i : Nat => sgL.getD (ms.getD i 0 % 94).toNat 0) = cs at e
        have hcl : cs.length = 1 + k := by rw [← hcs, List.length_map, List.length_range]
        refine ⟨_, D, _, rfl, rfl, .inl (SqL.of e), ?_, ?_⟩
        · rw [len_ones, List.length_map]
          show cs.length + cs.length * 0 ≤ 16777216
          omega
        · rw [join_ones]
          refine ⟨(by show 2 ≤ sizeLine; decide), fun t ht => ?_⟩
          refine q _ (.ref t) (.piece ⟨cs.toArray⟩) ((s1.trans s2).trans (same_upd ht)) ⟨t, _, rfl, upd_same, _, _, rfl, rfl, _, _, rfl, rfl, rfl⟩ ⟨?_, ?_, fun c hc => ?_⟩
          · show 1 ≤ cs.toArray.size
            rw [List.size_toArray]
            omega
          · show cs.toArray.size ≤ 8
            rw [List.size_toArray]
            omega
          · have hc2 : c ∈ cs := hc
            rw [← hcs] at hc2
            obtain ⟨i, hi, rfl⟩ := List.mem_map.mp hc2
            have hi2 := List.mem_range.mp hi
            have eg : ms.getD i 0 = ms[i] := by rw [List.getD_eq_getElem?_getD, List.getElem?_eq_getElem (by omega)]; rfl
            have pm := hmp ms[i] (List.getElem_mem (by omega))
            unfold posR at pm
            have hlt : (ms.getD i 0 % 94).toNat < sgL.length := by
              rw [eg, sgL_len]
              omega
            rw [List.getD_eq_getElem?_getD, List.getElem?_eq_getElem hlt]
            exact List.getElem_mem hlt
    · refine ⟨_, rfl, L, _, _, _, rfl, rfl, hLs, at0, _, _, rfl, rfl, lt0 rfl, rfl, _, rfl, ite2 (fun c1 => ?_) (fun c1 => ?_)⟩
      · -- a row
        refine ⟨_, rfl, L, _, _, _, rfl, rfl, hLs, at1, _, _, rfl, rfl, lt0 rfl, _, _, rfl, rfl, ?_⟩
        obtain ⟨b1, hb1⟩ : ∃ b1 : Int, (if decide (1 < 1 + n1 % 9) = true then (1 : Int) else 0) = b1 := ⟨_, rfl⟩
        have hb1c : (1 < 1 + n1 % 9 ∧ b1 = 1) ∨ (¬ 1 < 1 + n1 % 9 ∧ b1 = 0) := by
          by_cases z : 1 < 1 + n1 % 9
          · rw [decide_eq_true z, if_pos rfl] at hb1
            exact .inl ⟨z, hb1.symm⟩
          · rw [decide_eq_false z, if_neg Bool.false_ne_true] at hb1
            exact .inr ⟨z, hb1.symm⟩
        refine ⟨_, rfl, _, _, rfl, rfl, .inr ⟨_, rfl, ?_⟩⟩
        rw [hb1]
        refine ⟨_, rfl, L, _, _, _, rfl, rfl, hLs, at2, _, _, rfl, rfl, lt0 rfl, b1, n2 % 9, rfl, ?_⟩
        obtain ⟨M, hM⟩ : ∃ M : Nat, (if n2 % 9 > b1 then n2 % 9 else b1) = (M : Int) := by
          by_cases z : n2 % 9 > b1
          · rw [if_pos z]
            exact ⟨(n2 % 9).toNat, by omega⟩
          · rw [if_neg z]
            exact ⟨b1.toNat, by omega⟩
        have hM2 : M ≤ 8 ∧ (M = 0 → 1 + n1 % 9 ≤ 1) := by
          by_cases z : n2 % 9 > b1
          · rw [if_pos z] at hM
            omega
          · rw [if_neg z] at hM
            omega
        rw [hM]
        have hcut : cutV (ns.map V.int) (some 3) (some (3 + (M : Int))) = ((ns.drop 3).take (3 + M - 3)).map V.int := cut_in ns (a := 3) (b := 3 + M) (by omega) (by omega) (by omega) rfl
        refine ⟨_, rfl, _, rfl, _, rfl, _, rfl, _, _, rfl, rfl, _, rfl, L, _, rfl, hLs, fun S hS => ?_⟩
        rw [hcut]
        have s1 : Same H (upd H S (.lst (((ns.drop 3).take (3 + M - 3)).map V.int))) := same_upd hS
        generalize hms : (ns.drop 3).take (3 + M - 3) = ms at s1 ⊢
        have hml : ms.length = M := by rw [← hms, List.length_take, List.length_drop]; omega
        have hmp : ∀ x ∈ ms, posR x := fun x hx => hp x (List.mem_of_mem_drop (List.mem_of_mem_take (hms ▸ hx)))
        refine ⟨S, rfl, ⟨_, SqL.of upd_same⟩, fun D hD => ?_⟩
        have ne : ∀ {b : Addr} {o : HO}, (upd H S (.lst (ms.map V.int))) b = some o → b ≠ D := fun e => ne_of_none e hD
        refine lc_it walk_list (fun i H' => Same (upd H S (.lst (ms.map V.int))) H' ∧ ∃ (gs : List Tg) (xs : List V), gs.length = i ∧ H' D = some (.lst xs) ∧ RpAll H' (gs.map tgT) xs ∧ ∀ g ∈ gs, okG g)
          ⟨fun b o e => by rw [upd_ne (ne e)]; exact e, [], [], rfl, upd_same, rfl, fun g hg => by cases hg⟩ (fun i H' _ pv => SqL.of (pv.1 _ _ upd_same)) (fun i x H1 H' hi pv y => ?_) (fun H1 pv => ?_)
        · obtain ⟨rfl, hx⟩ := y
          obtain ⟨s2, gs, xs, e1, e2, e3, e4⟩ := pv
          rw [List.length_map] at hi
          rw [List.getElem?_map, List.getElem?_eq_getElem hi] at hx
          obtain rfl : V.int ms[i] = x := Option.some.inj hx
          refine ⟨rfl, _, rfl, ms[i], rfl, hmp _ (List.getElem_mem hi), fun H2 a g s3 ha hg => ?_⟩
          have tu : Tups H2 (upd H2 D (.lst (xs ++ [.ref a]))) := fun b ys e => by
            rw [upd_ne (ne_of e (s3 _ _ e2) (by intro z; cases z))]
            exact e
          refine ⟨xs, s3 _ _ e2, ?_, fun b o e => ?_, gs ++ [g], xs ++ [.ref a], by rw [List.length_append, e1]; rfl, upd_same, ?_, fun g2 hg2 => ?_⟩
          · rw [RpAll.length e3, List.length_map]
            have := sigLE
            omega
          · rw [upd_ne (ne e)]
            exact s3 _ _ (s2 _ _ e)
          · rw [List.map_append]
            exact RpAll.snoc (Rp.mono tu _ _ (tuple_at ha)) (RpAll.mono (Tups.trans (Tups.of s3) tu) _ _ e3)
          · rcases List.mem_append.mp hg2 with z | z
            · exact e4 g2 z
            · rw [List.mem_singleton.mp z]
              exact hg
        · obtain ⟨s2, gs, xs, e1, e2, e3, e4⟩ := pv
          rw [List.length_map] at e1
          refine ⟨D, xs, rfl, .inl ⟨SqL.of e2, fun t ht => ?_⟩⟩
          have s3 : Same H1 (upd H1 t (.tup xs)) := same_upd ht
          refine ⟨(by show 3 ≤ sizeLine; decide), fun t2 ht2 => ?_⟩
          have s4 : Same (upd H1 t (.tup xs)) (upd (upd H1 t (.tup xs)) t2 (.tup [.int 1, .int (1 + n1 % 9), .ref t])) := same_upd ht2
          have s5 := s3.trans s4
          refine q _ (.ref t2) (.row (1 + n1 % 9) gs) ((s1.trans s2).trans s5) ⟨t2, _, rfl, upd_same, _, _, rfl, rfl, _, _, rfl, rfl, _, _, rfl, ⟨t, xs, rfl, s4 _ _ upd_same, RpAll.mono (Tups.of s5) _ _ e3⟩, rfl⟩ ⟨by omega, by omega, by omega, fun z => ?_, e4⟩
          exact hM2.2 (by omega)
      · -- a folder
        obtain ⟨k, hk⟩ : ∃ k : Nat, n1 % 17 = k := ⟨(n1 % 17).toNat, by omega⟩
        have hcut : cutV (ns.map V.int) (some 2) (some (2 + n1 % 17)) = ((ns.drop 2).take (2 + k - 2)).map V.int := cut_in ns (a := 2) (b := 2 + k) (by omega) (by omega) (by omega) rfl
        refine fun E0 hE0 => ?_
        have s0 : Same H (upd H E0 (.dK [])) := same_upd hE0
        refine ⟨_, rfl, _, rfl, _, rfl, L, _, _, _, rfl, rfl, SqL.of (s0 _ _ hL), at1, _, _, rfl, rfl, lt0 rfl, _, _, rfl, rfl, _, rfl, L, _, rfl, SqL.of (s0 _ _ hL), fun S hS => ?_⟩
        rw [hcut]
        have s1 : Same (upd H E0 (.dK [])) (upd (upd H E0 (.dK [])) S (.lst (((ns.drop 2).take (2 + k - 2)).map V.int))) := same_upd hS
        generalize hms : (ns.drop 2).take (2 + k - 2) = ms at s1 ⊢
        have hml : ms.length = k := by rw [← hms, List.length_take, List.length_drop]; omega
        have hmp : ∀ x ∈ ms, posR x := fun x hx => hp x (List.mem_of_mem_drop (List.mem_of_mem_take (hms ▸ hx)))
        have eE0 := s1 _ _ (upd_same (H := H) (a := E0) (o := .dK []))
        have nSE : S ≠ E0 := (ne_of_none upd_same hS).symm
        refine ⟨S, rfl, ⟨_, SqL.of upd_same⟩, for_list (K := K) (a := S) (xs := ms.map V.int)
          (fun i σ H' => ∃ (u : Option V) (kvs : List (L2.Key × V)), σ = [some (.ref L), none, none, some (.ref E0), u, none] ∧ Same H H' ∧ H' S = some (.lst (ms.map V.int)) ∧ H' E0 = some (.dK kvs) ∧ kvs.length ≤ i ∧ (kvs.map (·.1)).Nodup ∧ ∀ x ∈ kvs, EnAt H' x)
          ⟨none, [], rfl, s0.trans s1, upd_same, eE0, Nat.zero_le _, List.nodup_nil, fun x hx => by cases hx⟩ (fun i σ H' _ ⟨_, _, _, _, e, _⟩ => SqL.of e) ?_ ?_⟩
        · rintro i x σ H1 hi ⟨u, kvs, rfl, s2, eS, eE, hkl, hnd, hen⟩
          have hi2 : i < ms.length := by
            have z := (List.getElem?_eq_some_iff.mp hi).1
            rw [List.length_map] at z
            exact z
          rw [List.getElem?_map, List.getElem?_eq_getElem hi2] at hi
          obtain rfl : V.int ms[i] = x := Option.some.inj hi
          have pm := hmp ms[i] (List.getElem_mem hi2)
          unfold posR at pm
          refine ⟨_, rfl, _, _, rfl, rfl, ⟨by decide, by decide⟩, _, _, rfl, rfl, lt0 rfl, _, _, rfl, rfl, _, rfl, _, _, rfl, rfl, .inr ⟨by decide, by decide⟩, _, _, rfl, rfl, lt0 rfl, ms[i] * 31 % 2147483647, rfl, (by unfold posR; omega), fun H2 a g s3 ha hg => ?_⟩
          refine ⟨(by show 2 ≤ sizeLine; decide), fun t ht => ?_⟩
          have s4 : Same H2 (upd H2 t (.tup [.int (1 + ms[i] / 7 % 2), .ref a])) := same_upd ht
          refine ⟨_, rfl, _, rfl, ms[i], rfl, pm, fun H3 z s5 hz => ?_⟩
          have s6 := (s3.trans s4).trans s5
          refine ⟨E0, _, rfl, DPut.k (k := Sum.inr z) (s6 _ _ eE) (small1000 (by omega)), ?_⟩
          have tu : Tups H3 (upd H3 E0 (.dK (putK kvs (Sum.inr z) (.ref t)))) := fun b ys e => by
            rw [upd_ne (ne_of e (s6 _ _ eE) (by intro z; cases z))]
            exact e
          refine ⟨some (.int ms[i]), putK kvs (Sum.inr z) (.ref t), rfl, fun b o e => ?_, ?_, upd_same, Nat.le_trans (length_putK _ _ _) (by omega), put_keys hnd, fun x hx => ?_⟩
          · rw [upd_ne (ne_of_none e hE0)]
            exact s6 _ _ (s2 _ _ e)
          · rw [upd_ne nSE]
            exact s6 _ _ eS
          · rcases put_mem hx with rfl | hx
            · exact ⟨z, 1 + ms[i] / 7 % 2, g, t, .ref a, rfl, ⟨hz, by show 1 ≤ 1 + ms[i] / 7 % 2; omega, by show 1 + ms[i] / 7 % 2 ≤ 2; omega, hg⟩, tu _ _ (s5 _ _ upd_same), Rp.mono (Tups.trans (Tups.of (s4.trans s5)) tu) _ _ (tuple_at ha)⟩
            · exact EnAt.mono (Tups.trans (Tups.of s6) tu) (hen x hx)
        · rintro σ H1 ⟨u, kvs, rfl, s2, eS, eE, hkl, hnd, hen⟩
          rw [List.length_map, hml] at hkl
          obtain ⟨zs, hzs⟩ := keys_texts (kvs := kvs) fun x hx => by
            obtain ⟨z, kd, g, a, u, e, _⟩ := hen x hx
            exact ⟨z, by rw [e]⟩
          have hzl : zs.length = kvs.length := by
            have := congrArg List.length hzs
            rw [List.length_map, List.length_map] at this
            exact this.symm
          have hznd : zs.Nodup := by
            rw [hzs] at hnd
            exact nodup_of_map _ hnd
          refine ⟨_, rfl, E0, kvs, zs, rfl, .inl eE, hzs, by omega, fun ys Y hperm hsort hY => ?_⟩
          have s3 : Same H1 (upd H1 Y (.lst (ys.map V.str))) := same_upd hY
          have hynd : ys.Nodup := hperm.nodup_iff.mpr hznd
          have hyl : ys.length = zs.length := hperm.length_eq
          have eE1 := s3 _ _ eE
          refine ⟨Y, rfl, ⟨_, SqL.of upd_same⟩, fun D hD => ?_⟩
          have ne : ∀ {b : Addr} {o : HO}, (upd H1 Y (.lst (ys.map V.str))) b = some o → b ≠ D := fun e => ne_of_none e hD
          refine lc_it walk_list (fun i H' => Same (upd H1 Y (.lst (ys.map V.str))) H' ∧ ∃ (es : List En) (xs : List V), es.map (·.1) = ys.take i ∧ H' D = some (.lst xs) ∧ RpAll H' (es.map enT) xs ∧ ∀ e ∈ es, okE e)
            ⟨fun b o e => by rw [upd_ne (ne e)]; exact e, [], [], rfl, upd_same, rfl, fun g hg => by cases hg⟩ (fun i H' _ pv => SqL.of (pv.1 _ _ upd_same)) (fun i x H2 H' hi pv y => ?_) (fun H2 pv => ?_)
          · obtain ⟨rfl, hx⟩ := y
            obtain ⟨s4, es, xs, e1, e2, e3, e4⟩ := pv
            rw [List.length_map] at hi
            rw [List.getElem?_map, List.getElem?_eq_getElem hi] at hx
            obtain rfl : V.str ys[i] = x := Option.some.inj hx
            have hym : ys[i] ∈ zs := hperm.mem_iff.mp (List.getElem_mem hi)
            have hkm : (Sum.inr ys[i] : L2.Key) ∈ kvs.map (·.1) := by
              rw [hzs]
              exact List.mem_map.mpr ⟨_, hym, rfl⟩
            obtain ⟨v, hv⟩ := val_some hkm
            obtain ⟨z, kd, g, a, u, eq, hoe, ha, hu2⟩ := hen _ (val_mem hv)
            have eq1 : (Sum.inr ys[i] : L2.Key) = Sum.inr z := congrArg Prod.fst eq
            have eq2 : v = .ref a := congrArg Prod.snd eq
            obtain rfl : ys[i] = z := Sum.inr.inj eq1
            subst eq2
            have tH := s3.trans s4
            refine ⟨rfl, _, rfl, (by show 1 ≤ sizeLine; decide), fun t ht => ?_⟩
            have s5 : Same H' (upd H' t (.tup [.str ys[i]])) := same_upd ht
            have g0 := DGet.k (k := Sum.inr ys[i]) (s5 _ _ (s4 _ _ eE1))
            rw [hv] at g0
            refine ⟨_, rfl, _, rfl, E0, .ref a, rfl, g0, t, a, [.str ys[i]], [.int kd, u], rfl, rfl, SqT.of upd_same, SqT.of (s5 _ _ (tH _ _ ha)), (by show 3 ≤ sizeLine; decide), (fun z => nomatch z), (fun _ z => nomatch z), fun _ _ r hr3 => ?_⟩
            have s6 : Same (upd H' t (.tup [.str ys[i]])) (upd (upd H' t (.tup [.str ys[i]])) r (.tup ([.str ys[i]] ++ [.int kd, u]))) := same_upd hr3
            have s7 := s5.trans s6
            have eD := s7 _ _ e2
            have tu : Tups (upd (upd H' t (.tup [.str ys[i]])) r (.tup ([.str ys[i]] ++ [.int kd, u]))) (upd (upd (upd H' t (.tup [.str ys[i]])) r (.tup ([.str ys[i]] ++ [.int kd, u]))) D (.lst (xs ++ [.ref r]))) := fun b ws e => by
              rw [upd_ne (ne_of e eD (by intro z; cases z))]
              exact e
            refine ⟨xs, eD, ?_, fun b o e => ?_, es ++ [(ys[i], kd, g)], xs ++ [.ref r], ?_, upd_same, ?_, fun e he => ?_⟩
            · rw [RpAll.length e3, List.length_map]
              have := congrArg List.length e1
              rw [List.length_map, List.length_take] at this
              have := sigLE
              omega
            · rw [upd_ne (ne e)]
              exact s7 _ _ (s4 _ _ e)
            · rw [List.map_append, e1, take_snoc (List.getElem?_eq_getElem hi)]
              rfl
            · rw [List.map_append]
              refine RpAll.snoc ?_ (RpAll.mono (Tups.trans (Tups.of s7) tu) _ _ e3)
              exact ⟨r, _, rfl, tu _ _ upd_same, _, _, rfl, rfl, _, _, rfl, rfl, _, _, rfl, Rp.mono (Tups.trans (Tups.of (tH.trans s7)) tu) _ _ hu2, rfl⟩
            · rcases List.mem_append.mp he with z | z
              · exact e4 e z
              · rw [List.mem_singleton.mp z]
                exact hoe
          · obtain ⟨s4, es, xs, e1, e2, e3, e4⟩ := pv
            rw [List.length_map, List.take_length] at e1
            have hel : es.length = ys.length := by
              have := congrArg List.length e1
              rw [List.length_map] at this
              exact this
            refine ⟨D, xs, rfl, .inl ⟨SqL.of e2, fun t ht => ?_⟩⟩
            have s5 : Same H2 (upd H2 t (.tup xs)) := same_upd ht
            refine ⟨(by show 2 ≤ sizeLine; decide), fun t2 ht2 => ?_⟩
            have s6 : Same (upd H2 t (.tup xs)) (upd (upd H2 t (.tup xs)) t2 (.tup [.int 2, .ref t])) := same_upd ht2
            have s7 := s5.trans s6
            refine q _ (.ref t2) (.folder es) (((s2.trans s3).trans s4).trans s7) ⟨t2, _, rfl, upd_same, _, _, rfl, rfl, _, _, rfl, ⟨t, xs, rfl, s6 _ _ upd_same, RpAll.mono (Tups.of s7) _ _ e3⟩, rfl⟩ ⟨by omega, e4, fun i a b ha hb => ?_⟩
            refine sorted_next ys hsort hynd i a.1 b.1 ?_ ?_
            · rw [← e1, List.getElem?_map, ha]
              rfl
            · rw [← e1, List.getElem?_map, hb]
              rfl
end
end Sk

set_option Elab.async false
set_option linter.all false
set_option maxRecDepth 100000
set_option maxHeartbeats 4000000
namespace Sk
open PySem PySem.Spec PyProof.Rows L2
theorem enTold_len2 (e : En) : (enTold e).length = e.1.length + 2 := by
  unfold enTold
  rw [List.length_append, nums_len]
  rfl
theorem flat_take2 {es : List En} {i : Nat} {e : En} (h : es[i]? = some e) : (es.take (i + 1)).flatMap enTold = (es.take i).flatMap enTold ++ enTold e := by
  rw [take_snoc h, List.flatMap_append]
  simp
theorem flat_len2 : ∀ (l : List En), (∀ e ∈ l, okE e) → (l.flatMap enTold).length ≤ 10 * l.length
  | [], _ => by simp
  | e :: r, h => by
    have h1 := flat_len2 r fun x hx => h x (List.mem_cons_of_mem _ hx)
    have h2 := (h e List.mem_cons_self).1.2.1
    rw [List.flatMap_cons, List.length_append, List.length_cons, enTold_len2]
    omega
theorem same_upd2 {H : Hp} {p : Addr} {o : HO} (hp : H p = none) : Same H (upd H p o) := fun b u e => by
  rw [upd_ne (ne_of_none e hp)]
  exact e
theorem nums_range (z : Str) : ((List.range z.cps.size).map fun i => V.int ((sgL.idxOf (z.cps.toList.getD i 0) : Nat) : Int)) = (nums z).map V.int := by
  have := map_range z.cps.toList (fun c => V.int ((sgL.idxOf c : Nat))) (fun i => .int ((sgL.idxOf (z.cps.toList.getD i 0) : Nat))) (fun i x hx => by rw [List.getD_eq_getElem?_getD, hx]; rfl)
  rw [show z.cps.size = z.cps.toList.length from Array.length_toList.symm, this]
  unfold nums
  rw [List.map_map]
  rfl
section
variable {P : Program} {w : World} {K : PySem.W.Frag} {mg : Str → Option Value} {base : Heap} {f : Addr} {fd : FuncData}
theorem sc__law_told : FnScope ["_law_block_here", "_law_told_here", "_law_name_here", "_law_kind", "_law_tag_here", "_law_sign"] ["_law_block_here"] (defScope s__law_told) := ⟨rfl, rfl, rfl, by decide +kernel, rfl, by decide +kernel, by decide +kernel⟩
theorem ok_law_told (F : FnP K "_law_told" s__law_told f fd) (T : Txt mg) (g_law_signs : Has P w K mg base CX0 1 "_law_signs" [] sp_signs) : FnOk P w K mg base CX0 2 f fd ["_law_block_here"] sp_told_of := by
  refine ok0 F sc__law_told (fun vs H Q E h => ?_) (fun cdv A outer s H vs Q E hr h => ?_)
  · obtain ⟨b, v, rfl, _⟩ := h
    rfl
  · obtain ⟨b, v, rfl, hv, hk, q⟩ := h
    refine ⟨_, (pss_cons (ps_if (pt_cmpR op_eq (pe_ix ix_tup (pv 0) pe_int (fun _ _ => rfl)) pe_int (nomark _))
      (pss_one (ps_ret (pe_lc (own := [("_law_sign", 5)]) (g := gName 5) (tt := tYes) rfl sc__law_told.nd (pi_str (pe_ix ix_tup (pv 0) pe_int (fun _ _ => rfl))) (blkOk_by (own := [("_law_sign", 5)]) (N := ["_law_block_here", "_law_told_here", "_law_name_here", "_law_kind", "_law_tag_here", "_law_sign"]) (sc := defScope s__law_told) (by decide +kernel)) (fun _ _ _ _ _ => (pg_name (i := 5) sc__law_told.nd rfl (Or.inl rfl))) (fun _ _ _ _ _ => pts_nil) (fun _ _ _ _ _ => (pe_m1 PySem.F.slot_str_index PySem.F.type_str_index mt_sindex (pe_has0 g_law_signs hr pass0) (pv 5))))))
      pss_nil)
    (pss_cons (ps_if (pt_cmpR op_eq (pe_ix ix_tup (pv 0) pe_int (fun _ _ => rfl)) pe_int (nomark _))
      (pss_one (ps_ret (pe_op op_cat (pe_lst (pa_cons (pe_ix ix_tup (pv 0) pe_int (fun _ _ => rfl)) pa_nil)) (pe_lc (own := [("_law_tag_here", 4)]) (g := gName 4) (tt := tYes) rfl sc__law_told.nd (pi_tup (pe_ix ix_tup (pv 0) pe_int (fun _ _ => rfl))) (blkOk_by (own := [("_law_tag_here", 4)]) (N := ["_law_block_here", "_law_told_here", "_law_name_here", "_law_kind", "_law_tag_here", "_law_sign"]) (sc := defScope s__law_told) (by decide +kernel)) (fun _ _ _ _ _ => (pg_name (i := 4) sc__law_told.nd rfl (Or.inl rfl))) (fun _ _ _ _ _ => pts_nil) (fun _ _ _ _ _ => (pe_ix (r := rIxT K) ix_tup (pv 4) pe_int (fun _ _ => rfl)))))))
      pss_nil)
    (pss_cons (ps_set (i := 1) sc__law_told.nd rfl (Or.inl rfl) (pe_lst pa_nil))
    (pss_cons (ps_for PassesOwn.never rfl (pi_tup (pe_ix ix_tup (pv 0) pe_int (fun _ _ => rfl))) (pg_tup rfl (pgs_cons (pg_name (i := 2) sc__law_told.nd rfl (Or.inl rfl)) (pgs_cons (pg_name (i := 3) sc__law_told.nd rfl (Or.inl rfl)) (pgs_cons (pg_name (i := 4) sc__law_told.nd rfl (Or.inl rfl)) pgs_nil))))
      (pss_one (ps_set (i := 1) sc__law_told.nd rfl (Or.inl rfl) (pe_op op_cat (pe_op op_cat (pv 1) (pe_lc (own := [("_law_sign", 5)]) (g := gName 5) (tt := tYes) rfl sc__law_told.nd (pi_str (pv 2)) (blkOk_by (own := [("_law_sign", 5)]) (N := ["_law_block_here", "_law_told_here", "_law_name_here", "_law_kind", "_law_tag_here", "_law_sign"]) (sc := defScope s__law_told) (by decide +kernel)) (fun _ _ _ _ _ => (pg_name (i := 5) sc__law_told.nd rfl (Or.inl rfl))) (fun _ _ _ _ _ => pts_nil) (fun _ _ _ _ _ => (pe_m1 PySem.F.slot_str_index PySem.F.type_str_index mt_sindex (pe_has0 g_law_signs hr pass0) (pv 5))))) (pe_lst (pa_cons (pv 3) (pa_cons (pe_ix ix_tup (pv 4) pe_int (fun _ _ => rfl)) pa_nil)))))))
    (pss_one (ps_ret (pv 1))))))), ?_⟩
    cases b with
    | piece z =>
      obtain ⟨a, rfl, ha⟩ := hv.piece
      obtain ⟨k1, k2, k3⟩ := hk
      refine ⟨_, rfl, a, _, _, .int 0, rfl, rfl, SqT.of ha, rfl, rfl, _, rfl, iteT ?_⟩
      refine ⟨_, rfl, a, _, _, .str z, rfl, rfl, SqT.of ha, rfl, _, rfl, fun D hD => ?_⟩
      refine lc_pure walk_str (fun i => .int ((sgL.idxOf (z.cps.toList.getD i 0) : Nat))) hD (Nat.le_trans k2 (by decide)) (fun _ _ => trivial) (fun i x H1 H' k hi s1 y kk => ?_) (fun H1 s1 e => q H1 D s1 hD ?_)
      · obtain ⟨rfl, c, hc, rfl⟩ := y
        have hc' : z.cps.toList[i]? = some c := by rw [Array.getElem?_toList]; exact hc
        have e : z.cps.toList.getD i 0 = c := by rw [List.getD_eq_getElem?_getD, hc']; rfl
        have z2 := kk H' (Same.refl _)
        rw [e] at z2
        exact ⟨rfl, rfl, ⟨_, rfl⟩, _, rfl, _, _, _, _, rfl, rfl, sgL_occ c (k3 c (List.mem_of_getElem? hc')), z2⟩
      · rw [e, nums_range]
        rfl
    | row lv gs =>
      obtain ⟨a, u, rfl, ha, hu⟩ := hv.row
      obtain ⟨k1, k2, k3, k4, k5⟩ := hk
      obtain ⟨b, xs, rfl, hb, hl, hx, _⟩ := hu.seq
      refine ⟨_, rfl, a, _, _, .int 1, rfl, rfl, SqT.of ha, rfl, rfl, _, rfl, iteF ?_⟩
      refine ⟨_, rfl, a, _, _, .int 1, rfl, rfl, SqT.of ha, rfl, rfl, _, rfl, iteT ?_⟩
      refine ⟨_, rfl, a, _, _, .int lv, rfl, rfl, SqT.of ha, rfl, (by show 1 ≤ sizeLine; decide), fun l hl2 => ?_⟩
      have s1 : Same H (upd H l (.lst [.int lv])) := same_upd2 hl2
      refine ⟨_, rfl, a, _, _, .ref b, rfl, rfl, SqT.of (s1 _ _ ha), rfl, b, rfl, ⟨_, SqT.of (s1 _ _ hb)⟩, fun D hD => ?_⟩
      refine lc_pure walk_tup (fun i => .int (gs.getD i (0, 0, 0)).2.2) hD (by have := sigLE; omega) (fun H1 s2 => SqT.of (s2 _ _ (s1 _ _ hb))) (fun i x H1 H' k hi s2 y kk => ?_) (fun H1 s2 e => ?_)
      · obtain ⟨rfl, hxi⟩ := y
        obtain ⟨g, hg, hr2⟩ := hx i x hxi
        obtain ⟨t, rfl, ht⟩ := (Rp.mono (Tups.of (s1.trans s2)) _ _ hr2).tg
        have z := kk H' (Same.refl _)
        have eg : gs.getD i (0, 0, 0) = g := by rw [List.getD_eq_getElem?_getD, hg]; rfl
        rw [eg] at z
        exact ⟨rfl, _, rfl, t, _, _, _, rfl, rfl, SqT.of ht, rfl, z⟩
      · have e3 : ((List.range xs.length).map fun i => V.int (gs.getD i (0, 0, 0)).2.2) = (gs.map fun g => g.2.2).map V.int := by
          rw [hl, List.map_map]
          exact map_range _ _ _ fun i x hx => by
            rw [List.getD_eq_getElem?_getD, hx]
            rfl
        rw [e3] at e
        refine ⟨l, D, _, _, rfl, rfl, s2 _ _ upd_same, e, ?_, fun p hp => ?_⟩
        · rw [List.length_map, List.length_map]
          show 1 + gs.length ≤ sizeLine
          have := sigLE
          omega
        · refine q _ p ((s1.trans s2).trans (same_upd2 hp)) ((s1.trans s2).free hp) ?_
          rw [upd_same]
          rfl
    | folder es =>
      obtain ⟨a, u, rfl, ha, hu⟩ := hv.folder
      obtain ⟨k1, k2, k3⟩ := id hk
      obtain ⟨b, xs, rfl, hb, hl, hx, _⟩ := hu.seq
      refine ⟨_, rfl, a, _, _, .int 2, rfl, rfl, SqT.of ha, rfl, rfl, _, rfl, iteF ?_⟩
      refine ⟨_, rfl, a, _, _, .int 2, rfl, rfl, SqT.of ha, rfl, rfl, _, rfl, iteF ?_⟩
      refine ⟨Nat.zero_le _, fun L hL => ?_⟩
      have s0 : Same H (upd H L (.lst [])) := same_upd2 hL
      refine ⟨_, rfl, a, _, _, .ref b, rfl, rfl, SqT.of (s0 _ _ ha), rfl, b, rfl, ⟨_, SqT.of (s0 _ _ hb)⟩, for_tup (K := K) (a := b) (xs := xs)
        (fun i σ H' => ∃ (L' : Addr) (u1 u2 u3 : Option V), σ = [some (.ref a), some (.ref L'), u1, u2, u3, none] ∧ Same H H' ∧ H L' = none ∧ H' L' = some (.lst (((es.take i).flatMap enTold).map V.int)))
        ⟨L, none, none, none, rfl, s0, hL, upd_same⟩ (fun i σ H' _ ⟨_, _, _, _, _, s5, _⟩ => SqT.of (s5 _ _ hb)) ?_ ?_⟩
      · rintro i x σ H' hi ⟨L', u1, u2, u3, rfl, s5, nL, eL⟩
        obtain ⟨e, he, hr2⟩ := hx i x hi
        obtain ⟨t, u, rfl, ht, hu2⟩ := (Rp.mono (Tups.of s5) _ _ hr2).en
        obtain ⟨tg, rfl, htg⟩ := hu2.tg
        have hoe := k2 e (getE he)
        have hen := hoe.1.2.1
        refine ⟨t, _, rfl, SqT.of ht, rfl, _, _, rfl, _, _, rfl, _, _, rfl, rfl, ?_⟩
        refine ⟨_, rfl, _, rfl, _, rfl, fun D hD => ?_⟩
        refine lc_pure walk_str (fun i => .int ((sgL.idxOf (e.1.cps.toList.getD i 0) : Nat))) hD (Nat.le_trans hen (by decide)) (fun _ _ => trivial) (fun j y H1 H2 k hj s1 yy kk => ?_) (fun H1 s1 e1 => ?_)
        · obtain ⟨rfl, c, hc, rfl⟩ := yy
          have hc' : e.1.cps.toList[j]? = some c := by rw [Array.getElem?_toList]; exact hc
          have ec : e.1.cps.toList.getD j 0 = c := by rw [List.getD_eq_getElem?_getD, hc']; rfl
          have z2 := kk H2 (Same.refl _)
          rw [ec] at z2
          exact ⟨rfl, rfl, ⟨_, rfl⟩, _, rfl, _, _, _, _, rfl, rfl, sgL_occ c (okN_sg hoe.1 c (List.mem_of_getElem? hc')), z2⟩
        · rw [nums_range] at e1
          have eL1 := s1 _ _ eL
          have hle := flat_len2 (es.take (i + 1)) fun x hx => k2 x (List.mem_of_mem_take hx)
          rw [flat_take2 he, List.length_append, List.length_take, enTold_len2] at hle
          refine ⟨L', D, _, _, rfl, rfl, eL1, e1, ?_, fun r hr3 => ?_⟩
          · rw [List.length_map, List.length_map, nums_len]
            have := sigLE
            omega
          · have s2 : Same H1 (upd H1 r (.lst (((es.take i).flatMap enTold).map V.int ++ (nums e.1).map V.int))) := same_upd2 hr3
            refine ⟨_, rfl, _, rfl, tg, _, _, .int e.2.2.2.2, rfl, rfl, SqT.of (s2 _ _ (s1 _ _ htg)), rfl, (by show 2 ≤ sizeLine; decide), fun m hm => ?_⟩
            have s3 : Same (upd H1 r (.lst (((es.take i).flatMap enTold).map V.int ++ (nums e.1).map V.int))) (upd (upd H1 r (.lst (((es.take i).flatMap enTold).map V.int ++ (nums e.1).map V.int))) m (.lst [.int e.2.1, .int e.2.2.2.2])) := same_upd2 hm
            refine ⟨r, m, _, _, rfl, rfl, s3 _ _ upd_same, upd_same, ?_, fun y hy => ?_⟩
            · rw [List.length_append, List.length_map, List.length_map, nums_len]
              show ((es.take i).flatMap enTold).length + e.1.length + 2 ≤ sizeLine
              have := sigLE
              omega
            · have s6 := (((s5.trans s1).trans s2).trans s3)
              refine ⟨y, some (.str e.1), some (.int e.2.1), some (.ref tg), rfl, s6.trans (same_upd2 hy), s6.free hy, ?_⟩
              rw [upd_same, flat_take2 he, List.map_append]
              show some (HO.lst _) = some (HO.lst _)
              rw [show (enTold e).map V.int = (nums e.1).map V.int ++ [.int e.2.1, .int e.2.2.2.2] by unfold enTold; rw [List.map_append]; rfl, List.append_assoc]
      · rintro σ H' ⟨L', u1, u2, u3, rfl, s5, nL, eL⟩
        refine ⟨_, rfl, q _ L' s5 nL ?_⟩
        rw [eL, hl, List.take_length]
        rfl
theorem sc__law_sum : FnScope ["_law_block_here", "_law_found", "_law_number"] ["_law_block_here"] (defScope s__law_sum) := ⟨rfl, rfl, rfl, by decide +kernel, rfl, by decide +kernel, by decide +kernel⟩
theorem ok_law_sum (F : FnP K "_law_sum" s__law_sum f fd) (T : Txt mg) (g_law_told : Has P w K mg base CX0 3 "_law_told" ["_law_block_here"] sp_told_of) : FnOk P w K mg base CX0 4 f fd ["_law_block_here"] sp_sum_of := by
  refine ok0 F sc__law_sum (fun vs H Q E h => ?_) (fun cdv A outer s H vs Q E hr h => ?_)
  · obtain ⟨b, v, rfl, _⟩ := h
    rfl
  · obtain ⟨b, v, rfl, hv, hk, q⟩ := h
    refine ⟨_, (pss_cons (ps_set (i := 1) sc__law_sum.nd rfl (Or.inl rfl) (pe_op op_add pe_int (pe_ix ix_tup (pv 0) pe_int (fun _ _ => rfl))))
    (pss_cons (ps_for PassesOwn.never rfl (pi_list (pe_has g_law_told hr pass0 (pa_cons (pv 0) pa_nil))) (pg_name (i := 2) sc__law_sum.nd rfl (Or.inl rfl))
      (pss_one (ps_set (i := 1) sc__law_sum.nd rfl (Or.inl rfl) (pe_op op_mod (pe_op op_add (pe_op op_add (pe_op op_mul pe_int (pv 1)) (pv 2)) pe_int) pe_int))))
    (pss_one (ps_ret (pv 1))))), ?_⟩
    obtain ⟨a, xs, rfl, ha, h0⟩ : ∃ a xs, v = .ref a ∧ H a = some (.tup xs) ∧ xs[0]? = some (.int b.kind) := by
      cases b with
      | piece z =>
        obtain ⟨a, rfl, ha⟩ := hv.piece
        exact ⟨a, _, rfl, ha, rfl⟩
      | row lv gs =>
        obtain ⟨a, u, rfl, ha, _⟩ := hv.row
        exact ⟨a, _, rfl, ha, rfl⟩
      | folder es =>
        obtain ⟨a, u, rfl, ha, _⟩ := hv.folder
        exact ⟨a, _, rfl, ha, rfl⟩
    refine ⟨_, rfl, a, _, _, .int b.kind, rfl, rfl, SqT.of ha, at_of rfl h0, _, _, rfl, rfl, ?_⟩
    refine ⟨_, rfl, b, _, rfl, hv, hk, fun H1 p s1 n1 e1 => ?_⟩
    refine ⟨p, rfl, ⟨_, SqL.of e1⟩, for_list (K := K) (a := p) (xs := b.told.map V.int)
      (fun i σ H' => ∃ u1, σ = [some (.ref a), some (.int ((b.told.take i).foldl turnS (b.kind + 1))), u1] ∧ Same H1 H')
      ⟨none, (by show [some (V.ref a), some (V.int (1 + b.kind)), none] = [some (V.ref a), some (V.int (b.kind + 1)), none]; rw [Int.add_comm]), Same.refl _⟩ (fun i σ H' _ ⟨_, _, s5⟩ => SqL.of (s5 _ _ e1)) ?_ ?_⟩
    · rintro i x σ H' hi ⟨u1, rfl, s5⟩
      rw [List.getElem?_map] at hi
      obtain ⟨n, hn, rfl⟩ : ∃ n, b.told[i]? = some n ∧ x = .int n := by
        cases q : b.told[i]? with
        | none =>
          rw [q] at hi
          cases hi
        | some n =>
          rw [q] at hi
          exact ⟨n, rfl, (Option.some.inj hi).symm⟩
      refine ⟨_, rfl, _, _, rfl, rfl, .inl ⟨by decide, by decide⟩, _, rfl, _, _, rfl, rfl, _, _, rfl, rfl, _, _, rfl, rfl, lt0 rfl, ?_⟩
      refine ⟨some (.int n), ?_, s5⟩
      rw [take_snoc hn, List.foldl_append]
      rfl
    · rintro σ H' ⟨u1, rfl, s5⟩
      refine ⟨_, rfl, ?_⟩
      rw [List.length_map, List.take_length]
      exact q H' (s1.trans s5)
end
end Sk

set_option Elab.async false
set_option linter.all false
set_option maxRecDepth 100000
set_option maxHeartbeats 4000000
namespace Sk
open PySem PySem.Spec PyProof.Rows L2
theorem same_new {H : Hp} {p : Addr} {o : HO} (hp : H p = none) : Same H (upd H p o) := fun b u e => by
  rw [upd_ne (ne_of_none e hp)]
  exact e
theorem put_free {q : Addr} {H0 H H' : Hp} (h : Put q H H') (s : SKeep H0 H) (hq : H0 q = none) : SKeep H0 H' := fun b o e so => h _ _ (s _ _ e so) (ne_of_none e hq)
section
variable {P : Program} {w : World} {K : PySem.W.Frag} {mg : Str → Option Value} {base : Heap} {f : Addr} {fd : FuncData} {C : Addr}
theorem sc__law_laid : FnScope ["_law_boards", "_law_cells", "_law_laid_here", "_law_k", "_law_cell", "_law_some", "_law_number", "_law_birth", "_law_block_here"] ["_law_boards", "_law_cells"] (defScope s__law_laid) := ⟨rfl, rfl, rfl, by decide +kernel, rfl, by decide +kernel, by decide +kernel⟩
theorem ok_law_laid (F : FnP K "_law_laid" s__law_laid f fd) (T : Txt mg) (g_law_numbers : Has P w K mg base CX0 13 "_law_numbers" ["_law_cell", "_law_many"] sp_numbers) (g_law_block : Has P w K mg base CX0 13 "_law_block" ["_law_some"] sp_block)
    (g_lay : Has P w K mg base CX0 13 "lay" ["boards", "number", "birth", "block"] (sp_lay C)) (g_law_sum : Has P w K mg base CX0 13 "_law_sum" ["_law_block_here"] sp_sum_of) : FnOk P w K mg base CX0 14 f fd ["_law_boards", "_law_cells"] (sp_laid C) := by
  refine ok0 F sc__law_laid (fun vs H Q E h => ?_) (fun cdv A outer s H vs Q E hr h => ?_)
  · obtain ⟨p, c, ns, m, rfl, _⟩ := h
    rfl
  · obtain ⟨p, c, ns, m, rfl, hc, hl, hB, q⟩ := h
    have hu := hu_of hr
    refine ⟨_, (pss_cons (ps_set (i := 2) sc__law_laid.nd rfl (Or.inl rfl) pe_dnewT)
    (pss_cons (ps_for PassesOwn.never rfl (pi_enum rfl T.n_enumerate (pa_cons (pv 1) pa_nil)) (pg_tup rfl (pgs_cons (pg_name (i := 3) sc__law_laid.nd rfl (Or.inl rfl)) (pgs_cons (pg_name (i := 4) sc__law_laid.nd rfl (Or.inl rfl)) pgs_nil)))
      (pss_cons (ps_set (i := 5) sc__law_laid.nd rfl (Or.inl rfl) (pe_has g_law_numbers hr pass0 (pa_cons (pv 4) (pa_cons pe_int pa_nil))))
    (pss_cons (ps_set (i := 6) sc__law_laid.nd rfl (Or.inl rfl) (pe_op op_add (pe_op op_add pe_int (pe_op op_mul (pe_op op_mod (pe_ix ix_list (pv 5) pe_int (fun _ _ => rfl)) pe_int) pe_int)) (pv 3)))
    (pss_cons (ps_set (i := 7) sc__law_laid.nd rfl (Or.inl rfl) (pe_op op_mod (pe_ix ix_list (pv 5) pe_int (fun _ _ => rfl)) (pe_op op_pow pe_int pe_int)))
    (pss_cons (ps_set (i := 8) sc__law_laid.nd rfl (Or.inl rfl) (pe_has g_law_block hr pass0 (pa_cons (pe_slice sl_list (pv 5) (po_some pe_int) po_none) pa_nil)))
    (pss_cons (ps_expr (pe_has g_lay hr pass0 (pa_cons (pv 0) (pa_cons (pv 6) (pa_cons (pv 7) (pa_cons (pv 8) pa_nil))))))
    (pss_one (ps_dput hu (pv 2) (pe_tup (pa_cons (pv 6) (pa_cons (pv 7) (pa_cons (pe_has g_law_sum hr pass0 (pa_cons (pv 8) pa_nil)) pa_nil)))) (pv 8) rfl))))))))
    (pss_one (ps_ret (pv 2))))), ?_⟩
    refine fun d hd => ?_
    have s0 : Same H (upd H d (.dT [])) := same_new hd
    refine ⟨_, rfl, c, _, rfl, SqL.of (s0 _ _ hc), for_it (walk_enum (K := K) (a := c) (xs := ns.map V.int))
      (fun i σ H' => ∃ (u3 u4 u5 u6 u7 u8 : Option V) (rs : List Rec) (B : Bds), σ = [some (.ref p), some (.ref c), some (.ref d), u3, u4, u5, u6, u7, u8] ∧ SKeep H H' ∧ BdAt C p m H' B (2 * i) ∧ LaidAt H' d rs ∧ rs.length = i ∧
        (∀ (j : Nat) (r : Rec), rs[j]? = some r → r.ok ∧ r.n % 9 = (1 + (j : Int)) % 9) ∧ CopiesAll B rs m (fun _ _ => true) ∧ NoTwo B)
      ⟨none, none, none, none, none, none, [], _, rfl, SKeep.of s0, hB.mono s0, ⟨[], rfl, upd_same, fun i r v h1 _ => (nomatch h1)⟩, rfl, fun j r h1 => (nomatch h1), fun j r h1 => (nomatch h1), fun i n ws e => (nomatch e)⟩
      (fun i σ H' _ ⟨_, _, _, _, _, _, _, _, _, sk, _⟩ => SqL.of (sk.ints hc)) ?_ ?_⟩
    · rintro i x σ H1 H2 hi ⟨u3, u4, u5, u6, u7, u8, rs, B, rfl, sk, hB1, hla, hrl, hrs, hco, hnt⟩ y
      obtain ⟨t, x1, x2, rfl, ht, rfl, e1, e2⟩ := y
      rw [List.length_map] at hi
      have hni : ns[i]? = some ns[i] := List.getElem?_eq_getElem hi
      have e2 : (ns.map V.int)[i]? = some x2 := e2
      rw [List.getElem?_map, hni] at e2
      obtain rfl : V.int (i : Nat) = x1 := Option.some.inj e1
      obtain rfl : V.int ns[i] = x2 := Option.some.inj e2
      have s2 : Same H1 (upd H1 t (.tup [.int (i : Nat), .int ns[i]])) := same_new ht
      refine ⟨t, _, rfl, SqT.of upd_same, rfl, _, _, rfl, _, _, rfl, rfl, ?_⟩
      refine ⟨_, rfl, ns[i], 30, rfl, (by decide), fun H3 sl ms s3 nsl esl hml hmp => ?_⟩
      obtain ⟨n0, h0⟩ : ∃ n, ms[0]? = some n := ⟨_, List.getElem?_eq_getElem (by omega)⟩
      obtain ⟨n1, h1⟩ : ∃ n, ms[1]? = some n := ⟨_, List.getElem?_eq_getElem (by omega)⟩
      have at0 : atI (ms.map V.int) 0 = some (.int n0) := atI_nat (j := 0) (by rw [List.getElem?_map, h0]; rfl)
      have at1 : atI (ms.map V.int) 1 = some (.int n1) := atI_nat (j := 1) (by rw [List.getElem?_map, h1]; rfl)
      refine ⟨_, rfl, sl, _, _, _, rfl, rfl, SqL.of esl, at0, _, _, rfl, rfl, lt0 rfl, _, _, rfl, rfl, .inr ⟨by decide, by decide⟩, _, _, rfl, rfl, _, rfl, _, _, rfl, rfl, ?_⟩
      have e9 : (10 : Int) ^ (9 : Int).toNat = 1000000000 := by decide
      refine ⟨_, rfl, sl, _, _, _, rfl, rfl, SqL.of esl, at1, _, _, rfl, rfl, ⟨by decide, by decide, by decide⟩, _, _, rfl, rfl, lt0 rfl, ?_⟩
      rw [e9]
      dsimp only
      have hnn : okNum (1 + n0 % 100000 * 9 + (i : Int)) := by
        unfold okNum
        omega
      have hbb : okNum (n1 % 1000000000) := by
        unfold okNum
        omega
      have hmod : (1 + n0 % 100000 * 9 + (i : Int)) % 9 = (1 + (i : Int)) % 9 := by omega
      generalize hN : 1 + n0 % 100000 * 9 + (i : Int) = n at hnn hmod
      generalize hb0 : n1 % 1000000000 = b at hbb
      refine ⟨_, rfl, _, rfl, sl, _, rfl, SqL.of esl, fun c2 hc2 => ?_⟩
      have s4 : Same H3 (upd H3 c2 (.lst (cutV (ms.map V.int) (some 6) none))) := same_new hc2
      have ecut : cutV (ms.map V.int) (some 6) none = (ms.drop 6).map V.int := by
        unfold cutV
        rw [HT.sIx_none, show HT.sIx (ms.map V.int).length 0 (some 6) = min 6 (ms.map V.int).length from HT.sIx_nat _ _ 6, List.length_map, hml, show min 6 30 = 6 by decide, List.take_of_length_le (by rw [List.length_drop, List.length_map]; omega), List.map_drop]
      refine ⟨c2, ms.drop 6, rfl, (by rw [upd_same, ecut]), (by rw [List.length_drop, hml]), fun x hx => hmp x (List.mem_of_mem_drop hx), fun H4 v k s5 hv hk => ?_⟩
      have s6 : Same H1 H4 := ((s2.trans s3).trans s4).trans s5
      have hB4 := hB1.mono s6
      refine ⟨_, rfl, _, rfl, _, rfl, _, rfl, p, n, b, v, k, m, B, 2 * i, rfl, hB4, by omega, hnn, hbb, hk, hv, fun H5 hB5 s7 => ?_⟩
      have hv5 := Rp.mono s7.tups _ _ hv
      refine ⟨_, rfl, _, rfl, _, rfl, _, rfl, _, rfl, k, v, rfl, hv5, hk, fun H6 s8 => ?_⟩
      refine ⟨(by show 3 ≤ sizeLine; decide), fun t2 ht2 => ?_⟩
      have s9 : Same H6 (upd H6 t2 (.tup [.int n, .int b, .int k.sum])) := same_new ht2
      have hnew : ¬ (⟨n, b, k⟩ : Rec).n ∈ rs.map Rec.n := fun z => by
        obtain ⟨r, hr1, hr2⟩ := List.mem_map.mp z
        obtain ⟨j, hj⟩ := List.mem_iff_getElem?.mp hr1
        have hjl := (List.getElem?_eq_some_iff.mp hj).1
        have := (hrs j r hj).2
        have hr3 : r.n = n := hr2
        rw [hr3] at this
        omega
      have sk6 : SKeep H1 (upd H6 t2 (.tup [.int n, .int b, .int k.sum])) := (SKeep.of s6).trans (s7.trans (SKeep.of (s8.trans s9)))
      obtain ⟨H8, u, dp, hla8, pu, hdu, od⟩ := laid_put (r := ⟨n, b, k⟩) (t := t2) (v := v) (hla.mono sk6) hnew (Rp.mono (Tups.of (s8.trans s9)) _ _ hv5) upd_same (by omega)
      have hB8 := ((hB5.mono s8).mono s9).put pu hdu od hnt.lay
      refine ⟨d, H8, rfl, dp, _, _, _, _, _, _, rs ++ [⟨n, b, k⟩], _, rfl, put_free pu (sk.trans sk6) hd, hB8, hla8, by rw [List.length_append, hrl]; rfl, fun j r hj => ?_, fun j r hj => ?_, hnt.lay⟩
      · by_cases cj : j < rs.length
        · rw [List.getElem?_append_left cj] at hj
          exact hrs j r hj
        · rw [List.getElem?_append_right (by omega)] at hj
          have hz : j - rs.length = 0 := by
            have := (List.getElem?_eq_some_iff.mp hj).1
            simp at this
            omega
          rw [hz] at hj
          obtain rfl := Option.some.inj hj
          refine ⟨⟨hnn, hbb, hk⟩, ?_⟩
          show n % 9 = _
          rw [hmod, show j = i by omega]
      · by_cases cj : j < rs.length
        · rw [List.getElem?_append_left cj] at hj
          refine copies_same (hco j r hj) fun j2 => blay_other (fun z => hnew ?_) j2
          show n ∈ rs.map Rec.n
          rw [← z]
          exact List.mem_map.mpr ⟨r, getE hj, rfl⟩
        · rw [List.getElem?_append_right (by omega)] at hj
          have hz : j - rs.length = 0 := by
            have := (List.getElem?_eq_some_iff.mp hj).1
            simp at this
            omega
          rw [hz] at hj
          obtain rfl := Option.some.inj hj
          exact copies_laid
    · rintro σ H1 ⟨u3, u4, u5, u6, u7, u8, rs, B, rfl, sk, hB1, hla, hrl, hrs, hco, hnt⟩
      rw [List.length_map] at hB1 hrl
      refine ⟨_, rfl, ?_⟩
      refine q H1 d rs B sk (hB1.cap (by omega)) hla ⟨by omega, fun r hr => ?_, ?_⟩ hrl hco hnt
      · obtain ⟨j, hj⟩ := List.mem_iff_getElem?.mp hr
        exact (hrs j r hj).1
      · refine List.pairwise_iff_getElem.mpr fun i j h1 h2 hij e => ?_
        rw [List.length_map] at h1 h2
        rw [List.getElem_map, List.getElem_map] at e
        have h3 := (hrs i _ (List.getElem?_eq_getElem h1)).2
        have h4 := (hrs j _ (List.getElem?_eq_getElem h2)).2
        rw [e] at h3
        omega
end
end Sk

set_option Elab.async false
set_option linter.all false
set_option maxRecDepth 100000
set_option maxHeartbeats 4000000
namespace Sk
open PySem PySem.Spec PyProof.Rows L2
section
variable {P : Program} {w : World} {K : PySem.W.Frag} {mg : Str → Option Value} {base : Heap} {f : Addr} {fd : FuncData} {C : Addr}
theorem sc__law_spoilt : FnScope ["_law_boards", "_law_board", "_law_tag_here", "_law_some", "_law_rows", "_law_row", "_law_at", "_law_how", "_law_other"] ["_law_boards", "_law_board", "_law_tag_here", "_law_some", "_law_rows"] (defScope s__law_spoilt) := ⟨rfl, rfl, rfl, by decide +kernel, rfl, by decide +kernel, by decide +kernel⟩
theorem ok_law_spoilt (F : FnP K "_law_spoilt" s__law_spoilt f fd) (T : Txt mg) (TB : TxB K mg C) (g_spoil : HasM P w K mg base CX0 13 C "spoil" ["self", "board", "number", "row"] (sp_spoil C)) :
    FnOk P w K mg base CX0 14 f fd ["_law_boards", "_law_board", "_law_tag_here", "_law_some", "_law_rows"] (sp_spoilt C) := by
  refine ok0 F sc__law_spoilt (fun vs H Q E h => ?_) (fun cdv A outer s H vs Q E hr h => ?_)
  · obtain ⟨p, t, s, q, i, j, r, ns, rs, m, B, cap, rfl, _⟩ := h
    rfl
  · obtain ⟨p, t, sa, qa, i, j, r, ns, rs, m, B, cap, rfl, hB, him, hcap, ht, hj, hrs, hsa, hnl, hns, ⟨ls, hll, hqa, hls⟩, q⟩ := h
    have hu := hu_of hr
    refine ⟨_, (pss_cons (ps_set (i := 5) sc__law_spoilt.nd rfl (Or.inl rfl) (pe_callTy call_list_of rfl T.n_list boot_tlist (pa_cons (pe_dget hu (pv 4) (pv 2) (fun _ _ => rfl)) pa_nil)))
    (pss_cons (ps_set (i := 6) sc__law_spoilt.nd rfl (Or.inl rfl) (pe_op op_mod (pe_ix ix_list (pv 3) pe_int (fun _ _ => rfl)) (pe_callB call_len_seq rfl T.n_len PySem.boot_len (pa_cons (pv 5) pa_nil))))
    (pss_cons (ps_set (i := 7) sc__law_spoilt.nd rfl (Or.inl rfl) (pe_op op_mod (pe_ix ix_list (pv 3) pe_int (fun _ _ => rfl)) pe_int))
    (pss_cons (ps_if (pt_cmpR op_lt (pv 7) pe_int (nomark _))
      (pss_one (ps_asg (pe_op op_add (pe_ix ix_list (pv 5) (pv 6) (fun _ _ => rfl)) (pe_ix ix_list (pe_lst (pa_cons pe_int (pa_cons (pe_un un_neg pe_int) (pa_cons pe_int (pa_cons (pe_op op_add pe_int (pe_ix ix_list (pv 3) pe_int (fun _ _ => rfl))) pa_nil))))) (pe_op op_mod (pe_ix ix_list (pv 3) pe_int (fun _ _ => rfl)) pe_int) (fun _ _ => rfl))) (pg_sub (pv 5) (pv 6) set_list)))
      pss_nil)
    (pss_cons (ps_if (pt_cmpR op_eq (pv 7) pe_int (nomark _))
      (pss_one (ps_set (i := 5) sc__law_spoilt.nd rfl (Or.inl rfl) pe_non))
      pss_nil)
    (pss_cons (ps_if (pt_cmpR op_eq (pv 7) pe_int (nomark _))
      (pss_cons (ps_set (i := 8) sc__law_spoilt.nd rfl (Or.inl rfl) (pe_ix ix_list (pe_callTy (call_list_dT rfl) rfl T.n_list boot_tlist (pa_cons (pv 4) pa_nil)) (pe_op op_mod (pe_ix ix_list (pv 3) pe_int (fun _ _ => rfl)) (pe_callB call_len_dT rfl T.n_len PySem.boot_len (pa_cons (pv 4) pa_nil))) (fun _ _ => rfl)))
    (pss_cons (ps_set (i := 5) sc__law_spoilt.nd rfl (Or.inl rfl) (pe_lst (pa_cons pe_int pa_nil)))
    (pss_one (ps_if (pt_cmpR (op_neD hr.units) (pv 8) (pv 2) (nomark _))
      (pss_one (ps_set (i := 5) sc__law_spoilt.nd rfl (Or.inl rfl) (pe_callTy call_list_of rfl T.n_list boot_tlist (pa_cons (pe_dget hu (pv 4) (pv 8) (fun _ _ => rfl)) pa_nil))))
      pss_nil))))
      pss_nil)
    (pss_one (ps_expr (pe_hasM (pv 0) TB.cl g_spoil hr pass0 (pa_cons (pv 1) (pa_cons (pe_ix ix_tup (pv 2) pe_int (fun _ _ => rfl)) (pa_cons (pv 5) pa_nil)))))))))))), ?_⟩
    have hrok : r.ok := hrs.ok r (getE hj)
    obtain ⟨n1, h1⟩ : ∃ n, ns[1]? = some n := ⟨_, List.getElem?_eq_getElem (by omega)⟩
    obtain ⟨n2, h2⟩ : ∃ n, ns[2]? = some n := ⟨_, List.getElem?_eq_getElem (by omega)⟩
    obtain ⟨n3, h3⟩ : ∃ n, ns[3]? = some n := ⟨_, List.getElem?_eq_getElem (by omega)⟩
    have at1 : atI (ns.map V.int) 1 = some (.int n1) := atI_nat (j := 1) (by rw [List.getElem?_map, h1]; rfl)
    have at2 : atI (ns.map V.int) 2 = some (.int n2) := atI_nat (j := 2) (by rw [List.getElem?_map, h2]; rfl)
    have at3 : atI (ns.map V.int) 3 = some (.int n3) := atI_nat (j := 3) (by rw [List.getElem?_map, h3]; rfl)
    have p1 := hns n1 (getE h1)
    have p2 := hns n2 (getE h2)
    have p3 := hns n3 (getE h3)
    unfold posR at p1 p2 p3
    have hjl : j < rs.length := (List.getElem?_eq_some_iff.mp hj).1
    obtain ⟨lj, hlj⟩ : ∃ l, ls[j]? = some l := ⟨_, List.getElem?_eq_getElem (by omega)⟩
    have hljH := hls j r lj hj hlj
    have hvl : ∀ {i : Nat} {l : Addr}, ls[i]? = some l → (ls.map V.ref)[i]? = some (.ref l) := fun {i l} e => by rw [List.getElem?_map, e]; rfl
    have g0 := DGet.t (k := r.key) hqa ht
    rw [val_kvz hrs.nd hj (hvl hlj)] at g0
    refine ⟨_, rfl, _, rfl, qa, _, rfl, g0, lj, _, rfl, .inl (SqL.of hljH), fun l hl => ?_⟩
    have s1 : Same H (upd H l (.lst ((cellW r.n r.b r.k).map V.int))) := same_nw hl
    have el : (upd H l (.lst ((cellW r.n r.b r.k).map V.int))) l = some (.lst ((cellW r.n r.b r.k).map V.int)) := upd_same
    generalize upd H l (.lst ((cellW r.n r.b r.k).map V.int)) = H1 at s1 el ⊢
    have hWp := cellW_pos r.n r.b r.k
    refine ⟨_, rfl, sa, _, _, _, rfl, rfl, SqL.of (s1 _ _ hsa), at1, _, rfl, l, _, rfl, .inl (SqL.of el), _, _, rfl, rfl, (by rw [List.length_map]; omega), ?_⟩
    rw [List.length_map]
    dsimp only
    obtain ⟨k, hk⟩ : ∃ k : Nat, n1 % ((cellW r.n r.b r.k).length : Int) = k := ⟨(n1 % ((cellW r.n r.b r.k).length : Int)).toNat, by have := Int.emod_nonneg n1 (by omega : ((cellW r.n r.b r.k).length : Int) ≠ 0); omega⟩
    have hkl : k < (cellW r.n r.b r.k).length := by
      have := Int.emod_lt_of_pos n1 (by omega : (0 : Int) < ((cellW r.n r.b r.k).length : Int))
      omega
    rw [hk]
    refine ⟨_, rfl, sa, _, _, _, rfl, rfl, SqL.of (s1 _ _ hsa), at2, _, _, rfl, rfl, lt0 rfl, ?_⟩
    dsimp only
    have c0 : 0 ≤ n2 % 5 := by omega
    have c1 : n2 % 5 < 5 := by omega
    generalize n2 % 5 = how at c0 c1 ⊢
    -- how the rest goes: the row at hand is x, telling the cell's new words
    refine ⟨_, rfl, _, _, rfl, rfl, _, rfl, ite2 (fun c => ?_) (fun c => ?_)⟩
    · have c := of_decide_eq_true c
      obtain ⟨dv, hdv, hd0⟩ : ∃ dv : Int, atI [V.int 1, V.int (-1), V.int 2147483647, V.int (1 + n3)] (n3 % 4) = some (.int dv) ∧ dv ≠ 0 := by
        have h4 : n3 % 4 = 0 ∨ n3 % 4 = 1 ∨ n3 % 4 = 2 ∨ n3 % 4 = 3 := by omega
        rcases h4 with h4 | h4 | h4 | h4
        · rw [h4]
          exact ⟨1, rfl, by decide⟩
        · rw [h4]
          exact ⟨-1, rfl, by decide⟩
        · rw [h4]
          exact ⟨2147483647, rfl, by decide⟩
        · rw [h4]
          exact ⟨1 + n3, rfl, by omega⟩
      refine ⟨_, rfl, _, rfl, l, _, _, _, rfl, rfl, SqL.of el, atI_nat (j := k) (v := .int (cellW r.n r.b r.k)[k]) (by rw [List.getElem?_map, List.getElem?_eq_getElem hkl]; rfl), ?_⟩
      refine ⟨_, rfl, _, rfl, sa, _, _, _, rfl, rfl, SqL.of (s1 _ _ hsa), at3, _, _, rfl, rfl, (by show 4 ≤ sizeLine; decide), fun D hD => ?_⟩
      have s2 : Same H1 (upd H1 D (.lst [.int 1, .int (-1), .int 2147483647, .int (1 + n3)])) := same_nw hD
      refine ⟨_, rfl, sa, _, _, _, rfl, rfl, SqL.of (s2 _ _ (s1 _ _ hsa)), at3, _, _, rfl, rfl, lt0 rfl, D, _, _, _, rfl, rfl, SqL.of upd_same, hdv, _, _, rfl, rfl, ?_⟩
      refine ⟨_, rfl, _, rfl, l, _, _, k, rfl, rfl, s2 _ _ el, ?_, ?_⟩
      · unfold ixN
        rw [List.length_map, if_pos (by omega), if_pos (by omega), Int.toNat_natCast]
      · dsimp only
        have s3 : Same H (upd (upd H1 D (.lst [.int 1, .int (-1), .int 2147483647, .int (1 + n3)])) l (.lst (((cellW r.n r.b r.k).map V.int).set k (.int ((cellW r.n r.b r.k)[k] + dv))))) := fun b o e => by
          rw [upd_ne (ne_of_none e hl)]
          exact s2 _ _ (s1 _ _ e)
        have e3 : (upd (upd H1 D (.lst [.int 1, .int (-1), .int 2147483647, .int (1 + n3)])) l (.lst (((cellW r.n r.b r.k).map V.int).set k (.int ((cellW r.n r.b r.k)[k] + dv))))) l = some (.lst (((cellW r.n r.b r.k).set k ((cellW r.n r.b r.k)[k] + dv)).map V.int)) := by
          rw [upd_same, List.map_set]
        generalize upd (upd H1 D (.lst [.int 1, .int (-1), .int 2147483647, .int (1 + n3)])) l (.lst (((cellW r.n r.b r.k).map V.int).set k (.int ((cellW r.n r.b r.k)[k] + dv)))) = H3 at s3 e3 ⊢
        have hB3 := hB.mono s3
        obtain ⟨dx, fs, hins, hno⟩ := hB3.ins2
        refine ⟨_, rfl, rfl, _, rfl, iteDn (fun z => by have := V.int.inj z; omega) ?_⟩
        refine ⟨_, rfl, rfl, _, rfl, iteDn (fun z => by have := V.int.inj z; omega) ?_⟩
        refine ⟨_, rfl, p, dx, fs, rfl, hins, hno _ (by decide +kernel) (by decide +kernel) (by decide +kernel), _, rfl, _, rfl, t, _, _, .int r.n, rfl, rfl, SqT.of (s3 _ _ ht), rfl, _, rfl,
          p, i, r.n, .ref l, some ((cellW r.n r.b r.k).set k ((cellW r.n r.b r.k)[k] + dv)), m, B, cap, rfl, hB3, him, by omega, .inr ⟨l, _, rfl, rfl, e3⟩, fun H4 hB4 s4 => ?_⟩
        exact q H4 _ (cellW_bad hrok hkl (by omega)) (fun ws e => by rw [← Option.some.inj e, List.length_set]; exact cellW_two _ _ _) hB4 ((SKeep.of s3).trans s4)
    · have c : ¬ how < 3 := fun z => c (decide_eq_true z)
      refine ⟨_, rfl, rfl, _, rfl, ite2 (fun c3 => ?_) (fun c3 => ?_)⟩
      · have c3 : how = 3 := V.int.inj (of_decide_eq_true c3)
        refine ⟨_, rfl, rfl, _, rfl, iteDn (fun z => by have := V.int.inj z; omega) ?_⟩
        have hB3 := hB.mono s1
        obtain ⟨dx, fs, hins, hno⟩ := hB3.ins2
        refine ⟨_, rfl, p, dx, fs, rfl, hins, hno _ (by decide +kernel) (by decide +kernel) (by decide +kernel), _, rfl, _, rfl, t, _, _, .int r.n, rfl, rfl, SqT.of (s1 _ _ ht), rfl, _, rfl,
          p, i, r.n, .non, none, m, B, cap, rfl, hB3, him, by omega, .inl ⟨rfl, rfl⟩, fun H4 hB4 s4 => ?_⟩
        exact q H4 none (bad_none _) (fun ws e => (nomatch e)) hB4 ((SKeep.of s1).trans s4)
      · have c3 : ¬ how = 3 := fun z => c3 (decide_eq_true (congrArg V.int z))
        refine ⟨_, rfl, rfl, _, rfl, iteD (congrArg V.int (show how = 4 by omega)) ?_⟩
        have s2' := hll
        refine ⟨_, rfl, qa, _, rfl, .inl (s1 _ _ hqa), fun l2 bs hl2 hbs => ?_⟩
        have s2 : Same H1 (upd H1 l2 (.lst (bs.map V.ref))) := same_nw hl2
        have hbl : bs.length = rs.length := by
          have := Paired.length hbs
          rw [kvz_len (by rw [List.length_map]; exact hll)] at this
          exact this.symm
        obtain ⟨j2, hj2⟩ : ∃ j2 : Nat, n3 % (rs.length : Int) = j2 := ⟨(n3 % (rs.length : Int)).toNat, by have := Int.emod_nonneg n3 (by omega : (rs.length : Int) ≠ 0); omega⟩
        have hj2l : j2 < rs.length := by
          have := Int.emod_lt_of_pos n3 (by omega : (0 : Int) < (rs.length : Int))
          omega
        obtain ⟨r2, hr2⟩ : ∃ r2, rs[j2]? = some r2 := ⟨_, List.getElem?_eq_getElem hj2l⟩
        obtain ⟨l3, hl3⟩ : ∃ l, ls[j2]? = some l := ⟨_, List.getElem?_eq_getElem (by omega)⟩
        have hl3H := hls j2 r2 l3 hr2 hl3
        have hr2ok : r2.ok := hrs.ok r2 (getE hr2)
        obtain ⟨b2, hb2, hb2H⟩ := paired_at hbs (kvz_at hr2 (hvl hl3))
        have hb2H : H1 b2 = some r2.tup := hb2H
        refine ⟨_, rfl, sa, _, _, _, rfl, rfl, SqL.of (s2 _ _ (s1 _ _ hsa)), at3, _, rfl, qa, _, rfl, s2 _ _ (s1 _ _ hqa), _, _, rfl, rfl, (by rw [kvz_len (by rw [List.length_map]; exact hll)]; omega), ?_⟩
        rw [kvz_len (by rw [List.length_map]; exact hll)]
        dsimp only
        rw [hj2]
        refine ⟨l2, _, _, _, rfl, rfl, SqL.of upd_same, atI_nat (j := j2) (v := .ref b2) (by rw [List.getElem?_map, hb2]; rfl), ?_⟩
        refine ⟨(by show 1 ≤ sizeLine; decide), fun l9 hl9 => ?_⟩
        have s3 : Same (upd H1 l2 (.lst (bs.map V.ref))) (upd (upd H1 l2 (.lst (bs.map V.ref))) l9 (.lst [.int 9])) := same_nw hl9
        have s5 := s2.trans s3
        have e9 : (upd (upd H1 l2 (.lst (bs.map V.ref))) l9 (.lst [.int 9])) l9 = some (.lst ([9].map V.int)) := upd_same
        generalize upd (upd H1 l2 (.lst (bs.map V.ref))) l9 (.lst [.int 9]) = H3 at s5 e9 ⊢
        refine ⟨_, rfl, _, rfl, _, _, dp_tri (s5 _ _ hb2H), dp_tri (s5 _ _ (s1 _ _ ht)), sh_tri _ _ _, sh_tri _ _ _, _, rfl, ?_⟩
        by_cases cj : j2 = j
        · subst cj
          rw [hj] at hr2
          obtain rfl := Option.some.inj hr2
          rw [tri_same]
          refine iteF ?_
          have s6 := s1.trans s5
          have hB3 := hB.mono s6
          obtain ⟨dx, fs, hins, hno⟩ := hB3.ins2
          refine ⟨_, rfl, p, dx, fs, rfl, hins, hno _ (by decide +kernel) (by decide +kernel) (by decide +kernel), _, rfl, _, rfl, t, _, _, .int r.n, rfl, rfl, SqT.of (s6 _ _ ht), rfl, _, rfl,
            p, i, r.n, .ref l9, some [9], m, B, cap, rfl, hB3, him, by omega, .inr ⟨l9, _, rfl, rfl, e9⟩, fun H4 hB4 s4 => ?_⟩
          exact q H4 _ (bad_nine _) (fun ws e => by rw [← Option.some.inj e]; decide) hB4 ((SKeep.of s6).trans s4)
        · have hne : r2.n ≠ r.n := fun z => cj (rec_ix hrs.nd hr2 hj z)
          rw [tri_other hne]
          refine iteT ?_
          have g1 := DGet.t (k := r2.key) (s5 _ _ (s1 _ _ hqa)) (s5 _ _ hb2H)
          rw [val_kvz hrs.nd hr2 (hvl hl3)] at g1
          refine ⟨_, rfl, _, rfl, qa, _, rfl, g1, l3, _, rfl, .inl (SqL.of (s5 _ _ (s1 _ _ hl3H))), fun l4 hl4 => ?_⟩
          have s6 : Same H3 (upd H3 l4 (.lst ((cellW r2.n r2.b r2.k).map V.int))) := same_nw hl4
          have s7 := (s1.trans s5).trans s6
          have hB3 := hB.mono s7
          obtain ⟨dx, fs, hins, hno⟩ := hB3.ins2
          refine ⟨_, rfl, p, dx, fs, rfl, hins, hno _ (by decide +kernel) (by decide +kernel) (by decide +kernel), _, rfl, _, rfl, t, _, _, .int r.n, rfl, rfl, SqT.of (s7 _ _ ht), rfl, _, rfl,
            p, i, r.n, .ref l4, some (cellW r2.n r2.b r2.k), m, B, cap, rfl, hB3, him, by omega, .inr ⟨l4, _, rfl, rfl, upd_same⟩, fun H4 hB4 s4 => ?_⟩
          exact q H4 _ (cellW_other hr2ok hne) (fun ws e => by rw [← Option.some.inj e]; exact cellW_two _ _ _) hB4 ((SKeep.of s7).trans s4)
end
end Sk

set_option Elab.async false
set_option linter.all false
set_option maxRecDepth 100000
set_option maxHeartbeats 4000000
namespace Sk
open PySem PySem.Spec PyProof.Rows L2
section
variable {P : Program} {w : World} {K : PySem.W.Frag} {mg : Str → Option Value} {base : Heap} {f : Addr} {fd : FuncData} {C CL : Addr}
theorem sc__law_all_told : FnScope ["_law_boards", "_law_laid_here", "_law_right", "_law_but", "_law_tag_here"] ["_law_boards", "_law_laid_here", "_law_right", "_law_but"] (defScope s__law_all_told) := ⟨rfl, rfl, rfl, by decide +kernel, rfl, by decide +kernel, by decide +kernel⟩
theorem ok_law_all_told (F : FnP K "_law_all_told" s__law_all_told f fd) (T : Txt mg) (g_right_copies : Has P w K mg base CX0 16 "right_copies" ["boards", "tag"] (sp_right_copies C)) (g_fetched : Has P w K mg base CX0 16 "fetched" ["boards", "tag"] (sp_fetched C))
    (g_law_is_lost : Has P w K mg base CX0 16 "_law_is_lost" ["_law_boards", "_law_tag_here"] (sp_is_lost C)) : FnOk P w K mg base CX0 17 f fd ["_law_boards", "_law_laid_here", "_law_right", "_law_but"] (sp_all_told C) := by
  refine ok0 F sc__law_all_told (fun vs H Q E h => ?_) (fun cdv A outer s H vs Q E hr h => ?_)
  · obtain ⟨p, a, q, x, rs, g, m, B, cap, rfl, _⟩ := h
    rfl
  · obtain ⟨p, a, qa, x, rs, g, m, B, cap, rfl, haq, hB, ⟨vs, hvl, ha, hvs⟩, ⟨ls, hll, hnd, hqa, hls⟩, hrs, hco, hx, q⟩ := h
    have hu := hu_of hr
    refine ⟨_, (pss_cons (ps_lock (ps_for PassesOwn.never rfl (pi_keys (pv 1)) (pg_name (i := 4) sc__law_all_told.nd rfl (Or.inl rfl))
      (pss_cons (ps_if (pt_cmpR (op_neD hr.units) (pe_has g_right_copies hr pass0 (pa_cons (pv 0) (pa_cons (pv 4) pa_nil))) (pe_callB cr_sorted rfl T.n_sorted boot_sorted (pa_cons (pe_dget hu (pv 2) (pv 4) (fun _ _ => rfl)) pa_nil)) (nomark _))
      pss_never
      pss_nil)
    (pss_one (ps_if (pt_cmpR (op_eqD hr.units) (pv 4) (pv 3) (nomark _))
      (pss_one (ps_if (pt_not (pt_val (pe_has g_law_is_lost hr pass0 (pa_cons (pv 0) (pa_cons (pv 4) pa_nil)))))
      pss_never
      pss_nil))
      (pss_one (ps_if (pt_cmpR (op_neD hr.units) (pe_has g_fetched hr pass0 (pa_cons (pv 0) (pa_cons (pv 4) pa_nil))) (pe_dget hu (pv 1) (pv 4) (fun _ _ => rfl)) (nomark _))
      pss_never
      pss_nil)))))))
    (pss_one (ps_ret pe_bl))), ?_⟩
    refine ⟨a, _, ha, trivial, fun od => ?_⟩
    have pu : Put a H (upd H a (.frz od (.dT (kvz rs vs)))) := upd_put
    have hT : Tups H (upd H a (.frz od (.dT (kvz rs vs)))) := pu.tups ha (.inl ⟨_, rfl⟩)
    have hB0 := hB.putT pu ha
    have ha0 : (upd H a (.frz od (.dT (kvz rs vs)))) a = some (.frz od (.dT (kvz rs vs))) := upd_same
    have hq0 := pu _ _ hqa haq.symm
    have hl0 : ∀ (i : Nat) (r : Rec) (l : Addr), rs[i]? = some r → ls[i]? = some l → (upd H a (.frz od (.dT (kvz rs vs)))) l = some (.lst (((goods r.n m (g i)).map fun j : Nat => (j : Int)).map V.int)) := fun i r l h1 h2 => pu _ _ (hls i r l h1 h2) (ne_of (hls i r l h1 h2) ha (by intro z; cases z))
    have hout : ∀ H1, Same (upd H a (.frz od (.dT (kvz rs vs)))) H1 → Same H (upd H1 a (.dT (kvz rs vs))) := fun H1 s1 b o e => by
      by_cases c : b = a
      · rw [c, upd_same, ← ha, ← c]
        exact e
      · rw [upd_ne c]
        exact s1 _ _ (pu _ _ e c)
    generalize upd H a (.frz od (.dT (kvz rs vs))) = H0 at pu hT hB0 ha0 hq0 hl0 hout ⊢
    refine ⟨_, rfl, a, od, rfl, .inr ⟨_, ha0, for_it (walk_keysT (kvs := kvz rs vs)) (fun i σ H' => ∃ u, σ = [some (.ref p), some (.ref a), some (.ref qa), some x, u] ∧ Same H0 H')
      ⟨none, rfl, Same.refl _⟩ (fun i σ H' _ ⟨_, _, s1⟩ => s1 _ _ ha0) ?_ ?_⟩⟩
    · rintro i y σ H1 H2 hi ⟨u, rfl, s1⟩ ⟨rfl, k, v, t, hkv, rfl, ht⟩
      obtain ⟨r, hr1, hv1, rfl⟩ := kvz_of hkv
      have ht : H2 t = some r.tup := ht
      obtain ⟨ho1, ho2, ho3⟩ := hrs.ok r (getE hr1)
      obtain ⟨l, hl⟩ : ∃ l, ls[i]? = some l := ⟨_, List.getElem?_eq_getElem (by have := (List.getElem?_eq_some_iff.mp hr1).1; omega)⟩
      refine ⟨_, rfl, _, rfl, p, t, r.n, r.b, r.k, g i, m, B, cap, rfl, hB0.mono s1, ht, ho1, ho2, ho3, hco i r hr1, fun H3 q1 ns1 s2 _ e1 hp1 hs1 => ?_⟩
      have s3 := s1.trans s2
      have gq := DGet.t (k := r.key) (s3 _ _ hq0) (s2 _ _ ht)
      rw [val_kvz hrs.nd hr1 (by rw [List.getElem?_map, hl]; rfl)] at gq
      refine ⟨_, rfl, _, rfl, qa, _, rfl, gq, l, _, rfl, SqL.of (s3 _ _ (hl0 i r l hr1 hl)), ?_, fun ns2 q2 hp2 hs2 hq2 => ?_⟩
      · rw [List.length_map]
        have z := List.length_filter_le (g i) [tw0 r.n m, tw1 r.n m]
        show (([tw0 r.n m, tw1 r.n m]).filter (g i)).length < 64
        have z2 : [tw0 r.n m, tw1 r.n m].length = 2 := rfl
        omega
      · obtain rfl : ns1 = ns2 := same_sorted (hp1.trans hp2.symm) hs1 hs2
        have s4 : Same H3 (upd H3 q2 (.lst (ns1.map V.int))) := same_nw hq2
        refine ⟨_, _, .lst (SqL.of (s4 _ _ e1)) (dp_ints7 ns1), .lst (SqL.of upd_same) (dp_ints7 ns1), sh_ints7 _, sh_ints7 _, _, rfl, ?_⟩
        rw [eqv_ints7]
        refine iteF ?_
        have s5 := s3.trans s4
        have ht5 := s4 _ _ (s2 _ _ ht)
        generalize upd H3 q2 (.lst (ns1.map V.int)) = H5 at s4 s5 ht5 ⊢
        obtain ⟨d2, hd2, hsh2, hcase⟩ : ∃ d2, Dp K H5 x d2 ∧ SeqAt.shaped d2 = true ∧ ((PyData.eqv (.tuple [.int r.n, .int r.b, .int r.k.sum]) d2 = true ∧ goods r.n m (g i) = []) ∨ (PyData.eqv (.tuple [.int r.n, .int r.b, .int r.k.sum]) d2 = false ∧ goods r.n m (g i) ≠ [])) := by
          rcases hx with ⟨rfl, hx⟩ | ⟨t2, j, r2, rfl, hj, ht2, hg2, hx⟩
          · exact ⟨_, .non, rfl, .inr ⟨eqv_tri_non _ _ _, hx i r hr1⟩⟩
          · refine ⟨_, dp_tri (s5 _ _ (hT _ _ ht2)), sh_tri _ _ _, ?_⟩
            by_cases c : i = j
            · subst c
              rw [hr1] at hj
              obtain rfl := Option.some.inj hj
              exact .inl ⟨tri_same r, hg2⟩
            · exact .inr ⟨tri_other fun z => c (rec_ix hrs.nd hr1 hj z), hx i r hr1 c⟩
        refine ⟨_, rfl, _, rfl, _, _, dp_tri ht5, hd2, sh_tri _ _ _, hsh2, _, rfl, ?_⟩
        rcases hcase with ⟨he, hg⟩ | ⟨he, hg⟩
        · rw [he]
          refine iteT ?_
          refine ⟨_, rfl, _, rfl, p, t, r.n, r.b, r.k, g i, m, B, cap, rfl, hB0.mono s5, ht5, ho1, ho2, ho3, hco i r hr1, hg, fun H6 s6 => ?_⟩
          refine ⟨_, rfl, iteF ?_⟩
          exact ⟨_, rfl, s5.trans s6⟩
        · rw [he]
          refine iteF ?_
          refine ⟨_, rfl, _, rfl, p, t, r.n, r.b, r.k, g i, m, B, cap, rfl, hB0.mono s5, ht5, ho1, ho2, ho3, hco i r hr1, hg, fun H6 v2 s6 hv2 => ?_⟩
          have gl : DGet H6 a (.ref t) (valV (kvz rs vs) r.key) := .inr ⟨_, r.key, _, .inr ⟨od, s6 _ _ (s5 _ _ ha0)⟩, rfl, s6 _ _ ht5, rfl⟩
          rw [val_kvz hrs.nd hr1 hv1] at gl
          have hvv := Rp.mono (hT.trans (Tups.of (s5.trans s6))) _ _ (hvs i r v hr1 hv1)
          refine ⟨_, rfl, _, rfl, a, v, rfl, gl, _, _, Rp.dp _ _ hv2, Rp.dp _ _ hvv, py_shaped (Blk.th_ok ho3 0) (by decide), py_shaped (Blk.th_ok ho3 0) (by decide), _, rfl, ?_⟩
          rw [py_refl (Blk.th_ok ho3 0)]
          refine iteF ?_
          exact ⟨_, rfl, s5.trans s6⟩
    · rintro σ H1 ⟨u, rfl, s1⟩
      refine ⟨s1 _ _ ha0, ?_⟩
      exact q _ (hout _ s1)
end
end Sk

set_option Elab.async false
set_option linter.all false
set_option maxRecDepth 100000
set_option maxHeartbeats 4000000
namespace Sk
open PySem PySem.Spec PyProof.Rows L2
theorem cut_script (ns : List Int) : ∃ ms : List Int, cutV (ns.map V.int) (some 2) (some 10) = ms.map V.int ∧ ms.length ≤ 8 := by
  refine ⟨(ns.drop (min 2 ns.length)).take (min 10 ns.length - min 2 ns.length), ?_, ?_⟩
  · unfold cutV
    rw [show HT.sIx (ns.map V.int).length 0 (some 2) = min 2 (ns.map V.int).length from HT.sIx_nat _ _ 2, show HT.sIx (ns.map V.int).length (ns.map V.int).length (some 10) = min 10 (ns.map V.int).length from HT.sIx_nat _ _ 10, List.length_map, List.map_take, List.map_drop]
  · rw [List.length_take]
    omega
section
variable {P : Program} {w : World} {K : PySem.W.Frag} {mg : Str → Option Value} {base : Heap} {f fI : Addr} {fd fdI : FuncData} {C : Addr}
theorem sc_law : FnScope ["_law_script", "_law_first", "_law_boards", "_law_many", "_law_laid_here", "_law_tags", "_law_gone", "_law_right", "_law_rows", "_law_tag_here", "_law_k", "_law_some", "_law_board", "_law_but"] ["_law_script"] (defScope s_law) := ⟨rfl, rfl, rfl, by decide +kernel, rfl, by decide +kernel, by decide +kernel⟩
theorem ok_law (F : FnP K "law" s_law f fd) (T : Txt mg) (TB : TxB K mg C) (MK : Mk K C fI) (GB : FnOk P w K mg base CX0 16 fI fdI ["self", "many"] (sp_B_init C)) (bB : Binds K fdI ["self", "many"] [])
    (g_law_cell_at : Has P w K mg base CX0 17 "_law_cell_at" ["_law_script", "_law_k"] (sp_cell_at K)) (g_law_numbers : Has P w K mg base CX0 17 "_law_numbers" ["_law_cell", "_law_many"] sp_numbers)
    (g_law_laid : Has P w K mg base CX0 17 "_law_laid" ["_law_boards", "_law_cells"] (sp_laid C)) (g_law_spoilt : Has P w K mg base CX0 17 "_law_spoilt" ["_law_boards", "_law_board", "_law_tag_here", "_law_some", "_law_rows"] (sp_spoilt C))
    (g_law_all_told : Has P w K mg base CX0 17 "_law_all_told" ["_law_boards", "_law_laid_here", "_law_right", "_law_but"] (sp_all_told C)) (g_lay : Has P w K mg base CX0 17 "lay" ["boards", "number", "birth", "block"] (sp_lay C))
    (g_many : HasM P w K mg base CX0 17 C "many" ["self"] (sp_many C)) (g_cell : HasM P w K mg base CX0 17 C "cell" ["self", "board", "number"] (sp_cell C))
    (g_spoil : HasM P w K mg base CX0 17 C "spoil" ["self", "board", "number", "row"] (sp_spoil C)) (g_lose : HasM P w K mg base CX0 17 C "lose" ["self", "board"] (sp_lose C)) : FnOk P w K mg base CX0 18 f fd ["_law_script"] (sp_law K) := by
  refine ok0 F sc_law (fun vs H Q E h => ?_) (fun cdv A outer s H vs Q E hr h => ?_)
  · obtain ⟨a, ns, rfl, _⟩ := h
    rfl
  · obtain ⟨a0, ns0, rfl, hS, hl0, q⟩ := h
    have hu := hu_of hr
    refine ⟨_, (pss_cons (ps_set (i := 1) sc_law.nd rfl (Or.inl rfl) (pe_has g_law_cell_at hr pass0 (pa_cons (pv 0) (pa_cons pe_int pa_nil))))
    (pss_cons (ps_set (i := 2) sc_law.nd rfl (Or.inl rfl) (pe_make MK GB hr rfl TB.mgC bB .nil pass0 (pa_cons (pe_op op_add pe_int (pe_op op_mod (pv 1) pe_int)) pa_nil)))
    (pss_cons (ps_set (i := 3) sc_law.nd rfl (Or.inl rfl) (pe_hasM0 (pv 2) TB.cl g_many hr pass0))
    (pss_cons (ps_set (i := 4) sc_law.nd rfl (Or.inl rfl) (pe_has g_law_laid hr pass0 (pa_cons (pv 2) (pa_cons (pe_op op_cat (pe_lst (pa_cons pe_int pa_nil)) (pe_slice sl_list (pv 0) (po_some pe_int) (po_some pe_int))) pa_nil))))
    (pss_cons (ps_set (i := 5) sc_law.nd rfl (Or.inl rfl) (pe_callTy (call_list_dT rfl) rfl T.n_list boot_tlist (pa_cons (pv 4) pa_nil)))
    (pss_cons (ps_set (i := 6) sc_law.nd rfl (Or.inr rfl) (pe_ix ix_list (pe_lst (pa_cons pe_non (pa_cons (pe_op op_mod (pe_op op_fdiv (pv 1) pe_int) (pv 3)) pa_nil))) (pe_op op_mod (pe_op op_fdiv (pv 1) pe_int) pe_int) (fun _ _ => rfl)))
    (pss_cons (ps_set (i := 7) sc_law.nd rfl (Or.inl rfl) pe_dnewT)
    (pss_cons (ps_set (i := 8) sc_law.nd rfl (Or.inl rfl) pe_dnewT)
    (pss_cons (ps_for PassesOwn.never rfl (pi_list (pv 5)) (pg_name (i := 9) sc_law.nd rfl (Or.inl rfl))
      (pss_cons (ps_dput hu (pv 7) (pv 9) (pe_lst (pa_cons (pe_op op_mod (pe_ix ix_tup (pv 9) pe_int (fun _ _ => rfl)) (pv 3)) (pa_cons (pe_op op_mod (pe_op op_add (pe_ix ix_tup (pv 9) pe_int (fun _ _ => rfl)) pe_int) (pv 3)) pa_nil))) rfl)
    (pss_one (ps_dput hu (pv 8) (pv 9) (pe_hasM (pv 2) TB.cl g_cell hr pass0 (pa_cons (pe_op op_mod (pe_ix ix_tup (pv 9) pe_int (fun _ _ => rfl)) (pv 3)) (pa_cons (pe_ix ix_tup (pv 9) pe_int (fun _ _ => rfl)) pa_nil))) rfl))))
    (pss_cons (ps_for PassesOwn.never rfl (pi_enum rfl T.n_enumerate (pa_cons (pv 5) pa_nil)) (pg_tup rfl (pgs_cons (pg_name (i := 10) sc_law.nd rfl (Or.inl rfl)) (pgs_cons (pg_name (i := 9) sc_law.nd rfl (Or.inl rfl)) pgs_nil)))
      (pss_cons (ps_set (i := 11) sc_law.nd rfl (Or.inl rfl) (pe_has g_law_numbers hr pass0 (pa_cons (pe_op op_add (pe_has g_law_cell_at hr pass0 (pa_cons (pv 0) (pa_cons pe_int pa_nil))) (pe_op op_mul pe_int (pv 10))) (pa_cons pe_int pa_nil))))
    (pss_one (ps_if (PW.pt (pw_and (pt_cmpR op_gt (pe_op op_mod (pe_ix ix_list (pv 11) pe_int (fun _ _ => rfl)) pe_int) pe_int (nomark _)) (pw_and1 (pt_cmpR op_notIn_seq (pv 6) (pe_dget hu (pv 7) (pv 9) (fun _ _ => rfl)) rfl))))
      (pss_cons (ps_set (i := 12) sc_law.nd rfl (Or.inl rfl) (pe_bm PySem.F.plainAttrs_list PySem.F.slot_list_pop PySem.F.type_list_pop mt_popAt (pe_dget hu (pv 7) (pv 9) (fun _ _ => rfl)) (pa_cons (pe_op op_mod (pe_ix ix_list (pv 11) pe_int (fun _ _ => rfl)) pe_int) pa_nil)))
    (pss_one (ps_expr (pe_has g_law_spoilt hr pass0 (pa_cons (pv 2) (pa_cons (pv 12) (pa_cons (pv 9) (pa_cons (pv 11) (pa_cons (pv 8) pa_nil)))))))))
      pss_nil))))
    (pss_cons (ps_if (pt_cmpR op_notN (pv 6) pe_non (nomark _))
      (pss_cons (ps_expr (pe_hasM (pv 2) TB.cl g_lose hr pass0 (pa_cons (pv 6) pa_nil)))
    (pss_one (ps_for PassesOwn.never rfl (pi_list (pv 5)) (pg_name (i := 9) sc_law.nd rfl (Or.inl rfl))
      (pss_one (ps_dput hu (pv 7) (pv 9) (pe_lc (own := [("_law_board", 12)]) (g := gName 12) rfl sc_law.nd (pi_list (pe_dget hu (pv 7) (pv 9) (fun _ _ => rfl))) (blkOk_by (own := [("_law_board", 12)]) (N := ["_law_script", "_law_first", "_law_boards", "_law_many", "_law_laid_here", "_law_tags", "_law_gone", "_law_right", "_law_rows", "_law_tag_here", "_law_k", "_law_some", "_law_board", "_law_but"]) (sc := defScope s_law) (by decide +kernel)) (fun _ _ _ _ _ => (pg_name (i := 12) sc_law.nd rfl (Or.inl rfl))) (fun _ _ _ _ _ => pts_one (pt_cmpR op_ne (pv 12) (pv 6) (nomark _))) (fun _ _ _ _ _ => (pv 12))) rfl)))))
      pss_nil)
    (pss_cons (ps_if (pt_not (pt_val (pe_has g_law_all_told hr pass0 (pa_cons (pv 2) (pa_cons (pv 4) (pa_cons (pv 7) (pa_cons pe_non pa_nil)))))))
      pss_never
      pss_nil)
    (pss_cons (ps_set (i := 13) sc_law.nd rfl (Or.inl rfl) (pe_ix ix_list (pv 5) (pe_op op_mod (pe_op op_fdiv (pv 1) pe_int) (pe_callB call_len_seq rfl T.n_len PySem.boot_len (pa_cons (pv 5) pa_nil))) (fun _ _ => rfl)))
    (pss_cons (ps_for PassesOwn.never rfl (pi_list (pe_dget hu (pv 7) (pv 13) (fun _ _ => rfl))) (pg_name (i := 12) sc_law.nd rfl (Or.inl rfl))
      (pss_one (ps_expr (pe_hasM (pv 2) TB.cl g_spoil hr pass0 (pa_cons (pv 12) (pa_cons (pe_ix ix_tup (pv 13) pe_int (fun _ _ => rfl)) (pa_cons (pe_lst pa_nil) pa_nil)))))))
    (pss_cons (ps_dput hu (pv 7) (pv 13) (pe_lst pa_nil) rfl)
    (pss_cons (ps_if (pt_not (pt_val (pe_has g_law_all_told hr pass0 (pa_cons (pv 2) (pa_cons (pv 4) (pa_cons (pv 7) (pa_cons (pv 13) pa_nil)))))))
      pss_never
      pss_nil)
    (pss_cons (ps_expr (pe_has g_lay hr pass0 (pa_cons (pv 2) (pa_cons (pe_ix ix_tup (pv 13) pe_int (fun _ _ => rfl)) (pa_cons (pe_ix ix_tup (pv 13) pe_int (fun _ _ => rfl)) (pa_cons (pe_dget hu (pv 4) (pv 13) (fun _ _ => rfl)) pa_nil))))))
    (pss_cons (ps_dput hu (pv 7) (pv 13) (pe_lst (pa_cons (pe_op op_mod (pe_ix ix_tup (pv 13) pe_int (fun _ _ => rfl)) (pv 3)) (pa_cons (pe_op op_mod (pe_op op_add (pe_ix ix_tup (pv 13) pe_int (fun _ _ => rfl)) pe_int) (pv 3)) pa_nil))) rfl)
    (pss_one (ps_ret (pe_has g_law_all_told hr pass0 (pa_cons (pv 2) (pa_cons (pv 4) (pa_cons (pv 7) (pa_cons pe_non pa_nil))))))))))))))))))))))))), ?_⟩
    refine ⟨_, rfl, a0, ns0, 0, rfl, hS, fun z => ?_⟩
    obtain ⟨m, hm⟩ : ∃ m : Nat, 2 + z % 3 = m := ⟨(2 + z % 3).toNat, by omega⟩
    refine ⟨_, rfl, _, _, rfl, rfl, lt0 rfl, _, _, rfl, rfl, fun p dx hp hdx hne => ?_⟩
    refine ⟨p, dx, m, by dsimp only; rw [hm]; rfl, upd_same, by omega, by omega, fun H1 k1 hB1 => ⟨rfl, ?_⟩⟩
    have s1 : Same H H1 := Same.made hp hdx k1
    clear k1
    obtain ⟨dx1, fs, hins, hno⟩ := hB1.ins2
    refine ⟨_, rfl, p, dx1, fs, rfl, hins, hno _ (by decide +kernel) (by decide +kernel) (by decide +kernel), p, m, _, _, rfl, hB1, ?_⟩
    -- what was laid
    obtain ⟨ms, hms, hmsl⟩ := cut_script ns0
    refine ⟨_, rfl, (by show 1 ≤ sizeLine; decide), fun D1 hD1 => ?_⟩
    have s2 : Same H1 (upd H1 D1 (.lst [.int 0])) := same_nw hD1
    refine ⟨_, rfl, _, rfl, _, rfl, a0, _, rfl, (s1.trans s2).seq hS, fun D2 hD2 => ?_⟩
    rw [hms]
    have s3 : Same (upd H1 D1 (.lst [.int 0])) (upd (upd H1 D1 (.lst [.int 0])) D2 (.lst (ms.map V.int))) := same_nw hD2
    refine ⟨D1, D2, _, _, rfl, rfl, s3 _ _ upd_same, upd_same, ?_, fun D3 hD3 => ?_⟩
    · rw [List.length_map]
      show 1 + ms.length ≤ sizeLine
      have := sigLE
      omega
    have s4 : Same (upd (upd H1 D1 (.lst [.int 0])) D2 (.lst (ms.map V.int))) (upd (upd (upd H1 D1 (.lst [.int 0])) D2 (.lst (ms.map V.int))) D3 (.lst ([.int 0] ++ ms.map V.int))) := same_nw hD3
    have s5 := (s2.trans s3).trans s4
    refine ⟨p, D3, 0 :: ms, m, rfl, upd_same, by rw [List.length_cons]; omega, hB1.mono s5, fun H2 a rs B0 sk2 hB2 hla2 hrs hrl hco2 hnt2 => ?_⟩
    have hS2 : SqL K H2 a0 (ns0.map V.int) := sk2.seq ((s1.trans s5).seq hS)
    clear sk2 s2 s3 s4 s5 hD1 hD2 hD3 hins hno
    obtain ⟨hm2, hm4⟩ := hB2.two2
    have hrs1 : 1 ≤ rs.length := by
      rw [hrl, List.length_cons]
      omega
    have hrs9 := hrs.len
    -- the list of the tags
    obtain ⟨vs0, hvl0, ha0, hvs0⟩ := id hla2
    refine ⟨_, rfl, a, _, rfl, .inl ha0, fun tg ts htg hts => ?_⟩
    have s6 : Same H2 (upd H2 tg (.lst (ts.map V.ref))) := same_nw htg
    have htl : ts.length = rs.length := by
      have := Paired.length hts
      rw [kvz_len hvl0] at this
      exact this.symm
    have htsa : ∀ (i : Nat) (r : Rec) (t : Addr), rs[i]? = some r → ts[i]? = some t → H2 t = some r.tup := fun i r t h1 h2 => by
      obtain ⟨v, hv⟩ : ∃ v, vs0[i]? = some v := ⟨_, List.getElem?_eq_getElem (by have := (List.getElem?_eq_some_iff.mp h1).1; omega)⟩
      obtain ⟨b, hb, hbH⟩ := paired_at hts (kvz_at h1 hv)
      rw [h2] at hb
      obtain rfl := Option.some.inj hb
      exact hbH
    have hta2 : TagsAt (upd H2 tg (.lst (ts.map V.ref))) tg rs := ⟨ts, htl, upd_same, fun i r t h1 h2 => s6 _ _ (htsa i r t h1 h2)⟩
    -- the board to be lost
    obtain ⟨gi, hgi⟩ : ∃ gi : Nat, z / 6 % (m : Int) = gi := ⟨(z / 6 % (m : Int)).toNat, by have := Int.emod_nonneg (z / 6) (by omega : (m : Int) ≠ 0); omega⟩
    have hgm : gi < m := by
      have := Int.emod_lt_of_pos (z / 6) (by omega : (0 : Int) < (m : Int))
      omega
    obtain ⟨gv, hgv, hgone⟩ : ∃ gv : V, atI [V.non, V.int (gi : Nat)] (z / 3 % 2) = some gv ∧ GoneIs m gv := by
      have h2 : z / 3 % 2 = 0 ∨ z / 3 % 2 = 1 := by omega
      rcases h2 with h2 | h2
      · rw [h2]
        exact ⟨_, rfl, .inl rfl⟩
      · rw [h2]
        exact ⟨_, rfl, .inr ⟨gi, hgm, rfl⟩⟩
    refine ⟨_, rfl, _, _, rfl, rfl, ⟨by decide, by decide⟩, _, rfl, _, _, rfl, rfl, (by omega), (by show 2 ≤ sizeLine; decide), fun D4 hD4 => ?_⟩
    dsimp only
    rw [hgi]
    have s7 : Same (upd H2 tg (.lst (ts.map V.ref))) (upd (upd H2 tg (.lst (ts.map V.ref))) D4 (.lst [.non, .int (gi : Nat)])) := same_nw hD4
    refine ⟨_, rfl, _, _, rfl, rfl, ⟨by decide, by decide⟩, _, _, rfl, rfl, lt0 rfl, D4, _, _, _, rfl, rfl, SqL.of upd_same, hgv, ?_⟩
    have s8 := s6.trans s7
    have hB4 := hB2.mono s8
    have hla4 := hla2.mono (SKeep.of s8)
    have hta4 := hta2.mono (SKeep.of s7)
    have hS4 := s8.seq hS2
    have htg4 := s7 _ _ (upd_same (a := tg))
    have hts4 : ∀ (i : Nat) (r : Rec) (t : Addr), rs[i]? = some r → ts[i]? = some t → _ := fun i r t h1 h2 => s8 _ _ (htsa i r t h1 h2)
    generalize upd (upd H2 tg (.lst (ts.map V.ref))) D4 (.lst [.non, .int (gi : Nat)]) = H4 at s7 s8 hB4 hla4 hta4 hS4 htg4 hts4 ⊢
    clear s6 s7 s8 hB2 hla2 hta2 hS2 htsa hD4 hts ha0 hvs0
    -- the two dicts
    refine fun qa hq => ?_
    refine fun wa hw => ?_
    have hwq : wa ≠ qa := fun y => by
      rw [y, upd_same] at hw
      cases hw
    have hw4 : H4 wa = none := by
      rw [upd_ne hwq] at hw
      exact hw
    have aq : a ≠ qa := by
      obtain ⟨kvs, e⟩ := hla4.dict
      exact ne_of_none e hq
    have aw : a ≠ wa := by
      obtain ⟨kvs, e⟩ := hla4.dict
      exact ne_of_none e hw4
    have sq : Same H4 (upd (upd H4 qa (.dT [])) wa (.dT [])) := (same_nw hq).trans (same_nw hw)
    refine ⟨_, rfl, tg, rfl, ⟨_, SqL.of (sq _ _ htg4)⟩, for_list (K := K) (a := tg) (xs := ts.map V.ref)
      (fun i σ H' => ∃ u9, σ = [some (.ref a0), some (.int z), some (.ref p), some (.int m), some (.ref a), some (.ref tg), some gv, some (.ref qa), some (.ref wa), u9, none, none, none, none] ∧ Same H4 H' ∧ (∃ ls : List Addr, (∀ l ∈ ls, H4 l = none) ∧ RightIs H' qa ls (rs.take i) m (fun _ _ => true)) ∧ RowsAt H' wa (rs.take i))
      ⟨none, rfl, sq, ⟨[], (fun l h1 => (nomatch h1)), rfl, List.nodup_nil, (by rw [upd_ne hwq.symm, upd_same]; rfl), fun i r l h1 _ => (nomatch h1)⟩, ⟨[], rfl, upd_same, fun i r l h1 _ => (nomatch h1)⟩⟩ (fun i σ H' _ ⟨_, _, s5, _⟩ => SqL.of (s5 _ _ htg4)) ?_ ?_⟩
    · rintro i x σ H5 hxi ⟨u9, rfl, s5, ⟨ls, hlsn, hri⟩, hro⟩
      obtain ⟨t, ht, rfl⟩ := ref_at hxi
      obtain ⟨r, hr1⟩ : ∃ r, rs[i]? = some r := ⟨_, List.getElem?_eq_getElem (by have := (List.getElem?_eq_some_iff.mp ht).1; omega)⟩
      have htH := s5 _ _ (hts4 i r t hr1 ht)
      have hlen : (rs.take i).length < 1000 := by
        rw [List.length_take]
        omega
      have hfr := rec_fresh hrs.nd hr1
      refine ⟨_, rfl, t, _, _, .int r.n, rfl, rfl, SqT.of htH, rfl, _, rfl, _, _, rfl, rfl, (by omega), _, rfl, t, _, _, .int r.n, rfl, rfl, SqT.of htH, rfl, _, _, rfl, rfl, _, rfl, _, _, rfl, rfl, (by omega), (by show 2 ≤ sizeLine; decide), fun l hl => ?_⟩
      dsimp only
      rw [tw0_eq hm2, tw1_eq hm2]
      have s6 : Same H5 (upd H5 l (.lst [.int (tw0 r.n m : Nat), .int (tw1 r.n m : Nat)])) := same_nw hl
      obtain ⟨H7, dp7, ri7, pu7⟩ := right_new hri s6 hl upd_same (s6 _ _ htH) hfr hlen
      refine ⟨_, rfl, _, rfl, qa, H7, rfl, dp7, ?_⟩
      have s7 : Same H4 H7 := fun b o e => pu7 _ _ (s6 _ _ (s5 _ _ e)) (ne_of_none e hq)
      have ro7 : RowsAt H7 wa (rs.take i) := by
        obtain ⟨kvs, e⟩ := hri.at.dict
        exact (hro.mono (SKeep.of s6)).put pu7 (s6 _ _ e) (.inl ⟨_, rfl⟩) hwq
      rw [← take_snoc hr1] at ri7
      have hB7 := hB4.mono s7
      have ht7 := s7 _ _ (hts4 i r t hr1 ht)
      obtain ⟨dx, fs, hins, hno⟩ := hB7.ins2
      refine ⟨_, rfl, p, dx, fs, rfl, hins, hno _ (by decide +kernel) (by decide +kernel) (by decide +kernel), _, rfl, t, _, _, .int r.n, rfl, rfl, SqT.of ht7, rfl, _, rfl, _, _, rfl, rfl, (by omega), _, rfl, t, _, _, .int r.n, rfl, rfl, SqT.of ht7, rfl,
        p, tw0 r.n m, r.n, m, B0, 18, (by dsimp only; rw [tw0_eq hm2]; rfl), hB7, tw0_lt hm2, fun ec => ?_, fun ws ec H8 l8 s8 n8 e8 => ?_⟩
      · have := (hco2 i r hr1 (tw0 r.n m) (.inl rfl)).1 rfl
        rw [ec] at this
        cases this
      · have := (hco2 i r hr1 (tw0 r.n m) (.inl rfl)).1 rfl
        rw [ec] at this
        obtain rfl := Option.some.inj this
        obtain ⟨H9, dp9, ro9, pu9⟩ := rows_new (ro7.mono (SKeep.of s8)) e8 (s8 _ _ ht7) hfr hlen
        refine ⟨_, rfl, _, rfl, wa, H9, rfl, dp9, ?_⟩
        rw [← take_snoc hr1] at ro9
        obtain ⟨kvs, e⟩ := ro7.dict
        refine ⟨some (.ref t), rfl, fun b o e => pu9 _ _ (s8 _ _ (s7 _ _ e)) (ne_of_none e hw4), ⟨ls ++ [l], fun x hx => ?_, (ri7.mono (SKeep.of s8)).put pu9 (s8 _ _ e) hwq.symm⟩, ro9⟩
        rcases List.mem_append.mp hx with hx | hx
        · exact hlsn x hx
        · rw [List.mem_singleton.mp hx]
          exact s5.free hl
    · rintro σ H5 ⟨u9, rfl, s5, ⟨ls, hlsn, hri⟩, hro⟩
      rw [List.length_map, htl, List.take_length] at hri hro
      have L5 : LawSt C H5 p a tg qa wa ts rs m B0 18 (fun _ _ => true) := ⟨hB4.mono s5, hnt2, hla4.mono (SKeep.of s5), ⟨s5 _ _ htg4, htl, fun i r t h1 h2 => s5 _ _ (hts4 i r t h1 h2)⟩, hri.at, hro, hco2⟩
      have hS5 := s5.seq hS4
      have hscr : (∀ l ∈ ls, l ≠ a0) ∨ ∀ H, SqL K H a0 (ns0.map V.int) := by
        rcases scr_of hS4 with c | c
        · exact .inl fun l hl => c l (hlsn l hl)
        · exact .inr c
      clear s5 hro hB4 hla4 hta4 hS4 htg4 hts4 sq hco2 hnt2 hq hw hw4 hlsn
      refine ⟨_, rfl, tg, _, rfl, SqL.of L5.ta.1, for_it (walk_enum (K := K) (a := tg) (xs := ts.map V.ref))
        (fun i σ H' => ∃ (u9 u10 u11 u12 : Option V) (B : Bds) (g : Nat → Nat → Bool), σ = [some (.ref a0), some (.int z), some (.ref p), some (.int m), some (.ref a), some (.ref tg), some gv, some (.ref qa), some (.ref wa), u9, u10, u11, u12, none] ∧ LawSt C H' p a tg qa wa ts rs m B (18 + i) g ∧ RightIs H' qa ls rs m g ∧
          (∀ (j : Nat) (r : Rec), rs[j]? = some r → GoodSt gv r m (g j)) ∧ (∀ j, i ≤ j → g j = fun _ => true) ∧ SqL K H' a0 (ns0.map V.int))
        ⟨u9, none, none, none, B0, fun _ _ => true, rfl, L5, hri, fun j r _ => .inl ⟨rfl, rfl⟩, fun _ _ => rfl, hS5⟩ (fun i σ H' _ ⟨_, _, _, _, _, _, _, L, _⟩ => SqL.of L.ta.1) ?_ ?_⟩
      · rintro i x σ H6 H7 hi ⟨u9, u10, u11, u12, B, g, rfl, L6, hri6, hgd, hall, hS6⟩ ⟨T2, x1, x2, rfl, hT2, rfl, e1, e2⟩
        have e2 : (ts.map V.ref)[i]? = some x2 := e2
        obtain rfl : V.int (i : Nat) = x1 := Option.some.inj e1
        obtain ⟨t, ht, rfl⟩ := ref_at e2
        have hil : i < rs.length := by
          have := (List.getElem?_eq_some_iff.mp ht).1
          omega
        obtain ⟨r, hr1⟩ : ∃ r, rs[i]? = some r := ⟨_, List.getElem?_eq_getElem hil⟩
        have s7 : Same H6 (upd H6 T2 (.tup [.int (i : Nat), .ref t])) := same_nw hT2
        refine ⟨T2, _, rfl, SqT.of upd_same, rfl, _, _, rfl, _, _, rfl, rfl, ?_⟩
        have L7 := L6.same s7
        have hri7 := hri6.mono (SKeep.of s7)
        have hS7 := s7.seq hS6
        generalize upd H6 T2 (.tup [.int (i : Nat), .ref t]) = H7 at L7 hri7 hS7 ⊢
        clear s7 L6 hri6 hS6 hT2 e1 e2
        refine ⟨_, rfl, a0, ns0, 1, rfl, hS7, fun z1 => ?_⟩
        refine ⟨_, rfl, _, _, rfl, rfl, .inl ⟨by decide, by decide⟩, _, _, rfl, rfl, ?_⟩
        refine ⟨_, 4, rfl, by decide, fun H8 sl ms8 s8 n8 e8 hml hmp => ?_⟩
        obtain ⟨n0, h0⟩ : ∃ n, ms8[0]? = some n := ⟨_, List.getElem?_eq_getElem (by omega)⟩
        have at0 : atI (ms8.map V.int) 0 = some (.int n0) := atI_nat (j := 0) (by rw [List.getElem?_map, h0]; rfl)
        have L8 := L7.same s8
        have hri8 := hri7.mono (SKeep.of s8)
        have hS8 := s8.seq hS7
        have stay : ∀ u10 u11 : Option V, ∃ (v9 v10 v11 v12 : Option V) (B : Bds) (g : Nat → Nat → Bool), [some (V.ref a0), some (.int z), some (.ref p), some (.int m), some (.ref a), some (.ref tg), some gv, some (.ref qa), some (.ref wa), some (.ref t), u10, u11, u12, none] = [some (.ref a0), some (.int z), some (.ref p), some (.int m), some (.ref a), some (.ref tg), some gv, some (.ref qa), some (.ref wa), v9, v10, v11, v12, none] ∧ LawSt C H8 p a tg qa wa ts rs m B (18 + (i + 1)) g ∧ RightIs H8 qa ls rs m g ∧
          (∀ (j : Nat) (r : Rec), rs[j]? = some r → GoodSt gv r m (g j)) ∧ (∀ j, i + 1 ≤ j → g j = fun _ => true) ∧ SqL K H8 a0 (ns0.map V.int) := fun u10 u11 =>
            ⟨_, _, _, _, B, g, rfl, ⟨L8.hB.cap (by omega), L8.nt, L8.la, L8.ta, L8.ri, L8.ro, L8.co⟩, hri8, hgd, fun j hj => hall j (by omega), hS8⟩
        refine ⟨_, rfl, sl, _, _, _, rfl, rfl, SqL.of e8, at0, _, _, rfl, rfl, lt0 rfl, _, _, rfl, rfl, _, rfl, ite2 (fun c1 => ?_) (fun c1 => iteF (stay _ _))⟩
        obtain ⟨l, hlm, gq, hlH, hp0, hp1⟩ := right_pop hri8 hrs.nd hr1 (hall i (Nat.le_refl _)) hm2
        have ht8 := L8.ta.2.2 i r t hr1 ht
        refine ⟨_, rfl, _, rfl, _, rfl, qa, _, rfl, gq t ht8, l, _, rfl, .inl (SqL.of hlH), gone_flat hgone, rfl, _, rfl, ite2 (fun c2 => ?_) (fun c2 => stay _ _)⟩
        have hin : inV gv [.int (tw0 r.n m : Nat), .int (tw1 r.n m : Nat)] = false := by
          have c3 : (!inV gv [.int (tw0 r.n m : Nat), .int (tw1 r.n m : Nat)]) = true := c2
          rw [Bool.not_eq_true'] at c3
          exact c3
        have hgo := gone_not hgone hin
        obtain ⟨k, b, c, hk1, hk2, hk3, hri9, hbc⟩ := pop_of (y := n0 % 2) hp0 hp1 (by omega)
        refine ⟨_, rfl, _, rfl, qa, _, rfl, gq t ht8, .inl ⟨rfl, _, SqL.of hlH⟩, _, rfl, sl, _, _, _, rfl, rfl, SqL.of e8, at0, _, _, rfl, rfl, lt0 rfl, l, _, _, k, _, rfl, rfl, hlH, (by omega), (by omega), hk1, hk2, ?_⟩
        rw [hk3]
        have pu9 : Put l H8 (upd H8 l (.lst [.int (c : Nat)])) := upd_put
        have o9 : Odd2 (.lst [.int (tw0 r.n m : Nat), .int (tw1 r.n m : Nat)]) := .inr ⟨_, _, rfl⟩
        have hB9 := L8.hB.put pu9 hlH o9 L8.nt
        have la9 := L8.la.put pu9 hlH o9 (by obtain ⟨kvs, e⟩ := L8.la.dict; exact ne_of e hlH (by intro z; cases z))
        have ta9 := L8.ta.put pu9 hlH o9
        have ro9 := L8.ro.put pu9 hlH o9 (by obtain ⟨kvs, e⟩ := L8.ro.dict; exact ne_of e hlH (by intro z; cases z))
        have e9 := pu9 _ _ e8 (by obtain ⟨o, e⟩ := hri7.some hlm; exact (ne_of_none e n8).symm)
        have hS9 : SqL K (upd H8 l (.lst [.int (c : Nat)])) a0 (ns0.map V.int) := seq_scr hS8 (by
          rcases hscr with h | h
          · exact .inl (h l hlm)
          · exact .inr h)
        generalize upd H8 l (.lst [.int (c : Nat)]) = H9 at pu9 hB9 la9 ta9 ro9 e9 hS9 hri9 ⊢
        have hbm : b < m := by
          rcases hbc with ⟨rfl, _⟩ | ⟨rfl, _⟩
          · exact tw0_lt hm2
          · exact tw1_lt hm2
        refine ⟨_, rfl, _, rfl, _, rfl, _, rfl, _, rfl, p, t, sl, wa, b, i, r, ms8, rs, m, B, 18 + i, rfl, hB9, hbm, by omega, ta9.2.2 i r t hr1 ht, hr1, hrs, e9, hml, hmp, ro9, fun H10 o hbad hno2 hB10 sk10 => ?_⟩
        obtain ⟨co10, gd10⟩ := popped hrs.nd hr1 L8.co hbad hm2 (hall i (Nat.le_refl _)) hbc hgo hgd
        refine ⟨_, _, _, _, _, _, rfl, ⟨hB10, L8.nt.set hno2, la9.mono sk10, ta9.mono sk10, (hri9.mono sk10).at, ro9.mono sk10, co10⟩, hri9.mono sk10, gd10, fun j hj => ?_, sk10.seq hS9⟩
        rw [← hall j (by omega)]
        funext x
        rw [if_neg fun y => by have := y.1; omega]
      · rintro σ H6 ⟨u9, u10, u11, u12, B, g, rfl, L6, _, hgd, _, _⟩
        rw [List.length_map, htl] at L6
        have L6 : LawSt C H6 p a tg qa wa ts rs m B 27 g := ⟨L6.hB.cap (by omega), L6.nt, L6.la, L6.ta, L6.ri, L6.ro, L6.co⟩
        clear hS5 hri L5 hscr
        dsimp only
        refine seq_of (fun σ H' => ∃ (u9 u10 u11 u12 : Option V) (B : Bds) (g : Nat → Nat → Bool), σ = [some (.ref a0), some (.int z), some (.ref p), some (.int m), some (.ref a), some (.ref tg), some gv, some (.ref qa), some (.ref wa), u9, u10, u11, u12, none] ∧ LawSt C H' p a tg qa wa ts rs m B 27 g ∧ ∀ (j : Nat) (r : Rec), rs[j]? = some r → goods r.n m (g j) ≠ []) ?_ (fun rest => ?_)
        · rintro σ H7 ⟨v9, v10, v11, v12, B7, g7, rfl, L7, hgd7⟩
          clear L6 hgd
          refine ⟨_, rfl, _, rfl, _, rfl, p, a, qa, .non, rs, g7, m, B7, 27, rfl, aq, L7.hB, L7.la, L7.ri, hrs, L7.co, .inl ⟨rfl, hgd7⟩, fun H8 s8 => ⟨_, rfl, iteF ?_⟩⟩
          have L8 := L7.same s8
          clear L7 s8
          -- the tag to be lost
          obtain ⟨j, hj⟩ : ∃ j : Nat, z / 99 % (rs.length : Int) = j := ⟨(z / 99 % (rs.length : Int)).toNat, by have := Int.emod_nonneg (z / 99) (by omega : (rs.length : Int) ≠ 0); omega⟩
          have hjl : j < rs.length := by
            have := Int.emod_lt_of_pos (z / 99) (by omega : (0 : Int) < (rs.length : Int))
            omega
          obtain ⟨r, hr1⟩ : ∃ r, rs[j]? = some r := ⟨_, List.getElem?_eq_getElem hjl⟩
          obtain ⟨t, ht⟩ : ∃ t, ts[j]? = some t := ⟨_, List.getElem?_eq_getElem (by omega)⟩
          have hat : atI (ts.map V.ref) (z / 99 % ((ts.map V.ref).length : Int)) = some (.ref t) := by
            rw [List.length_map, htl, hj]
            exact atI_nat (by rw [List.getElem?_map, ht]; rfl)
          refine ⟨_, rfl, _, rfl, _, _, rfl, rfl, ⟨by decide, by decide⟩, _, rfl, tg, _, rfl, .inl (SqL.of L8.ta.1), _, _, rfl, rfl, (by rw [List.length_map, htl]; omega), tg, _, _, _, rfl, rfl, SqL.of L8.ta.1, hat, ?_⟩
          obtain ⟨hok1, hok2, hok3⟩ := hrs.ok r (getE hr1)
          have ht8 := L8.ta.2.2 j r t hr1 ht
          obtain ⟨l, gq, hlH⟩ := right_get L8.ri hrs.nd hr1
          refine ⟨_, rfl, _, rfl, qa, _, rfl, gq t ht8, l, rfl, ⟨_, SqL.of hlH⟩, for_list (K := K) (a := l) (xs := intsN (goods r.n m (g7 j)))
            (fun i σ H' => ∃ (u12 : Option V) (B' : Bds), σ = [some (.ref a0), some (.int z), some (.ref p), some (.int m), some (.ref a), some (.ref tg), some gv, some (.ref qa), some (.ref wa), v9, v10, v11, u12, some (.ref t)] ∧ SKeep H8 H' ∧ BdAt C p m H' B' (27 + i) ∧ NoTwo B' ∧ (∀ k, k ≠ r.n → ∀ b, B' b k = B7 b k) ∧
              (∀ b ∈ (goods r.n m (g7 j)).take i, B' b r.n = some []) ∧ (∀ b, ¬ b ∈ (goods r.n m (g7 j)).take i → B' b r.n = B7 b r.n))
            ⟨v12, B7, rfl, SKeep.refl _, L8.hB, L8.nt, fun _ _ _ => rfl, fun b hb => (nomatch hb), fun b _ => rfl⟩ (fun i σ H' _ ⟨_, _, _, sk, _⟩ => SqL.of (sk.ints hlH)) ?_ ?_⟩
          · rintro i x σ H9 hx ⟨u12, B', rfl, sk, hB9, hnt9, k1, k2, k3⟩
            obtain ⟨b, hb, rfl⟩ := ints_at hx
            have hil : i < 2 := by
              have h1 := (List.getElem?_eq_some_iff.mp hb).1
              have h2 := goods_le r.n m (g7 j)
              omega
            obtain ⟨dx, fs, hins, hno⟩ := hB9.ins2
            have ht9 := sk _ _ ht8 trivial
            refine ⟨_, rfl, p, dx, fs, rfl, hins, hno _ (by decide +kernel) (by decide +kernel) (by decide +kernel), _, rfl, _, rfl, t, _, _, .int r.n, rfl, rfl, SqT.of ht9, rfl, Nat.zero_le _, fun D hD => ?_⟩
            have s10 : Same H9 (upd H9 D (.lst [])) := same_nw hD
            refine ⟨p, b, r.n, .ref D, some [], m, B', 27 + i, rfl, hB9.mono s10, goods_lt hm2 (getE hb), by omega, .inr ⟨D, [], rfl, rfl, upd_same⟩, fun H11 hB11 sk11 => ?_⟩
            refine ⟨_, _, rfl, (sk.trans (SKeep.of s10)).trans sk11, hB11, hnt9.set fun ws e => by rw [← Option.some.inj e]; decide, fun k hk b2 => ?_, fun b2 hb2 => ?_, fun b2 hb2 => ?_⟩
            · rw [bset_other hk]
              exact k1 k hk b2
            · by_cases c : b2 = b
              · rw [c]
                exact bset_same
              · rw [bset_else c]
                rw [take_snoc hb] at hb2
                rcases List.mem_append.mp hb2 with hb2 | hb2
                · exact k2 b2 hb2
                · exact (c (List.mem_singleton.mp hb2)).elim
            · rw [take_snoc hb] at hb2
              rw [bset_else fun c => hb2 (List.mem_append_right _ (by rw [c]; exact List.mem_singleton.mpr rfl))]
              exact k3 b2 fun c => hb2 (List.mem_append_left _ c)
          · rintro σ H9 ⟨u12, B', rfl, sk, hB9, hnt9, k1, k2, k3⟩
            have e3 : (intsN (goods r.n m (g7 j))).length = (goods r.n m (g7 j)).length := by
              rw [List.length_map, List.length_map]
            rw [e3] at hB9 k2 k3
            rw [List.take_length] at k2 k3
            have L9 := L8.hh.deed sk (hB9.cap (by have := goods_le r.n m (g7 j); omega : 27 + (goods r.n m (g7 j)).length ≤ 29)) hnt9
            have co9 := copies_spoilt hrs.nd hr1 L8.co k1 k2 k3
            clear hB9 hnt9 k1 k2 k3 hlH gq
            -- right[but] = []
            refine ⟨Nat.zero_le _, fun D hD => ?_⟩
            have s10 : Same H9 (upd H9 D (.lst [])) := same_nw hD
            obtain ⟨H11, dp, ri, pu⟩ := right_set (g0 := fun _ => false) (t := t) L9.ri s10 hD upd_same (s10 _ _ (L9.ta.2.2 j r t hr1 ht)) hrs.nd hr1 (by omega)
            refine ⟨_, rfl, _, rfl, qa, H11, rfl, dp, ?_⟩
            have L11 := ((L9.same s10).put pu aq hwq ri).st co9
            have hgd11 : ∀ (i : Nat) (r' : Rec), rs[i]? = some r' → i ≠ j → goods r'.n m ((fun k => if k = j then fun _ => false else g7 k) i) ≠ [] := fun i r' hi hij => by
              dsimp only
              rw [if_neg hij]
              exact hgd7 i r' hi
            have hg11 : goods r.n m ((fun k => if k = j then fun _ => false else g7 k) j) = [] := by
              dsimp only
              rw [if_pos rfl]
              rfl
            refine ⟨_, rfl, _, rfl, _, rfl, _, rfl, p, a, qa, .ref t, rs, _, m, B', 29, rfl, aq, L11.hB, L11.la, L11.ri, hrs, L11.co, .inr ⟨t, j, r, rfl, hr1, L11.ta.2.2 j r t hr1 ht, hg11, hgd11⟩, fun H12 s12 => ⟨_, rfl, iteF ?_⟩⟩
            have L12 := L11.same s12
            clear L9 co9 s10 dp ri pu L11 s12 hg11 hgd11 hD
            have ht12 := L12.ta.2.2 j r t hr1 ht
            obtain ⟨v, gl, hv⟩ := laid_get L12.la hrs.nd hr1
            -- laid anew
            refine ⟨_, rfl, _, rfl, t, _, _, .int r.n, rfl, rfl, SqT.of ht12, rfl, _, rfl, t, _, _, .int r.b, rfl, rfl, SqT.of ht12, rfl, _, rfl, _, rfl, a, v, rfl, gl t ht12, p, r.n, r.b, v, r.k, m, B', 29, rfl, L12.hB, by decide, hok1, hok2, hok3, hv, fun H13 hB13 sk13 => ?_⟩
            have L13 := L12.hh.deed sk13 hB13 L12.nt.lay
            have co13 := copies_anew hrs.nd hr1 L12.co
            have ht13 := L13.ta.2.2 j r t hr1 ht
            refine ⟨_, rfl, t, _, _, .int r.n, rfl, rfl, SqT.of ht13, rfl, _, rfl, _, _, rfl, rfl, (by omega), _, rfl, t, _, _, .int r.n, rfl, rfl, SqT.of ht13, rfl, _, _, rfl, rfl, _, rfl, _, _, rfl, rfl, (by omega), (by show 2 ≤ sizeLine; decide), fun l2 hl2 => ?_⟩
            dsimp only
            rw [tw0_eq hm2, tw1_eq hm2]
            have s14 : Same H13 (upd H13 l2 (.lst [.int (tw0 r.n m : Nat), .int (tw1 r.n m : Nat)])) := same_nw hl2
            obtain ⟨H15, dp, ri, pu⟩ := right_set (g0 := fun _ => true) (t := t) L13.ri s14 hl2 upd_same (s14 _ _ ht13) hrs.nd hr1 (by omega)
            refine ⟨_, rfl, _, rfl, qa, H15, rfl, dp, ?_⟩
            have L15 := ((L13.same s14).put pu aq hwq ri).st co13
            refine ⟨_, rfl, _, rfl, _, rfl, p, a, qa, .non, rs, _, m, _, 31, rfl, aq, L15.hB, L15.la, L15.ri, hrs, L15.co, .inl ⟨rfl, fun i r' hi => ?_⟩, fun H16 _ => q H16⟩
            by_cases c : i = j
            · rw [if_pos c]
              exact goods_ne (.inl rfl)
            · rw [if_neg c, if_neg c]
              exact hgd7 i r' hi
        · refine ⟨_, rfl, rfl, _, rfl, ?_⟩
          rcases hgone with rfl | ⟨gj, hgjm, rfl⟩
          · exact iteF (rest _ _ ⟨u9, u10, u11, u12, B, g, rfl, L6, fun j r h => (hgd j r h).some⟩)
          · refine iteT ?_
            obtain ⟨dx, fs, hins, hno⟩ := L6.hB.ins2
            refine ⟨_, rfl, p, dx, fs, rfl, hins, hno _ (by decide +kernel) (by decide +kernel) (by decide +kernel), _, rfl, p, gj, m, B, 27, rfl, L6.hB, hgjm, fun H7 hB7 sk7 => ?_⟩
            have L7 := L6.hh.deed sk7 hB7 L6.nt.lose
            refine ⟨_, rfl, tg, rfl, ⟨_, SqL.of L7.ta.1⟩, for_list (K := K) (a := tg) (xs := ts.map V.ref)
              (fun i σ H' => ∃ (u9 u12 : Option V), σ = [some (.ref a0), some (.int z), some (.ref p), some (.int m), some (.ref a), some (.ref tg), some (.int gj), some (.ref qa), some (.ref wa), u9, u10, u11, u12, none] ∧
                LawH C H' p a tg qa wa ts rs m (blose B gj) 27 (fun j => if j < i then (fun b => g j b && decide (b ≠ gj)) else g j))
              ⟨u9, u12, rfl, L7⟩ (fun i σ H' _ ⟨_, _, _, L⟩ => SqL.of L.ta.1) ?_ ?_⟩
            · rintro i x σ H8 hxi ⟨u9, u12, rfl, L8⟩
              obtain ⟨t, ht, rfl⟩ := ref_at hxi
              obtain ⟨r, hr1⟩ : ∃ r, rs[i]? = some r := ⟨_, List.getElem?_eq_getElem (by have := (List.getElem?_eq_some_iff.mp ht).1; omega)⟩
              have ht8 := L8.ta.2.2 i r t hr1 ht
              obtain ⟨l, gq, hlH⟩ := right_get L8.ri hrs.nd hr1
              have hlH : H8 l = some (.lst (intsN (goods r.n m (if i < i then (fun b => g i b && decide (b ≠ gj)) else g i)))) := hlH
              rw [if_neg (Nat.lt_irrefl i)] at hlH
              refine ⟨_, rfl, _, rfl, qa, _, rfl, gq t ht8, l, rfl, ⟨_, SqL.of hlH⟩, fun D hD => ?_⟩
              have ne : ∀ {b : Addr} {o : HO}, H8 b = some o → b ≠ D := fun e => ne_of_none e hD
              refine lc_it (walk_list (K := K) (a := l) (xs := intsN (goods r.n m (g i)))) (fun i2 H' => Same H8 H' ∧ H' D = some (.lst (intsN (((goods r.n m (g i)).take i2).filter fun b => decide (b ≠ gj)))))
                ⟨fun b o e => by rw [upd_ne (ne e)]; exact e, upd_same⟩ (fun i2 H' _ pv => SqL.of (pv.1 _ _ hlH)) (fun i2 y H9 H10 hi2 pv yy => ?_) (fun H9 pv => ?_)
              · obtain ⟨rfl, hy⟩ := yy
                obtain ⟨s9, eD⟩ := pv
                obtain ⟨b, hb, rfl⟩ := ints_at hy
                refine ⟨rfl, _, rfl, _, rfl, rfl, _, rfl, ite2 (fun c => ?_) (fun c => ?_)⟩
                · have hbg : b ≠ gj := fun e => by
                    rw [e] at c
                    simp at c
                  refine ⟨_, rfl, _, eD, ?_, fun b2 o e => ?_, ?_⟩
                  · rw [List.length_map, List.length_map]
                    have z1 := List.length_filter_le (fun b => decide (b ≠ gj)) ((goods r.n m (g i)).take i2)
                    have z2 := goods_le r.n m (g i)
                    rw [List.length_take] at z1
                    have := sigLE
                    omega
                  · rw [upd_ne (ne e)]
                    exact s9 _ _ e
                  · rw [upd_same, take_snoc hb, List.filter_append, List.filter_cons, if_pos (decide_eq_true hbg)]
                    unfold intsN
                    rw [List.map_append, List.map_append]
                    rfl
                · have hbg : b = gj := by
                    by_cases e : b = gj
                    · exact e
                    · refine (c ?_).elim
                      have : ¬ V.int (b : Nat) = V.int (gj : Nat) := fun w => e (by have := V.int.inj w; omega)
                      simp [this]
                  refine ⟨s9, ?_⟩
                  rw [take_snoc hb, List.filter_append, List.filter_cons, if_neg (by simp [hbg]), List.filter_nil, List.append_nil]
                  exact eD
              · obtain ⟨s9, eD⟩ := pv
                have e3 : (intsN (goods r.n m (g i))).length = (goods r.n m (g i)).length := by
                  rw [List.length_map, List.length_map]
                rw [e3, List.take_length, goods_lose] at eD
                obtain ⟨H11, dp, ri, pu⟩ := right_set L8.ri s9 hD eD (s9 _ _ ht8) hrs.nd hr1 (by omega)
                refine ⟨_, rfl, _, rfl, qa, H11, rfl, dp, ?_⟩
                refine ⟨some (.ref t), u12, rfl, ((L8.same s9).put pu aq hwq ri).right fun j r2 hj => ?_⟩
                by_cases c : j = i
                · rw [if_pos c, if_pos (by omega), c]
                · rw [if_neg c]
                  by_cases c2 : j < i
                  · rw [if_pos c2, if_pos (by omega)]
                  · rw [if_neg c2, if_neg (by omega)]
            · rintro σ H8 ⟨u9, u12, rfl, L8⟩
              refine rest _ _ ⟨u9, u10, u11, u12, _, fun j b => g j b && decide (b ≠ gj), rfl, (L8.right fun j r hj => ?_).st fun j r hj => copies_lose (L6.co j r hj), fun j r hj => (hgd j r hj).lose hm2⟩
              rw [if_pos (by rw [List.length_map, htl]; exact (List.getElem?_eq_some_iff.mp hj).1)]
end
end Sk

set_option Elab.async false
set_option linter.all false
set_option maxRecDepth 100000
set_option maxHeartbeats 4000000
namespace Sk
open PySem PySem.Spec PyProof.Rows L2
theorem HasM.mono {P : Program} {w : World} {K : PySem.W.Frag} {mg : Str → Option Value} {base : Heap} {CX : CXT} {k k' : Nat} {C : Addr} {m : Str} {ps : List Str} {sp : Sp} (G : HasM P w K mg base CX k C m ps sp) (h : k ≤ k') : HasM P w K mg base CX k' C m ps sp := by
  obtain ⟨f, fd, a, b, c⟩ := G
  exact ⟨f, fd, a, b, c.mono h⟩
theorem glb_int {mg : Str → Option Value} {x : Str} {i : Int} (h : ∃ t, mg x = some (.int i t)) : Glb mg x (.int i) := by
  obtain ⟨t, h⟩ := h
  exact ⟨_, h, t, rfl⟩
theorem glb_str {mg : Str → Option Value} {x z : Str} (h : ∃ t, mg x = some (.str z t)) : Glb mg x (.str z) := by
  obtain ⟨t, h⟩ := h
  exact ⟨_, h, t, rfl⟩
theorem oex_of {K : PySem.W.Frag} {C : Addr} (q : oexB K C = true) : ∃ nm q N bs bm sn sub ab col dd k0 k1 k2 k3 k5, K.lookup C = some (excClassObj nm q C N bs bm true sn sub ab col dd k0 k1 k2 k3 k5 "ValueError.__new__") ∧ PySem.HandSPX.refsVE bm = true := by
  unfold oexB at q
  split at q
  · rename_i dd cd sl ho
    split at q
    · rename_i C' bm k0 k1 k2 k3 n k5 hm hs
      simp only [Bool.and_eq_true, beq_iff_eq, Bool.not_eq_true'] at q
      obtain ⟨rfl, rfl, hdel, hhd, hr⟩ := q
      obtain ⟨nm, bs, mro, ns, qn, hd, sn, sub, ab, col, del⟩ := cd
      dsimp only at hm hdel hhd
      subst hm hdel hhd
      have hsl : sl = #[k0, k1, k2, k3, some (.builtin "ValueError.__new__"), k5] := by
        obtain ⟨l⟩ := sl
        simp only at hs
        rw [hs]
      subst hsl
      exact ⟨nm, qn, ns, bs, bm, sn, sub, ab, col, dd, k0, k1, k2, k3, k5, ho, hr⟩
    · cases q
  · cases q
section
variable {P : Program} {w : World} {K : PySem.W.Frag} {h : Heap} {mg : Str → Option Value} {f : Addr}
theorem txt_of (X : K.In h) (G : h.Ns mainGlobals mg) (c : He.SaysX fa fn [] [] exL w h K) : Txt mg where
  n_isinstance := He.free_ok X G (c.t.d.fact 40 (f := .free "isinstance") rfl)
  n_int := He.free_ok X G (c.t.d.fact 41 (f := .free "int") rfl)
  n_bool := He.free_ok X G (c.t.d.fact 42 (f := .free "bool") rfl)
  n_str := He.free_ok X G (c.t.d.fact 43 (f := .free "str") rfl)
  n_tuple := He.free_ok X G (c.t.d.fact 44 (f := .free "tuple") rfl)
  n_len := He.free_ok X G (c.t.d.fact 45 (f := .free "len") rfl)
  n_all := He.free_ok X G (c.t.d.fact 46 (f := .free "all") rfl)
  n_range := He.free_ok X G (c.t.d.fact 47 (f := .free "range") rfl)
  n_sum := He.free_ok X G (c.t.d.fact 48 (f := .free "sum") rfl)
  n_enumerate := He.free_ok X G (c.t.d.fact 49 (f := .free "enumerate") rfl)
  n_list := He.free_ok X G (c.t.d.fact 50 (f := .free "list") rfl)
  n_sorted := He.free_ok X G (c.t.d.fact 51 (f := .free "sorted") rfl)
  n_max := He.free_ok X G (c.t.d.fact 52 (f := .free "max") rfl)
  c_GREATEST := glb_int (He.int_ok X G (c.t.d.fact 53 (f := .int "GREATEST" 999999999) rfl))
  c_MOST_SIGNS := glb_int (He.int_ok X G (c.t.d.fact 54 (f := .int "MOST_SIGNS" 400) rfl))
  c_MOST_THINGS := glb_int (He.int_ok X G (c.t.d.fact 55 (f := .int "MOST_THINGS" 100) rfl))
  c_MOST_DEEP := glb_int (He.int_ok X G (c.t.d.fact 56 (f := .int "MOST_DEEP" 8) rfl))
  c_MOST_NAMED := glb_int (He.int_ok X G (c.t.d.fact 57 (f := .int "MOST_NAMED" 8) rfl))
  c_MOST_PIECE := glb_int (He.int_ok X G (c.t.d.fact 58 (f := .int "MOST_PIECE" 8) rfl))
  c_MOST_TAGS := glb_int (He.int_ok X G (c.t.d.fact 59 (f := .int "MOST_TAGS" 8) rfl))
  c_MOST_LEVEL := glb_int (He.int_ok X G (c.t.d.fact 60 (f := .int "MOST_LEVEL" 9) rfl))
  c_MOST_ENTRIES := glb_int (He.int_ok X G (c.t.d.fact 61 (f := .int "MOST_ENTRIES" 16) rfl))
  c_MOST_CELLS := glb_int (He.int_ok X G (c.t.d.fact 62 (f := .int "MOST_CELLS" 999999) rfl))
  c_BY := glb_int (He.int_ok X G (c.t.d.fact 63 (f := .int "BY" 997) rfl))
  c_TURN := glb_int (He.int_ok X G (c.t.d.fact 64 (f := .int "TURN" 31) rfl))
  c_PRIME := glb_int (He.int_ok X G (c.t.d.fact 65 (f := .int "PRIME" 2147483647) rfl))
  c_LEAST := glb_int (He.int_ok X G (c.t.d.fact 66 (f := .int "LEAST" 2) rfl))
  c_MOST := glb_int (He.int_ok X G (c.t.d.fact 67 (f := .int "MOST" 4) rfl))
  c_SIGNS := glb_str (He.str_ok X G (c.t.d.fact 68 (f := .str "SIGNS" tSIGNS) rfl))
  c_NAMED := glb_str (He.str_ok X G (c.t.d.fact 69 (f := .str "NAMED" tNAMED) rfl))
theorem txB_of (X : K.In h) (G : h.Ns mainGlobals mg) (c : He.SaysX fa fn [] [] exL w h K) : TxB K mg (He.ga K "Boards") :=
  ⟨He.cls_ok (c.t.d.fact 70 (f := .cls "Boards") rfl), He.noat_ok (c.t.d.fact 72 (f := .noat "Boards" "rows_kept") rfl), He.noat_ok (c.t.d.fact 73 (f := .noat "Boards" "writes_done") rfl), He.noat_ok (c.t.d.fact 74 (f := .noat "Boards" "writes_left") rfl), He.glo_ok X G (c.t.d.fact 38 (f := .glo "Boards") rfl)⟩
theorem txL_of (X : K.In h) (G : h.Ns mainGlobals mg) (c : He.SaysX fa fn [] [] exL w h K) : TxL K mg (He.ga K "Lost") (He.ma K (He.ga K "Lost") "__init__") := by
  have z : exL K = true := c.more
  unfold exL at z
  obtain ⟨z1, z⟩ := He.ba z
  obtain ⟨z2, z⟩ := He.ba z
  obtain ⟨z3, z⟩ := He.ba z
  obtain ⟨z4, z⟩ := He.ba z
  obtain ⟨z5, z⟩ := He.ba z
  obtain ⟨z6, z⟩ := He.ba z
  obtain ⟨z7, z⟩ := He.ba z
  obtain ⟨z8, z⟩ := He.ba z
  obtain ⟨z9, z⟩ := He.ba z
  obtain ⟨z10, z⟩ := He.ba z
  exact ⟨He.glo_ok X G (c.t.d.fact 39 (f := .glo "Lost") rfl), ⟨oex_of z1, He.eqO_ok z2, of_decide_eq_true z3, of_decide_eq_true z4, He.keep_ok (c.t.d.fact 82 (f := .keep "Lost") rfl)⟩, He.eqO_ok z5, He.eqO_ok z6, of_decide_eq_true z7, ⟨He.eqO_ok z9, He.eqO_ok z10, of_decide_eq_true z3, z8⟩, He.exm_ok (c.t.d.fact 81 (f := .exm "Lost" "Lost" true) rfl)⟩
theorem facts (X : K.In h) (G : h.Ns mainGlobals mg) (hfa : mg ("law" : Str) = some (.ref f)) (c : He.SaysX fa fn [] [] exL w h K) :
    ∃ fd : FuncData, (∀ (s : Shared) (v : Value), BindsTo s fd ⟨[v], []⟩ [("_law_script", v)]) ∧ ∀ base : Heap, K.In base → base.Ns mainGlobals mg → FnOk P w K mg base CX0 18 f fd ["_law_script"] (sp_law K) := by
  have T := txt_of X G c
  have TB := txB_of X G c
  have TL := txL_of X G c
  obtain ⟨fd_number_of, F_number_of⟩ := c.t.d.def_ 0 (d := d_number_of) rfl
  have F_number_of : FnP K "number_of" s_number_of (He.ga K "number_of") fd_number_of := F_number_of
  have m_number_of := He.glo_ok X G (c.t.d.fact 0 (f := .glo "number_of") rfl)
  obtain ⟨fd_sign_of, F_sign_of⟩ := c.t.d.def_ 1 (d := d_sign_of) rfl
  have F_sign_of : FnP K "sign_of" s_sign_of (He.ga K "sign_of") fd_sign_of := F_sign_of
  have m_sign_of := He.glo_ok X G (c.t.d.fact 1 (f := .glo "sign_of") rfl)
  obtain ⟨fd_is_text, F_is_text⟩ := c.t.d.def_ 2 (d := d_is_text) rfl
  have F_is_text : FnP K "is_text" s_is_text (He.ga K "is_text") fd_is_text := F_is_text
  have m_is_text := He.glo_ok X G (c.t.d.fact 2 (f := .glo "is_text") rfl)
  obtain ⟨fd_numbers_of, F_numbers_of⟩ := c.t.d.def_ 3 (d := d_numbers_of) rfl
  have F_numbers_of : FnP K "numbers_of" s_numbers_of (He.ga K "numbers_of") fd_numbers_of := F_numbers_of
  have m_numbers_of := He.glo_ok X G (c.t.d.fact 3 (f := .glo "numbers_of") rfl)
  obtain ⟨fd_is_number, F_is_number⟩ := c.t.d.def_ 4 (d := d_is_number) rfl
  have F_is_number : FnP K "is_number" s_is_number (He.ga K "is_number") fd_is_number := F_is_number
  have m_is_number := He.glo_ok X G (c.t.d.fact 4 (f := .glo "is_number") rfl)
  obtain ⟨fd_words_of, F_words_of⟩ := c.t.d.def_ 5 (d := d_words_of) rfl
  have F_words_of : FnP K "words_of" s_words_of (He.ga K "words_of") fd_words_of := F_words_of
  have m_words_of := He.glo_ok X G (c.t.d.fact 5 (f := .glo "words_of") rfl)
  obtain ⟨fd_text_at, F_text_at⟩ := c.t.d.def_ 6 (d := d_text_at) rfl
  have F_text_at : FnP K "text_at" s_text_at (He.ga K "text_at") fd_text_at := F_text_at
  have m_text_at := He.glo_ok X G (c.t.d.fact 6 (f := .glo "text_at") rfl)
  obtain ⟨fd_thing_at, F_thing_at⟩ := c.t.d.def_ 7 (d := d_thing_at) rfl
  have F_thing_at : FnP K "thing_at" s_thing_at (He.ga K "thing_at") fd_thing_at := F_thing_at
  have m_thing_at := He.glo_ok X G (c.t.d.fact 7 (f := .glo "thing_at") rfl)
  obtain ⟨fd_thing_of, F_thing_of⟩ := c.t.d.def_ 8 (d := d_thing_of) rfl
  have F_thing_of : FnP K "thing_of" s_thing_of (He.ga K "thing_of") fd_thing_of := F_thing_of
  have m_thing_of := He.glo_ok X G (c.t.d.fact 8 (f := .glo "thing_of") rfl)
  obtain ⟨fd_is_name, F_is_name⟩ := c.t.d.def_ 9 (d := d_is_name) rfl
  have F_is_name : FnP K "is_name" s_is_name (He.ga K "is_name") fd_is_name := F_is_name
  have m_is_name := He.glo_ok X G (c.t.d.fact 9 (f := .glo "is_name") rfl)
  obtain ⟨fd_is_tag, F_is_tag⟩ := c.t.d.def_ 10 (d := d_is_tag) rfl
  have F_is_tag : FnP K "is_tag" s_is_tag (He.ga K "is_tag") fd_is_tag := F_is_tag
  have m_is_tag := He.glo_ok X G (c.t.d.fact 10 (f := .glo "is_tag") rfl)
  obtain ⟨fd_is_row, F_is_row⟩ := c.t.d.def_ 11 (d := d_is_row) rfl
  have F_is_row : FnP K "is_row" s_is_row (He.ga K "is_row") fd_is_row := F_is_row
  have m_is_row := He.glo_ok X G (c.t.d.fact 11 (f := .glo "is_row") rfl)
  obtain ⟨fd_is_entry, F_is_entry⟩ := c.t.d.def_ 12 (d := d_is_entry) rfl
  have F_is_entry : FnP K "is_entry" s_is_entry (He.ga K "is_entry") fd_is_entry := F_is_entry
  have m_is_entry := He.glo_ok X G (c.t.d.fact 12 (f := .glo "is_entry") rfl)
  obtain ⟨fd_is_folder, F_is_folder⟩ := c.t.d.def_ 13 (d := d_is_folder) rfl
  have F_is_folder : FnP K "is_folder" s_is_folder (He.ga K "is_folder") fd_is_folder := F_is_folder
  have m_is_folder := He.glo_ok X G (c.t.d.fact 13 (f := .glo "is_folder") rfl)
  obtain ⟨fd_is_block, F_is_block⟩ := c.t.d.def_ 14 (d := d_is_block) rfl
  have F_is_block : FnP K "is_block" s_is_block (He.ga K "is_block") fd_is_block := F_is_block
  have m_is_block := He.glo_ok X G (c.t.d.fact 14 (f := .glo "is_block") rfl)
  obtain ⟨fd_told_of, F_told_of⟩ := c.t.d.def_ 15 (d := d_told_of) rfl
  have F_told_of : FnP K "told_of" s_told_of (He.ga K "told_of") fd_told_of := F_told_of
  have m_told_of := He.glo_ok X G (c.t.d.fact 15 (f := .glo "told_of") rfl)
  obtain ⟨fd_sum_of, F_sum_of⟩ := c.t.d.def_ 16 (d := d_sum_of) rfl
  have F_sum_of : FnP K "sum_of" s_sum_of (He.ga K "sum_of") fd_sum_of := F_sum_of
  have m_sum_of := He.glo_ok X G (c.t.d.fact 16 (f := .glo "sum_of") rfl)
  obtain ⟨fd_mark_of, F_mark_of⟩ := c.t.d.def_ 17 (d := d_mark_of) rfl
  have F_mark_of : FnP K "mark_of" s_mark_of (He.ga K "mark_of") fd_mark_of := F_mark_of
  have m_mark_of := He.glo_ok X G (c.t.d.fact 17 (f := .glo "mark_of") rfl)
  obtain ⟨fd_sealed, F_sealed⟩ := c.t.d.def_ 18 (d := d_sealed) rfl
  have F_sealed : FnP K "sealed" s_sealed (He.ga K "sealed") fd_sealed := F_sealed
  have m_sealed := He.glo_ok X G (c.t.d.fact 18 (f := .glo "sealed") rfl)
  obtain ⟨fd_unsealed, F_unsealed⟩ := c.t.d.def_ 19 (d := d_unsealed) rfl
  have F_unsealed : FnP K "unsealed" s_unsealed (He.ga K "unsealed") fd_unsealed := F_unsealed
  have m_unsealed := He.glo_ok X G (c.t.d.fact 19 (f := .glo "unsealed") rfl)
  obtain ⟨fd_lay, F_lay⟩ := c.t.d.def_ 20 (d := d_lay) rfl
  have F_lay : FnP K "lay" s_lay (He.ga K "lay") fd_lay := F_lay
  have m_lay := He.glo_ok X G (c.t.d.fact 20 (f := .glo "lay") rfl)
  obtain ⟨fd_thing_in, F_thing_in⟩ := c.t.d.def_ 21 (d := d_thing_in) rfl
  have F_thing_in : FnP K "thing_in" s_thing_in (He.ga K "thing_in") fd_thing_in := F_thing_in
  have m_thing_in := He.glo_ok X G (c.t.d.fact 21 (f := .glo "thing_in") rfl)
  obtain ⟨fd_copy_on, F_copy_on⟩ := c.t.d.def_ 22 (d := d_copy_on) rfl
  have F_copy_on : FnP K "copy_on" s_copy_on (He.ga K "copy_on") fd_copy_on := F_copy_on
  have m_copy_on := He.glo_ok X G (c.t.d.fact 22 (f := .glo "copy_on") rfl)
  obtain ⟨fd_right_copies, F_right_copies⟩ := c.t.d.def_ 23 (d := d_right_copies) rfl
  have F_right_copies : FnP K "right_copies" s_right_copies (He.ga K "right_copies") fd_right_copies := F_right_copies
  have m_right_copies := He.glo_ok X G (c.t.d.fact 23 (f := .glo "right_copies") rfl)
  obtain ⟨fd_fetched, F_fetched⟩ := c.t.d.def_ 24 (d := d_fetched) rfl
  have F_fetched : FnP K "fetched" s_fetched (He.ga K "fetched") fd_fetched := F_fetched
  have m_fetched := He.glo_ok X G (c.t.d.fact 24 (f := .glo "fetched") rfl)
  obtain ⟨fd__law_cell_at, F__law_cell_at⟩ := c.t.d.def_ 25 (d := d__law_cell_at) rfl
  have F__law_cell_at : FnP K "_law_cell_at" s__law_cell_at (He.ga K "_law_cell_at") fd__law_cell_at := F__law_cell_at
  have m__law_cell_at := He.glo_ok X G (c.t.d.fact 25 (f := .glo "_law_cell_at") rfl)
  obtain ⟨fd__law_numbers, F__law_numbers⟩ := c.t.d.def_ 26 (d := d__law_numbers) rfl
  have F__law_numbers : FnP K "_law_numbers" s__law_numbers (He.ga K "_law_numbers") fd__law_numbers := F__law_numbers
  have m__law_numbers := He.glo_ok X G (c.t.d.fact 26 (f := .glo "_law_numbers") rfl)
  obtain ⟨fd__law_signs, F__law_signs⟩ := c.t.d.def_ 27 (d := d__law_signs) rfl
  have F__law_signs : FnP K "_law_signs" s__law_signs (He.ga K "_law_signs") fd__law_signs := F__law_signs
  have m__law_signs := He.glo_ok X G (c.t.d.fact 27 (f := .glo "_law_signs") rfl)
  obtain ⟨fd__law_tag, F__law_tag⟩ := c.t.d.def_ 28 (d := d__law_tag) rfl
  have F__law_tag : FnP K "_law_tag" s__law_tag (He.ga K "_law_tag") fd__law_tag := F__law_tag
  have m__law_tag := He.glo_ok X G (c.t.d.fact 28 (f := .glo "_law_tag") rfl)
  obtain ⟨fd__law_name, F__law_name⟩ := c.t.d.def_ 29 (d := d__law_name) rfl
  have F__law_name : FnP K "_law_name" s__law_name (He.ga K "_law_name") fd__law_name := F__law_name
  have m__law_name := He.glo_ok X G (c.t.d.fact 29 (f := .glo "_law_name") rfl)
  obtain ⟨fd__law_block, F__law_block⟩ := c.t.d.def_ 30 (d := d__law_block) rfl
  have F__law_block : FnP K "_law_block" s__law_block (He.ga K "_law_block") fd__law_block := F__law_block
  have m__law_block := He.glo_ok X G (c.t.d.fact 30 (f := .glo "_law_block") rfl)
  obtain ⟨fd__law_told, F__law_told⟩ := c.t.d.def_ 31 (d := d__law_told) rfl
  have F__law_told : FnP K "_law_told" s__law_told (He.ga K "_law_told") fd__law_told := F__law_told
  have m__law_told := He.glo_ok X G (c.t.d.fact 31 (f := .glo "_law_told") rfl)
  obtain ⟨fd__law_sum, F__law_sum⟩ := c.t.d.def_ 32 (d := d__law_sum) rfl
  have F__law_sum : FnP K "_law_sum" s__law_sum (He.ga K "_law_sum") fd__law_sum := F__law_sum
  have m__law_sum := He.glo_ok X G (c.t.d.fact 32 (f := .glo "_law_sum") rfl)
  obtain ⟨fd__law_laid, F__law_laid⟩ := c.t.d.def_ 33 (d := d__law_laid) rfl
  have F__law_laid : FnP K "_law_laid" s__law_laid (He.ga K "_law_laid") fd__law_laid := F__law_laid
  have m__law_laid := He.glo_ok X G (c.t.d.fact 33 (f := .glo "_law_laid") rfl)
  obtain ⟨fd__law_spoilt, F__law_spoilt⟩ := c.t.d.def_ 34 (d := d__law_spoilt) rfl
  have F__law_spoilt : FnP K "_law_spoilt" s__law_spoilt (He.ga K "_law_spoilt") fd__law_spoilt := F__law_spoilt
  have m__law_spoilt := He.glo_ok X G (c.t.d.fact 34 (f := .glo "_law_spoilt") rfl)
  obtain ⟨fd__law_is_lost, F__law_is_lost⟩ := c.t.d.def_ 35 (d := d__law_is_lost) rfl
  have F__law_is_lost : FnP K "_law_is_lost" s__law_is_lost (He.ga K "_law_is_lost") fd__law_is_lost := F__law_is_lost
  have m__law_is_lost := He.glo_ok X G (c.t.d.fact 35 (f := .glo "_law_is_lost") rfl)
  obtain ⟨fd__law_all_told, F__law_all_told⟩ := c.t.d.def_ 36 (d := d__law_all_told) rfl
  have F__law_all_told : FnP K "_law_all_told" s__law_all_told (He.ga K "_law_all_told") fd__law_all_told := F__law_all_told
  have m__law_all_told := He.glo_ok X G (c.t.d.fact 36 (f := .glo "_law_all_told") rfl)
  obtain ⟨fd_law, F_law⟩ := c.t.d.def_ 37 (d := d_law) rfl
  have F_law : FnP K "law" s_law (He.ga K "law") fd_law := F_law
  have m_law := He.glo_ok X G (c.t.d.fact 37 (f := .glo "law") rfl)
  obtain ⟨fd_B__init__, F_B__init__⟩ := c.t.d.def_ 38 (d := dB___init__) rfl
  have F_B__init__ : FnM K "__init__" "Boards.__init__" sB___init__ (He.ma K (He.ga K "Boards") "__init__") fd_B__init__ := F_B__init__
  obtain ⟨fd_Bmany, F_Bmany⟩ := c.t.d.def_ 39 (d := dB_many) rfl
  have F_Bmany : FnM K "many" "Boards.many" sB_many (He.ma K (He.ga K "Boards") "many") fd_Bmany := F_Bmany
  obtain ⟨fd_Bwrite, F_Bwrite⟩ := c.t.d.def_ 40 (d := dB_write) rfl
  have F_Bwrite : FnM K "write" "Boards.write" sB_write (He.ma K (He.ga K "Boards") "write") fd_Bwrite := F_Bwrite
  obtain ⟨fd_Bcell, F_Bcell⟩ := c.t.d.def_ 41 (d := dB_cell) rfl
  have F_Bcell : FnM K "cell" "Boards.cell" sB_cell (He.ma K (He.ga K "Boards") "cell") fd_Bcell := F_Bcell
  obtain ⟨fd_Bspoil, F_Bspoil⟩ := c.t.d.def_ 42 (d := dB_spoil) rfl
  have F_Bspoil : FnM K "spoil" "Boards.spoil" sB_spoil (He.ma K (He.ga K "Boards") "spoil") fd_Bspoil := F_Bspoil
  obtain ⟨fd_Blose, F_Blose⟩ := c.t.d.def_ 43 (d := dB_lose) rfl
  have F_Blose : FnM K "lose" "Boards.lose" sB_lose (He.ma K (He.ga K "Boards") "lose") fd_Blose := F_Blose
  obtain ⟨fd_Btwins, F_Btwins⟩ := c.t.d.def_ 44 (d := dB_twins) rfl
  have F_Btwins : FnM K "twins" "Boards.twins" sB_twins (He.ma K (He.ga K "Boards") "twins") fd_Btwins := F_Btwins
  obtain ⟨fd_L, F_L⟩ := c.t.d.def_ 45 (d := dL_init) rfl
  have F_L : FnM K "__init__" "Lost.__init__" sL_init (He.ma K (He.ga K "Lost") "__init__") fd_L := F_L
  have e := hfa.symm.trans m_law
  cases e
  have b := FunD.bindsA (ps := ["_law_script"]) F_law fun _ _ _ _ _ _ us hl => match us, hl with | [_], _ => rfl
  refine ⟨fd_law, fun s v => b s [v] rfl, fun base _ _ => ?_⟩
  have g_number_of := has0 (P := P) (w := w) (base := base) F_number_of m_number_of (ok_number_of F_number_of T) (fun _ _ _ _ _ _ us hl => match us, hl with | [_], _ => rfl)
  have g_sign_of := has0 (P := P) (w := w) (base := base) F_sign_of m_sign_of (ok_sign_of F_sign_of T) (fun _ _ _ _ _ _ us hl => match us, hl with | [_], _ => rfl)
  have g_numbers_of := has0 (P := P) (w := w) (base := base) F_numbers_of m_numbers_of (ok_numbers_of F_numbers_of T g_number_of) (fun _ _ _ _ _ _ us hl => match us, hl with | [_], _ => rfl)
  have g_is_text := has0 (P := P) (w := w) (base := base) F_is_text m_is_text (ok_is_text F_is_text T) (fun _ _ _ _ _ _ us hl => match us, hl with | [_, _], _ => rfl)
  have g_is_number := has0 (P := P) (w := w) (base := base) F_is_number m_is_number (ok_is_number F_is_number T) (fun _ _ _ _ _ _ us hl => match us, hl with | [_], _ => rfl)
  have g_words_of := has0 (P := P) (w := w) (base := base) F_words_of m_words_of (ok_words_of F_words_of T m_words_of g_numbers_of 8) (fun _ _ _ _ _ _ us hl => match us, hl with | [_], _ => rfl)
  have g_text_at := has0 (P := P) (w := w) (base := base) F_text_at m_text_at (ok_text_at F_text_at T g_sign_of) (fun _ _ _ _ _ _ us hl => match us, hl with | [_, _, _], _ => rfl)
  have g_thing_at := has0 (P := P) (w := w) (base := base) F_thing_at m_thing_at (ok_thing_at F_thing_at T m_thing_at g_text_at 8) (fun _ _ _ _ _ _ us hl => match us, hl with | [_, _, _], _ => rfl)
  have g_thing_of := has0 (P := P) (w := w) (base := base) F_thing_of m_thing_of (ok_thing_of F_thing_of T g_thing_at) (fun _ _ _ _ _ _ us hl => match us, hl with | [_], _ => rfl)
  have g_is_name := has0 (P := P) (w := w) (base := base) F_is_name m_is_name (ok_is_name F_is_name T) (fun _ _ _ _ _ _ us hl => match us, hl with | [_], _ => rfl)
  have g_is_tag := has0 (P := P) (w := w) (base := base) F_is_tag m_is_tag (ok_is_tag F_is_tag T g_is_number) (fun _ _ _ _ _ _ us hl => match us, hl with | [_], _ => rfl)
  have g_is_row := has0 (P := P) (w := w) (base := base) F_is_row m_is_row (ok_is_row F_is_row T (g_is_number.mono (by decide)) g_is_tag) (fun _ _ _ _ _ _ us hl => match us, hl with | [_], _ => rfl)
  have g_is_entry := has0 (P := P) (w := w) (base := base) F_is_entry m_is_entry (ok_is_entry F_is_entry T (g_is_name.mono (by decide)) (g_is_number.mono (by decide)) g_is_tag) (fun _ _ _ _ _ _ us hl => match us, hl with | [_], _ => rfl)
  have g_is_folder := has0 (P := P) (w := w) (base := base) F_is_folder m_is_folder (ok_is_folder F_is_folder T g_is_entry) (fun _ _ _ _ _ _ us hl => match us, hl with | [_], _ => rfl)
  have g_is_block := has0 (P := P) (w := w) (base := base) F_is_block m_is_block (ok_is_block F_is_block T (g_is_number.mono (by decide)) (g_is_row.mono (by decide)) (g_is_text.mono (by decide)) g_is_folder) (fun _ _ _ _ _ _ us hl => match us, hl with | [_], _ => rfl)
  have g_told_of := has0 (P := P) (w := w) (base := base) F_told_of m_told_of (ok_told_of F_told_of T g_numbers_of) (fun _ _ _ _ _ _ us hl => match us, hl with | [_], _ => rfl)
  have g_sum_of := has0 (P := P) (w := w) (base := base) F_sum_of m_sum_of (ok_sum_of F_sum_of T g_told_of) (fun _ _ _ _ _ _ us hl => match us, hl with | [_], _ => rfl)
  have g_mark_of := has0 (P := P) (w := w) (base := base) F_mark_of m_mark_of (ok_mark_of F_mark_of T) (fun _ _ _ _ _ _ us hl => match us, hl with | [_], _ => rfl)
  have g_sealed := has0 (P := P) (w := w) (base := base) F_sealed m_sealed (ok_sealed F_sealed T g_mark_of) (fun _ _ _ _ _ _ us hl => match us, hl with | [_], _ => rfl)
  have g_unsealed := has0 (P := P) (w := w) (base := base) F_unsealed m_unsealed (ok_unsealed F_unsealed T g_mark_of) (fun _ _ _ _ _ _ us hl => match us, hl with | [_], _ => rfl)
  have g_many : HasM P w K mg base CX0 1 (He.ga K "Boards") "many" _ _ := ⟨_, fd_Bmany, He.meth_ok (c.t.d.fact 75 (f := .meth "Boards" "many") rfl), F_Bmany.bindsN (fun _ _ _ _ _ _ us hl => match us, hl with | [_], _ => rfl), ok_many F_Bmany T TB⟩
  have g_twins : HasM P w K mg base CX0 1 (He.ga K "Boards") "twins" _ _ := ⟨_, fd_Btwins, He.meth_ok (c.t.d.fact 80 (f := .meth "Boards" "twins") rfl), F_Btwins.bindsN (fun _ _ _ _ _ _ us hl => match us, hl with | [_, _], _ => rfl), ok_twins F_Btwins T TB⟩
  have g_cell : HasM P w K mg base CX0 1 (He.ga K "Boards") "cell" _ _ := ⟨_, fd_Bcell, He.meth_ok (c.t.d.fact 77 (f := .meth "Boards" "cell") rfl), F_Bcell.bindsN (fun _ _ _ _ _ _ us hl => match us, hl with | [_, _, _], _ => rfl), ok_cell F_Bcell T TB⟩
  have g_write : HasM P w K mg base CX0 1 (He.ga K "Boards") "write" _ _ := ⟨_, fd_Bwrite, He.meth_ok (c.t.d.fact 76 (f := .meth "Boards" "write") rfl), F_Bwrite.bindsN (fun _ _ _ _ _ _ us hl => match us, hl with | [_, _, _, _], _ => rfl), ok_write F_Bwrite T TB⟩
  have g_spoil : HasM P w K mg base CX0 1 (He.ga K "Boards") "spoil" _ _ := ⟨_, fd_Bspoil, He.meth_ok (c.t.d.fact 78 (f := .meth "Boards" "spoil") rfl), F_Bspoil.bindsN (fun _ _ _ _ _ _ us hl => match us, hl with | [_, _, _, _], _ => rfl), ok_spoil F_Bspoil T TB⟩
  have g_lose : HasM P w K mg base CX0 1 (He.ga K "Boards") "lose" _ _ := ⟨_, fd_Blose, He.meth_ok (c.t.d.fact 79 (f := .meth "Boards" "lose") rfl), F_Blose.bindsN (fun _ _ _ _ _ _ us hl => match us, hl with | [_, _], _ => rfl), ok_lose F_Blose T TB⟩
  have g_lay := has0 (P := P) (w := w) (base := base) F_lay m_lay (ok_lay F_lay T TB (g_words_of.mono (by decide)) (g_sealed.mono (by decide)) (g_twins.mono (by decide)) (g_write.mono (by decide))) (fun _ _ _ _ _ _ us hl => match us, hl with | [_, _, _, _], _ => rfl)
  have g_thing_in := has0 (P := P) (w := w) (base := base) F_thing_in m_thing_in (ok_thing_in F_thing_in T (g_unsealed.mono (by decide)) g_thing_of) (fun _ _ _ _ _ _ us hl => match us, hl with | [_], _ => rfl)
  have g_copy_on := has0 (P := P) (w := w) (base := base) F_copy_on m_copy_on (ok_copy_on F_copy_on T TB g_thing_in (g_is_block.mono (by decide)) (g_sum_of.mono (by decide)) (g_cell.mono (by decide))) (fun _ _ _ _ _ _ us hl => match us, hl with | [_, _, _], _ => rfl)
  have g_right_copies := has0 (P := P) (w := w) (base := base) F_right_copies m_right_copies (ok_right_copies F_right_copies T TB g_copy_on (g_twins.mono (by decide))) (fun _ _ _ _ _ _ us hl => match us, hl with | [_, _], _ => rfl)
  have g_fetched := has0 (P := P) (w := w) (base := base) F_fetched m_fetched (ok_fetched F_fetched T TB g_copy_on (g_twins.mono (by decide))) (fun _ _ _ _ _ _ us hl => match us, hl with | [_, _], _ => rfl)
  have g_fetched_lost := has0 (P := P) (w := w) (base := base) F_fetched m_fetched (ok_fetched_lost F_fetched T TB TL F_L g_copy_on (g_twins.mono (by decide))) (fun _ _ _ _ _ _ us hl => match us, hl with | [_, _], _ => rfl)
  have g__law_is_lost := has0 (P := P) (w := w) (base := base) F__law_is_lost m__law_is_lost (ok_is_lost F__law_is_lost T TL g_fetched_lost) (fun _ _ _ _ _ _ us hl => match us, hl with | [_, _], _ => rfl)
  have g__law_cell_at := has0 (P := P) (w := w) (base := base) F__law_cell_at m__law_cell_at (ok_cell_at F__law_cell_at T) (fun _ _ _ _ _ _ us hl => match us, hl with | [_, _], _ => rfl)
  have g__law_numbers := has0 (P := P) (w := w) (base := base) F__law_numbers m__law_numbers (ok_numbers F__law_numbers T) (fun _ _ _ _ _ _ us hl => match us, hl with | [_, _], _ => rfl)
  have g__law_signs := has0 (P := P) (w := w) (base := base) F__law_signs m__law_signs (ok_signs F__law_signs T) (fun _ _ _ _ _ _ us hl => match us, hl with | [], _ => rfl)
  have g__law_tag := has0 (P := P) (w := w) (base := base) F__law_tag m__law_tag (ok_tag F__law_tag T) (fun _ _ _ _ _ _ us hl => match us, hl with | [_], _ => rfl)
  have g__law_name := has0 (P := P) (w := w) (base := base) F__law_name m__law_name (ok_name F__law_name T) (fun _ _ _ _ _ _ us hl => match us, hl with | [_], _ => rfl)
  have g__law_block := has0 (P := P) (w := w) (base := base) F__law_block m__law_block (ok_block F__law_block T g__law_signs g__law_tag g__law_name) (fun _ _ _ _ _ _ us hl => match us, hl with | [_], _ => rfl)
  have g__law_told := has0 (P := P) (w := w) (base := base) F__law_told m__law_told (ok_law_told F__law_told T g__law_signs) (fun _ _ _ _ _ _ us hl => match us, hl with | [_], _ => rfl)
  have g__law_sum := has0 (P := P) (w := w) (base := base) F__law_sum m__law_sum (ok_law_sum F__law_sum T (g__law_told.mono (by decide))) (fun _ _ _ _ _ _ us hl => match us, hl with | [_], _ => rfl)
  have g__law_laid := has0 (P := P) (w := w) (base := base) F__law_laid m__law_laid (ok_law_laid F__law_laid T (g__law_numbers.mono (by decide)) (g__law_block.mono (by decide)) g_lay (g__law_sum.mono (by decide))) (fun _ _ _ _ _ _ us hl => match us, hl with | [_, _], _ => rfl)
  have g__law_spoilt := has0 (P := P) (w := w) (base := base) F__law_spoilt m__law_spoilt (ok_law_spoilt F__law_spoilt T TB (g_spoil.mono (by decide))) (fun _ _ _ _ _ _ us hl => match us, hl with | [_, _, _, _, _], _ => rfl)
  have g__law_all_told := has0 (P := P) (w := w) (base := base) F__law_all_told m__law_all_told (ok_law_all_told F__law_all_told T (g_right_copies.mono (by decide)) (g_fetched.mono (by decide)) g__law_is_lost) (fun _ _ _ _ _ _ us hl => match us, hl with | [_, _, _, _], _ => rfl)
  have GB : FnOk P w K mg base CX0 16 _ fd_B__init__ ["self", "many"] (sp_B_init (He.ga K "Boards")) := (ok_B_init F_B__init__ T TB).mono (by decide)
  have bB : Binds K fd_B__init__ ["self", "many"] [] := F_B__init__.bindsN (fun _ _ _ _ _ _ us hl => match us, hl with | [_, _], _ => rfl)
  exact ok_law F_law T TB (He.mkr_ok (c.t.d.fact 71 (f := .mkr "Boards") rfl)) GB bB (g__law_cell_at.mono (by decide)) (g__law_numbers.mono (by decide)) (g__law_laid.mono (by decide)) (g__law_spoilt.mono (by decide)) g__law_all_told (g_lay.mono (by decide)) (g_many.mono (by decide)) (g_cell.mono (by decide)) (g_spoil.mono (by decide)) (g_lose.mono (by decide))
end
end Sk
open PySem PySem.W PySem.Calls PyProof.Rows
set_option maxRecDepth 100000 in
set_option maxHeartbeats 0 in
theorem PySem.Challenge.cw_stemshelf_k20_whole_one_copy_is_enough_holds : PySem.Challenge.rw_stemshelf_k20_whole_one_copy_is_enough.Holds := by
  w_on; o_law
  refine HandSHeadRun.head_any (r := OpenLaw.row PySem.Challenge.rw_stemshelf_k20_whole_one_copy_is_enough) (q := view (OpenLaw.row PySem.Challenge.rw_stemshelf_k20_whole_one_copy_is_enough).prog [69]) (H := Sk.hk) (ob := Sk.ob) (M := 4000) (loose := Sk.names) (d := HandSHeadRun.topDef (OpenLaw.row PySem.Challenge.rw_stemshelf_k20_whole_one_copy_is_enough).prog 69) (kwd := []) Sk.ob_eq
    (by kernel_rfl) (fun s => by kernel_rfl) Sk.run (by kernel_rfl) (by kernel_rfl) (by kernel_rfl) (by rfl) (by first | assumption | decide +kernel) (by decide +kernel) ⟨rfl, rfl, rfl, rfl, rfl, by decide +kernel⟩ ?hw ?hc
  case hw => w_witness2
  case hc =>
    refine L2.walk_ofE (l := PySem.Challenge.rw_stemshelf_k20_whole_one_copy_is_enough) (n := 63) (k := 18) (x := "_law_script") (CX := L2.CX0) rfl (by decide) (by kernel_rfl) ⟨rfl, by decide, by decide⟩ ?F (fun _ _ _ _ z => z)
    intro w mg fa h Y G hmg0
    obtain ⟨K, KX, c⟩ := Y
    have hmg : mg ("law" : PySem.Str) = some (.ref fa) := by
      have e : (HandSHeadRun.topDef (OpenLaw.row PySem.Challenge.rw_stemshelf_k20_whole_one_copy_is_enough).prog 69).name = ("law" : PySem.Str) := by kernel_rfl
      rw [← e]
      exact hmg0
    obtain ⟨fd, hb, hF⟩ := Sk.facts (P := PySem.Challenge.rw_stemshelf_k20_whole_one_copy_is_enough.prog) (w := w) KX G hmg c
    exact ⟨K, fd, Sk.sp_law K, KX, hb, fun H a ns hl _ hS => ⟨a, ns, rfl, hS, hl, fun _ => rfl⟩, hF⟩
