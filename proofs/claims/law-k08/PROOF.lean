import PyProof.Rows.All
import Wide.All
import OpenK.AllK
import Wide.FinOn
import HandS.Words
import HandS.ForMost
import HandS.Exc
import HandS.Defaults
import HandS.IsInst
import HandS.Small
import HandS.TupAny
import HandS.Zip
import HandS.Style
import HandS.Conv
import HandS.Sort
import HandS.SortInts
import HandS.Wide
import HandS.WideBits
import HandS.StrMore
import HandS.RaiseMore
import HandS.Strs
import HandS.SetKeys
import HandS.SetTxt0
import HandS.TupSets
import HandS.CallLocal
import HandS.Lambda
import HandS.Nested
import HandS.EndTab
import HandS.HeadWalk
import HandS.HeadHook1
import HandS.HeadHook2
import HandS.HeadHook3
import HandS.HeadHook4
import KE.KDictPairs
import KE.KDictZip
import KE.SortData
import HandS.Walk
import KE.KTurns
import HandS.Head0
import HandS.Head1
import HandS.Head2
import HandS.HeadEnd
import PySem.Challenge.RW_twainwork_k08_whole_programs_told_otherw
set_option Elab.async false
set_option linter.all false
set_option maxRecDepth 100000
namespace Tw
open PySem PySem.Spec PyProof.Rows L2
def topS (i : Nat) : Stmt := PySem.Challenge.pw_twainwork_k08_whole_programs_told_otherw.main.body.getD i (.Pass ⟨0, 0, 0, 0⟩)
abbrev s_is_whole : Stmt := topS 12
abbrev s_is_among : Stmt := topS 13
abbrev s_is_house : Stmt := topS 14
abbrev s_is_name : Stmt := topS 15
abbrev s_number_of : Stmt := topS 16
abbrev s_words_of : Stmt := topS 17
abbrev s_is_form : Stmt := topS 22
abbrev s_is_expr : Stmt := topS 23
abbrev s_parts_in : Stmt := topS 24
abbrev s_names_in : Stmt := topS 25
abbrev s_worth_of : Stmt := topS 26
abbrev s_expr_words : Stmt := topS 27
abbrev s_expr_in : Stmt := topS 28
abbrev s_are_marks : Stmt := topS 32
abbrev s_blocks_in : Stmt := topS 33
abbrev s_expr_of : Stmt := topS 34
abbrev s_told_by : Stmt := topS 35
abbrev s_is_plain_row : Stmt := topS 36
abbrev s_need_program : Stmt := topS 37
abbrev s_rows_in : Stmt := topS 38
abbrev s_row_at : Stmt := topS 39
abbrev s_names_of : Stmt := topS 40
abbrev s_Rd_init : Stmt := inClass (topS 42) 0
abbrev s_Rd_take : Stmt := inClass (topS 42) 1
abbrev s_Rd_take_expr : Stmt := inClass (topS 42) 2
abbrev s_Rd_end : Stmt := inClass (topS 42) 3
abbrev s_read_row : Stmt := topS 43
abbrev s_read_mark : Stmt := topS 44
abbrev s_read_else : Stmt := topS 45
abbrev s_settled : Stmt := topS 46
abbrev s_blanks_of : Stmt := topS 47
abbrev s_read_program : Stmt := topS 48
abbrev s_unmarked : Stmt := topS 49
abbrev s_row_words : Stmt := topS 51
abbrev s_block_lines : Stmt := topS 52
abbrev s_program_text : Stmt := topS 53
abbrev s_law_mixed : Stmt := topS 55
abbrev s_law_draw : Stmt := topS 56
abbrev s_law_digit : Stmt := topS 57
abbrev s_law_expr : Stmt := topS 58
abbrev s_law_row : Stmt := topS 59
abbrev s_law_block : Stmt := topS 60
abbrev s_law_program : Stmt := topS 61
abbrev s_law_named : Stmt := topS 62
abbrev s_law_lines : Stmt := topS 63
abbrev s_law_built : Stmt := topS 64
abbrev s_law_otherwise_right : Stmt := topS 65
abbrev s_law_right : Stmt := topS 66
abbrev s_law : Stmt := topS 67
def c_HOUSES : List Str := ["east", "west"]
def c_KEYS : List Str := ["let", "open", "ask", "say", "if", "else", "while", "east", "west", "kept", "mark", "plus", "less", "times", "under", "same", "send", "take", "tell", "hear", "none"]
def c_PAIRS : List Str := ["plus", "less", "times", "under", "same"]
end Tw
set_option Elab.async false
set_option linter.all false
set_option maxRecDepth 100000
namespace Tw
open PySem PySem.Spec PyProof.Rows L2
/-! ### a def, a method of the top -/
def DefAt (K : PySem.W.Frag) (mg : Str → Option Value) (x : Str) (st : Stmt) : Prop :=
  mg x = some (.ref (He.ga K x)) ∧ ∃ fd, FunD K x x (defArgs st) (defBody st) (defScope st) [] [] (He.ga K x) fd
def MetAt (K : PySem.W.Frag) (m : Str) (st : Stmt) : Prop :=
  ∃ fd, FunD K m ("Reading." ++ m) (defArgs st) (defBody st) (defScope st) [] [] (He.ma K (He.ga K "Reading") m) fd
/-- what the walk asks of the top as it stands: each def, class, constant, each built-in's name free -/
structure Txt (K : PySem.W.Frag) (mg : Str → Option Value) : Prop where
  all : mg "all" = none
  bool : mg "bool" = none
  dict : mg "dict" = none
  enumerate : mg "enumerate" = none
  int : mg "int" = none
  isinstance : mg "isinstance" = none
  len : mg "len" = none
  list : mg "list" = none
  range : mg "range" = none
  set : mg "set" = none
  sorted : mg "sorted" = none
  str : mg "str" = none
  sum : mg "sum" = none
  tuple : mg "tuple" = none
  zip : mg "zip" = none
  i_MOST_LETTERS : ∃ t, mg "MOST_LETTERS" = some (.int 6 t)
  i_MOST : ∃ t, mg "MOST" = some (.int 996 t)
  i_MOST_PARTS : ∃ t, mg "MOST_PARTS" = some (.int 40 t)
  i_MOST_DEEP : ∃ t, mg "MOST_DEEP" = some (.int 8 t)
  i_MOST_ROWS : ∃ t, mg "MOST_ROWS" = some (.int 60 t)
  i_MOST_BLOCKS : ∃ t, mg "MOST_BLOCKS" = some (.int 5 t)
  s_LETTERS : ∃ t, mg "LETTERS" = some (.str "abcdefghijklmnopqrstuvwxyz" t)
  s_FIGURES : ∃ t, mg "FIGURES" = some (.str "0123456789" t)
  g_HOUSES : mg "HOUSES" = some (.ref (He.ga K "HOUSES"))
  t_HOUSES : ∀ H, SqT K H (He.ga K "HOUSES") (c_HOUSES.map V.str)
  g_KEYS : mg "KEYS" = some (.ref (He.ga K "KEYS"))
  t_KEYS : ∀ H, SqT K H (He.ga K "KEYS") (c_KEYS.map V.str)
  g_PAIRS : mg "PAIRS" = some (.ref (He.ga K "PAIRS"))
  t_PAIRS : ∀ H, SqT K H (He.ga K "PAIRS") (c_PAIRS.map V.str)
  d_is_whole : DefAt K mg "is_whole" s_is_whole
  d_is_among : DefAt K mg "is_among" s_is_among
  d_is_house : DefAt K mg "is_house" s_is_house
  d_is_name : DefAt K mg "is_name" s_is_name
  d_number_of : DefAt K mg "number_of" s_number_of
  d_words_of : DefAt K mg "words_of" s_words_of
  d_is_form : DefAt K mg "is_form" s_is_form
  d_is_expr : DefAt K mg "is_expr" s_is_expr
  d_parts_in : DefAt K mg "parts_in" s_parts_in
  d_names_in : DefAt K mg "names_in" s_names_in
  d_worth_of : DefAt K mg "worth_of" s_worth_of
  d_expr_words : DefAt K mg "expr_words" s_expr_words
  d_expr_in : DefAt K mg "expr_in" s_expr_in
  d_are_marks : DefAt K mg "are_marks" s_are_marks
  d_blocks_in : DefAt K mg "blocks_in" s_blocks_in
  d_expr_of : DefAt K mg "expr_of" s_expr_of
  d_told_by : DefAt K mg "told_by" s_told_by
  d_is_plain_row : DefAt K mg "is_plain_row" s_is_plain_row
  d_need_program : DefAt K mg "need_program" s_need_program
  d_rows_in : DefAt K mg "rows_in" s_rows_in
  d_row_at : DefAt K mg "row_at" s_row_at
  d_names_of : DefAt K mg "names_of" s_names_of
  d_read_row : DefAt K mg "read_row" s_read_row
  d_read_mark : DefAt K mg "read_mark" s_read_mark
  d_read_else : DefAt K mg "read_else" s_read_else
  d_settled : DefAt K mg "settled" s_settled
  d_blanks_of : DefAt K mg "blanks_of" s_blanks_of
  d_read_program : DefAt K mg "read_program" s_read_program
  d_unmarked : DefAt K mg "unmarked" s_unmarked
  d_row_words : DefAt K mg "row_words" s_row_words
  d_block_lines : DefAt K mg "block_lines" s_block_lines
  d_program_text : DefAt K mg "program_text" s_program_text
  d_law_mixed : DefAt K mg "_law_mixed" s_law_mixed
  d_law_draw : DefAt K mg "_law_draw" s_law_draw
  d_law_digit : DefAt K mg "_law_digit" s_law_digit
  d_law_expr : DefAt K mg "_law_expr" s_law_expr
  d_law_row : DefAt K mg "_law_row" s_law_row
  d_law_block : DefAt K mg "_law_block" s_law_block
  d_law_program : DefAt K mg "_law_program" s_law_program
  d_law_named : DefAt K mg "_law_named" s_law_named
  d_law_lines : DefAt K mg "_law_lines" s_law_lines
  d_law_built : DefAt K mg "_law_built" s_law_built
  d_law_otherwise_right : DefAt K mg "_law_otherwise_right" s_law_otherwise_right
  d_law_right : DefAt K mg "_law_right" s_law_right
  d_law : DefAt K mg "law" s_law
  Rd_g : mg "Reading" = some (.ref (He.ga K "Reading"))
  Rd_cl : Cls K (He.ga K "Reading")
  Rd_mk : Mk K (He.ga K "Reading") (He.ma K (He.ga K "Reading") "__init__")
  Rd_n_line : NoAttr K (He.ga K "Reading") "line"
  Rd_n_words : NoAttr K (He.ga K "Reading") "words"
  Rd_n_at : NoAttr K (He.ga K "Reading") "at"
  Rd_m_take : Meth K (He.ga K "Reading") "take" (He.ma K (He.ga K "Reading") "take")
  Rd_m_take_expr : Meth K (He.ga K "Reading") "take_expr" (He.ma K (He.ga K "Reading") "take_expr")
  Rd_m_end : Meth K (He.ga K "Reading") "end" (He.ma K (He.ga K "Reading") "end")
  d_Rd_init : MetAt K "__init__" s_Rd_init
  d_Rd_take : MetAt K "take" s_Rd_take
  d_Rd_take_expr : MetAt K "take_expr" s_Rd_take_expr
  d_Rd_end : MetAt K "end" s_Rd_end
/-! ### the built-ins' names -/
theorem bb_isinstance : bootBuiltins "isinstance" = some (.builtin "isinstance") := by decide +kernel
theorem bb_len : bootBuiltins "len" = some (.builtin "len") := by decide +kernel
theorem bb_all : bootBuiltins "all" = some (.builtin "all") := by decide +kernel
theorem bb_list : bootBuiltins "list" = some (.type "list") := by decide +kernel
theorem bb_dict : bootBuiltins "dict" = some (.type "dict") := by decide +kernel
theorem bb_sorted : bootBuiltins "sorted" = some (.builtin "sorted") := by decide +kernel
theorem bb_set : bootBuiltins "set" = some (.type "set") := by decide +kernel
theorem bb_zip : bootBuiltins "zip" = some (.type "zip") := by decide +kernel
theorem bb_enumerate : bootBuiltins "enumerate" = some (.type "enumerate") := by decide +kernel
theorem bb_range : bootBuiltins "range" = some (.type "range") := by decide +kernel
theorem bb_tuple : bootBuiltins "tuple" = some (.type "tuple") := by decide +kernel
theorem bb_sum : bootBuiltins "sum" = some (.builtin "sum") := by decide +kernel
theorem bb_int : bootBuiltins "int" = some (.type "int") := by decide +kernel
theorem bb_str : bootBuiltins "str" = some (.type "str") := by decide +kernel
theorem bb_bool : bootBuiltins "bool" = some (.type "bool") := by decide +kernel
/-! ### what a def promises, by its name -/
structure Cal (P : Program) (w : World) (K : PySem.W.Frag) (mg : Str → Option Value) (base : Heap) (x : Str) (k : Nat) (ps : List Str) (sp : Sp) : Prop where
  ex : ∃ fd, mg x = some (.ref (He.ga K x)) ∧ PySem.W.keepIn K (.ref (He.ga K x)) = true ∧ Binds K fd ps [] ∧ FnOk P w K mg base CX0 k (He.ga K x) fd ps sp
section
variable {P : Program} {w : World} {K : PySem.W.Frag} {mg : Str → Option Value} {base : Heap} {x : Str} {ps : List Str} {sp sp' : Sp} {st : Stmt} {N : List Str} {j k : Nat}
theorem Cal.mono (C : Cal P w K mg base x j ps sp) (h : j ≤ k) : Cal P w K mg base x k ps sp := by
  obtain ⟨fd, a, b, c, d⟩ := C.ex
  exact ⟨fd, a, b, c, d.mono h⟩
theorem Cal.imp (C : Cal P w K mg base x k ps sp) (h : ∀ vs H Q E, sp' vs H Q E → sp vs H Q E) : Cal P w K mg base x k ps sp' := by
  obtain ⟨fd, a, b, c, d⟩ := C.ex
  exact ⟨fd, a, b, c, d.imp h⟩
/-- how the parameters bind: no defaults -/
def BindsOk (x : Str) (st : Stmt) (ps : List Str) : Prop :=
  ∀ (kV doc pm : Value) (an : Option Addr) (cdv ct : Value) (us : List Value), us.length = ps.length → bindArgs (PySem.W.fnOf x x (defArgs st) (defBody st) (defScope st) .none kV doc pm an cdv ct) ⟨us, []⟩ = pure (ps.zip us)
/-- THE RULE of a def -/
theorem Cal.of (D : DefAt K mg x st) (b : BindsOk x st ps) (S : FnScope N ps (defScope st)) (len : ∀ vs H Q E, sp vs H Q E → vs.length = ps.length)
    (hbody : ∀ (cdv : Value) (A : Around) (outer : List Env) (s : Shared) (H : Hp) (vs : List V) (Q : VK) (E : XK), Room k (A.deeper (envOfC x (defScope st) s.heap.objs.size (He.ga K x) cdv)) → sp vs H Q E →
      ∃ t, PSs (cxOf CX0 P w K mg base N x (defScope st) (He.ga K x) cdv A outer s H E).nox (defBody st) t ∧ t { nx := fun _ H' => Q .non H', rt := Q } (start N vs) H) : Cal P w K mg base x (k + 1) ps sp := by
  obtain ⟨g, fd, F⟩ := D
  refine ⟨fd, g, F.kp, F.bindsN b, F.ok S len fun cdv A outer s H vs Q E hr hsp => ?_⟩
  obtain ⟨t, h, q⟩ := hbody cdv A outer s H vs Q E hr hsp
  exact ⟨t, h.nox, q⟩
end
/-! ### isinstance -/
theorem kt_int_int {K : PySem.W.Frag} : PySem.W.kitOne K (.type "int") (.type "int") = some true := kit_ty (by decide +kernel)
theorem kt_int_bool {K : PySem.W.Frag} : PySem.W.kitOne K (.type "int") (.type "bool") = some false := kit_ty (by decide +kernel)
theorem kt_str_str {K : PySem.W.Frag} : PySem.W.kitOne K (.type "str") (.type "str") = some true := kit_ty (by decide +kernel)
theorem kt_tuple_tuple {K : PySem.W.Frag} : PySem.W.kitOne K (.type "tuple") (.type "tuple") = some true := kit_ty (by decide +kernel)
theorem kt_list_list {K : PySem.W.Frag} : PySem.W.kitOne K (.type "list") (.type "list") = some true := kit_ty (by decide +kernel)
theorem kt_bool_bool {K : PySem.W.Frag} : PySem.W.kitOne K (.type "bool") (.type "bool") = some true := kit_ty (by decide +kernel)
theorem kt_tuple_list {K : PySem.W.Frag} : PySem.W.kitOne K (.type "tuple") (.type "list") = some false := kit_ty (by decide +kernel)
theorem kt_str_list {K : PySem.W.Frag} : PySem.W.kitOne K (.type "str") (.type "list") = some false := kit_ty (by decide +kernel)
theorem kt_bool_list {K : PySem.W.Frag} : PySem.W.kitOne K (.type "bool") (.type "list") = some false := kit_ty (by decide +kernel)
theorem kt_int_list {K : PySem.W.Frag} : PySem.W.kitOne K (.type "int") (.type "list") = some false := kit_ty (by decide +kernel)
theorem kt_int_tuple {K : PySem.W.Frag} : PySem.W.kitOne K (.type "int") (.type "tuple") = some false := kit_ty (by decide +kernel)
theorem kt_str_tuple {K : PySem.W.Frag} : PySem.W.kitOne K (.type "str") (.type "tuple") = some false := kit_ty (by decide +kernel)
theorem kt_bool_tuple {K : PySem.W.Frag} : PySem.W.kitOne K (.type "bool") (.type "tuple") = some false := kit_ty (by decide +kernel)
theorem kt_int_str {K : PySem.W.Frag} : PySem.W.kitOne K (.type "int") (.type "str") = some false := kit_ty (by decide +kernel)
theorem kt_bool_str {K : PySem.W.Frag} : PySem.W.kitOne K (.type "bool") (.type "str") = some false := kit_ty (by decide +kernel)
theorem kt_tuple_str {K : PySem.W.Frag} : PySem.W.kitOne K (.type "tuple") (.type "str") = some false := kit_ty (by decide +kernel)
theorem tyx_seqT {K : PySem.W.Frag} {H : Hp} {a : Addr} {xs : List V} (h : SqT K H a xs) : TyX K H (.ref a) (.type "tuple") := by
  rcases h with (h | ⟨o, h⟩) | ⟨o, its, n, e, c, _⟩
  · exact .base (.tup h)
  · exact .fTuple h
  · exact .kTuple e c
section
variable {X : Cx}
theorem pe_callC {x : Str} {k : Nat} {ps : List Str} {sp : Sp} {e : Expr} {es : List Expr} {t : TA} {p pos : Pos} (C : Cal X.prog X.w X.K X.mg X.base x k ps sp) (hr : Room k X.A) (hg : Gl X x) (ha : PA X (e :: es) t)
    (hdb : (x == ("__debug__" : Str)) = false := by decide) (he : starEach (e :: es) X.env = (false, eval e X.env) :: starEach es X.env := by rfl) (hpl : (backTo pos (starEach es X.env)).any (·.1) = false := by rfl) :
    PE X (.Call (.Name x p) (e :: es) [] pos) (tCall sp [] E0 t) := by
  obtain ⟨fd, a, b, c, F⟩ := C.ex
  exact pe_call F hr hg a b c .nil pass0 ha hdb he hpl
theorem pe_cint {x : Str} {i : Int} {pos : Pos} (hm : ∃ t, X.mg x = some (.int i t)) (hg : Gl X x) (hd : (x == ("__debug__" : Str)) = false := by decide) : PE X (.Name x pos) (tC (.int i)) := by
  obtain ⟨t, h⟩ := hm
  exact pe_glob hg h ⟨t, rfl⟩ hd
theorem pe_cstr {x : Str} {z : Str} {pos : Pos} (hm : ∃ t, X.mg x = some (.str z t)) (hg : Gl X x) (hd : (x == ("__debug__" : Str)) = false := by decide) : PE X (.Name x pos) (tC (.str z)) := by
  obtain ⟨t, h⟩ := hm
  exact pe_glob hg h ⟨t, rfl⟩ hd
theorem pe_ctup {x : Str} {a : Addr} {pos : Pos} (hm : X.mg x = some (.ref a)) (hg : Gl X x) (hd : (x == ("__debug__" : Str)) = false := by decide) : PE X (.Name x pos) (tC (.ref a)) := pe_glob (v := .ref a) hg hm rfl hd
theorem pe_bty {x : Str} {T : String} {pos : Pos} (hm : X.mg x = none) (hv : bootBuiltins x = some (.type T)) (hg : Gl X x) (hn : x ≠ "__name__" := by decide) (hd : (x == ("__debug__" : Str)) = false := by decide) : PE X (.Name x pos) (tC (.ty T)) :=
  pe_bltn hg hm hv rfl hn hd
end
end Tw
set_option Elab.async false
set_option linter.all false
set_option maxRecDepth 100000
set_option maxHeartbeats 4000000
namespace HT
open PySem PySem.Spec PyProof.Rows L2
section
variable {prog : Program} {w : World} {A : Around} {E : Value → Shared → Prop} {s : Shared}
theorem adjust_rev (n : Nat) : Builtin.Slice.sliceAdjust none none (-1) (n : Int) = ((n : Int) - 1, -1) := by
  unfold Builtin.Slice.sliceAdjust
  have h1 : (-1 : Int) < 0 := by decide
  simp only [h1, if_true]
theorem places_rev (n : Nat) : Builtin.Slice.slicePlaces ((n : Int) - 1) (-1) (-1) = n := by
  unfold Builtin.Slice.slicePlaces
  have h1 : ¬ ((-1 : Int) > 0) := by decide
  rw [if_neg h1]
  by_cases h : (n : Int) - 1 > -1
  · rw [if_pos h, show (- -1 : Int) = 1 by decide, Int.ediv_one]
    omega
  · rw [if_neg h]
    omega
theorem sliceApplied_rev {sl : Addr} {t : Tok} {n : Nat} {Q : Int × Int × Nat → Shared → Prop} (hs : s.heap.IsSliceOf sl .none .none (.int (-1) t))
    (h : Q ((n : Int) - 1, -1, n) s) : wpAny (model prog w) A (Builtin.Slice.sliceApplied (.ref sl) (pure (n : Int))) Q E s := by
  obtain ⟨os, hos, hcs, hds⟩ := id hs
  unfold Builtin.Slice.sliceApplied Builtin.Slice.sliceFields
  refine wpAny_bind (wpAny_bind (wpAny_field hos hds (x := .none) rfl (wpAny_bind (wpAny_field hos hds (x := .none) rfl (wpAny_bind (wpAny_field hos hds (x := .int (-1) t) rfl (wpAny_pure ?_)))))))
  refine wpAny_bind (slicePart_ (.int (-1) t) ?_)
  show wpAny _ _ (if ((-1 : Int) == 0) = true then _ else _) _ _ s
  rw [if_neg (by decide)]
  refine wpAny_bind (slicePart_ .none (wpAny_bind (slicePart_ .none (wpAny_bind (wpAny_pure ?_)))))
  show wpAny _ _ (match Builtin.Slice.sliceAdjust none none (-1) (n : Int) with | (lo, hi) => pure (lo, (-1 : Int), Builtin.Slice.slicePlaces lo hi (-1))) _ _ s
  rw [adjust_rev n]
  show wpAny _ _ (pure ((n : Int) - 1, (-1 : Int), Builtin.Slice.slicePlaces ((n : Int) - 1) (-1) (-1))) _ _ s
  rw [places_rev]
  exact wpAny_pure h
theorem pick_rev (xs : Array Value) : ((List.range xs.size).filterMap fun (m : Nat) => xs[((xs.size : Int) - 1 + (m : Int) * (-1)).toNat]?).toArray = xs.toList.reverse.toArray := by
  congr 1
  have e : (fun (m : Nat) => xs[((xs.size : Int) - 1 + (m : Int) * (-1)).toNat]?) = (fun (k : Nat) => xs[k]?) ∘ fun (m : Nat) => ((xs.size : Int) - 1 + (m : Int) * (-1)).toNat := rfl
  rw [e, ← List.filterMap_map]
  have e2 : (List.range xs.size).map (fun (m : Nat) => ((xs.size : Int) - 1 + (m : Int) * (-1)).toNat) = (List.range xs.size).map (fun k => xs.size - 1 - k) := by
    apply List.map_congr_left
    intro m hm
    omega
  rw [e2, PySem.W.krv_range, List.filterMap_reverse, PySem.W.krv_all]
theorem getItem_tuple_rev {t sl : Addr} {items : Array Value} {tk : Tok} {Q : Value → Shared → Prop} (ht : IsTup s.heap t items) (hs : s.heap.IsSliceOf sl .none .none (.int (-1) tk))
    (h : Q (.ref s.heap.objs.size) { s with heap := s.heap.push { cls := .type "tuple", data := .seq items.toList.reverse.toArray } })
    (hsz : items.size ≤ sizeLine) : wpAny (model prog w) A (getItem (.ref t) (.ref sl)) Q E s := by
  have htake : sizeOk (.seq items.toList.reverse.toArray) := by
    show items.toList.reverse.toArray.size ≤ sizeLine
    rw [List.size_toArray, List.length_reverse, Array.length_toList]
    exact hsz
  obtain ⟨os, hos, hcs, hds⟩ := id hs
  have hTs : s.TypeIs (.ref sl) "slice" := ⟨os, hos, hcs⟩
  unfold getItem
  try with_reducible refine wpAny_holding ?_
  first | refine wpAny_bind (wpAny_pure ?_) | skip
  refine wpAny_bind (wpAny_sequenceKey ht.typeIs (by decide) ?_)
  refine wpAny_bind (wpAny_callSpecial?_slot (name := Str.ofString "__getitem__") ht.typeIs PyProof.Rows.slot_tuple_getitem
    (wpAny_call_entry PyProof.Rows.slot_tuple_getitem ht.typeIs entry_tuple_getitem ?_ (args_tuple_getitem _ _)))
  show wpAny _ _ (Builtin.Tuple.tupleItemsOf (.ref t) >>= _) _ _ s
  refine wpAny_bind (tupleItemsOf_ ht ?_)
  refine wpAny_bind (wpAny_typeOf hTs ?_)
  rw [if_pos (by decide)]
  refine wpAny_bind (sliceApplied_rev hs ?_)
  have hno : ¬ ((((items.size : Int) - 1) == 0 && (-1 : Int) == 1 && items.size == items.size) = true) := by
    intro q
    rw [Bool.and_eq_true, Bool.and_eq_true] at q
    exact absurd q.1.2 (by decide)
  show wpAny _ _ (if (((items.size : Int) - 1) == 0 && (-1 : Int) == 1 && items.size == items.size) = true then _ else _) _ _ s
  rw [if_neg hno, pick_rev]
  first
    | exact wpAny_bind (m := Builtin.Tuple.tupleExact _) (wpAny_newObj_type (wpAny_pure ⟨_, rfl, wpAny_pure h⟩) htake)
    | exact wpAny_bind (m := Builtin.Tuple.tupleExact _) (wpAny_newObj_type (wpAny_bind (wpAny_pure (wpAny_pure ⟨_, rfl, wpAny_pure h⟩))) htake)
    | exact wpAny_bind (wpAny_bind (m := Builtin.Tuple.tupleExact _) (wpAny_newObj_type (wpAny_pure (wpAny_pure ⟨_, rfl, wpAny_pure h⟩)) htake))
    | exact wpAny_bind (wpAny_bind (m := Builtin.Tuple.tupleExact _) (wpAny_newObj_type (wpAny_pure ⟨_, rfl, wpAny_pure h⟩) htake))
end
end HT
namespace Tw
open PySem PySem.Spec PyProof.Rows L2
theorem iteT' {b : Bool} {A B : Prop} (hb : b = true) (h : A) : if b = true then A else B := by rw [if_pos hb]; exact h
theorem iteF' {b : Bool} {A B : Prop} (hb : b = false) (h : B) : if b = true then A else B := by rw [if_neg (by rw [hb]; exact Bool.false_ne_true)]; exact h
section
variable {X : Cx}
/-! ### t[::-1], t a tuple -/
def tRevT (K : PySem.W.Frag) (te : TE) : TE := fun σ H Q => te σ H fun x H1 => ∃ a xs, x = .ref a ∧ SqT K H1 a xs ∧ ∀ p, H1 p = none → Q (.ref p) (upd H1 p (.tup xs.reverse))
theorem pe_revT {e : Expr} {te : TE} {k : Nat} {p1 p2 p3 pos : Pos} (he : PE X e te) : PE X (.Subscript e (.Slice none none (some (.UnaryOp .USub (.Constant (.int 1) k p1) p2)) p3) pos) (tRevT X.K te) := by
  refine ⟨fun pins s σ H Q I h => ?_⟩
  refine Subscript_ (thn (he.run pins s σ H _ I h) fun v s1 ⟨x, H1, I1, r1, q1⟩ => ?_)
  obtain ⟨a, xs, ex, hx, q⟩ := q1
  subst ex
  cases r1
  have hst : PO X (some (.UnaryOp .USub (.Constant (.int 1) k p1) p2)) (tPart (tUn (rU fun i => .int (-i)) (tC (.int 1)))) := po_some (pe_un un_neg pe_int)
  refine wpAny_Slice (thn (po_none.run pins s1 σ H1 (fun o H2 => o = none ∧ H2 = H1) I1 ⟨rfl, rfl⟩) fun vl s2 ⟨l, H2, I2, pl, el, e2⟩ => ?_)
  subst el e2
  refine thn (po_none.run pins s2 σ H2 (fun o H3 => o = none ∧ H3 = H2) I2 ⟨rfl, rfl⟩) fun vu s3 ⟨u, H3, I3, pu, eu, e3⟩ => ?_
  subst eu e3
  refine thn (hst.run pins s3 σ H3 (fun o H4 => o = some (-1) ∧ H4 = H3) I3 ⟨1, rfl, -1, rfl, rfl, rfl⟩) fun vs s4 ⟨o, H4, I4, ps, eo, e4⟩ => ?_
  subst eo e4
  cases pl
  cases pu
  obtain ⟨tk, rfl⟩ : ∃ tk, vs = Value.int (-1) tk := by
    cases ps with
    | int i t => exact ⟨t, rfl⟩
  have I5 : L2.Inv X pins σ H4 { s4 with heap := s4.heap.push { cls := .type "slice", data := .fields #[.none, .none, .int (-1) tk] } } := I4.kept (t' := s4.toks) fun b ob q => Heap.get?_push_of_some _ q
  obtain ⟨its, r, ht, hz⟩ := I5.tuple hx
  have hlen := r.length
  refine tail_any (ops := [.ref a, .ref s4.heap.objs.size]) ht.typeIs (PyProof.Rows.slot_tuple_getitem.lookup) ?_ (by with_unfolding_all rfl)
  refine HT.getItem_tuple_rev ht (Heap.IsSliceOf.new _ _ _ _) ?_ (by rw [List.size_toArray]; omega)
  refine ⟨.ref _, _, I5.laid (t' := s4.toks) (o := .tup xs.reverse) (fun b ob q => Heap.get?_push_of_some _ q) (Nat.le_refl _) ?_, rfl, q _ (I5.hok.fresh (Nat.le_refl _))⟩
  exact ⟨by rw [List.length_reverse]; exact hz, _, r.reverse, IsTup.new _ _⟩
/-! ### a list, a tuple compared with an empty one -/
def rEqE (K : PySem.W.Frag) (neg : Bool) : R2 := fun x y H Q => ∃ a b xs, x = .ref a ∧ y = .ref b ∧ ((SqL K H a xs ∧ SqL K H b []) ∨ (SqT K H a xs ∧ SqT K H b [])) ∧ Q (.bl (if neg then !xs.isEmpty else xs.isEmpty)) H
theorem op_eqE (hu : X.A.units < cLine) : OpR X (compareOp .Eq) (rEqE X.K false) := by
  intro pins s σ H x y v u Q I rx ry h
  obtain ⟨a, b, xs, rfl, rfl, hh, q⟩ := h
  cases rx
  cases ry
  rcases hh with ⟨h1, h2⟩ | ⟨h1, h2⟩
  · obtain ⟨its, r1, p1, _⟩ := I.list h1
    obtain ⟨its2, r2, p2, _⟩ := I.list h2
    cases r2
    cases xs with
    | nil =>
      cases r1
      exact SeqAt.eq_listAt (e := fun _ => true) p1.isList p2.isList rfl hu (fun j h1 => absurd h1 (by simp)) ⟨.bl _, H, I, rfl, q⟩
    | cons x xs =>
      cases r1
      exact SeqAt.eq_list_lengthsAt p1.isList p2.isList (by simp) hu ⟨.bl _, H, I, rfl, q⟩
  · obtain ⟨its, r1, p1, _⟩ := I.tuple h1
    obtain ⟨its2, r2, p2, _⟩ := I.tuple h2
    cases r2
    refine SeqAt.eq_tupleAt (e := fun _ => true) p1 p2 hu (fun j _ h1 => absurd h1 (by simp)) ⟨.bl xs.isEmpty, H, I, ?_, q⟩
    cases r1 <;> rfl
theorem op_neE (hu : X.A.units < cLine) : OpR X (compareOp .NotEq) (rEqE X.K true) := by
  intro pins s σ H x y v u Q I rx ry h
  obtain ⟨a, b, xs, rfl, rfl, hh, q⟩ := h
  cases rx
  cases ry
  rcases hh with ⟨h1, h2⟩ | ⟨h1, h2⟩
  · obtain ⟨its, r1, p1, _⟩ := I.list h1
    obtain ⟨its2, r2, p2, _⟩ := I.list h2
    cases r2
    cases xs with
    | nil =>
      cases r1
      exact SeqAt.RcNeAt.lists (e := fun _ => true) p1.isList p2.isList rfl hu (fun j h1 => absurd h1 (by simp)) _ _ _ _ ⟨.bl _, H, I, rfl, q⟩
    | cons x xs =>
      cases r1
      exact SeqAt.RcNeAt.lists_lengths p1.isList p2.isList (by simp) hu _ _ _ _ ⟨.bl _, H, I, rfl, q⟩
  · obtain ⟨its, r1, p1, _⟩ := I.tuple h1
    obtain ⟨its2, r2, p2, _⟩ := I.tuple h2
    cases r2
    refine SeqAt.RcNeAt.tuples (e := fun _ => true) p1 p2 hu (fun j _ h1 => absurd h1 (by simp)) _ _ _ _ ⟨.bl (!xs.isEmpty), H, I, ?_, q⟩
    cases r1 <;> rfl
/-! ### s * n -/
def repS (z : Str) (n : Nat) : Str := ⟨(List.replicate n z.cps.toList).flatten.toArray⟩
theorem fold_rep (n : Nat) (a : Array Nat) : (List.replicate n a).foldl (· ++ ·) #[] = (List.replicate n a.toList).flatten.toArray := by
  have key : ∀ (n : Nat) (b : Array Nat), (List.replicate n a).foldl (· ++ ·) b = b ++ (List.replicate n a.toList).flatten.toArray := by
    intro n
    induction n with
    | zero => intro b; simp
    | succ n ih =>
      intro b
      rw [List.replicate_succ, List.foldl_cons, ih, List.replicate_succ, List.flatten_cons]
      apply Array.toList_inj.mp
      simp
  rw [key]
  simp
theorem op_repS : OpR X (binaryOp .Mult) (fun x y H Q => ∃ z n, x = .str z ∧ y = .int n ∧ 0 ≤ n ∧ n ≤ 1000 ∧ z.length ≤ 1000 ∧ Q (.str (repS z n.toNat)) H) := by
  intro pins s σ H x y v u Q I rx ry h
  obtain ⟨z, n, rfl, rfl, h0, h1, h2, q⟩ := h
  obtain ⟨t, rfl⟩ := rx
  obtain ⟨t', rfl⟩ := ry
  have fin : ∀ (k : Nat) (z' : Str), z' = repS z n.toNat → EP X pins σ Q (.str z' k) { s with toks := s.toks + 1 } := fun k z' e => ⟨.str (repS z n.toNat), H, I.tok _, ⟨k, by rw [e]⟩, q⟩
  have fin0 : ∀ (k : Tok) (z' : Str), z' = repS z n.toNat → EP X pins σ Q (.str z' k) s := fun k z' e => ⟨.str (repS z n.toNat), H, I, ⟨k, by rw [e]⟩, q⟩
  have hlen : z.length * n.toNat ≤ 1000000 := by
    have := Nat.mul_le_mul h2 (show n.toNat ≤ 1000 by omega)
    omega
  refine P.mul_str (by
      have a : ¬ n < -(2 ^ 63 : Int) := by omega
      have b : ¬ n ≥ 2 ^ 63 := by omega
      rw [decide_eq_false a, decide_eq_false b]; rfl) (fun h3 _ h4 => ?_) (fun _ _ => ?_) ?_
  · have h5 : (z.length : Int) * n ≤ 2 ^ 63 - 1 := by
      have e : (z.length : Int) * n = ((z.length * n.toNat : Nat) : Int) := by
        rw [Int.natCast_mul, Int.toNat_of_nonneg h0]
      rw [e]
      omega
    have h6 := Int.le_ediv_of_mul_le (by omega : 0 < n) h5
    omega
  · unfold Builtin.Str.tooLong
    first
      | exact decide_eq_false (by rw [sizeLine_eq]; omega)
      | (simp only [sizeLine_eq]; exact decide_eq_false (by omega))
      | (simp; omega)
  · by_cases hn : n < 1
    · rw [if_pos hn]
      have e0 : n.toNat = 0 := by omega
      refine ⟨by decide, fin _ _ ?_⟩
      rw [e0]; rfl
    · rw [if_neg hn]
      by_cases hc : (n == 1 || z.length == 0) = true
      · rw [if_pos hc]
        rw [Bool.or_eq_true, beq_iff_eq, beq_iff_eq] at hc
        refine fin0 _ _ ?_
        rcases hc with e | e
        · rw [e]
          show z = ⟨(List.replicate 1 z.cps.toList).flatten.toArray⟩
          simp
        · have e2 : z.cps = #[] := Array.eq_empty_of_size_eq_zero e
          have e3 : z = ⟨#[]⟩ := Str.ext' e2
          rw [e3]
          unfold repS
          have : ∀ m, (List.replicate m ([] : List Nat)).flatten = [] := fun m => by induction m with
            | zero => rfl
            | succ m ih => rw [List.replicate_succ, List.flatten_cons, ih]; rfl
          simp [this]
      · rw [if_neg hc]
        refine ⟨?_, fin _ _ ?_⟩
        · show Str.length _ ≤ sizeLine
          rw [fold_rep, sizeLine_eq]
          show Array.size _ ≤ _
          rw [List.size_toArray, List.length_flatten, List.map_replicate, List.sum_replicate_nat, Nat.mul_comm]
          have : z.cps.toList.length = z.length := by simp [Str.length]
          rw [this]
          omega
        · rw [fold_rep] <;> rfl
/-! ### s.lstrip(t) -/
theorem pe_lstripC {o e : Expr} {to te : TE} {apos pos : Pos} (ho : PE X o to) (he : PE X e te) (hs : starEach [e] X.env = [(false, eval e X.env)] := by rfl) (hbase : attributeBase o "lstrip" X.env (eval o X.env) = eval o X.env := by rfl) (hline : (apos.endLine == pos.line) = true := by rfl) :
    PE X (.Call (.Attribute o "lstrip" apos) [e] [] pos) (tM1 (fun x xs H Q => ∃ a b, x = .str a ∧ xs = [.str b] ∧ a.length ≤ sizeLine ∧ Q (.str (Txt.lstripChars a b)) H) to te) :=
  pe_m1 F.slot_str_lstrip F.type_str_lstrip mt_lstripChars ho he hs hbase hline
/-! ### str(x) -/
theorem call_strA : CallR X (.type "str") (fun xs H Q => (∃ a, xs = [.str a] ∧ Q (.str a) H) ∨ ∃ i, xs = [.int i] ∧ i.natAbs.log2 < 1920 ∧ Q (.str (toString i)) H) := by
  intro pins s σ H xs us Q I r h
  rcases h with h | h
  · exact SkE.call_str_str pins s σ H xs us Q I r h
  · exact call_str_int pins s σ H xs us Q I r h
/-! ### an attribute as a target -/
def gFld (K : PySem.W.Frag) (ta : TE) (f : Str) : TG := fun y σ H Q => ta σ H fun x H2 => ∃ a C dx fs, x = .ref a ∧ H2 a = some (.ins C dx fs) ∧ Cls K C ∧ NoAttr K C f ∧ fs.length < 1000 ∧ Q σ (upd H2 a (.ins C dx (putF f y fs)))
theorem pg_fld {o : Expr} {f : Str} {to : TE} {pos : Pos} (ho : PE X o to)
    (ha : ∀ v, assign (.Attribute o f pos) X.env v = (do
      let ov ← holding [v] (eval o X.env)
      standAt pos.atName
      holding [v, ov] (setAttr ov f v)
      release [v, ov] []) := by intro _; rfl) : PG X (.Attribute o f pos) (gFld X.K to f) := by
  refine ⟨fun pins s σ H v u Q I r h => ?_⟩
  rw [ha]
  refine wpAny_bind (wpAny_holding (thn (ho.run pins s σ H _ I h) fun ov s1 ⟨x, H1, I1, r1, a, C, dx, fs, ex, ea, c, n, l, q2⟩ => ?_))
  subst ex
  obtain rfl : ov = Value.ref a := r1
  refine wpAny_bind (wpAny_standAt (wpAny_bind (wpAny_holding (setattr_ok I1 ea c n l r fun s3 I3 => ?_))))
  exact wpAny_release ⟨σ, _, I3, q2⟩
end
end Tw
set_option Elab.async false
set_option linter.all false
set_option maxRecDepth 100000
set_option maxHeartbeats 4000000
namespace Tw
open PySem
/-! ## what the program speaks of, as plain data -/
inductive Op | plus | less | times | under | same
  deriving DecidableEq
def Op.w : Op → Str
  | .plus => "plus" | .less => "less" | .times => "times" | .under => "under" | .same => "same"
inductive E | num (n : Nat) | nam (x : Str) | bin (o : Op) (a b : E)
  deriving DecidableEq
inductive Row
  | lt (op : Bool) (x : Str) (e : E)
  | ask (x h : Str) (k : Bool)
  | say (h : Str) (e : E)
  | iff (e : E) (a b : List Row)
  | whl (e : E) (a : List Row)
structure Pg where
  ms : List (Str × Str)
  rs : List Row
/-! ### as Python's data -/
def E.d : E → PyData
  | .num n => .tuple [.str "number", .int n]
  | .nam x => .tuple [.str "name", .str x]
  | .bin o a b => .tuple [.str o.w, a.d, b.d]
def ltw (op : Bool) : Str := if op then "open" else "let"
mutual
def Row.d : Row → PyData
  | .lt op x e => .tuple [.str (ltw op), .str x, e.d]
  | .ask x h k => .tuple [.str "ask", .str x, .str h, .bool k]
  | .say h e => .tuple [.str "say", .str h, e.d]
  | .iff e a b => .tuple [.str "if", e.d, .tuple (rowsD a), .tuple (rowsD b)]
  | .whl e a => .tuple [.str "while", e.d, .tuple (rowsD a)]
def rowsD : List Row → List PyData
  | [] => []
  | r :: rs => r.d :: rowsD rs
end
theorem rowsD_map : ∀ rs : List Row, rowsD rs = rs.map Row.d
  | [] => rfl
  | r :: rs => by rw [rowsD, rowsD_map rs]; rfl
def markD (m : Str × Str) : PyData := .tuple [.str m.1, .str m.2]
def Pg.d (p : Pg) : PyData := .tuple [.tuple (p.ms.map markD), .tuple (rowsD p.rs)]
/-! ### sizes -/
def E.parts : E → Nat
  | .bin _ a b => 1 + a.parts + b.parts
  | _ => 1
def E.deep : E → Nat
  | .bin _ a b => 1 + max a.deep b.deep
  | _ => 1
mutual
def Row.cnt : Row → Nat
  | .iff _ a b => 1 + cnts a + cnts b
  | .whl _ a => 1 + cnts a
  | _ => 1
def cnts : List Row → Nat
  | [] => 0
  | r :: rs => r.cnt + cnts rs
end
mutual
def Row.dp : Row → Nat
  | .iff _ a b => 1 + max (dps a) (dps b)
  | .whl _ a => 1 + dps a
  | _ => 1
def dps : List Row → Nat
  | [] => 0
  | r :: rs => max r.dp (dps rs)
end
/-! ### names, houses -/
def letters : Str := "abcdefghijklmnopqrstuvwxyz"
def isName (x : Str) : Bool := decide (1 ≤ x.length) && decide (x.length ≤ 6) && !decide (x ∈ c_KEYS) && x.cps.toList.all fun c => decide (c ∈ letters.cps.toList)
def isHouse (x : Str) : Bool := decide (x ∈ c_HOUSES)
def E.wf : E → Bool
  | .num n => decide (n ≤ 996)
  | .nam x => isName x
  | .bin _ a b => a.wf && b.wf
def E.ok (e : E) : Prop := e.wf = true ∧ e.deep ≤ 8 ∧ e.parts ≤ 40
mutual
def Row.ok (hm : Str → Str) : Row → Prop
  | .lt _ x e => isName x = true ∧ e.ok
  | .ask x h _ => isName x = true ∧ h = hm x
  | .say h e => isHouse h = true ∧ e.ok
  | .iff e a b => e.ok ∧ oks hm a ∧ oks hm b
  | .whl e a => e.ok ∧ oks hm a
def oks (hm : Str → Str) : List Row → Prop
  | [] => True
  | r :: rs => r.ok hm ∧ oks hm rs
end
/-- texts by their signs -/
def slt (x y : Str) : Prop := x.cps.toList < y.cps.toList
def rising (xs : List Str) : Prop := xs.Pairwise slt
structure Pg.ok (hm : Str → Str) (p : Pg) : Prop where
  hs : ∀ x, isHouse (hm x) = true
  mks : ∀ m ∈ p.ms, isName m.1 = true ∧ m.2 = hm m.1
  up : rising (p.ms.map (·.1))
  few : p.ms.length ≤ 60
  ne : p.rs ≠ []
  cn : cnts p.rs ≤ 60
  dp : dps p.rs ≤ 5
  rk : oks hm p.rs
/-! ### what stands within -/
def Row.kids : Row → List Row
  | .iff _ a b => a ++ b
  | .whl _ a => a
  | _ => []
mutual
def Row.flat (n : Nat) (ar : List Nat) : Row → List (Nat × Row × List Nat)
  | .iff e a b => (n, .iff e a b, ar) :: (flats (n + 1) (ar ++ [n]) a ++ flats (n + 1 + cnts a) (ar ++ [n]) b)
  | .whl e a => (n, .whl e a, ar) :: flats (n + 1) (ar ++ [n]) a
  | .lt op x e => [(n, .lt op x e, ar)]
  | .ask x h k => [(n, .ask x h k, ar)]
  | .say h e => [(n, .say h e, ar)]
def flats (n : Nat) (ar : List Nat) : List Row → List (Nat × Row × List Nat)
  | [] => []
  | r :: rs => r.flat n ar ++ flats (n + r.cnt) ar rs
end
def Pg.flat (p : Pg) : List (Nat × Row × List Nat) := flats 1 [] p.rs
def itemD (t : Nat × Row × List Nat) : PyData := .tuple [.int t.1, t.2.1.d, .tuple (t.2.2.map fun (n : Nat) => .int (n : Int))]
theorem cnts_append : ∀ (a b : List Row), cnts (a ++ b) = cnts a + cnts b
  | [], b => by rw [List.nil_append, cnts, Nat.zero_add]
  | r :: a, b => by rw [List.cons_append, cnts, cnts, cnts_append a b, Nat.add_assoc]
theorem dps_append : ∀ (a b : List Row), dps (a ++ b) = max (dps a) (dps b)
  | [], b => by rw [List.nil_append, dps, Nat.zero_max]
  | r :: a, b => by rw [List.cons_append, dps, dps, dps_append a b, Nat.max_assoc]
theorem flats_append (n : Nat) (ar : List Nat) : ∀ (a b : List Row), flats n ar (a ++ b) = flats n ar a ++ flats (n + cnts a) ar b
  | [], b => by rw [List.nil_append, flats, cnts, List.nil_append, Nat.add_zero]
  | r :: a, b => by rw [List.cons_append, flats, flats, flats_append _ ar a b, cnts, List.append_assoc, Nat.add_assoc]
theorem Row.cnt_kids (r : Row) : r.cnt = 1 + cnts r.kids := by
  cases r <;> simp only [Row.cnt, Row.kids, cnts, cnts_append] <;> omega
theorem Row.dp_kids (r : Row) : r.dp = 1 + dps r.kids := by
  cases r <;> simp only [Row.dp, Row.kids, dps, dps_append] <;> omega
theorem Row.flat_kids (n : Nat) (ar : List Nat) (r : Row) : r.flat n ar = (n, r, ar) :: flats (n + 1) (ar ++ [n]) r.kids := by
  cases r <;> simp only [Row.flat, Row.kids, flats, flats_append]
theorem Row.cnt_pos (r : Row) : 1 ≤ r.cnt := by rw [r.cnt_kids]; omega
mutual
theorem Row.flat_len (n : Nat) (ar : List Nat) : ∀ r : Row, (r.flat n ar).length = r.cnt
  | .iff e a b => by rw [Row.flat, List.length_cons, List.length_append, flats_len _ _ a, flats_len _ _ b, Row.cnt]; omega
  | .whl e a => by rw [Row.flat, List.length_cons, flats_len _ _ a, Row.cnt]; omega
  | .lt _ _ _ => rfl
  | .ask _ _ _ => rfl
  | .say _ _ => rfl
theorem flats_len (n : Nat) (ar : List Nat) : ∀ rs : List Row, (flats n ar rs).length = cnts rs
  | [] => rfl
  | r :: rs => by rw [flats, List.length_append, r.flat_len n ar, flats_len _ _ rs, cnts]
end
/-- what a pile of rows gives, the top row first -/
def flatS (n : Nat) : List (Row × List Nat) → List (Nat × Row × List Nat)
  | [] => []
  | (r, ar) :: S => r.flat n ar ++ flatS (n + r.cnt) S
def cntS : List (Row × List Nat) → Nat
  | [] => 0
  | (r, _) :: S => r.cnt + cntS S
theorem flatS_map (ar : List Nat) : ∀ (n : Nat) (rs : List Row) (S : List (Row × List Nat)), flatS n (rs.map (fun r => (r, ar)) ++ S) = flats n ar rs ++ flatS (n + cnts rs) S
  | n, [], S => by rw [List.map_nil, List.nil_append, flats, List.nil_append, cnts, Nat.add_zero]
  | n, r :: rs, S => by rw [List.map_cons, List.cons_append, flatS, flatS_map ar _ rs S, flats, List.append_assoc, cnts, Nat.add_assoc]
theorem cntS_map (ar : List Nat) : ∀ (rs : List Row) (S : List (Row × List Nat)), cntS (rs.map (fun r => (r, ar)) ++ S) = cnts rs + cntS S
  | [], S => by rw [List.map_nil, List.nil_append, cnts, Nat.zero_add]
  | r :: rs, S => by rw [List.map_cons, List.cons_append, cntS, cntS_map ar rs S, cnts, Nat.add_assoc]
/-- one turn of the pile -/
theorem flatS_turn (n : Nat) (r : Row) (ar : List Nat) (S : List (Row × List Nat)) :
    flatS n ((r, ar) :: S) = (n, r, ar) :: flatS (n + 1) (r.kids.map (fun k => (k, ar ++ [n])) ++ S) := by
  rw [flatS, flatS_map, r.flat_kids, r.cnt_kids, List.cons_append, Nat.add_assoc]
theorem cntS_turn (r : Row) (ar ar' : List Nat) (S : List (Row × List Nat)) : cntS ((r, ar) :: S) = 1 + cntS (r.kids.map (fun k => (k, ar')) ++ S) := by
  rw [cntS, cntS_map, r.cnt_kids]; omega
theorem oks_append (hm : Str → Str) : ∀ (a b : List Row), oks hm (a ++ b) ↔ oks hm a ∧ oks hm b
  | [], b => by rw [List.nil_append, oks, true_and]
  | r :: a, b => by rw [List.cons_append, oks, oks, oks_append hm a b, and_assoc]
theorem oks_mem {hm : Str → Str} : ∀ {rs : List Row}, oks hm rs ↔ ∀ r ∈ rs, r.ok hm
  | [] => by simp [oks]
  | r :: rs => by rw [oks, oks_mem]; simp
theorem Row.ok_kids {hm : Str → Str} {r : Row} (h : r.ok hm) : oks hm r.kids := by
  cases r <;> simp only [Row.ok, Row.kids, oks, oks_append] at * <;> simp_all
theorem dps_mem {k : Nat} : ∀ {rs : List Row}, dps rs ≤ k ↔ ∀ r ∈ rs, r.dp ≤ k
  | [] => by simp [dps]
  | r :: rs => by rw [dps, Nat.max_le, dps_mem]; simp
/-! ### words, lines -/
def numS (n : Nat) : Str := Str.ofString (toString (n : Int))
def E.words : E → List Str
  | .num n => [numS n]
  | .nam x => [x]
  | .bin o a b => o.w :: (a.words ++ b.words)
def Row.words : Row → List Str
  | .lt op x e => ltw op :: x :: "=" :: e.words
  | .ask x h k => "ask" :: x :: h :: (if k then ["kept"] else [])
  | .say h e => "say" :: h :: e.words
  | .iff e _ _ => "if" :: e.words
  | .whl e _ => "while" :: e.words
def ahead (d : Nat) : Str := ⟨(List.replicate (2 * d) 32).toArray⟩
def sp : Str := " "
def nl : Str := "\n"
def Row.line (d : Nat) (r : Row) : Str := ahead d ++ Str.join sp r.words
mutual
def Row.lines (d : Nat) : Row → List Str
  | .iff e a b => Row.line d (.iff e a b) :: (liness (d + 1) a ++ match b with
    | [] => []
    | r :: rs => (ahead d ++ "else") :: (r.lines (d + 1) ++ liness (d + 1) rs))
  | .whl e a => Row.line d (.whl e a) :: liness (d + 1) a
  | .lt op x e => [Row.line d (.lt op x e)]
  | .ask x h k => [Row.line d (.ask x h k)]
  | .say h e => [Row.line d (.say h e)]
def liness (d : Nat) : List Row → List Str
  | [] => []
  | r :: rs => r.lines d ++ liness d rs
end
def markL (m : Str × Str) : Str := Str.join sp ["mark", m.1, m.2]
def Pg.lines (p : Pg) : List Str := p.ms.map markL ++ liness 0 p.rs
def Pg.text (p : Pg) : Str := Str.join nl p.lines
/-! ### names, worths -/
def E.vars : E → List Str
  | .num _ => []
  | .nam x => [x]
  | .bin _ a b => a.vars ++ b.vars
def Op.val : Op → Int → Int → Int
  | .plus, i, j => (i + j) % 997
  | .less, i, j => (i - j) % 997
  | .times, i, j => (i * j) % 997
  | .under, i, j => if i < j then 1 else 0
  | .same, i, j => if i = j then 1 else 0
def E.val (f : Str → Int) : E → Int
  | .num n => n
  | .nam x => f x
  | .bin o a b => o.val (a.val f) (b.val f)
def Row.expr : Row → Option E
  | .lt _ _ e => some e
  | .ask _ _ _ => none
  | .say _ e => some e
  | .iff e _ _ => some e
  | .whl e _ => some e
def Row.told : Row → Option Str
  | .lt _ x _ => some x
  | .ask x _ _ => some x
  | _ => none
end Tw
set_option Elab.async false
set_option linter.all false
set_option maxRecDepth 100000
set_option maxHeartbeats 4000000
namespace Tw
open PySem PySem.Spec PyProof.Rows L2
/-! ### what stays -/
/-- all that is tracked stays, but what stands at M -/
def Kp (M : List Addr) (H H' : Hp) : Prop := ∀ b o, H b = some o → b ∉ M → H' b = some o
section
variable {M M' : List Addr} {H H1 H2 : Hp} {a p : Addr} {o : HO} {K : PySem.W.Frag} {xs : List V}
theorem Kp.refl (M : List Addr) (H : Hp) : Kp M H H := fun _ _ h _ => h
theorem Kp.trans (a : Kp M H H1) (b : Kp M H1 H2) : Kp M H H2 := fun c o h n => b c o (a c o h n) n
theorem Kp.mono (k : Kp M H H1) (h : ∀ b ∈ M, b ∈ M') : Kp M' H H1 := fun c o e n => k c o e fun z => n (h c z)
theorem Kp.of (s : Same H H1) : Kp M H H1 := fun c o h _ => s c o h
theorem Kp.same (k : Kp [] H H1) : Same H H1 := fun c o h => k c o h (by simp)
theorem same_new (h : H p = none) : Same H (upd H p o) := fun b x e => by rw [upd_ne (ne_of_none e h)]; exact e
theorem Kp.new (k : Kp M H H1) (h : H p = none) : Kp M H (upd H1 p o) := fun b x e n => by rw [upd_ne (ne_of_none e h)]; exact k b x e n
theorem Kp.put (k : Kp M H H1) (h : p ∈ M) : Kp M H (upd H1 p o) := fun b x e n => by
  rw [upd_ne (fun z => n (by rw [z]; exact h))]; exact k b x e n
theorem same_put (k : Same H H1) (h : H p = none) : Same H (upd H1 p o) := fun b x e => by rw [upd_ne (ne_of_none e h)]; exact k b x e
theorem same_tup (k : Same H H1) (h : SqT K H a xs) : SqT K H1 a xs := by
  rcases h with h | h
  · rcases h with h | ⟨ob, h⟩
    · exact .inl (.inl (k _ _ h))
    · exact .inl (.inr ⟨ob, k _ _ h⟩)
  · exact .inr h
/-- no tuple (nor a locked thing) stands at M -/
def TF (H : Hp) (M : List Addr) : Prop := ∀ m ∈ M, ∀ u, H m = some u → (∀ xs, u ≠ .tup xs) ∧ ∀ ob v, u ≠ .frz ob v
theorem TF.nil : TF H [] := fun m h => absurd h (by simp)
theorem TF.cons (h : ∀ u, H a = some u → (∀ xs, u ≠ .tup xs) ∧ ∀ ob v, u ≠ .frz ob v) (t : TF H M) : TF H (a :: M) := fun m hm => by
  rcases List.mem_cons.mp hm with e | e
  · rw [e]; exact h
  · exact t m e
theorem TF.one (h : H a = some o) (h1 : ∀ xs, o ≠ .tup xs) (h2 : ∀ ob v, o ≠ .frz ob v) (t : TF H M) : TF H (a :: M) := .cons (fun u e => by
  rw [h] at e
  cases e
  exact ⟨h1, h2⟩) t
theorem Kp.tup (k : Kp M H H1) (f : TF H M) (h : SqT K H a xs) : SqT K H1 a xs := by
  rcases h with h | h
  · rcases h with h | ⟨ob, h⟩
    · exact .inl (.inl (k _ _ h fun z => (f _ z _ h).1 _ rfl))
    · exact .inl (.inr ⟨ob, k _ _ h fun z => (f _ z _ h).2 _ _ rfl⟩)
  · exact .inr h
end
/-! ### data of tuples -/
mutual
def Td (K : PySem.W.Frag) (H : Hp) : V → PyData → Prop
  | v, .none => v = .non
  | v, .bool b => v = .bl b
  | v, .int i => v = .int i
  | v, .str s => v = .str s
  | v, .tuple ds => ∃ a xs, v = .ref a ∧ SqT K H a xs ∧ TdA K H xs ds
  | _, .list _ => False
  | _, .dict _ => False
def TdA (K : PySem.W.Frag) (H : Hp) : List V → List PyData → Prop
  | vs, [] => vs = []
  | vs, d :: ds => ∃ v r, vs = v :: r ∧ Td K H v d ∧ TdA K H r ds
end
section
variable {M : List Addr} {H H1 H2 : Hp} {a p : Addr} {o : HO} {K : PySem.W.Frag} {xs ys : List V} {v : V} {d : PyData} {ds es : List PyData}
mutual
theorem Td.kp (k : Kp M H H1) (f : TF H M) : ∀ {v : V} (d : PyData), Td K H v d → Td K H1 v d
  | _, .none, h => by rw [Td] at h ⊢; exact h
  | _, .bool _, h => by rw [Td] at h ⊢; exact h
  | _, .int _, h => by rw [Td] at h ⊢; exact h
  | _, .str _, h => by rw [Td] at h ⊢; exact h
  | _, .tuple ds, h => by
    rw [Td] at h ⊢
    obtain ⟨a, xs, e, t, q⟩ := h
    exact ⟨a, xs, e, k.tup f t, TdA.kp k f ds q⟩
  | _, .list _, h => by rw [Td] at h; exact h.elim
  | _, .dict _, h => by rw [Td] at h; exact h.elim
theorem TdA.kp (k : Kp M H H1) (f : TF H M) : ∀ {vs : List V} (ds : List PyData), TdA K H vs ds → TdA K H1 vs ds
  | _, [], h => by rw [TdA] at h ⊢; exact h
  | _, d :: ds, h => by
    rw [TdA] at h ⊢
    obtain ⟨v, r, e, h1, h2⟩ := h
    exact ⟨v, r, e, Td.kp k f d h1, TdA.kp k f ds h2⟩
end
theorem Td.same (s : Same H H1) (h : Td K H v d) : Td K H1 v d := Td.kp (Kp.of (M := []) s) .nil d h
theorem TdA.same (s : Same H H1) (h : TdA K H xs ds) : TdA K H1 xs ds := TdA.kp (Kp.of (M := []) s) .nil ds h
mutual
theorem Td.dp : ∀ {v : V} (d : PyData), Td K H v d → Dp K H v d
  | _, .none, h => by rw [Td] at h; rw [h]; exact .non
  | _, .bool _, h => by rw [Td] at h; rw [h]; exact .bl _
  | _, .int _, h => by rw [Td] at h; rw [h]; exact .int _
  | _, .str _, h => by rw [Td] at h; rw [h]; exact .str _
  | _, .tuple ds, h => by
    rw [Td] at h
    obtain ⟨a, xs, e, t, q⟩ := h
    rw [e]
    exact .tup t (TdA.dp ds q)
  | _, .list _, h => by rw [Td] at h; exact h.elim
  | _, .dict _, h => by rw [Td] at h; exact h.elim
theorem TdA.dp : ∀ {vs : List V} (ds : List PyData), TdA K H vs ds → DpAll K H vs ds
  | _, [], h => by rw [TdA] at h; rw [h]; exact .nil
  | _, d :: ds, h => by
    rw [TdA] at h
    obtain ⟨v, r, e, h1, h2⟩ := h
    rw [e]
    exact .cons (Td.dp d h1) (TdA.dp ds h2)
end
theorem td_str {s : Str} : Td K H v (.str s) ↔ v = .str s := by rw [Td]
theorem td_int {i : Int} : Td K H v (.int i) ↔ v = .int i := by rw [Td]
theorem td_bool {b : Bool} : Td K H v (.bool b) ↔ v = .bl b := by rw [Td]
theorem td_tup : Td K H v (.tuple ds) ↔ ∃ a xs, v = .ref a ∧ SqT K H a xs ∧ TdA K H xs ds := by rw [Td]
theorem tda_nil : TdA K H [] [] := by rw [TdA]
theorem tda_cons {v : V} {d : PyData} : TdA K H (v :: xs) (d :: ds) ↔ Td K H v d ∧ TdA K H xs ds := by
  rw [TdA]
  constructor
  · rintro ⟨a, r, e, h⟩
    cases e
    exact h
  · intro h
    exact ⟨v, xs, rfl, h⟩
theorem TdA.nil_of (h : TdA K H xs []) : xs = [] := by rw [TdA] at h; exact h
theorem TdA.cons_of {d : PyData} (h : TdA K H xs (d :: ds)) : ∃ v vs, xs = v :: vs ∧ Td K H v d ∧ TdA K H vs ds := by rw [TdA] at h; exact h
theorem tda_bad1 {d : PyData} (h : TdA K H [] (d :: ds)) : False := by
  obtain ⟨_, _, e, _⟩ := h.cons_of
  cases e
theorem tda_bad2 {v : V} (h : TdA K H (v :: xs) []) : False := by cases h.nil_of
theorem TdA.length : ∀ {xs : List V} {ds : List PyData}, TdA K H xs ds → xs.length = ds.length
  | [], [], _ => rfl
  | _ :: _, _ :: _, h => by rw [tda_cons] at h; rw [List.length_cons, List.length_cons, TdA.length h.2]
  | [], _ :: _, h => (tda_bad1 h).elim
  | _ :: _, [], h => (tda_bad2 h).elim
theorem TdA.append : ∀ {xs ys : List V} {ds es : List PyData}, TdA K H xs ds → TdA K H ys es → TdA K H (xs ++ ys) (ds ++ es)
  | [], _, [], _, _, h => h
  | _ :: _, _, _ :: _, _, h, h2 => by rw [tda_cons] at h; rw [List.cons_append, List.cons_append, tda_cons]; exact ⟨h.1, TdA.append h.2 h2⟩
  | [], _, _ :: _, _, h, _ => (tda_bad1 h).elim
  | _ :: _, _, [], _, h, _ => (tda_bad2 h).elim
theorem TdA.get : ∀ {xs : List V} {ds : List PyData} {i : Nat} {v : V}, TdA K H xs ds → xs[i]? = some v → ∃ d, ds[i]? = some d ∧ Td K H v d
  | [], _, _, _, _, e => by simp at e
  | _ :: _, [], _, _, h, _ => (tda_bad2 h).elim
  | x :: xs, d :: ds, 0, v, h, e => by
    rw [tda_cons] at h
    have e : x = v := by simpa using e
    rw [← e]
    exact ⟨d, rfl, h.1⟩
  | x :: xs, d :: ds, i + 1, v, h, e => by
    rw [tda_cons] at h
    exact TdA.get (i := i) h.2 (by simpa using e)
theorem TdA.of_get : ∀ {xs : List V} {ds : List PyData}, xs.length = ds.length → (∀ (i : Nat) v d, xs[i]? = some v → ds[i]? = some d → Td K H v d) → TdA K H xs ds
  | [], [], _, _ => tda_nil
  | x :: xs, d :: ds, hl, h => by
    rw [tda_cons]
    exact ⟨h 0 x d rfl rfl, TdA.of_get (by simpa using hl) fun i v e h1 h2 => h (i + 1) v e (by simpa using h1) (by simpa using h2)⟩
  | [], _ :: _, hl, _ => by simp at hl
  | _ :: _, [], hl, _ => by simp at hl
theorem TdA.reverse : ∀ {xs : List V} {ds : List PyData}, TdA K H xs ds → TdA K H xs.reverse ds.reverse
  | [], [], _ => tda_nil
  | _ :: _, _ :: _, h => by
    rw [tda_cons] at h
    rw [List.reverse_cons, List.reverse_cons]
    exact (TdA.reverse h.2).append (tda_cons.mpr ⟨h.1, tda_nil⟩)
  | [], _ :: _, h => (tda_bad1 h).elim
  | _ :: _, [], h => (tda_bad2 h).elim
theorem TdA.take : ∀ {xs : List V} {ds : List PyData} (n : Nat), TdA K H xs ds → TdA K H (xs.take n) (ds.take n)
  | _, _, 0, _ => tda_nil
  | [], [], _ + 1, _ => tda_nil
  | _ :: _, _ :: _, n + 1, h => by
    rw [tda_cons] at h
    exact tda_cons.mpr ⟨h.1, TdA.take n h.2⟩
  | [], _ :: _, _ + 1, h => (tda_bad1 h).elim
  | _ :: _, [], _ + 1, h => (tda_bad2 h).elim
theorem TdA.drop : ∀ {xs : List V} {ds : List PyData} (n : Nat), TdA K H xs ds → TdA K H (xs.drop n) (ds.drop n)
  | _, _, 0, h => h
  | [], [], _ + 1, _ => tda_nil
  | _ :: _, _ :: _, n + 1, h => by
    rw [tda_cons] at h
    exact TdA.drop n h.2
  | [], _ :: _, _ + 1, h => (tda_bad1 h).elim
  | _ :: _, [], _ + 1, h => (tda_bad2 h).elim
theorem TdA.strs (ss : List Str) : TdA K H (ss.map V.str) (ss.map PyData.str) := by
  induction ss with
  | nil => exact tda_nil
  | cons s ss ih => exact tda_cons.mpr ⟨td_str.mpr rfl, ih⟩
theorem TdA.ints (ss : List Int) : TdA K H (ss.map V.int) (ss.map PyData.int) := by
  induction ss with
  | nil => exact tda_nil
  | cons s ss ih => exact tda_cons.mpr ⟨td_int.mpr rfl, ih⟩
theorem TdA.of_strs : ∀ {xs : List V} {ss : List Str}, TdA K H xs (ss.map PyData.str) → xs = ss.map V.str
  | xs, [], h => h.nil_of
  | xs, s :: ss, h => by
    obtain ⟨v, vs, rfl, h1, h2⟩ := h.cons_of
    rw [td_str.mp h1, TdA.of_strs h2] <;> rfl
theorem TdA.of_ints : ∀ {xs : List V} {ss : List Int}, TdA K H xs (ss.map PyData.int) → xs = ss.map V.int
  | xs, [], h => h.nil_of
  | xs, s :: ss, h => by
    obtain ⟨v, vs, rfl, h1, h2⟩ := h.cons_of
    rw [td_int.mp h1, TdA.of_ints h2] <;> rfl
/-- a new tuple -/
theorem Td.new (hp : H p = none) (h : TdA K H xs ds) : Td K (upd H p (.tup xs)) (.ref p) (.tuple ds) :=
  td_tup.mpr ⟨p, xs, rfl, SqT.of upd_same, h.same (same_new hp)⟩
theorem Td.t2 {d1 d2 : PyData} (h : Td K H v (.tuple [d1, d2])) : ∃ a x y, v = .ref a ∧ SqT K H a [x, y] ∧ Td K H x d1 ∧ Td K H y d2 := by
  obtain ⟨a, xs, e, t, q⟩ := td_tup.mp h
  obtain ⟨x, xs, rfl, h1, q⟩ := q.cons_of
  obtain ⟨y, xs, rfl, h2, q⟩ := q.cons_of
  rw [q.nil_of] at t
  exact ⟨a, x, y, e, t, h1, h2⟩
theorem Td.t3 {d1 d2 d3 : PyData} (h : Td K H v (.tuple [d1, d2, d3])) : ∃ a x y z, v = .ref a ∧ SqT K H a [x, y, z] ∧ Td K H x d1 ∧ Td K H y d2 ∧ Td K H z d3 := by
  obtain ⟨a, xs, e, t, q⟩ := td_tup.mp h
  obtain ⟨x, xs, rfl, h1, q⟩ := q.cons_of
  obtain ⟨y, xs, rfl, h2, q⟩ := q.cons_of
  obtain ⟨z, xs, rfl, h3, q⟩ := q.cons_of
  rw [q.nil_of] at t
  exact ⟨a, x, y, z, e, t, h1, h2, h3⟩
theorem Td.t4 {d1 d2 d3 d4 : PyData} (h : Td K H v (.tuple [d1, d2, d3, d4])) : ∃ a x y z w, v = .ref a ∧ SqT K H a [x, y, z, w] ∧ Td K H x d1 ∧ Td K H y d2 ∧ Td K H z d3 ∧ Td K H w d4 := by
  obtain ⟨a, xs, e, t, q⟩ := td_tup.mp h
  obtain ⟨x, xs, rfl, h1, q⟩ := q.cons_of
  obtain ⟨y, xs, rfl, h2, q⟩ := q.cons_of
  obtain ⟨z, xs, rfl, h3, q⟩ := q.cons_of
  obtain ⟨w, xs, rfl, h4, q⟩ := q.cons_of
  rw [q.nil_of] at t
  exact ⟨a, x, y, z, w, e, t, h1, h2, h3, h4⟩
end
/-! ### expressions, by their shape -/
section
variable {H : Hp} {K : PySem.W.Frag} {v : V}
theorem td_num {n : Nat} (h : Td K H v (E.num n).d) : ∃ a, v = .ref a ∧ SqT K H a [.str "number", .int n] := by
  obtain ⟨a, x, y, e, t, h1, h2⟩ := Td.t2 h
  rw [td_str.mp h1, td_int.mp h2] at t
  exact ⟨a, e, t⟩
theorem td_nam {x : Str} (h : Td K H v (E.nam x).d) : ∃ a, v = .ref a ∧ SqT K H a [.str "name", .str x] := by
  obtain ⟨a, x, y, e, t, h1, h2⟩ := Td.t2 h
  rw [td_str.mp h1, td_str.mp h2] at t
  exact ⟨a, e, t⟩
theorem td_bin {o : Op} {e1 e2 : E} (h : Td K H v (E.bin o e1 e2).d) : ∃ a x y, v = .ref a ∧ SqT K H a [.str o.w, x, y] ∧ Td K H x e1.d ∧ Td K H y e2.d := by
  obtain ⟨a, x, y, z, e, t, h1, h2, h3⟩ := Td.t3 h
  rw [td_str.mp h1] at t
  exact ⟨a, y, z, e, t, h2, h3⟩
end
/-! ### a comprehension without tests, whose element keeps what stands -/
section
variable {J : It} {n : Nat} {G : Hp → Prop} {Y : Nat → Hp → V → Hp → Prop}
theorem lc_pu (w : Walk J n G Y) {g : TG} {te : TE} {vs : List Nat} {σ : L2.St} {H1 : Hp} {D : Addr} {Qd : Hp → Prop} (hn : n ≤ 100000) (hD : H1 D = none) (hG : ∀ H', Same H1 H' → G H')
    (Rel : Nat → V → Hp → Prop) (mono : ∀ i y H H', (∃ l, H D = some (.lst l)) → Kp [D] H H' → Rel i y H → Rel i y H')
    (hs : ∀ i x H2 H' (Qc : VK), i < n → Same H1 H2 → (∃ l, H2 D = some (.lst l)) → Y i H2 x H' → (∀ y H4, Same H2 H4 → Rel i y H4 → Qc y H4) → g x (wipe σ vs) H' fun σ2 H3 => wipe σ2 vs = wipe σ vs ∧ te σ2 H3 Qc)
    (hd : ∀ ys H', Same H1 H' → H' D = some (.lst ys) → ys.length = n → (∀ i y, ys[i]? = some y → Rel i y H') → Qd H') :
    ∃ W : Nat → Nat → Hp → Prop, (∃ m, W 0 m (upd H1 D (.lst []))) ∧ ∀ i m H, W i m H →
      (J.stop i H ∧ Qd H) ∨ (J.go i H ∧ ∃ Nx : Hp → Prop, (∀ H', Nx H' → ∃ m', m' < m ∧ W (i + 1) m' H') ∧ ∀ x H', J.yld i H x H' → g x (wipe σ vs) H' fun σ2 H2 => wipe σ2 vs = wipe σ vs ∧ tYes σ2 H2 fun b H3 =>
        if b = true then te σ2 H3 fun y H4 => ∃ acc, H4 D = some (.lst acc) ∧ acc.length < sizeLine ∧ Nx (upd H4 D (.lst (acc ++ [y]))) else Nx H3) := by
  refine lc_it w (tt := tYes) (fun i H => ∃ ys, Same H1 H ∧ H D = some (.lst ys) ∧ ys.length = i ∧ ∀ j y, ys[j]? = some y → Rel j y H)
    ⟨[], same_new hD, upd_same, rfl, fun j y e => by simp at e⟩ (fun i H _ ⟨_, s, _⟩ => hG H s) ?_ ?_
  · rintro i x H H' hi ⟨ys, s, hl, rfl, hr⟩ y
    have key := hs ys.length x H H' (fun y H4 => ∃ acc, H4 D = some (.lst acc) ∧ acc.length < sizeLine ∧ ∃ zs, Same H1 (upd H4 D (.lst (acc ++ [y]))) ∧ upd H4 D (.lst (acc ++ [y])) D = some (.lst zs) ∧ zs.length = ys.length + 1 ∧ ∀ j z, zs[j]? = some z → Rel j z (upd H4 D (.lst (acc ++ [y])))) hi s ⟨_, hl⟩ y ?_
    · exact key
    · intro z H4 s4 r4
      have k : Kp [D] H4 (upd H4 D (.lst (ys ++ [z]))) := fun b u e nb => by rw [upd_ne (fun q => nb (by rw [q]; simp))]; exact e
      refine ⟨ys, s4 _ _ hl, Nat.lt_of_lt_of_le (show ys.length < 100001 by omega) (by rw [sizeLine_eq]; decide), ys ++ [z], same_put (s.trans s4) hD, upd_same, by simp, fun j u e => ?_⟩
      by_cases hj : j < ys.length
      · rw [List.getElem?_append_left hj] at e
        exact mono j u H4 _ ⟨ys, s4 _ _ hl⟩ k (mono j u H H4 ⟨ys, hl⟩ (Kp.of s4) (hr j u e))
      · have e2 : j = ys.length := by
          have := (List.getElem?_eq_some_iff.mp e).1
          simp at this
          omega
        subst e2
        simp at e
        subst e
        exact mono _ _ H4 _ ⟨ys, s4 _ _ hl⟩ k r4
  · rintro H ⟨ys, s, hl, e, hr⟩
    exact hd ys H s hl e hr
end
end Tw
set_option Elab.async false
set_option linter.all false
set_option maxRecDepth 100000
namespace Tw
open PySem PySem.Spec PyProof.Rows L2
abbrev N_is_whole : List Str := ["thing"]
theorem sc_is_whole : FnScope N_is_whole ["thing"] (defScope s_is_whole) := ⟨rfl, rfl, rfl, by decide +kernel, rfl, by decide +kernel, by decide +kernel⟩
abbrev N_is_among : List Str := ["thing", "least", "most"]
theorem sc_is_among : FnScope N_is_among ["thing", "least", "most"] (defScope s_is_among) := ⟨rfl, rfl, rfl, by decide +kernel, rfl, by decide +kernel, by decide +kernel⟩
abbrev N_is_house : List Str := ["thing"]
theorem sc_is_house : FnScope N_is_house ["thing"] (defScope s_is_house) := ⟨rfl, rfl, rfl, by decide +kernel, rfl, by decide +kernel, by decide +kernel⟩
abbrev N_is_name : List Str := ["thing", "sign"]
theorem sc_is_name : FnScope N_is_name ["thing"] (defScope s_is_name) := ⟨rfl, rfl, rfl, by decide +kernel, rfl, by decide +kernel, by decide +kernel⟩
abbrev N_number_of : List Str := ["word", "sign"]
theorem sc_number_of : FnScope N_number_of ["word"] (defScope s_number_of) := ⟨rfl, rfl, rfl, by decide +kernel, rfl, by decide +kernel, by decide +kernel⟩
abbrev N_words_of : List Str := ["row", "found"]
theorem sc_words_of : FnScope N_words_of ["row"] (defScope s_words_of) := ⟨rfl, rfl, rfl, by decide +kernel, rfl, by decide +kernel, by decide +kernel⟩
abbrev N_is_form : List Str := ["thing", "deep"]
theorem sc_is_form : FnScope N_is_form ["thing", "deep"] (defScope s_is_form) := ⟨rfl, rfl, rfl, by decide +kernel, rfl, by decide +kernel, by decide +kernel⟩
abbrev N_is_expr : List Str := ["thing"]
theorem sc_is_expr : FnScope N_is_expr ["thing"] (defScope s_is_expr) := ⟨rfl, rfl, rfl, by decide +kernel, rfl, by decide +kernel, by decide +kernel⟩
abbrev N_parts_in : List Str := ["expr"]
theorem sc_parts_in : FnScope N_parts_in ["expr"] (defScope s_parts_in) := ⟨rfl, rfl, rfl, by decide +kernel, rfl, by decide +kernel, by decide +kernel⟩
abbrev N_names_in : List Str := ["expr"]
theorem sc_names_in : FnScope N_names_in ["expr"] (defScope s_names_in) := ⟨rfl, rfl, rfl, by decide +kernel, rfl, by decide +kernel, by decide +kernel⟩
abbrev N_worth_of : List Str := ["expr", "worths", "one", "other"]
theorem sc_worth_of : FnScope N_worth_of ["expr", "worths"] (defScope s_worth_of) := ⟨rfl, rfl, rfl, by decide +kernel, rfl, by decide +kernel, by decide +kernel⟩
abbrev N_expr_words : List Str := ["expr"]
theorem sc_expr_words : FnScope N_expr_words ["expr"] (defScope s_expr_words) := ⟨rfl, rfl, rfl, by decide +kernel, rfl, by decide +kernel, by decide +kernel⟩
abbrev N_expr_in : List Str := ["words", "at", "open_at", "found", "count", "deep", "word", "done"]
theorem sc_expr_in : FnScope N_expr_in ["words", "at"] (defScope s_expr_in) := ⟨rfl, rfl, rfl, by decide +kernel, rfl, by decide +kernel, by decide +kernel⟩
abbrev N_are_marks : List Str := ["thing", "pair", "one", "other"]
theorem sc_are_marks : FnScope N_are_marks ["thing"] (defScope s_are_marks) := ⟨rfl, rfl, rfl, by decide +kernel, rfl, by decide +kernel, by decide +kernel⟩
abbrev N_blocks_in : List Str := ["row"]
theorem sc_blocks_in : FnScope N_blocks_in ["row"] (defScope s_blocks_in) := ⟨rfl, rfl, rfl, by decide +kernel, rfl, by decide +kernel, by decide +kernel⟩
abbrev N_expr_of : List Str := ["row", "places"]
theorem sc_expr_of : FnScope N_expr_of ["row"] (defScope s_expr_of) := ⟨rfl, rfl, rfl, by decide +kernel, rfl, by decide +kernel, by decide +kernel⟩
abbrev N_told_by : List Str := ["row"]
theorem sc_told_by : FnScope N_told_by ["row"] (defScope s_told_by) := ⟨rfl, rfl, rfl, by decide +kernel, rfl, by decide +kernel, by decide +kernel⟩
abbrev N_is_plain_row : List Str := ["thing", "homes", "many", "block"]
theorem sc_is_plain_row : FnScope N_is_plain_row ["thing", "homes"] (defScope s_is_plain_row) := ⟨rfl, rfl, rfl, by decide +kernel, rfl, by decide +kernel, by decide +kernel⟩
abbrev N_need_program : List Str := ["thing", "homes", "waiting", "row", "number", "deep", "block", "inner"]
theorem sc_need_program : FnScope N_need_program ["thing"] (defScope s_need_program) := ⟨rfl, rfl, rfl, by decide +kernel, rfl, by decide +kernel, by decide +kernel⟩
abbrev N_rows_in : List Str := ["program", "waiting", "row", "found", "around", "number", "block", "inner"]
theorem sc_rows_in : FnScope N_rows_in ["program"] (defScope s_rows_in) := ⟨rfl, rfl, rfl, by decide +kernel, rfl, by decide +kernel, by decide +kernel⟩
abbrev N_row_at : List Str := ["program", "number", "found"]
theorem sc_row_at : FnScope N_row_at ["program", "number"] (defScope s_row_at) := ⟨rfl, rfl, rfl, by decide +kernel, rfl, by decide +kernel, by decide +kernel⟩
abbrev N_names_of : List Str := ["program", "found", "number", "row", "around", "expr", "name"]
theorem sc_names_of : FnScope N_names_of ["program"] (defScope s_names_of) := ⟨rfl, rfl, rfl, by decide +kernel, rfl, by decide +kernel, by decide +kernel⟩
abbrev N_Rd_init : List Str := ["self", "line", "words"]
theorem sc_Rd_init : FnScope N_Rd_init ["self", "line", "words"] (defScope s_Rd_init) := ⟨rfl, rfl, rfl, by decide +kernel, rfl, by decide +kernel, by decide +kernel⟩
abbrev N_Rd_take : List Str := ["self", "fits", "word"]
theorem sc_Rd_take : FnScope N_Rd_take ["self", "fits"] (defScope s_Rd_take) := ⟨rfl, rfl, rfl, by decide +kernel, rfl, by decide +kernel, by decide +kernel⟩
abbrev N_Rd_take_expr : List Str := ["self", "found"]
theorem sc_Rd_take_expr : FnScope N_Rd_take_expr ["self"] (defScope s_Rd_take_expr) := ⟨rfl, rfl, rfl, by decide +kernel, rfl, by decide +kernel, by decide +kernel⟩
abbrev N_Rd_end : List Str := ["self"]
theorem sc_Rd_end : FnScope N_Rd_end ["self"] (defScope s_Rd_end) := ⟨rfl, rfl, rfl, by decide +kernel, rfl, by decide +kernel, by decide +kernel⟩
abbrev N_read_row : List Str := ["reading", "homes", "word", "name", "found", "house", "is_kept"]
theorem sc_read_row : FnScope N_read_row ["reading", "homes"] (defScope s_read_row) := ⟨rfl, rfl, rfl, by decide +kernel, rfl, by decide +kernel, by decide +kernel⟩
abbrev N_read_mark : List Str := ["reading", "marks", "name", "house"]
theorem sc_read_mark : FnScope N_read_mark ["reading", "marks"] (defScope s_read_mark) := ⟨rfl, rfl, rfl, by decide +kernel, rfl, by decide +kernel, by decide +kernel⟩
abbrev N_read_else : List Str := ["reading", "block", "last"]
theorem sc_read_else : FnScope N_read_else ["reading", "block"] (defScope s_read_else) := ⟨rfl, rfl, rfl, by decide +kernel, rfl, by decide +kernel, by decide +kernel⟩
abbrev N_settled : List Str := ["rows", "found", "row", "part"]
theorem sc_settled : FnScope N_settled ["rows"] (defScope s_settled) := ⟨rfl, rfl, rfl, by decide +kernel, rfl, by decide +kernel, by decide +kernel⟩
abbrev N_blanks_of : List Str := ["line"]
theorem sc_blanks_of : FnScope N_blanks_of ["line"] (defScope s_blanks_of) := ⟨rfl, rfl, rfl, by decide +kernel, rfl, by decide +kernel, by decide +kernel⟩
abbrev N_read_program : List Str := ["text", "marks", "rows", "blocks", "homes", "count", "lines", "place", "line", "blanks", "words", "reading", "deep", "row"]
theorem sc_read_program : FnScope N_read_program ["text"] (defScope s_read_program) := ⟨rfl, rfl, rfl, by decide +kernel, rfl, by decide +kernel, by decide +kernel⟩
abbrev N_unmarked : List Str := ["rows", "found", "row", "kept", "part"]
theorem sc_unmarked : FnScope N_unmarked ["rows"] (defScope s_unmarked) := ⟨rfl, rfl, rfl, by decide +kernel, rfl, by decide +kernel, by decide +kernel⟩
abbrev N_row_words : List Str := ["row"]
theorem sc_row_words : FnScope N_row_words ["row"] (defScope s_row_words) := ⟨rfl, rfl, rfl, by decide +kernel, rfl, by decide +kernel, by decide +kernel⟩
abbrev N_block_lines : List Str := ["rows", "deep", "found", "row", "ahead"]
theorem sc_block_lines : FnScope N_block_lines ["rows", "deep"] (defScope s_block_lines) := ⟨rfl, rfl, rfl, by decide +kernel, rfl, by decide +kernel, by decide +kernel⟩
abbrev N_program_text : List Str := ["program", "found", "name", "house"]
theorem sc_program_text : FnScope N_program_text ["program"] (defScope s_program_text) := ⟨rfl, rfl, rfl, by decide +kernel, rfl, by decide +kernel, by decide +kernel⟩
abbrev N_law_mixed : List Str := ["_law_cell", "_law_k"]
theorem sc_law_mixed : FnScope N_law_mixed ["_law_cell", "_law_k"] (defScope s_law_mixed) := ⟨rfl, rfl, rfl, by decide +kernel, rfl, by decide +kernel, by decide +kernel⟩
abbrev N_law_draw : List Str := ["_law_cell", "_law_k"]
theorem sc_law_draw : FnScope N_law_draw ["_law_cell", "_law_k"] (defScope s_law_draw) := ⟨rfl, rfl, rfl, by decide +kernel, rfl, by decide +kernel, by decide +kernel⟩
abbrev N_law_digit : List Str := ["_law_state", "_law_many", "_law_j", "_law_found"]
theorem sc_law_digit : FnScope N_law_digit ["_law_state", "_law_many"] (defScope s_law_digit) := ⟨rfl, rfl, rfl, by decide +kernel, rfl, by decide +kernel, by decide +kernel⟩
abbrev N_law_expr : List Str := ["_law_state", "_law_names", "_law_deep", "_law_way", "_law_word", "_law_one"]
theorem sc_law_expr : FnScope N_law_expr ["_law_state", "_law_names", "_law_deep"] (defScope s_law_expr) := ⟨rfl, rfl, rfl, by decide +kernel, rfl, by decide +kernel, by decide +kernel⟩
abbrev N_law_row : List Str := ["_law_state", "_law_names", "_law_homes", "_law_deep", "_law_way", "_law_name", "_law_expr_here", "_law_one"]
theorem sc_law_row : FnScope N_law_row ["_law_state", "_law_names", "_law_homes", "_law_deep"] (defScope s_law_row) := ⟨rfl, rfl, rfl, by decide +kernel, rfl, by decide +kernel, by decide +kernel⟩
abbrev N_law_block : List Str := ["_law_state", "_law_names", "_law_homes", "_law_deep", "_law_many", "_law_found", "_law_k"]
theorem sc_law_block : FnScope N_law_block ["_law_state", "_law_names", "_law_homes", "_law_deep", "_law_many"] (defScope s_law_block) := ⟨rfl, rfl, rfl, by decide +kernel, rfl, by decide +kernel, by decide +kernel⟩
abbrev N_law_program : List Str := ["_law_state", "_law_some", "_law_first", "_law_drawn", "_law_k", "_law_names", "_law_homes", "_law_name", "_law_marks"]
theorem sc_law_program : FnScope N_law_program ["_law_state"] (defScope s_law_program) := ⟨rfl, rfl, rfl, by decide +kernel, rfl, by decide +kernel, by decide +kernel⟩
abbrev N_law_named : List Str := ["_law_thing", "_law_others", "_law_part"]
theorem sc_law_named : FnScope N_law_named ["_law_thing", "_law_others"] (defScope s_law_named) := ⟨rfl, rfl, rfl, by decide +kernel, rfl, by decide +kernel, by decide +kernel⟩
abbrev N_law_lines : List Str := ["_law_text", "_law_others", "_law_found", "_law_line", "_law_word"]
theorem sc_law_lines : FnScope N_law_lines ["_law_text", "_law_others"] (defScope s_law_lines) := ⟨rfl, rfl, rfl, by decide +kernel, rfl, by decide +kernel, by decide +kernel⟩
abbrev N_law_built : List Str := ["_law_rows", "_law_around", "_law_found", "_law_number", "_law_row_here", "_law_own", "_law_inner"]
theorem sc_law_built : FnScope N_law_built ["_law_rows", "_law_around"] (defScope s_law_built) := ⟨rfl, rfl, rfl, by decide +kernel, rfl, by decide +kernel, by decide +kernel⟩
abbrev N_law_otherwise_right : List Str := ["_law_state", "_law_program_here", "_law_names", "_law_pair", "_law_fresh", "_law_k", "_law_others", "_law_marks", "_law_changed", "_law_text", "_law_name", "_law_worths", "_law_moved", "_law_one", "_law_other", "_law_expr_here", "_law_its", "_law_word"]
theorem sc_law_otherwise_right : FnScope N_law_otherwise_right ["_law_state", "_law_program_here"] (defScope s_law_otherwise_right) := ⟨rfl, rfl, rfl, by decide +kernel, rfl, by decide +kernel, by decide +kernel⟩
abbrev N_law_right : List Str := ["_law_state", "_law_program_here", "_law_rows", "_law_own", "_law_ahead", "_law_later", "_law_number", "_law_row_here", "_law_around", "_law_many", "_law_less", "_law_text"]
theorem sc_law_right : FnScope N_law_right ["_law_state", "_law_program_here"] (defScope s_law_right) := ⟨rfl, rfl, rfl, by decide +kernel, rfl, by decide +kernel, by decide +kernel⟩
abbrev N_law : List Str := ["_law_script", "_law_k", "_law_cell", "_law_state"]
theorem sc_law : FnScope N_law ["_law_script"] (defScope s_law) := ⟨rfl, rfl, rfl, by decide +kernel, rfl, by decide +kernel, by decide +kernel⟩
theorem b_is_whole : BindsOk "is_whole" s_is_whole ["thing"] := fun _ _ _ _ _ _ us hl => match us, hl with | [_], _ => rfl
theorem b_is_among : BindsOk "is_among" s_is_among ["thing", "least", "most"] := fun _ _ _ _ _ _ us hl => match us, hl with | [_, _, _], _ => rfl
theorem b_is_house : BindsOk "is_house" s_is_house ["thing"] := fun _ _ _ _ _ _ us hl => match us, hl with | [_], _ => rfl
theorem b_is_name : BindsOk "is_name" s_is_name ["thing"] := fun _ _ _ _ _ _ us hl => match us, hl with | [_], _ => rfl
theorem b_number_of : BindsOk "number_of" s_number_of ["word"] := fun _ _ _ _ _ _ us hl => match us, hl with | [_], _ => rfl
theorem b_words_of : BindsOk "words_of" s_words_of ["row"] := fun _ _ _ _ _ _ us hl => match us, hl with | [_], _ => rfl
theorem b_is_form : BindsOk "is_form" s_is_form ["thing", "deep"] := fun _ _ _ _ _ _ us hl => match us, hl with | [_, _], _ => rfl
theorem b_is_expr : BindsOk "is_expr" s_is_expr ["thing"] := fun _ _ _ _ _ _ us hl => match us, hl with | [_], _ => rfl
theorem b_parts_in : BindsOk "parts_in" s_parts_in ["expr"] := fun _ _ _ _ _ _ us hl => match us, hl with | [_], _ => rfl
theorem b_names_in : BindsOk "names_in" s_names_in ["expr"] := fun _ _ _ _ _ _ us hl => match us, hl with | [_], _ => rfl
theorem b_worth_of : BindsOk "worth_of" s_worth_of ["expr", "worths"] := fun _ _ _ _ _ _ us hl => match us, hl with | [_, _], _ => rfl
theorem b_expr_words : BindsOk "expr_words" s_expr_words ["expr"] := fun _ _ _ _ _ _ us hl => match us, hl with | [_], _ => rfl
theorem b_expr_in : BindsOk "expr_in" s_expr_in ["words", "at"] := fun _ _ _ _ _ _ us hl => match us, hl with | [_, _], _ => rfl
theorem b_are_marks : BindsOk "are_marks" s_are_marks ["thing"] := fun _ _ _ _ _ _ us hl => match us, hl with | [_], _ => rfl
theorem b_blocks_in : BindsOk "blocks_in" s_blocks_in ["row"] := fun _ _ _ _ _ _ us hl => match us, hl with | [_], _ => rfl
theorem b_expr_of : BindsOk "expr_of" s_expr_of ["row"] := fun _ _ _ _ _ _ us hl => match us, hl with | [_], _ => rfl
theorem b_told_by : BindsOk "told_by" s_told_by ["row"] := fun _ _ _ _ _ _ us hl => match us, hl with | [_], _ => rfl
theorem b_is_plain_row : BindsOk "is_plain_row" s_is_plain_row ["thing", "homes"] := fun _ _ _ _ _ _ us hl => match us, hl with | [_, _], _ => rfl
theorem b_need_program : BindsOk "need_program" s_need_program ["thing"] := fun _ _ _ _ _ _ us hl => match us, hl with | [_], _ => rfl
theorem b_rows_in : BindsOk "rows_in" s_rows_in ["program"] := fun _ _ _ _ _ _ us hl => match us, hl with | [_], _ => rfl
theorem b_row_at : BindsOk "row_at" s_row_at ["program", "number"] := fun _ _ _ _ _ _ us hl => match us, hl with | [_, _], _ => rfl
theorem b_names_of : BindsOk "names_of" s_names_of ["program"] := fun _ _ _ _ _ _ us hl => match us, hl with | [_], _ => rfl
theorem b_read_row : BindsOk "read_row" s_read_row ["reading", "homes"] := fun _ _ _ _ _ _ us hl => match us, hl with | [_, _], _ => rfl
theorem b_read_mark : BindsOk "read_mark" s_read_mark ["reading", "marks"] := fun _ _ _ _ _ _ us hl => match us, hl with | [_, _], _ => rfl
theorem b_read_else : BindsOk "read_else" s_read_else ["reading", "block"] := fun _ _ _ _ _ _ us hl => match us, hl with | [_, _], _ => rfl
theorem b_settled : BindsOk "settled" s_settled ["rows"] := fun _ _ _ _ _ _ us hl => match us, hl with | [_], _ => rfl
theorem b_blanks_of : BindsOk "blanks_of" s_blanks_of ["line"] := fun _ _ _ _ _ _ us hl => match us, hl with | [_], _ => rfl
theorem b_read_program : BindsOk "read_program" s_read_program ["text"] := fun _ _ _ _ _ _ us hl => match us, hl with | [_], _ => rfl
theorem b_unmarked : BindsOk "unmarked" s_unmarked ["rows"] := fun _ _ _ _ _ _ us hl => match us, hl with | [_], _ => rfl
theorem b_row_words : BindsOk "row_words" s_row_words ["row"] := fun _ _ _ _ _ _ us hl => match us, hl with | [_], _ => rfl
theorem b_block_lines : BindsOk "block_lines" s_block_lines ["rows", "deep"] := fun _ _ _ _ _ _ us hl => match us, hl with | [_, _], _ => rfl
theorem b_program_text : BindsOk "program_text" s_program_text ["program"] := fun _ _ _ _ _ _ us hl => match us, hl with | [_], _ => rfl
theorem b_law_mixed : BindsOk "_law_mixed" s_law_mixed ["_law_cell", "_law_k"] := fun _ _ _ _ _ _ us hl => match us, hl with | [_, _], _ => rfl
theorem b_law_draw : BindsOk "_law_draw" s_law_draw ["_law_cell", "_law_k"] := fun _ _ _ _ _ _ us hl => match us, hl with | [_, _], _ => rfl
theorem b_law_digit : BindsOk "_law_digit" s_law_digit ["_law_state", "_law_many"] := fun _ _ _ _ _ _ us hl => match us, hl with | [_, _], _ => rfl
theorem b_law_expr : BindsOk "_law_expr" s_law_expr ["_law_state", "_law_names", "_law_deep"] := fun _ _ _ _ _ _ us hl => match us, hl with | [_, _, _], _ => rfl
theorem b_law_row : BindsOk "_law_row" s_law_row ["_law_state", "_law_names", "_law_homes", "_law_deep"] := fun _ _ _ _ _ _ us hl => match us, hl with | [_, _, _, _], _ => rfl
theorem b_law_block : BindsOk "_law_block" s_law_block ["_law_state", "_law_names", "_law_homes", "_law_deep", "_law_many"] := fun _ _ _ _ _ _ us hl => match us, hl with | [_, _, _, _, _], _ => rfl
theorem b_law_program : BindsOk "_law_program" s_law_program ["_law_state"] := fun _ _ _ _ _ _ us hl => match us, hl with | [_], _ => rfl
theorem b_law_named : BindsOk "_law_named" s_law_named ["_law_thing", "_law_others"] := fun _ _ _ _ _ _ us hl => match us, hl with | [_, _], _ => rfl
theorem b_law_lines : BindsOk "_law_lines" s_law_lines ["_law_text", "_law_others"] := fun _ _ _ _ _ _ us hl => match us, hl with | [_, _], _ => rfl
theorem b_law_built : BindsOk "_law_built" s_law_built ["_law_rows", "_law_around"] := fun _ _ _ _ _ _ us hl => match us, hl with | [_, _], _ => rfl
theorem b_law_otherwise_right : BindsOk "_law_otherwise_right" s_law_otherwise_right ["_law_state", "_law_program_here"] := fun _ _ _ _ _ _ us hl => match us, hl with | [_, _], _ => rfl
theorem b_law_right : BindsOk "_law_right" s_law_right ["_law_state", "_law_program_here"] := fun _ _ _ _ _ _ us hl => match us, hl with | [_, _], _ => rfl
theorem b_law : BindsOk "law" s_law ["_law_script"] := fun _ _ _ _ _ _ us hl => match us, hl with | [_], _ => rfl
end Tw
set_option Elab.async false
set_option linter.all false
set_option maxRecDepth 100000
set_option maxHeartbeats 4000000
namespace Tw
open PySem PySem.Spec PyProof.Rows L2
/-! ## words -/
theorem inV_strs (x : Str) : ∀ l : List Str, inV (.str x) (l.map V.str) = decide (x ∈ l)
  | [] => rfl
  | y :: l => by
    have ih := inV_strs x l
    unfold inV at ih ⊢
    rw [List.map_cons, List.any_cons, ih]
    show ((y == x) || decide (x ∈ l)) = _
    by_cases h : y = x
    · subst h; simp
    · have h2 : ¬ x = y := fun e => h e.symm
      simp [h, h2]
theorem flat_strs (l : List Str) : (l.map V.str).all flatV = true := by
  rw [List.all_eq_true]
  intro v hv
  obtain ⟨s, _, rfl⟩ := List.mem_map.mp hv
  rfl
section
variable {P : Program} {w : World} {K : PySem.W.Frag} {mg : Str → Option Value} {base : Heap}
def sp_is_whole : Sp := fun vs H Q _ => ∃ i : Int, vs = [.int i] ∧ Q (.bl true) H
theorem ok_is_whole (T : Txt K mg) : Cal P w K mg base "is_whole" 1 ["thing"] sp_is_whole := by
  refine Cal.of T.d_is_whole b_is_whole sc_is_whole (fun vs H Q E h => ?_) (fun cdv A outer s H vs Q E hr h => ?_)
  · obtain ⟨i, rfl, _⟩ := h; rfl
  obtain ⟨i, rfl, q⟩ := h
  refine ⟨_, pss_one (ps_ret (pe_and (pe_callB call_isi (by rfl) T.isinstance bb_isinstance (pa_cons (pv 0) (pa_cons (pe_bty T.int bb_int rfl) pa_nil))) (pe_one (pe_not (pe_callB call_isi (by rfl) T.isinstance bb_isinstance (pa_cons (pv 0) (pa_cons (pe_bty T.bool bb_bool rfl) pa_nil))))))), ?_⟩
  refine ⟨_, rfl, _, _, _, _, _, rfl, .ty _, .base (.int i), kt_int_int, _, rfl, ?_⟩
  refine iteT ?_
  exact ⟨_, rfl, _, _, _, _, _, rfl, .ty _, .base (.int i), kt_int_bool, _, rfl, q⟩
def sp_is_among : Sp := fun vs H Q _ => ∃ i a b : Int, vs = [.int i, .int a, .int b] ∧ Q (.bl (decide (a ≤ i ∧ i ≤ b))) H
theorem ok_is_among (T : Txt K mg) : Cal P w K mg base "is_among" 2 ["thing", "least", "most"] sp_is_among := by
  have C_is_whole := ok_is_whole (P := P) (w := w) (base := base) T
  refine Cal.of T.d_is_among b_is_among sc_is_among (fun vs H Q E h => ?_) (fun cdv A outer s H vs Q E hr h => ?_)
  · obtain ⟨i, a, b, rfl, _⟩ := h; rfl
  obtain ⟨i, a, b, rfl, q⟩ := h
  refine ⟨_, pss_one (ps_ret (pe_and (pe_callC C_is_whole (hr.mono (by decide)) rfl (pa_cons (pv 0) pa_nil)) (pe_one (pe_chain op_le op_le (pv 1) (pv 0) (pv 2))))), ?_⟩
  refine ⟨_, rfl, i, rfl, _, rfl, ?_⟩
  refine iteT ?_
  refine ⟨_, rfl, _, rfl, _, _, rfl, rfl, _, rfl, ?_⟩
  by_cases h : a ≤ i
  · refine iteT' (decide_eq_true h) ?_
    refine ⟨_, rfl, _, _, rfl, rfl, ?_⟩
    have e : decide (a ≤ i ∧ i ≤ b) = decide (i ≤ b) := by simp [h]
    rw [e] at q
    exact q
  · refine iteF' (decide_eq_false h) ?_
    have e : decide (a ≤ i ∧ i ≤ b) = false := by simp [h]
    rw [e] at q
    exact q
def sp_is_house : Sp := fun vs H Q _ => ∃ x : Str, vs = [.str x] ∧ Q (.bl (isHouse x)) H
theorem ok_is_house (T : Txt K mg) : Cal P w K mg base "is_house" 1 ["thing"] sp_is_house := by
  refine Cal.of T.d_is_house b_is_house sc_is_house (fun vs H Q E h => ?_) (fun cdv A outer s H vs Q E hr h => ?_)
  · obtain ⟨i, rfl, _⟩ := h; rfl
  obtain ⟨x, rfl, q⟩ := h
  refine ⟨_, pss_one (ps_ret (pe_and (pe_callB call_isi (by rfl) T.isinstance bb_isinstance (pa_cons (pv 0) (pa_cons (pe_bty T.str bb_str rfl) pa_nil))) (pe_one (pe_cmpR op_in_seq (pv 0) (pe_ctup T.g_HOUSES rfl) (by rfl))))), ?_⟩
  refine ⟨_, rfl, _, _, _, _, _, rfl, .ty _, .base (.str x), kt_str_str, _, rfl, ?_⟩
  refine iteT ?_
  refine ⟨_, rfl, _, _, rfl, .inr (T.t_HOUSES H), rfl, flat_strs _, ?_⟩
  rw [inV_strs]
  exact q
/-- all([sign in TEXT for sign in s]) -/
def allIn (t : Str) (z : Str) : Bool := z.cps.toList.all fun c => decide (c ∈ t.cps.toList)
theorem all_bls (t z : Str) : ∀ ys : List V, ys.length = z.cps.size → (∀ (i : Nat) (y : V), ys[i]? = some y → ∃ c, z.cps[i]? = some c ∧ y = V.bl (decide (c ∈ t.cps.toList))) → ys = (z.cps.toList.map fun c => decide (c ∈ t.cps.toList)).map V.bl := by
  intro ys hl h
  apply List.ext_getElem?
  intro i
  by_cases hi : i < ys.length
  · obtain ⟨c, h1, h2⟩ := h i (ys[i]'hi) (List.getElem?_eq_getElem hi)
    rw [List.getElem?_eq_getElem hi, h2, List.getElem?_map, List.getElem?_map, Array.getElem?_toList, h1] <;> rfl
  · rw [List.getElem?_eq_none (by omega), List.getElem?_eq_none (by simp; omega)]
def sp_is_name : Sp := fun vs H Q _ => ∃ x : Str, vs = [.str x] ∧ x.length ≤ 100000 ∧ ∀ H', Same H H' → Q (.bl (isName x)) H'
theorem ok_is_name (T : Txt K mg) : Cal P w K mg base "is_name" 1 ["thing"] sp_is_name := by
  refine Cal.of T.d_is_name b_is_name sc_is_name (fun vs H Q E h => ?_) (fun cdv A outer s H vs Q E hr h => ?_)
  · obtain ⟨i, rfl, _⟩ := h; rfl
  obtain ⟨x, rfl, hx, q⟩ := h
  refine ⟨_, (pss_cons (ps_if (PW.pt (pw_or (pt_not (pt_val (pe_callB call_isi (by rfl) T.isinstance bb_isinstance (pa_cons (pv 0) (pa_cons (pe_bty T.str bb_str rfl) pa_nil))))) (pw_or (pt_not (pt_chain op_le op_le pe_int (pe_callB call_len_str (by rfl) T.len bb_len (pa_cons (pv 0) pa_nil)) (pe_cint T.i_MOST_LETTERS rfl))) (pw_or1 (pt_cmpR op_in_seq (pv 0) (pe_ctup T.g_KEYS rfl) (by rfl)))))) (pss_one (ps_ret pe_bl)) pss_nil)
  (pss_one (ps_ret (pe_callB (cr_all rfl) (by rfl) T.all bb_all (pa_cons (pe_lc (own := [("sign", 1)]) (by rfl) sc_is_name.nd (pi_str (pv 0)) (blkOk_by (own := [("sign", 1)]) (N := N_is_name) (sc := defScope s_is_name) (by decide +kernel)) (fun _ _ _ _ _ => (pg_name (i := 1) sc_is_name.nd rfl (Or.inl rfl))) (fun _ _ _ _ _ => pts_nil) (fun _ _ _ _ _ => (pe_cmpR op_in_sign (pv 1) (pe_cstr T.s_LETTERS rfl) rfl))) pa_nil))))), ?_⟩
  refine ⟨_, rfl, _, _, _, _, _, rfl, .ty _, .base (.str x), kt_str_str, _, rfl, ?_⟩
  refine iteF ?_
  have hx' : x.length ≤ sizeLine := Nat.le_trans hx (by rw [sizeLine_eq]; decide)
  refine ⟨_, rfl, _, rfl, hx', _, _, rfl, rfl, _, rfl, ?_⟩
  by_cases h1 : (1 : Int) ≤ (x.length : Nat)
  case neg =>
    refine iteF' (decide_eq_false h1) ?_
    refine ⟨_, rfl, ?_⟩
    refine iteT ?_
    refine iteT ?_
    have e : isName x = false := by
      unfold isName
      have : ¬ 1 ≤ x.length := by omega
      simp [this]
    rw [e] at q
    exact q H (Same.refl H)
  refine iteT' (decide_eq_true h1) ?_
  refine ⟨_, _, rfl, rfl, _, rfl, ?_⟩
  by_cases h2 : ((x.length : Nat) : Int) ≤ 6
  case neg =>
    refine iteT' (by rw [decide_eq_false h2]; rfl) ?_
    refine iteT ?_
    have e : isName x = false := by
      unfold isName
      have : ¬ x.length ≤ 6 := by omega
      simp [this]
    rw [e] at q
    exact q H (Same.refl H)
  refine iteF' (by rw [decide_eq_true h2]; rfl) ?_
  refine ⟨_, rfl, _, _, rfl, .inr (T.t_KEYS H), rfl, flat_strs _, _, rfl, ?_⟩
  show (if (if false = true then _ else inV (V.str x) (c_KEYS.map V.str)) = true then _ else _)
  rw [if_neg Bool.false_ne_true, inV_strs]
  by_cases h3 : x ∈ c_KEYS
  case pos =>
    refine iteT' (decide_eq_true h3) ?_
    have e : isName x = false := by
      unfold isName
      simp [h3]
    rw [e] at q
    exact q H (Same.refl H)
  refine iteF' (decide_eq_false h3) ?_
  have e : isName x = allIn letters x := by
    unfold isName
    have a1 : 1 ≤ x.length := by omega
    have a2 : x.length ≤ 6 := by omega
    rw [decide_eq_true a1, decide_eq_true a2, decide_eq_false h3]
    rfl
  rw [e] at q
  refine ⟨_, rfl, _, rfl, fun D hD => ?_⟩
  refine lc_pu walk_str (show x.cps.size ≤ 100000 from hx) hD (fun _ _ => trivial) (fun i y _ => ∃ c, x.cps[i]? = some c ∧ y = V.bl (decide (c ∈ letters.cps.toList))) (fun _ _ _ _ _ _ r => r) ?_ ?_
  · rintro i y H2 H' Qc hi s2 _ ⟨rfl, c, hc, rfl⟩ hq
    refine ⟨rfl, _, rfl, c, _, rfl, rfl, ?_⟩
    exact hq _ _ (Same.refl _) ⟨c, hc, rfl⟩
  · intro ys H' s' hl hlen hr
    have ey := all_bls letters x ys hlen hr
    rw [ey] at hl
    refine ⟨D, _, rfl, SqL.of hl, ?_⟩
    have e2 : (List.map (fun c => decide (c ∈ letters.cps.toList)) x.cps.toList).all id = allIn letters x := by
      unfold allIn
      rw [List.all_map] <;> rfl
    rw [e2]
    exact q H' s'
end
end Tw
set_option Elab.async false
set_option linter.all false
set_option maxRecDepth 100000
set_option maxHeartbeats 4000000
namespace Tw
open PySem PySem.Spec PyProof.Rows L2 TL
/-! ## numbers told by figures, words -/
def figures : Str := "0123456789"
theorem tl_numS (n : Nat) : tl (numS n) = numL n := tl_num n
theorem numS_len {n : Nat} (h : n ≤ 996) : 1 ≤ (numS n).length ∧ (numS n).length ≤ 3 := by
  rw [len_tl, tl_numS]
  refine ⟨?_, numL_len (by decide) (by omega)⟩
  have := numL_ne n
  cases e : numL n with
  | nil => exact absurd e this
  | cons => simp
theorem numS_figs (n : Nat) : allIn figures (numS n) = true := by
  unfold allIn
  rw [show (numS n).cps.toList = numL n from tl_numS n, List.all_eq_true]
  intro c hc
  have h := numL_digits n c hc
  have h2 : 48 ≤ c ∧ c ≤ 57 := by
    first | exact h | (constructor <;> omega)
  apply decide_eq_true
  have : ∀ c, 48 ≤ c → c ≤ 57 → c ∈ figures.cps.toList := by
    intro c h1 h2
    have : c = 48 ∨ c = 49 ∨ c = 50 ∨ c = 51 ∨ c = 52 ∨ c = 53 ∨ c = 54 ∨ c = 55 ∨ c = 56 ∨ c = 57 := by omega
    rcases this with e | e | e | e | e | e | e | e | e | e <;> subst e <;> decide +kernel
  exact this c h2.1 h2.2
theorem numL_head : ∀ (n : Nat) {c : Nat} {r : List Nat}, numL n = c :: r → c = 48 → n = 0 := by
  intro n
  induction n using Nat.strongRecOn with
  | ind n ih =>
    intro c r h hc
    by_cases hn : n < 10
    · rw [numL_lt hn] at h
      cases h
      omega
    · rw [numL_step (by omega)] at h
      cases e : numL (n / 10) with
      | nil => exact absurd e (numL_ne _)
      | cons c' r' =>
        rw [e] at h
        cases h
        have := ih (n / 10) (by omega) e hc
        omega
theorem numS_head {n c : Nat} (h : (numS n).cps.toList[0]? = some c) : (⟨#[c]⟩ : Str) = "0" → n = 0 := by
  intro e
  have e1 : tl (⟨#[c]⟩ : Str) = tl "0" := congrArg tl e
  have e2 : tl ("0" : Str) = [48] := by decide +kernel
  rw [e2] at e1
  have hc : c = 48 := by
    have : [c] = [48] := e1
    simpa using this
  rw [show (numS n).cps.toList = numL n from tl_numS n] at h
  cases e3 : numL n with
  | nil => exact absurd e3 (numL_ne _)
  | cons a r =>
    rw [e3] at h
    simp at h
    exact numL_head n e3 (h.trans hc)
theorem numS_zero : numS 0 = "0" := by decide +kernel
section
variable {P : Program} {w : World} {K : PySem.W.Frag} {mg : Str → Option Value} {base : Heap}
def sp_number_of : Sp := fun vs H Q _ => ∃ n : Nat, vs = [.str (numS n)] ∧ n ≤ 996 ∧ ∀ H', Same H H' → Q (.int n) H'
theorem ok_number_of (T : Txt K mg) : Cal P w K mg base "number_of" 1 ["word"] sp_number_of := by
  refine Cal.of T.d_number_of b_number_of sc_number_of (fun vs H Q E h => ?_) (fun cdv A outer s H vs Q E hr h => ?_)
  · obtain ⟨i, rfl, _⟩ := h; rfl
  obtain ⟨n, rfl, hn, q⟩ := h
  obtain ⟨l1, l2⟩ := numS_len hn
  have hz : (numS n).length ≤ sizeLine := by rw [sizeLine_eq]; omega
  have hint : PySem.intText? (numS n) = some (n : Int) := int_num (by
    have := numL_len (k := 3) (by decide) (show n < 10 ^ 3 by omega)
    omega)
  have h640 : (numS n).length ≤ 640 := by omega
  refine ⟨_, (pss_cons (ps_if (PW.pt (pw_or (pt_not (pt_val (pe_callB call_isi (by rfl) T.isinstance bb_isinstance (pa_cons (pv 0) (pa_cons (pe_bty T.str bb_str rfl) pa_nil))))) (pw_or (pt_not (pt_chain op_le op_le pe_int (pe_callB call_len_str (by rfl) T.len bb_len (pa_cons (pv 0) pa_nil)) pe_int)) (pw_or1 (pt_not (pt_val (pe_callB (cr_all rfl) (by rfl) T.all bb_all (pa_cons (pe_lc (own := [("sign", 1)]) (by rfl) sc_number_of.nd (pi_str (pv 0)) (blkOk_by (own := [("sign", 1)]) (N := N_number_of) (sc := defScope s_number_of) (by decide +kernel)) (fun _ _ _ _ _ => (pg_name (i := 1) sc_number_of.nd rfl (Or.inl rfl))) (fun _ _ _ _ _ => pts_nil) (fun _ _ _ _ _ => (pe_cmpR op_in_sign (pv 1) (pe_cstr T.s_FIGURES rfl) rfl))) pa_nil)))))))) (pss_one (ps_ret pe_non)) pss_nil)
  (pss_cons (ps_if (PW.pt (pw_or (PW.pt (pw_and (pt_cmpR op_eq (pe_ix ix_str (pv 0) pe_int (fun _ _ => rfl)) pe_str (nomark _)) (pw_and1 (pt_cmpR op_ne (pv 0) pe_str (nomark _))))) (pw_or1 (pt_cmpR op_gt (pe_callTy call_int_str (by rfl) T.int bb_int (pa_cons (pv 0) pa_nil)) (pe_cint T.i_MOST rfl) (nomark _))))) (pss_one (ps_ret pe_non)) pss_nil)
  (pss_one (ps_ret (pe_callTy call_int_str (by rfl) T.int bb_int (pa_cons (pv 0) pa_nil)))))), ?_⟩
  refine ⟨_, rfl, _, _, _, _, _, rfl, .ty _, .base (.str (numS n)), kt_str_str, _, rfl, ?_⟩
  refine iteF ?_
  refine ⟨_, rfl, _, rfl, hz, _, _, rfl, rfl, _, rfl, ?_⟩
  refine iteT' (decide_eq_true (by omega)) ?_
  refine ⟨_, _, rfl, rfl, _, rfl, ?_⟩
  refine iteF' (by rw [decide_eq_true (show (((numS n).length : Nat) : Int) ≤ 3 by omega)]; rfl) ?_
  refine ⟨_, rfl, _, rfl, fun D hD => ?_⟩
  refine lc_pu walk_str (show (numS n).cps.size ≤ 100000 by have : (numS n).cps.size = (numS n).length := rfl; omega) hD (fun _ _ => trivial) (fun i y _ => ∃ c, (numS n).cps[i]? = some c ∧ y = V.bl (decide (c ∈ figures.cps.toList))) (fun _ _ _ _ _ _ r => r) ?_ ?_
  · rintro i y H2 H' Qc hi s2 _ ⟨rfl, c, hc, rfl⟩ hq
    refine ⟨rfl, _, rfl, c, _, rfl, rfl, ?_⟩
    exact hq _ _ (Same.refl _) ⟨c, hc, rfl⟩
  intro ys H' s' hl hlen hrel
  rw [all_bls figures (numS n) ys hlen hrel] at hl
  refine ⟨D, _, rfl, SqL.of hl, _, rfl, ?_⟩
  have e2 : (List.map (fun c => decide (c ∈ figures.cps.toList)) (numS n).cps.toList).all id = true := by
    have h := numS_figs n
    unfold allIn at h
    rw [List.all_map]
    exact h
  refine iteF' (by rw [e2]; rfl) ?_
  -- word[0] == '0' and word != '0' or int(word) > MOST
  obtain ⟨c, r, hc⟩ : ∃ c r, (numS n).cps.toList = c :: r := by
    cases e : (numS n).cps.toList with
    | nil =>
      have : (numS n).cps.toList.length = (numS n).length := by simp [Str.length]
      rw [e] at this
      simp at this
      omega
    | cons c r => exact ⟨c, r, rfl⟩
  have h0 : (numS n).cps.toList[0]? = some c := by rw [hc]; rfl
  refine ⟨_, rfl, _, 0, c, rfl, rfl, hz, (by rw [hc]; exact atI_nat (j := 0) rfl), rfl, _, rfl, ?_⟩
  have fin : (∃ x, [V.str (numS n)] = [.str x] ∧ True) ∧ (∃ a m, [V.str (numS n)] = [.str a] ∧ PySem.intText? a = some m ∧ a.length ≤ 640 ∧ Q (.int m) H') := ⟨⟨_, rfl, trivial⟩, _, _, rfl, hint, h640, q H' s'⟩
  have rest : ∃ x, [some (V.str (numS n)), (none : Option V)][0]? = some (some x) ∧ ∃ a m, [x] = [V.str a] ∧ PySem.intText? a = some m ∧ a.length ≤ 640 ∧ ∃ i j, V.int m = .int i ∧ V.int 996 = .int j ∧ ∃ k, V.bl (decide (j < i)) = .bl k ∧
      (if k = true then Q .non H' else ∃ x, [some (V.str (numS n)), (none : Option V)][0]? = some (some x) ∧ ∃ a m, [x] = [V.str a] ∧ PySem.intText? a = some m ∧ a.length ≤ 640 ∧ Q (.int m) H') := by
    refine ⟨_, rfl, _, _, rfl, hint, h640, _, _, rfl, rfl, _, rfl, ?_⟩
    refine iteF' (decide_eq_false (by omega)) ?_
    exact ⟨_, rfl, _, _, rfl, hint, h640, q H' s'⟩
  by_cases hz0 : (⟨#[c]⟩ : Str) = "0"
  · have en : n = 0 := numS_head h0 hz0
    refine iteT' (decide_eq_true (by rw [hz0])) ?_
    refine ⟨_, rfl, rfl, _, rfl, ?_⟩
    refine iteF' (by rw [en, numS_zero]; decide +kernel) ?_
    exact rest
  · refine iteF' (decide_eq_false (fun e => hz0 (V.str.inj e))) ?_
    refine iteF ?_
    exact rest
/-- a word: something, no blank -/
def wordy (x : Str) : Prop := tl x ≠ [] ∧ 32 ∉ tl x
def sp_words_of : Sp := fun vs H Q _ => ∃ ws : List Str, vs = [.str (Str.join sp ws)] ∧ ws ≠ [] ∧ (∀ x ∈ ws, wordy x) ∧ (Str.join sp ws).length ≤ 100000 ∧ ∀ H' p, Same H H' → H p = none → H' p = some (.lst (ws.map V.str)) → Q (.ref p) H'
theorem split_words {ws : List Str} (h : ws ≠ []) (hw : ∀ x ∈ ws, wordy x) : Txt.split (Str.join sp ws) sp = ws := by
  rw [← join_eq]
  exact split_join (s := 32) (S := []) (by decide +kernel) (by decide +kernel) h fun p hp => (hw p hp).2
theorem ok_words_of (T : Txt K mg) : Cal P w K mg base "words_of" 1 ["row"] sp_words_of := by
  refine Cal.of T.d_words_of b_words_of sc_words_of (fun vs H Q E h => ?_) (fun cdv A outer s H vs Q E hr h => ?_)
  · obtain ⟨i, rfl, _⟩ := h; rfl
  obtain ⟨ws, rfl, hne, hw, hl, q⟩ := h
  refine ⟨_, (pss_cons (ps_if (pt_not (pt_val (pe_callB call_isi (by rfl) T.isinstance bb_isinstance (pa_cons (pv 0) (pa_cons (pe_bty T.str bb_str rfl) pa_nil))))) (pss_one (ps_ret pe_non)) pss_nil)
  (pss_cons (ps_set (i := 1) sc_words_of.nd rfl (Or.inl rfl) (pe_split (pv 0) pe_str))
  (pss_cons (ps_if (pt_cmpR op_in_seq pe_str (pv 1) (by rfl)) (pss_one (ps_ret pe_non)) pss_nil)
  (pss_one (ps_ret (pv 1)))))), ?_⟩
  refine ⟨_, rfl, _, _, _, _, _, rfl, .ty _, .base (.str _), kt_str_str, _, rfl, ?_⟩
  refine iteF ?_
  refine ⟨_, rfl, ⟨_, rfl⟩, _, sp, rfl, rfl, rfl, (by rw [sizeLine_eq]; omega), fun p hp => ?_⟩
  rw [split_words hne hw]
  refine ⟨_, rfl, _, _, rfl, .inl (SqL.of upd_same), rfl, flat_strs _, _, rfl, ?_⟩
  rw [inV_strs]
  refine iteF' ?_ ?_
  · show (if false = true then _ else decide _) = false
    rw [if_neg Bool.false_ne_true]
    refine decide_eq_false fun hm => ?_
    exact (hw _ hm).1 (by decide +kernel)
  · exact ⟨_, rfl, q _ p (same_new hp) hp upd_same⟩
end
end Tw
set_option Elab.async false
set_option linter.all false
set_option maxRecDepth 100000
set_option maxHeartbeats 4000000
namespace Tw
open PySem PySem.Spec PyProof.Rows L2
/-! ## expressions -/
theorem Cal.vac {P : Program} {w : World} {K : PySem.W.Frag} {mg : Str → Option Value} {base : Heap} {x : Str} {ps : List Str} {sp : Sp} {st : Stmt} {k : Nat} (D : DefAt K mg x st) (b : BindsOk x st ps)
    (h : ∀ vs H Q E, ¬ sp vs H Q E) : Cal P w K mg base x k ps sp := by
  obtain ⟨g, fd, F⟩ := D
  exact ⟨fd, g, F.kp, F.bindsN b, ⟨fun vs H Q E q => absurd q (h _ _ _ _), fun A outer s H args us vs Q E _ _ _ _ q => absurd q (h _ _ _ _)⟩⟩
theorem E.deep_pos (e : E) : 1 ≤ e.deep := by cases e <;> simp only [E.deep] <;> omega
theorem op_pairs (o : Op) : o.w ∈ c_PAIRS := by cases o <;> decide +kernel
theorem op_ne_number (o : Op) : ¬ V.str o.w = .str "number" := by cases o <;> decide +kernel
theorem op_ne_name (o : Op) : ¬ V.str o.w = .str "name" := by cases o <;> decide +kernel
theorem name_ne_number : ¬ V.str "name" = .str "number" := by decide +kernel
section
variable {P : Program} {w : World} {K : PySem.W.Frag} {mg : Str → Option Value} {base : Heap}
def sp_is_form (K : PySem.W.Frag) (n : Nat) : Sp := fun vs H Q _ => ∃ (v : V) (d : Nat) (e : E), vs = [v, .int d] ∧ Td K H v e.d ∧ e.wf = true ∧ e.deep ≤ n ∧ d + e.deep ≤ 9 ∧ ∀ H', Same H H' → Q (.bl true) H'
theorem ok_is_form (T : Txt K mg) : ∀ n, Cal P w K mg base "is_form" (n + 3) ["thing", "deep"] (sp_is_form K n)
  | 0 => Cal.vac T.d_is_form b_is_form fun vs H Q E h => by
    obtain ⟨v, d, e, _, _, _, h, _⟩ := h
    have := e.deep_pos
    omega
  | n + 1 => by
    have C_is_form := ok_is_form T n
    have C_is_among := ok_is_among (P := P) (w := w) (base := base) T
    have C_is_name := ok_is_name (P := P) (w := w) (base := base) T
    refine Cal.of T.d_is_form b_is_form sc_is_form (fun vs H Q E h => ?_) (fun cdv A outer s H vs Q E hr h => ?_)
    · obtain ⟨v, d, e, rfl, _⟩ := h; rfl
    obtain ⟨v, d, e, rfl, ht, hwf, hn, hd, q⟩ := h
    refine ⟨_, (pss_cons (ps_if (PW.pt (pw_or (pt_cmpR op_gt (pv 1) (pe_cint T.i_MOST_DEEP rfl) (nomark _)) (pw_or (pt_not (pt_val (pe_callB call_isi (by rfl) T.isinstance bb_isinstance (pa_cons (pv 0) (pa_cons (pe_bty T.tuple bb_tuple rfl) pa_nil))))) (pw_or (pt_cmpR op_lt (pe_callB call_len_seq (by rfl) T.len bb_len (pa_cons (pv 0) pa_nil)) pe_int (nomark _)) (pw_or1 (pt_not (pt_val (pe_callB call_isi (by rfl) T.isinstance bb_isinstance (pa_cons (pe_ix ix_tup (pv 0) pe_int (fun _ _ => rfl)) (pa_cons (pe_bty T.str bb_str rfl) pa_nil)))))))))) (pss_one (ps_ret pe_bl)) pss_nil)
  (pss_cons (ps_if (pt_cmpR op_eq (pe_ix ix_tup (pv 0) pe_int (fun _ _ => rfl)) pe_str (nomark _)) (pss_one (ps_ret (pe_and (pe_cmpR op_eq (pe_callB call_len_seq (by rfl) T.len bb_len (pa_cons (pv 0) pa_nil)) pe_int (nomark _)) (pe_one (pe_callC C_is_among (hr.mono (by omega)) rfl (pa_cons (pe_ix ix_tup (pv 0) pe_int (fun _ _ => rfl)) (pa_cons pe_int (pa_cons (pe_cint T.i_MOST rfl) pa_nil)))))))) pss_nil)
  (pss_cons (ps_if (pt_cmpR op_eq (pe_ix ix_tup (pv 0) pe_int (fun _ _ => rfl)) pe_str (nomark _)) (pss_one (ps_ret (pe_and (pe_cmpR op_eq (pe_callB call_len_seq (by rfl) T.len bb_len (pa_cons (pv 0) pa_nil)) pe_int (nomark _)) (pe_one (pe_callC C_is_name (hr.mono (by omega)) rfl (pa_cons (pe_ix ix_tup (pv 0) pe_int (fun _ _ => rfl)) pa_nil)))))) pss_nil)
  (pss_cons (ps_if (PW.pt (pw_or (pt_cmpR op_notIn_seq (pe_ix ix_tup (pv 0) pe_int (fun _ _ => rfl)) (pe_ctup T.g_PAIRS rfl) (by rfl)) (pw_or1 (pt_cmpR op_ne (pe_callB call_len_seq (by rfl) T.len bb_len (pa_cons (pv 0) pa_nil)) pe_int (nomark _))))) (pss_one (ps_ret pe_bl)) pss_nil)
  (pss_one (ps_ret (pe_and (pe_callC C_is_form (hr.mono (by omega)) rfl (pa_cons (pe_ix ix_tup (pv 0) pe_int (fun _ _ => rfl)) (pa_cons (pe_op op_add (pv 1) pe_int) pa_nil))) (pe_one (pe_callC C_is_form (hr.mono (by omega)) rfl (pa_cons (pe_ix ix_tup (pv 0) pe_int (fun _ _ => rfl)) (pa_cons (pe_op op_add (pv 1) pe_int) pa_nil))))))))))), ?_⟩
    have hp := e.deep_pos
    refine ⟨_, rfl, _, _, rfl, rfl, _, rfl, ?_⟩
    refine iteF' (decide_eq_false (by omega)) ?_
    cases e with
    | num m =>
      obtain ⟨a, rfl, hs⟩ := td_num ht
      refine ⟨_, rfl, _, _, _, _, _, rfl, .ty _, tyx_seqT hs, kt_tuple_tuple, _, rfl, ?_⟩
      refine iteF ?_
      refine ⟨_, rfl, _, _, rfl, .inr hs, _, _, rfl, rfl, _, rfl, ?_⟩
      refine iteF' (decide_eq_false (by simp)) ?_
      refine ⟨_, rfl, _, _, _, _, rfl, rfl, hs, rfl, _, _, _, _, _, rfl, .ty _, .base (.str _), kt_str_str, _, rfl, ?_⟩
      refine iteF ?_
      refine ⟨_, rfl, _, _, _, _, rfl, rfl, hs, rfl, rfl, _, rfl, ?_⟩
      refine iteT' (by decide +kernel) ?_
      refine ⟨_, rfl, _, _, rfl, .inr hs, rfl, _, rfl, ?_⟩
      refine iteT' (decide_eq_true rfl) ?_
      refine ⟨_, rfl, _, _, _, _, rfl, rfl, hs, rfl, _, _, _, rfl, ?_⟩
      have hm : m ≤ 996 := of_decide_eq_true hwf
      have : decide ((0 : Int) ≤ (m : Int) ∧ (m : Int) ≤ 996) = true := decide_eq_true (by omega)
      rw [this]
      exact q H (Same.refl H)
    | nam x =>
      obtain ⟨a, rfl, hs⟩ := td_nam ht
      refine ⟨_, rfl, _, _, _, _, _, rfl, .ty _, tyx_seqT hs, kt_tuple_tuple, _, rfl, ?_⟩
      refine iteF ?_
      refine ⟨_, rfl, _, _, rfl, .inr hs, _, _, rfl, rfl, _, rfl, ?_⟩
      refine iteF' (decide_eq_false (by simp)) ?_
      refine ⟨_, rfl, _, _, _, _, rfl, rfl, hs, rfl, _, _, _, _, _, rfl, .ty _, .base (.str _), kt_str_str, _, rfl, ?_⟩
      refine iteF ?_
      refine ⟨_, rfl, _, _, _, _, rfl, rfl, hs, rfl, rfl, _, rfl, ?_⟩
      refine iteF' (by decide +kernel) ?_
      refine ⟨_, rfl, _, _, _, _, rfl, rfl, hs, rfl, rfl, _, rfl, ?_⟩
      refine iteT' (by decide +kernel) ?_
      refine ⟨_, rfl, _, _, rfl, .inr hs, rfl, _, rfl, ?_⟩
      refine iteT' (decide_eq_true rfl) ?_
      have hx : isName x = true := hwf
      refine ⟨_, rfl, _, _, _, _, rfl, rfl, hs, rfl, _, rfl, ?_, fun H' s' => ?_⟩
      · unfold isName at hx
        simp only [Bool.and_eq_true, decide_eq_true_eq] at hx
        omega
      · rw [hx]
        exact q H' s'
    | bin o e1 e2 =>
      obtain ⟨a, x, y, rfl, hs, h1, h2⟩ := td_bin ht
      obtain ⟨w1, w2⟩ := Bool.and_eq_true_iff.mp (show (e1.wf && e2.wf) = true from hwf)
      have hdd : 1 + max e1.deep e2.deep ≤ n + 1 := hn
      have hd9 : d + (1 + max e1.deep e2.deep) ≤ 9 := hd
      refine ⟨_, rfl, _, _, _, _, _, rfl, .ty _, tyx_seqT hs, kt_tuple_tuple, _, rfl, ?_⟩
      refine iteF ?_
      refine ⟨_, rfl, _, _, rfl, .inr hs, _, _, rfl, rfl, _, rfl, ?_⟩
      refine iteF' (decide_eq_false (by simp)) ?_
      refine ⟨_, rfl, _, _, _, _, rfl, rfl, hs, rfl, _, _, _, _, _, rfl, .ty _, .base (.str _), kt_str_str, _, rfl, ?_⟩
      refine iteF ?_
      refine ⟨_, rfl, _, _, _, _, rfl, rfl, hs, rfl, rfl, _, rfl, ?_⟩
      refine iteF' (decide_eq_false (op_ne_number o)) ?_
      refine ⟨_, rfl, _, _, _, _, rfl, rfl, hs, rfl, rfl, _, rfl, ?_⟩
      refine iteF' (decide_eq_false (op_ne_name o)) ?_
      refine ⟨_, rfl, _, _, _, _, rfl, rfl, hs, rfl, _, _, rfl, .inr (T.t_PAIRS H), rfl, flat_strs _, _, rfl, ?_⟩
      refine iteF' ?_ ?_
      · rw [inV_strs]
        show (if true = true then _ else _) = false
        rw [if_pos rfl, decide_eq_true (op_pairs o)]
        rfl
      refine ⟨_, rfl, _, _, rfl, .inr hs, rfl, _, rfl, ?_⟩
      refine iteNS rfl ?_
      refine ⟨_, rfl, _, _, _, _, rfl, rfl, hs, rfl, _, rfl, _, _, rfl, rfl, _, d + 1, e1, rfl, h1, w1, by omega, by omega, fun H1 s1 => ?_⟩
      refine ⟨_, rfl, ?_⟩
      refine iteT ?_
      refine ⟨_, rfl, _, _, _, _, rfl, rfl, same_tup s1 hs, rfl, _, rfl, _, _, rfl, rfl, _, d + 1, e2, rfl, h2.same s1, w2, by omega, by omega, fun H2 s2 => ?_⟩
      exact q H2 (s1.trans s2)
end
end Tw
set_option Elab.async false
set_option linter.all false
set_option maxRecDepth 100000
set_option maxHeartbeats 4000000
namespace Tw
open PySem PySem.Spec PyProof.Rows L2
/-! ## expressions: parts, words, worths -/
theorem op_not_two (o : Op) : inV (.str o.w) [.str "number", .str "name"] = false := by cases o <;> decide +kernel
theorem num_two : inV (.str "number") [.str "number", .str "name"] = true := by decide +kernel
theorem name_two : inV (.str "name") [.str "number", .str "name"] = true := by decide +kernel
theorem E.words_len : ∀ e : E, e.words.length = e.parts
  | .num _ => rfl
  | .nam _ => rfl
  | .bin _ a b => by rw [E.words, List.length_cons, List.length_append, a.words_len, b.words_len, E.parts]; omega
theorem E.val_range {f : Str → Int} (hf : ∀ x, 0 ≤ f x ∧ f x ≤ 996) : ∀ e : E, e.wf = true → 0 ≤ e.val f ∧ e.val f ≤ 996
  | .num n, h => by
    have : n ≤ 996 := of_decide_eq_true h
    show (0 : Int) ≤ (n : Int) ∧ (n : Int) ≤ 996
    omega
  | .nam x, _ => hf x
  | .bin o a b, h => by
    show 0 ≤ o.val (a.val f) (b.val f) ∧ o.val (a.val f) (b.val f) ≤ 996
    cases o <;> (unfold Op.val; dsimp only) <;> first | omega | (split <;> omega) | exact ⟨Int.emod_nonneg _ (by decide), by have := Int.emod_lt_of_pos (a.val f * b.val f) (by decide : (0 : Int) < 997); omega⟩
section
variable {P : Program} {w : World} {K : PySem.W.Frag} {mg : Str → Option Value} {base : Heap}
def sp_parts_in (K : PySem.W.Frag) (n : Nat) : Sp := fun vs H Q _ => ∃ (v : V) (e : E), vs = [v] ∧ Td K H v e.d ∧ e.deep ≤ n ∧ ∀ H', Same H H' → Q (.int e.parts) H'
theorem ok_parts_in (T : Txt K mg) : ∀ n, Cal P w K mg base "parts_in" (n + 1) ["expr"] (sp_parts_in K n)
  | 0 => Cal.vac T.d_parts_in b_parts_in fun vs H Q E h => by
    obtain ⟨v, e, _, _, h, _⟩ := h
    have := e.deep_pos
    omega
  | n + 1 => by
    have C_parts_in := ok_parts_in T n
    refine Cal.of T.d_parts_in b_parts_in sc_parts_in (fun vs H Q E h => ?_) (fun cdv A outer s H vs Q E hr h => ?_)
    · obtain ⟨v, e, rfl, _⟩ := h; rfl
    obtain ⟨v, e, rfl, ht, hn, q⟩ := h
    refine ⟨_, (pss_one (ps_ret (pe_ifExp (pt_cmpR op_in_seq (pe_ix ix_tup (pv 0) pe_int (fun _ _ => rfl)) (pe_tup (pa_cons pe_str (pa_cons pe_str pa_nil))) (by rfl)) pe_int (pe_op op_add (pe_op op_add pe_int (pe_callC C_parts_in hr rfl (pa_cons (pe_ix ix_tup (pv 0) pe_int (fun _ _ => rfl)) pa_nil))) (pe_callC C_parts_in hr rfl (pa_cons (pe_ix ix_tup (pv 0) pe_int (fun _ _ => rfl)) pa_nil)))))), ?_⟩
    cases e with
    | num m =>
      obtain ⟨a, rfl, hs⟩ := td_num ht
      refine ⟨_, rfl, _, _, _, _, rfl, rfl, hs, rfl, (by show 2 ≤ sizeLine; decide), fun p hp => ?_⟩
      refine ⟨_, _, rfl, .inr (SqT.of upd_same), rfl, rfl, _, rfl, ?_⟩
      refine iteT' num_two ?_
      exact q _ (same_new hp)
    | nam x =>
      obtain ⟨a, rfl, hs⟩ := td_nam ht
      refine ⟨_, rfl, _, _, _, _, rfl, rfl, hs, rfl, (by show 2 ≤ sizeLine; decide), fun p hp => ?_⟩
      refine ⟨_, _, rfl, .inr (SqT.of upd_same), rfl, rfl, _, rfl, ?_⟩
      refine iteT' name_two ?_
      exact q _ (same_new hp)
    | bin o e1 e2 =>
      obtain ⟨a, x, y, rfl, hs, h1, h2⟩ := td_bin ht
      have hdd : 1 + max e1.deep e2.deep ≤ n + 1 := hn
      refine ⟨_, rfl, _, _, _, _, rfl, rfl, hs, rfl, (by show 2 ≤ sizeLine; decide), fun p hp => ?_⟩
      refine ⟨_, _, rfl, .inr (SqT.of upd_same), rfl, rfl, _, rfl, ?_⟩
      refine iteF' (op_not_two o) ?_
      have s0 := same_new hp (o := .tup [V.str "number", V.str "name"])
      refine ⟨_, rfl, _, _, _, _, rfl, rfl, same_tup s0 hs, rfl, _, e1, rfl, h1.same s0, by omega, fun H1 s1 => ?_⟩
      refine ⟨_, _, rfl, rfl, _, rfl, _, _, _, _, rfl, rfl, same_tup (s0.trans s1) hs, rfl, _, e2, rfl, h2.same (s0.trans s1), by omega, fun H2 s2 => ?_⟩
      refine ⟨_, _, rfl, rfl, ?_⟩
      have e : (1 : Int) + (e1.parts : Int) + (e2.parts : Int) = (((Tw.E.bin o e1 e2).parts : Nat) : Int) := by
        show _ = ((1 + e1.parts + e2.parts : Nat) : Int)
        omega
      show Q (.int ((1 : Int) + (e1.parts : Int) + (e2.parts : Int))) H2
      rw [e]
      exact q H2 (s0.trans (s1.trans s2))
def sp_is_expr (K : PySem.W.Frag) : Sp := fun vs H Q _ => ∃ (v : V) (e : E), vs = [v] ∧ Td K H v e.d ∧ e.ok ∧ ∀ H', Same H H' → Q (.bl true) H'
theorem ok_is_expr (T : Txt K mg) : Cal P w K mg base "is_expr" 12 ["thing"] (sp_is_expr K) := by
  have C_is_form := ok_is_form (P := P) (w := w) (base := base) T 8
  have C_parts_in := ok_parts_in (P := P) (w := w) (base := base) T 8
  refine Cal.of T.d_is_expr b_is_expr sc_is_expr (fun vs H Q E h => ?_) (fun cdv A outer s H vs Q E hr h => ?_)
  · obtain ⟨v, e, rfl, _⟩ := h; rfl
  obtain ⟨v, e, rfl, ht, ⟨hw, hd, hp⟩, q⟩ := h
  refine ⟨_, (pss_one (ps_ret (pe_and (pe_callC C_is_form (hr.mono (by decide)) rfl (pa_cons (pv 0) (pa_cons pe_int pa_nil))) (pe_one (pe_cmpR op_le (pe_callC C_parts_in (hr.mono (by decide)) rfl (pa_cons (pv 0) pa_nil)) (pe_cint T.i_MOST_PARTS rfl) (nomark _)))))), ?_⟩
  refine ⟨_, rfl, _, 1, e, rfl, ht, hw, hd, by omega, fun H1 s1 => ?_⟩
  refine ⟨_, rfl, ?_⟩
  refine iteT ?_
  refine ⟨_, rfl, _, e, rfl, ht.same s1, hd, fun H2 s2 => ?_⟩
  refine ⟨_, _, rfl, rfl, ?_⟩
  have : decide ((e.parts : Int) ≤ 40) = true := decide_eq_true (by omega)
  show Q (.bl (decide ((e.parts : Int) ≤ 40))) H2
  rw [this]
  exact q H2 (s1.trans s2)
def sp_expr_words (K : PySem.W.Frag) (n : Nat) : Sp := fun vs H Q _ => ∃ (v : V) (e : E), vs = [v] ∧ Td K H v e.d ∧ e.wf = true ∧ e.parts ≤ 1000 ∧ e.deep ≤ n ∧ ∀ H' p, Same H H' → H p = none → H' p = some (.lst (e.words.map V.str)) → Q (.ref p) H'
theorem ok_expr_words (T : Txt K mg) : ∀ n, Cal P w K mg base "expr_words" (n + 1) ["expr"] (sp_expr_words K n)
  | 0 => Cal.vac T.d_expr_words b_expr_words fun vs H Q E h => by
    obtain ⟨v, e, _, _, _, _, h, _⟩ := h
    have := e.deep_pos
    omega
  | n + 1 => by
    have C_expr_words := ok_expr_words T n
    refine Cal.of T.d_expr_words b_expr_words sc_expr_words (fun vs H Q E h => ?_) (fun cdv A outer s H vs Q E hr h => ?_)
    · obtain ⟨v, e, rfl, _⟩ := h; rfl
    obtain ⟨v, e, rfl, ht, hwf, hpa, hn, q⟩ := h
    refine ⟨_, (pss_cons (ps_if (pt_cmpR op_in_seq (pe_ix ix_tup (pv 0) pe_int (fun _ _ => rfl)) (pe_tup (pa_cons pe_str (pa_cons pe_str pa_nil))) (by rfl)) (pss_one (ps_ret (pe_lst (pa_cons (pe_callTy call_strA (by rfl) T.str bb_str (pa_cons (pe_ix ix_tup (pv 0) pe_int (fun _ _ => rfl)) pa_nil)) pa_nil)))) pss_nil)
  (pss_one (ps_ret (pe_op op_cat (pe_op op_cat (pe_lst (pa_cons (pe_ix ix_tup (pv 0) pe_int (fun _ _ => rfl)) pa_nil)) (pe_callC C_expr_words hr rfl (pa_cons (pe_ix ix_tup (pv 0) pe_int (fun _ _ => rfl)) pa_nil))) (pe_callC C_expr_words hr rfl (pa_cons (pe_ix ix_tup (pv 0) pe_int (fun _ _ => rfl)) pa_nil)))))), ?_⟩
    cases e with
    | num m =>
      obtain ⟨a, rfl, hs⟩ := td_num ht
      refine ⟨_, rfl, _, _, _, _, rfl, rfl, hs, rfl, (by show 2 ≤ sizeLine; decide), fun p hp => ?_⟩
      refine ⟨_, _, rfl, .inr (SqT.of upd_same), rfl, rfl, _, rfl, ?_⟩
      refine iteT' num_two ?_
      have s0 := same_new hp (o := .tup [V.str "number", V.str "name"])
      have hm : m ≤ 996 := of_decide_eq_true hwf
      refine ⟨_, rfl, _, _, _, _, rfl, rfl, same_tup s0 hs, rfl, .inr ⟨_, rfl, ?_, (by show 1 ≤ sizeLine; decide), fun r hr' => ?_⟩⟩
      · have := Nat.log2_le_self ((m : Int)).natAbs
        have : ((m : Int)).natAbs = m := Int.natAbs_natCast m
        omega
      · exact q _ r (same_put s0 (s0.free hr')) (s0.free hr') upd_same
    | nam x =>
      obtain ⟨a, rfl, hs⟩ := td_nam ht
      refine ⟨_, rfl, _, _, _, _, rfl, rfl, hs, rfl, (by show 2 ≤ sizeLine; decide), fun p hp => ?_⟩
      refine ⟨_, _, rfl, .inr (SqT.of upd_same), rfl, rfl, _, rfl, ?_⟩
      refine iteT' name_two ?_
      have s0 := same_new hp (o := .tup [V.str "number", V.str "name"])
      refine ⟨_, rfl, _, _, _, _, rfl, rfl, same_tup s0 hs, rfl, .inl ⟨_, rfl, (by show 1 ≤ sizeLine; decide), fun r hr' => ?_⟩⟩
      exact q _ r (same_put s0 (s0.free hr')) (s0.free hr') upd_same
    | bin o e1 e2 =>
      obtain ⟨a, x, y, rfl, hs, h1, h2⟩ := td_bin ht
      have hdd : 1 + max e1.deep e2.deep ≤ n + 1 := hn
      have hpp : 1 + e1.parts + e2.parts ≤ 1000 := hpa
      obtain ⟨w1, w2⟩ := Bool.and_eq_true_iff.mp (show (e1.wf && e2.wf) = true from hwf)
      refine ⟨_, rfl, _, _, _, _, rfl, rfl, hs, rfl, (by show 2 ≤ sizeLine; decide), fun p hp => ?_⟩
      refine ⟨_, _, rfl, .inr (SqT.of upd_same), rfl, rfl, _, rfl, ?_⟩
      refine iteF' (op_not_two o) ?_
      have s0 := same_new hp (o := .tup [V.str "number", V.str "name"])
      refine ⟨_, rfl, _, _, _, _, rfl, rfl, same_tup s0 hs, rfl, (by show 1 ≤ sizeLine; decide), fun r hr1 => ?_⟩
      have s1 := same_put s0 (s0.free hr1) (o := .lst [V.str o.w])
      have l1 := e1.words_len
      have l2 := e2.words_len
      refine ⟨_, rfl, _, _, _, _, rfl, rfl, same_tup s1 hs, rfl, _, e1, rfl, h1.same s1, w1, by omega, by omega, fun H1 r1 s2 n1 hl1 => ?_⟩
      refine ⟨r, r1, _, _, rfl, rfl, s2 _ _ upd_same, hl1, ?_, fun r2 hr2 => ?_⟩
      · rw [List.length_map, l1]
        show 1 + _ ≤ sizeLine
        rw [sizeLine_eq]; omega
      have s3 := same_put (s1.trans s2) ((s1.trans s2).free hr2) (o := .lst ([V.str o.w] ++ e1.words.map V.str))
      refine ⟨_, rfl, _, _, _, _, rfl, rfl, same_tup s3 hs, rfl, _, e2, rfl, h2.same s3, w2, by omega, by omega, fun H2 r3 s4 n3 hl3 => ?_⟩
      refine ⟨r2, r3, _, _, rfl, rfl, s4 _ _ upd_same, hl3, ?_, fun r4 hr4 => ?_⟩
      · rw [List.length_append, List.length_map, List.length_map, l1, l2]
        show 1 + _ + _ ≤ sizeLine
        rw [sizeLine_eq]; omega
      have s5 := s3.trans s4
      refine q _ r4 (same_put s5 (s5.free hr4)) (s5.free hr4) ?_
      rw [upd_same, E.words, List.map_cons, List.map_append]
      rfl
def sp_worth_of (K : PySem.W.Frag) (n : Nat) : Sp := fun vs H Q _ => ∃ (v : V) (e : E) (a : Addr) (kvs : List (Key × V)) (f : Str → Int), vs = [v, .ref a] ∧ Td K H v e.d ∧ e.wf = true ∧ e.deep ≤ n ∧ H a = some (.dK kvs) ∧
  (∀ x, 0 ≤ f x ∧ f x ≤ 996) ∧ (∀ x, (valV kvs (Sum.inr x : Key)).getD (.int 0) = .int (f x)) ∧ ∀ H', Same H H' → Q (.int (e.val f)) H'
theorem ok_worth_of (T : Txt K mg) : ∀ n, Cal P w K mg base "worth_of" (n + 1) ["expr", "worths"] (sp_worth_of K n)
  | 0 => Cal.vac T.d_worth_of b_worth_of fun vs H Q E h => by
    obtain ⟨v, e, a, kvs, f, _, _, _, h, _⟩ := h
    have := e.deep_pos
    omega
  | n + 1 => by
    have C_worth_of := ok_worth_of T n
    refine Cal.of T.d_worth_of b_worth_of sc_worth_of (fun vs H Q E h => ?_) (fun cdv A outer s H vs Q E hr h => ?_)
    · obtain ⟨v, e, a, kvs, f, rfl, _⟩ := h; rfl
    obtain ⟨v, e, d, kvs, f, rfl, ht, hwf, hn, hd, hf, hv, q⟩ := h
    have hu := hu_of hr
    refine ⟨_, (pss_cons (ps_if (pt_cmpR op_eq (pe_ix ix_tup (pv 0) pe_int (fun _ _ => rfl)) pe_str (nomark _)) (pss_one (ps_ret (pe_ix ix_tup (pv 0) pe_int (fun _ _ => rfl)))) pss_nil)
  (pss_cons (ps_if (pt_cmpR op_eq (pe_ix ix_tup (pv 0) pe_int (fun _ _ => rfl)) pe_str (nomark _)) (pss_one (ps_ret (pe_dget2 hu (pv 1) (pe_ix ix_tup (pv 0) pe_int (fun _ _ => rfl)) pe_int ⟨rfl, rfl, rfl, rfl⟩))) pss_nil)
  (pss_cons (ps_par (i := 2) (j := 3) (by rfl) sc_worth_of.nd rfl rfl (by decide) rfl rfl (pa_cons (pe_callC C_worth_of hr rfl (pa_cons (pe_ix ix_tup (pv 0) pe_int (fun _ _ => rfl)) (pa_cons (pv 1) pa_nil))) (pa_cons (pe_callC C_worth_of hr rfl (pa_cons (pe_ix ix_tup (pv 0) pe_int (fun _ _ => rfl)) (pa_cons (pv 1) pa_nil))) pa_nil)) (by rfl))
  (pss_cons (ps_if (pt_cmpR op_eq (pe_ix ix_tup (pv 0) pe_int (fun _ _ => rfl)) pe_str (nomark _)) (pss_one (ps_ret (pe_op op_mod (pe_op op_add (pv 2) (pv 3)) (pe_op op_add (pe_cint T.i_MOST rfl) pe_int)))) pss_nil)
  (pss_cons (ps_if (pt_cmpR op_eq (pe_ix ix_tup (pv 0) pe_int (fun _ _ => rfl)) pe_str (nomark _)) (pss_one (ps_ret (pe_op op_mod (pe_op op_sub (pv 2) (pv 3)) (pe_op op_add (pe_cint T.i_MOST rfl) pe_int)))) pss_nil)
  (pss_cons (ps_if (pt_cmpR op_eq (pe_ix ix_tup (pv 0) pe_int (fun _ _ => rfl)) pe_str (nomark _)) (pss_one (ps_ret (pe_op op_mod (pe_op op_mul (pv 2) (pv 3)) (pe_op op_add (pe_cint T.i_MOST rfl) pe_int)))) pss_nil)
  (pss_one (ps_ret (pe_ifExp (pt_cmpR op_eq (pe_ix ix_tup (pv 0) pe_int (fun _ _ => rfl)) pe_str (nomark _)) (pe_callTy call_int1 (by rfl) T.int bb_int (pa_cons (pe_cmpR op_lt (pv 2) (pv 3) (nomark _)) pa_nil)) (pe_callTy call_int1 (by rfl) T.int bb_int (pa_cons (pe_cmpR op_eq (pv 2) (pv 3) (nomark _)) pa_nil))))))))))), ?_⟩
    cases e with
    | num m =>
      obtain ⟨a, rfl, hs⟩ := td_num ht
      refine ⟨_, rfl, _, _, _, _, rfl, rfl, hs, rfl, rfl, _, rfl, ?_⟩
      refine iteT' (by decide +kernel) ?_
      exact ⟨_, rfl, _, _, _, _, rfl, rfl, hs, rfl, q H (Same.refl H)⟩
    | nam x =>
      obtain ⟨a, rfl, hs⟩ := td_nam ht
      refine ⟨_, rfl, _, _, _, _, rfl, rfl, hs, rfl, rfl, _, rfl, ?_⟩
      refine iteF' (by decide +kernel) ?_
      refine ⟨_, rfl, _, _, _, _, rfl, rfl, hs, rfl, rfl, _, rfl, ?_⟩
      refine iteT' (by decide +kernel) ?_
      refine ⟨_, rfl, d, rfl, .inl ⟨kvs, .of hd⟩, _, rfl, _, _, _, _, rfl, rfl, hs, rfl, _, DGet.k (k := Sum.inr x) hd, ?_⟩
      rw [hv x]
      exact q H (Same.refl H)
    | bin o e1 e2 =>
      obtain ⟨a, x, y, rfl, hs, h1, h2⟩ := td_bin ht
      have hdd : 1 + max e1.deep e2.deep ≤ n + 1 := hn
      obtain ⟨w1, w2⟩ := Bool.and_eq_true_iff.mp (show (e1.wf && e2.wf) = true from hwf)
      have r1 := Tw.E.val_range hf e1 w1
      have r2 := Tw.E.val_range hf e2 w2
      refine ⟨_, rfl, _, _, _, _, rfl, rfl, hs, rfl, rfl, _, rfl, ?_⟩
      refine iteF' (decide_eq_false (op_ne_number o)) ?_
      refine ⟨_, rfl, _, _, _, _, rfl, rfl, hs, rfl, rfl, _, rfl, ?_⟩
      refine iteF' (decide_eq_false (op_ne_name o)) ?_
      refine ⟨_, rfl, _, _, _, _, rfl, rfl, hs, rfl, _, rfl, _, e1, d, kvs, f, rfl, h1, w1, by omega, hd, hf, hv, fun H1 s1 => ?_⟩
      refine ⟨_, rfl, _, _, _, _, rfl, rfl, same_tup s1 hs, rfl, _, rfl, _, e2, d, kvs, f, rfl, h2.same s1, w2, by omega, s1 _ _ hd, hf, hv, fun H2 s2 => ?_⟩
      have s3 := s1.trans s2
      have hs3 := same_tup s3 hs
      refine ⟨_, _, rfl, ?_⟩
      have q2 := q H2 s3
      cases o
      · refine ⟨_, rfl, _, _, _, _, rfl, rfl, hs3, rfl, rfl, _, rfl, ?_⟩
        refine iteT' (by decide +kernel) ?_
        exact ⟨_, rfl, _, rfl, _, _, rfl, rfl, _, _, rfl, rfl, _, _, rfl, rfl, (by show (0 : Int) < 996 + 1; decide), q2⟩
      · refine ⟨_, rfl, _, _, _, _, rfl, rfl, hs3, rfl, rfl, _, rfl, ?_⟩
        refine iteF' (by decide +kernel) ?_
        refine ⟨_, rfl, _, _, _, _, rfl, rfl, hs3, rfl, rfl, _, rfl, ?_⟩
        refine iteT' (by decide +kernel) ?_
        exact ⟨_, rfl, _, rfl, _, _, rfl, rfl, _, _, rfl, rfl, _, _, rfl, rfl, (by show (0 : Int) < 996 + 1; decide), q2⟩
      · refine ⟨_, rfl, _, _, _, _, rfl, rfl, hs3, rfl, rfl, _, rfl, ?_⟩
        refine iteF' (by decide +kernel) ?_
        refine ⟨_, rfl, _, _, _, _, rfl, rfl, hs3, rfl, rfl, _, rfl, ?_⟩
        refine iteF' (by decide +kernel) ?_
        refine ⟨_, rfl, _, _, _, _, rfl, rfl, hs3, rfl, rfl, _, rfl, ?_⟩
        refine iteT' (by decide +kernel) ?_
        exact ⟨_, rfl, _, rfl, _, _, rfl, rfl, .inl ⟨by omega, by omega⟩, _, _, rfl, rfl, _, _, rfl, rfl, (by show (0 : Int) < 996 + 1; decide), q2⟩
      · refine ⟨_, rfl, _, _, _, _, rfl, rfl, hs3, rfl, rfl, _, rfl, ?_⟩
        refine iteF' (by decide +kernel) ?_
        refine ⟨_, rfl, _, _, _, _, rfl, rfl, hs3, rfl, rfl, _, rfl, ?_⟩
        refine iteF' (by decide +kernel) ?_
        refine ⟨_, rfl, _, _, _, _, rfl, rfl, hs3, rfl, rfl, _, rfl, ?_⟩
        refine iteF' (by decide +kernel) ?_
        refine ⟨_, rfl, _, _, _, _, rfl, rfl, hs3, rfl, rfl, _, rfl, ?_⟩
        refine iteT' (by decide +kernel) ?_
        refine ⟨_, rfl, _, rfl, _, _, rfl, rfl, .inr ⟨_, rfl, ?_⟩⟩
        have e : (if decide (e1.val f < e2.val f) = true then (1 : Int) else 0) = (Tw.E.bin .under e1 e2).val f := by
          show _ = if e1.val f < e2.val f then (1 : Int) else 0
          simp only [decide_eq_true_eq]
        show Q (.int (if decide (e1.val f < e2.val f) = true then (1 : Int) else 0)) H2
        rw [e]
        exact q2
      · refine ⟨_, rfl, _, _, _, _, rfl, rfl, hs3, rfl, rfl, _, rfl, ?_⟩
        refine iteF' (by decide +kernel) ?_
        refine ⟨_, rfl, _, _, _, _, rfl, rfl, hs3, rfl, rfl, _, rfl, ?_⟩
        refine iteF' (by decide +kernel) ?_
        refine ⟨_, rfl, _, _, _, _, rfl, rfl, hs3, rfl, rfl, _, rfl, ?_⟩
        refine iteF' (by decide +kernel) ?_
        refine ⟨_, rfl, _, _, _, _, rfl, rfl, hs3, rfl, rfl, _, rfl, ?_⟩
        refine iteF' (by decide +kernel) ?_
        refine ⟨_, rfl, _, rfl, rfl, .inr ⟨_, rfl, ?_⟩⟩
        have e : (if decide (V.int (e1.val f) = V.int (e2.val f)) = true then (1 : Int) else 0) = (Tw.E.bin .same e1 e2).val f := by
          show _ = if e1.val f = e2.val f then (1 : Int) else 0
          simp only [decide_eq_true_eq, V.int.injEq]
        show Q (.int (if decide (V.int (e1.val f) = V.int (e2.val f)) = true then (1 : Int) else 0)) H2
        rw [e]
        exact q2
end
end Tw
set_option Elab.async false
set_option linter.all false
set_option maxRecDepth 100000
set_option maxHeartbeats 4000000
namespace Tw
open PySem PySem.Spec PyProof.Rows L2
/-! ### expressions told in their tokens -/
inductive Tok | op (o : Op) | num (n : Nat) | nam (x : Str)
def Tok.w : Tok → Str
  | .op o => o.w | .num n => numS n | .nam x => x
def Tok.d : Tok → PyData
  | .op o => .str o.w | .num n => .tuple [.str "number", .int n] | .nam x => .tuple [.str "name", .str x]
def E.toks : E → List Tok
  | .num n => [.num n]
  | .nam x => [.nam x]
  | .bin o a b => .op o :: (a.toks ++ b.toks)
theorem E.words_toks : ∀ e : E, e.words = e.toks.map Tok.w
  | .num _ => rfl
  | .nam _ => rfl
  | .bin o a b => by rw [E.words, E.toks, a.words_toks, b.words_toks, List.map_cons, List.map_append]; rfl
theorem E.toks_len : ∀ e : E, e.toks.length = e.parts
  | .num _ => rfl
  | .nam _ => rfl
  | .bin _ a b => by rw [E.toks, List.length_cons, List.length_append, a.toks_len, b.toks_len, E.parts]; omega
def bld? : List Tok → Option (List E)
  | [] => some []
  | .num n :: ts => (bld? ts).map (E.num n :: ·)
  | .nam x :: ts => (bld? ts).map (E.nam x :: ·)
  | .op o :: ts => match bld? ts with
    | some (a :: b :: r) => some (E.bin o a b :: r)
    | _ => none
theorem bld_toks : ∀ (e : E) (ts : List Tok), bld? (e.toks ++ ts) = (bld? ts).map (e :: ·)
  | .num _, _ => rfl
  | .nam _, _ => rfl
  | .bin o a b, ts => by
    rw [E.toks, List.cons_append, List.append_assoc, bld?, bld_toks a, bld_toks b]
    cases bld? ts <;> rfl
theorem bld_drop : ∀ (ts : List Tok) (k : Nat), (bld? ts).isSome = true → (bld? (ts.drop k)).isSome = true
  | ts, 0, h => by rw [List.drop_zero]; exact h
  | [], k + 1, h => h
  | t :: ts, k + 1, h => by
    rw [List.drop_succ_cons]
    refine bld_drop ts k ?_
    cases e : bld? ts with
    | some _ => rfl
    | none =>
      cases t <;> (rw [bld?, e] at h; exact h)
theorem bld_one (e : E) : bld? e.toks = some [e] := by
  have := bld_toks e []
  rw [List.append_nil] at this
  rw [this] <;> rfl
theorem E.parts_pos (e : E) : 1 ≤ e.parts := by cases e <;> simp only [E.parts] <;> omega
/-! ### data that can be told alike -/
theorem name_ok {x : Str} (h : isName x = true) : PyData.strOk x = true := by
  unfold isName at h
  simp only [Bool.and_eq_true] at h
  have h2 := h.2
  unfold PyData.strOk
  rw [← Array.all_toList, List.all_eq_true]
  rw [List.all_eq_true] at h2
  intro c hc
  have h3 := of_decide_eq_true (h2 c hc)
  have key : ∀ c ∈ letters.cps.toList, c < 0x110000 := by decide +kernel
  exact decide_eq_true (key c h3)
theorem name_len {x : Str} (h : isName x = true) : x.length ≤ 6 := by
  unfold isName at h
  simp only [Bool.and_eq_true, decide_eq_true_eq] at h
  omega
theorem house_ok {x : Str} (h : isHouse x = true) : x = "east" ∨ x = "west" := by
  have h := of_decide_eq_true h
  simpa [c_HOUSES] using h
end Tw
set_option Elab.async false
set_option linter.all false
set_option maxRecDepth 100000
set_option maxHeartbeats 4000000
namespace L2
open PySem PySem.Spec PyProof.Rows
section
variable {X : Cx}
/-- x in a tuple, by data -/
def rInT (K : PySem.W.Frag) : R2 := fun x y H Q => ∃ d ds, Dp K H x d ∧ Dp K H y (.tuple ds) ∧ SeqAt.shaped d = true ∧ SeqAt.shaped (.tuple ds) = true ∧ Q (.bl (ds.any fun z => PyData.eqv z d)) H
theorem op_inT (hu : X.A.units + 65 < cLine) : OpR X (compareOp .In) (rInT X.K) := by
  intro pins s σ H x y v u Q I rx ry h
  obtain ⟨d, ds, hd, he, sd, se, q⟩ := h
  obtain ⟨as, r1⟩ := Dp.reads I d x v hd rx
  obtain ⟨bs, r2⟩ := Dp.reads I (.tuple ds) y u he ry
  exact SeqAt.in_tuple_reads r2 r1 (SeqAt.canLay_of_shaped se) (SeqAt.canLay_of_shaped sd) (room_in_shaped sd hu) ⟨.bl _, H, I, rfl, q⟩
theorem Room.units1 {k : Nat} {A : Around} (r : Room k A) : A.units + 65 < cLine := by have := r.un; omega
end
end L2
namespace Tw
open PySem PySem.Spec PyProof.Rows L2 TL
section
variable {H : Hp} {K : PySem.W.Frag} {a : Addr} {xs vs : List V} {v : V} {d : PyData} {ds : List PyData} {o : HO}
theorem TF.lst (h : H a = some (.lst xs)) : TF H [a] := TF.one h (fun _ e => by cases e) (fun _ _ e => by cases e) .nil
theorem Kp.at : Kp [a] H (upd H a o) := (Kp.refl [a] H).put (by simp)
theorem TdA.put (h : H a = some (.lst xs)) (t : TdA K H vs ds) : TdA K (upd H a o) vs ds := TdA.kp Kp.at (.lst h) ds t
theorem Td.put (h : H a = some (.lst xs)) (t : Td K H v d) : Td K (upd H a o) v d := Td.kp Kp.at (.lst h) d t
theorem last_rev {α : Type} (l : List α) (x : α) : (l ++ [x])[(l ++ [x]).length - 1]? = some x := by simp
end
theorem fig_name {n : Nat} : isName (numS n) = false := by
  cases h : isName (numS n) with
  | false => rfl
  | true =>
    exfalso
    unfold isName at h
    simp only [Bool.and_eq_true] at h
    have h2 := h.2
    rw [show (numS n).cps.toList = numL n from tl_numS n, List.all_eq_true] at h2
    cases e : numL n with
    | nil => exact TL.numL_ne n e
    | cons c r =>
      have hc := TL.numL_digits n c (by rw [e]; simp)
      have h3 := of_decide_eq_true (h2 c (by rw [e]; simp))
      have key : ∀ c ∈ letters.cps.toList, ¬ (48 ≤ c ∧ c ≤ 57) := by decide +kernel
      exact key c h3 ⟨hc.1, by have := hc.2; omega⟩
theorem name_pairs {x : Str} (h : isName x = true) : x ∉ c_PAIRS := by
  intro hx
  unfold isName at h
  simp only [Bool.and_eq_true, Bool.not_eq_true', decide_eq_false_iff_not] at h
  refine h.1.2 ?_
  have key : ∀ y ∈ c_PAIRS, y ∈ c_KEYS := by decide +kernel
  exact key x hx
theorem fig_pairs {n : Nat} (hn : n ≤ 996) : numS n ∉ c_PAIRS := by
  intro h
  have l2 := (numS_len hn).2
  have key : ∀ y ∈ c_PAIRS, 4 ≤ y.length := by decide +kernel
  have := key _ h
  omega
theorem op_in_pairs (o : Op) : o.w ∈ c_PAIRS := by cases o <;> decide +kernel
section
variable {P : Program} {w : World} {K : PySem.W.Frag} {mg : Str → Option Value} {base : Heap}
def sp_expr_in (K : PySem.W.Frag) : Sp := fun vs H Q _ => ∃ (lw : Addr) (ws : List Str) (k : Nat) (e : E), vs = [.ref lw, .int k] ∧ SqL K H lw (ws.map V.str) ∧ e.ok ∧ ws.length ≤ 10000 ∧
  (∀ j, j < e.words.length → ws[k + j]? = e.words[j]?) ∧ ∀ H' p x, Same H H' → SqT K H' p [x, .int ((k + e.parts : Nat) : Int)] → Td K H' x e.d → Q (.ref p) H'
theorem ok_expr_in (T : Txt K mg) : Cal P w K mg base "expr_in" 2 ["words", "at"] (sp_expr_in K) := by
  have C_is_name := ok_is_name (P := P) (w := w) (base := base) T
  have C_number_of := ok_number_of (P := P) (w := w) (base := base) T
  refine Cal.of T.d_expr_in b_expr_in sc_expr_in (fun vs H Q E h => ?_) (fun cdv A outer s H vs Q E hr h => ?_)
  · obtain ⟨_, _, _, _, rfl, _⟩ := h; rfl
  obtain ⟨lw, ws, k, e, rfl, hlw, ⟨hwf, hdp, hpt⟩, hwl, hws, q⟩ := h
  refine ⟨_, (pss_cons (ps_set (i := 2) sc_expr_in.nd rfl (Or.inl rfl) (pe_lst (pa_cons pe_int pa_nil)))
  (pss_cons (ps_set (i := 3) sc_expr_in.nd rfl (Or.inl rfl) (pe_lst pa_nil))
  (pss_cons (ps_set (i := 4) sc_expr_in.nd rfl (Or.inl rfl) pe_int)
  (pss_cons (ps_while PassesOwn.never (pt_cmpR (op_neE hr.units0) (pv 2) (pe_lst pa_nil) (nomark _))
   (pss_cons (ps_set (i := 5) sc_expr_in.nd rfl (Or.inl rfl) (pe_bm0 PySem.F.plainAttrs_list PySem.F.slot_list_pop PySem.F.type_list_pop mt_pop (pv 2)))
  (pss_cons (ps_set (i := 6) sc_expr_in.nd rfl (Or.inl rfl) (pe_ifExp (pt_cmpR op_lt (pv 1) (pe_callB call_len_seq (by rfl) T.len bb_len (pa_cons (pv 0) pa_nil)) (nomark _)) (pe_ix ix_list (pv 0) (pv 1) (fun _ _ => rfl)) pe_non))
  (pss_cons (ps_if (PW.pt (pw_or (pt_cmpR op_isN (pv 6) pe_non (nomark _)) (pw_or (pt_cmpR op_gt (pv 5) (pe_cint T.i_MOST_DEEP rfl) (nomark _)) (pw_or1 (pt_cmpR op_eq (pv 4) (pe_cint T.i_MOST_PARTS rfl) (nomark _)))))) (pss_one (ps_ret (pe_tup (pa_cons pe_non (pa_cons (pv 1) pa_nil))))) pss_nil)
  (pss_cons (ps_if (pt_cmpR op_in_seq (pv 6) (pe_ctup T.g_PAIRS rfl) (by rfl)) (pss_one (ps_expr (pe_bm PySem.F.plainAttrs_list PySem.F.slot_list_extend PySem.F.type_list_extend mt_extend (pv 2) (pa_cons (pe_lst (pa_cons (pe_op op_add (pv 5) pe_int) (pa_cons (pe_op op_add (pv 5) pe_int) pa_nil))) pa_nil)))) (pss_one (ps_if (pt_val (pe_callC C_is_name (hr.mono (by decide)) rfl (pa_cons (pv 6) pa_nil))) (pss_one (ps_set (i := 6) sc_expr_in.nd rfl (Or.inl rfl) (pe_tup (pa_cons pe_str (pa_cons (pv 6) pa_nil))))) (pss_one (ps_if (pt_cmpR op_notN (pe_callC C_number_of (hr.mono (by decide)) rfl (pa_cons (pv 6) pa_nil)) pe_non (nomark _)) (pss_one (ps_set (i := 6) sc_expr_in.nd rfl (Or.inl rfl) (pe_tup (pa_cons pe_str (pa_cons (pe_callC C_number_of (hr.mono (by decide)) rfl (pa_cons (pv 6) pa_nil)) pa_nil))))) (pss_one (ps_ret (pe_tup (pa_cons pe_non (pa_cons (pv 1) pa_nil))))))))))
  (pss_cons (ps_expr (pe_bm PySem.F.plainAttrs_list PySem.F.slot_list_append PySem.F.type_list_append mt_append (pv 3) (pa_cons (pv 6) pa_nil)))
  (pss_cons (ps_aug (i := 1) sc_expr_in.nd rfl (Or.inl rfl) pe_int ip_add)
  (pss_one (ps_aug (i := 4) sc_expr_in.nd rfl (Or.inl rfl) pe_int ip_add)))))))))
  (pss_cons (ps_set (i := 7) sc_expr_in.nd rfl (Or.inl rfl) (pe_lst pa_nil))
  (pss_cons (ps_for PassesOwn.never rfl (pi_list (pe_revL (pv 3))) (pg_name (i := 6) sc_expr_in.nd rfl (Or.inl rfl))
   (pss_one (ps_if (pt_cmpR (op_inT hr.units1) (pv 6) (pe_ctup T.g_PAIRS rfl) (by rfl)) (pss_one (ps_expr (pe_bm PySem.F.plainAttrs_list PySem.F.slot_list_append PySem.F.type_list_append mt_append (pv 7) (pa_cons (pe_tup (pa_cons (pv 6) (pa_cons (pe_bm0 PySem.F.plainAttrs_list PySem.F.slot_list_pop PySem.F.type_list_pop mt_pop (pv 7)) (pa_cons (pe_bm0 PySem.F.plainAttrs_list PySem.F.slot_list_pop PySem.F.type_list_pop mt_pop (pv 7)) pa_nil)))) pa_nil)))) (pss_one (ps_expr (pe_bm PySem.F.plainAttrs_list PySem.F.slot_list_append PySem.F.type_list_append mt_append (pv 7) (pa_cons (pv 6) pa_nil)))))))
  (pss_one (ps_ret (pe_tup (pa_cons (pe_ix ix_list (pv 7) pe_int (fun _ _ => rfl)) (pa_cons (pv 1) pa_nil))))))))))), ?_⟩
  have hew := e.words_toks
  have hel := e.words_len
  have htl := e.toks_len
  refine ⟨by show 1 ≤ sizeLine; decide, fun l1 n1 => ?_⟩
  refine ⟨by show 0 ≤ sizeLine; decide, fun l2 n2 => ?_⟩
  have n21 : l2 ≠ l1 := fun z => by rw [z, upd_same] at n2; cases n2
  have m2 : H l2 = none := by rw [upd_ne n21] at n2; exact n2
  refine ⟨fun m σ H' => ∃ (x5 x6 : Option V) (S : List (Nat × Tw.E)) (ts : List Tok) (vs : List V), m = (S.flatMap fun p => p.2.toks).length ∧
    σ = [some (.ref lw), some (.int ((k + ts.length : Nat) : Int)), some (.ref l1), some (.ref l2), some (.int (ts.length : Nat)), x5, x6, none] ∧ Same H H' ∧
    H' l1 = some (.lst ((S.map fun p => V.int (p.1 : Nat)).reverse)) ∧ H' l2 = some (.lst vs) ∧ TdA K H' vs (ts.map Tok.d) ∧
    e.toks = ts ++ (S.flatMap fun p => p.2.toks) ∧ ∀ p ∈ S, p.2.wf = true ∧ p.1 + p.2.deep ≤ 9, ⟨_, none, none, [(1, e)], [], [], rfl, ?_, ?_, ?_, upd_same, tda_nil, ?_, ?_⟩, ?_⟩
  · rfl
  · exact same_put (same_new n1) m2
  · rw [upd_ne (Ne.symm n21), upd_same] <;> rfl
  · simp
  · intro p hp
    rw [List.mem_singleton] at hp
    subst hp
    exact ⟨hwf, by show 1 + e.deep ≤ 9; omega⟩
  rintro m σ H1 ⟨x5, x6, S, ts, vs, rfl, rfl, s1, h1, h2, hvs, hts, hS⟩
  refine ⟨_, rfl, (by show 0 ≤ sizeLine; decide), fun p hp => ?_⟩
  have np1 : l1 ≠ p := fun z => by rw [z, hp] at h1; cases h1
  have np2 : l2 ≠ p := fun z => by rw [z, hp] at h2; cases h2
  have sp' := same_put s1 (s1.free hp) (o := .lst [])
  have hvs' := hvs.same (same_new hp (o := .lst []))
  have h1' : upd H1 p (.lst []) l1 = some (.lst ((S.map fun p => V.int (p.1 : Nat)).reverse)) := by rw [upd_ne np1]; exact h1
  have h2' : upd H1 p (.lst []) l2 = some (.lst vs) := by rw [upd_ne np2]; exact h2
  refine ⟨l1, p, _, rfl, rfl, .inl ⟨.of h1', .of upd_same⟩, _, rfl, ?_⟩
  generalize upd H1 p (.lst []) = H2 at sp' hvs' h1' h2' ⊢
  clear hvs h1 h2 s1
  cases S with
  | nil =>
    refine iteF' (by rfl) ?_
    rw [List.flatMap_nil, List.append_nil] at hts
    subst hts
    have hn : vs.length = e.toks.length := by rw [hvs'.length, List.length_map]
    refine ⟨by show 0 ≤ sizeLine; decide, fun l3 n3 => ?_⟩
    have h2'' : upd H2 l3 (.lst []) l2 = some (.lst vs) := by rw [upd_ne (fun z => by rw [z, n3] at h2'; cases h2')]; exact h2'
    refine ⟨_, rfl, l2, vs, rfl, SqL.of h2'', fun l4 n4 => ⟨l4, rfl, ⟨_, SqL.of upd_same⟩, ?_⟩⟩
    have n43 : l4 ≠ l3 := fun z => by rw [z, upd_same] at n4; cases n4
    have m4 : H2 l4 = none := by rw [upd_ne n43] at n4; exact n4
    refine for_list (xs := vs.reverse) (fun i σ H' => ∃ (x6 : Option V) (es : List Tw.E) (ys : List V), σ = [some (.ref lw), some (.int ((k + e.toks.length : Nat) : Int)), some (.ref l1), some (.ref l2), some (.int (e.toks.length : Nat)), x5, x6, some (.ref l3)] ∧
      Same H2 H' ∧ H' l4 = some (.lst vs.reverse) ∧ H' l3 = some (.lst ys) ∧ bld? (e.toks.drop (e.toks.length - i)) = some es ∧ TdA K H' ys (es.map Tw.E.d).reverse ∧ ys.length ≤ i) ⟨x6, [], [], rfl, same_put (same_new n3) m4, upd_same, ?_, ?_, tda_nil, Nat.le_refl _⟩ ?_ ?_ ?_
    · rw [upd_ne (Ne.symm n43), upd_same]
    · rw [Nat.sub_zero, List.drop_length] <;> rfl
    · rintro i σ H' hi ⟨_, _, _, _, _, h, _⟩
      exact .of h
    · rintro i x σ H' hx ⟨x6, es, ys, rfl, s5, c4, c3, hb, hys, hyl⟩
      have hi : i < vs.length := by
        have := (List.getElem?_eq_some_iff.mp hx).1
        rwa [List.length_reverse] at this
      rw [List.getElem?_reverse hi] at hx
      obtain ⟨dd, hdd, hxd⟩ := (hvs'.same s5).get hx
      rw [List.getElem?_map] at hdd
      obtain ⟨t, ht, rfl⟩ := Option.map_eq_some_iff.mp hdd
      rw [hn] at ht
      have hdrop : e.toks.drop (e.toks.length - (i + 1)) = t :: e.toks.drop (e.toks.length - i) := by
        rw [show e.toks.length - i = e.toks.length - (i + 1) + 1 by omega]
        have hlt := (List.getElem?_eq_some_iff.mp ht).1
        rw [show e.toks.length - (i + 1) = e.toks.length - 1 - i by omega]
        rw [List.drop_eq_getElem_cons hlt]
        rw [List.getElem?_eq_getElem hlt] at ht
        rw [Option.some.inj ht]
      have hsome := bld_drop e.toks (e.toks.length - (i + 1)) (by rw [bld_one]; rfl)
      rw [hdrop] at hsome
      have fin : ∀ (H6 : Hp) (es' : List Tw.E) (zs : List V) (z : V), Same H2 H6 → H6 l4 = some (.lst vs.reverse) → H6 l3 = some (.lst zs) → bld? (t :: e.toks.drop (e.toks.length - i)) = some es' → TdA K H6 (zs ++ [z]) (es'.map Tw.E.d).reverse → (zs ++ [z]).length ≤ i + 1 →
          ∃ (x6 : Option V) (es : List Tw.E) (ys : List V), [some (.ref lw), some (.int ((k + e.toks.length : Nat) : Int)), some (.ref l1), some (.ref l2), some (.int (e.toks.length : Nat)), x5, some x, some (.ref l3)] = [some (.ref lw), some (.int ((k + e.toks.length : Nat) : Int)), some (.ref l1), some (.ref l2), some (.int (e.toks.length : Nat)), x5, x6, some (.ref l3)] ∧
      Same H2 (upd H6 l3 (.lst (zs ++ [z]))) ∧ upd H6 l3 (.lst (zs ++ [z])) l4 = some (.lst vs.reverse) ∧ upd H6 l3 (.lst (zs ++ [z])) l3 = some (.lst ys) ∧ bld? (e.toks.drop (e.toks.length - (i + 1))) = some es ∧ TdA K (upd H6 l3 (.lst (zs ++ [z]))) ys (es.map Tw.E.d).reverse ∧ ys.length ≤ i + 1 := by
        intro H6 es' zs z s6 d4 d3 hb' ht' hl'
        exact ⟨_, es', _, rfl, same_put s6 n3, by rw [upd_ne n43]; exact d4, upd_same, by rw [hdrop]; exact hb', ht'.put d3, hl'⟩
      have hys40 : ys.length ≤ 40 := by omega
      cases t with
      | op o =>
        obtain rfl : x = .str o.w := td_str.mp hxd
        obtain ⟨a, b, r, rfl⟩ : ∃ a b r, es = a :: b :: r := by
          rw [bld?, hb] at hsome
          match es, hsome with
          | a :: b :: r, _ => exact ⟨a, b, r, rfl⟩
        rw [List.map_cons, List.map_cons, List.reverse_cons, List.reverse_cons] at hys
        obtain ⟨zs, va, vb, rfl, hz, hva, hvb⟩ : ∃ zs va vb, ys = zs ++ [vb] ++ [va] ∧ TdA K H' zs (r.map Tw.E.d).reverse ∧ Td K H' va a.d ∧ Td K H' vb b.d := by
          have h1 : TdA K H' ys.reverse (a.d :: b.d :: r.map Tw.E.d) := by
            have := hys.reverse
            simpa using this
          obtain ⟨va, v1, e1, ha, h1⟩ := TdA.cons_of h1
          obtain ⟨vb, v2, e2, hb3, h3⟩ := TdA.cons_of h1
          subst e2
          have h2 := h3.reverse
          refine ⟨v2.reverse, va, vb, ?_, h2, ha, hb3⟩
          have := congrArg List.reverse e1
          rw [List.reverse_reverse] at this
          rw [this, List.reverse_cons, List.reverse_cons]
        refine ⟨_, rfl, _, _, Td.dp _ hxd, Td.dp (.tuple (c_PAIRS.map PyData.str)) (td_tup.mpr ⟨_, _, rfl, T.t_PAIRS H', TdA.strs _⟩), ?_, ?_, _, rfl, ?_⟩
        · cases o <;> decide +kernel
        · decide +kernel
        refine iteT' (by cases o <;> decide +kernel) ?_
        have e34 : l4 ≠ l3 := n43
        refine ⟨_, rfl, Or.inl ⟨rfl, _, SqL.of c3⟩, _, rfl, _, rfl, Or.inl ⟨rfl, _, SqL.of c3⟩, l3, _, _, rfl, rfl, c3, last_rev _ _, ?_⟩
        rw [List.dropLast_concat]
        refine ⟨_, rfl, Or.inl ⟨rfl, _, SqL.of upd_same⟩, l3, _, _, rfl, rfl, upd_same, last_rev _ _, ?_⟩
        rw [List.dropLast_concat, upd_upd]
        refine ⟨(by show 3 ≤ sizeLine; decide), fun p hp => ?_⟩
        have np3 : l3 ≠ p := fun z => by rw [← z, upd_same] at hp; cases hp
        have hp2 : H' p = none := by rw [upd_ne (Ne.symm np3)] at hp; exact hp
        have g3 : upd (upd H' l3 (.lst zs)) p (.tup [.str o.w, va, vb]) l3 = some (.lst zs) := by rw [upd_ne np3, upd_same]
        have s6 : Same H2 (upd (upd H' l3 (.lst zs)) p (.tup [.str o.w, va, vb])) := same_put (same_put s5 n3) (s5.free hp2)
        refine ⟨l3, zs, _, rfl, rfl, g3, ?_, ?_⟩
        · rw [sizeLine_eq]
          simp only [List.length_append, List.length_singleton] at hys40
          omega
        refine fin _ (Tw.E.bin o a b :: r) zs _ s6 ?_ g3 ?_ ?_ ?_
        · rw [upd_ne (fun z => by rw [← z, c4] at hp2; cases hp2), upd_ne e34]; exact c4
        · rw [bld?, hb]
        · rw [List.map_cons, List.reverse_cons]
          have k3 : ∀ {v d}, Td K H' v d → Td K (upd H' l3 (.lst zs)) v d := fun h => h.put c3
          refine TdA.append ((hz.put c3).same (same_new hp)) (tda_cons.mpr ⟨Td.new hp (tda_cons.mpr ⟨td_str.mpr rfl, tda_cons.mpr ⟨k3 hva, tda_cons.mpr ⟨k3 hvb, tda_nil⟩⟩⟩), tda_nil⟩)
        · simp only [List.length_append, List.length_singleton] at hyl ⊢
          omega
      | num n =>
        have hno : ((c_PAIRS.map PyData.str).any fun z => PyData.eqv z (Tok.d (.num n))) = false := by rfl
        refine ⟨_, rfl, _, _, Td.dp _ hxd, Td.dp (.tuple (c_PAIRS.map PyData.str)) (td_tup.mpr ⟨_, _, rfl, T.t_PAIRS H', TdA.strs _⟩), by unfold SeqAt.shaped; rw [show (Tok.d (.num n)).canLay0 = true by simp [Tok.d, PyData.canLay0, PyData.canLayAll0]; decide +kernel]; rfl, (by decide +kernel), _, rfl, ?_⟩
        refine iteF' hno ?_
        refine ⟨_, rfl, Or.inl ⟨rfl, _, SqL.of c3⟩, _, rfl, l3, _, _, rfl, rfl, c3, (by rw [sizeLine_eq]; omega), ?_⟩
        refine fin H' (Tw.E.num n :: es) ys x s5 c4 c3 (by rw [bld?, hb]; rfl) ?_ (by rw [List.length_append, List.length_singleton]; omega)
        rw [List.map_cons, List.reverse_cons]
        exact hys.append (tda_cons.mpr ⟨hxd, tda_nil⟩)
      | nam y =>
        have hno : ((c_PAIRS.map PyData.str).any fun z => PyData.eqv z (Tok.d (.nam y))) = false := by rfl
        have hy : PyData.strOk y = true := by
          have : ∀ (e : Tw.E), e.wf = true → ∀ y, Tok.nam y ∈ e.toks → isName y = true := by
            intro e
            induction e with
            | num n => intro _ y h; simp [Tw.E.toks] at h
            | nam x => intro h y hy; simp [Tw.E.toks] at hy; rw [hy]; exact h
            | bin o a b iha ihb =>
              intro h y hy
              obtain ⟨w1, w2⟩ := Bool.and_eq_true_iff.mp (show (a.wf && b.wf) = true from h)
              simp [Tw.E.toks] at hy
              rcases hy with hy | hy
              · exact iha w1 y hy
              · exact ihb w2 y hy
          exact name_ok (this e hwf y (List.mem_of_getElem? ht))
        refine ⟨_, rfl, _, _, Td.dp _ hxd, Td.dp (.tuple (c_PAIRS.map PyData.str)) (td_tup.mpr ⟨_, _, rfl, T.t_PAIRS H', TdA.strs _⟩), ?_, (by decide +kernel), _, rfl, ?_⟩
        · have h1 : (Tok.d (.nam y)).canLay0 = true := by simp [Tok.d, PyData.canLay0, PyData.canLayAll0, hy]; decide +kernel
          unfold SeqAt.shaped
          rw [h1]
          rfl
        refine iteF' hno ?_
        refine ⟨_, rfl, Or.inl ⟨rfl, _, SqL.of c3⟩, _, rfl, l3, _, _, rfl, rfl, c3, (by rw [sizeLine_eq]; omega), ?_⟩
        refine fin H' (Tw.E.nam y :: es) ys x s5 c4 c3 (by rw [bld?, hb]; rfl) ?_ (by rw [List.length_append, List.length_singleton]; omega)
        rw [List.map_cons, List.reverse_cons]
        exact hys.append (tda_cons.mpr ⟨hxd, tda_nil⟩)
    · rintro σ H' ⟨x6, es, ys, rfl, s5, c4, c3, hb, hys, hyl⟩
      rw [List.length_reverse, hn, Nat.sub_self, List.drop_zero, bld_one] at hb
      cases hb
      obtain ⟨v, r, rfl, hv, hr⟩ := TdA.cons_of hys
      obtain rfl := hr.nil_of
      refine ⟨_, rfl, _, _, _, _, rfl, rfl, .of c3, rfl, _, rfl, (by show 2 ≤ sizeLine; decide), fun p hp => ?_⟩
      rw [htl]
      exact q _ p v ((sp'.trans s5).trans (same_new hp)) (.of upd_same) (hv.same (same_new hp))
  | cons de S =>
    obtain ⟨d, f⟩ := de
    refine iteT' (by simp) ?_
    have e1 : (((d, f) :: S).map fun p => V.int (p.1 : Nat)).reverse = (S.map fun p => V.int (p.1 : Nat)).reverse ++ [.int (d : Nat)] := by rw [List.map_cons, List.reverse_cons]
    rw [e1] at h1'
    obtain ⟨hfw, hfd⟩ : f.wf = true ∧ d + f.deep ≤ 9 := hS (d, f) (List.mem_cons_self ..)
    have hS' : ∀ p ∈ S, p.2.wf = true ∧ p.1 + p.2.deep ≤ 9 := fun p hp => hS p (List.mem_cons_of_mem _ hp)
    have hfp := f.deep_pos
    have hlen : ts.length + f.toks.length ≤ e.parts := by
      rw [← htl, hts, List.flatMap_cons, List.length_append, List.length_append]
      dsimp only
      omega
    refine ⟨fun σ' H' => ∃ (x5 x6 : Option V) (S' : List (Nat × Tw.E)) (ts' : List Tok) (vs : List V), (S'.flatMap fun p => p.2.toks).length < (((d, f) :: S).flatMap fun p => p.2.toks).length ∧
      σ' = [some (.ref lw), some (.int ((k + ts'.length : Nat) : Int)), some (.ref l1), some (.ref l2), some (.int (ts'.length : Nat)), x5, x6, none] ∧ Same H H' ∧
      H' l1 = some (.lst ((S'.map fun p => V.int (p.1 : Nat)).reverse)) ∧ H' l2 = some (.lst vs) ∧ TdA K H' vs (ts'.map Tok.d) ∧
      e.toks = ts' ++ (S'.flatMap fun p => p.2.toks) ∧ ∀ p ∈ S', p.2.wf = true ∧ p.1 + p.2.deep ≤ 9, fun σ' H' ⟨x5, x6, S', ts', vs, hm, r⟩ => ⟨_, hm, x5, x6, S', ts', vs, rfl, r⟩, ?_⟩
    refine ⟨_, rfl, Or.inl ⟨rfl, _, SqL.of h1'⟩, l1, _, _, rfl, rfl, h1', last_rev _ _, ?_⟩
    rw [List.dropLast_concat]
    have k1 : Kp [l1] H2 (upd H2 l1 (.lst (S.map fun p => V.int (p.1 : Nat)).reverse)) := .at
    have s2 := same_put sp' n1 (o := .lst (S.map fun p => V.int (p.1 : Nat)).reverse)
    have a2 := hvs'.put h1' (o := .lst (S.map fun p => V.int (p.1 : Nat)).reverse)
    have b1 : upd H2 l1 (.lst (S.map fun p => V.int (p.1 : Nat)).reverse) l1 = _ := upd_same
    have b2 : upd H2 l1 (.lst (S.map fun p => V.int (p.1 : Nat)).reverse) l2 = some (.lst vs) := by rw [upd_ne n21]; exact h2'
    generalize upd H2 l1 (.lst (S.map fun p => V.int (p.1 : Nat)).reverse) = H3 at s2 a2 b1 b2 ⊢
    clear k1 h1' h2' sp' hvs' np1 np2 hp
    have hlw3 : SqL K H3 lw (ws.map V.str) := by
      rcases hlw with h | h
      · rcases h with h | ⟨ob, h⟩
        · exact .inl (.inl (s2 _ _ h))
        · exact .inl (.inr ⟨ob, s2 _ _ h⟩)
      · exact .inr h
    -- the word
    obtain ⟨t, ft, hft⟩ : ∃ t ft, f.toks = t :: ft := by
      cases f <;> exact ⟨_, _, rfl⟩
    have hw1 : ws[k + ts.length]? = some t.w := by
      have hl : ts.length < e.words.length := by rw [hel]; rw [hft, List.length_cons] at hlen; omega
      rw [hws _ hl, hew, hts, List.flatMap_cons, List.map_append, List.getElem?_append_right (by simp)]
      dsimp only
      rw [hft]
      simp
    have hw2 : k + ts.length < ws.length := (List.getElem?_eq_some_iff.mp hw1).1
    refine ⟨_, rfl, _, rfl, _, _, rfl, .inl hlw3, _, _, rfl, rfl, _, rfl, ?_⟩
    refine iteT' (decide_eq_true (by rw [List.length_map]; omega)) ?_
    refine ⟨_, rfl, _, rfl, _, _, _, _, rfl, rfl, hlw3, (atI_nat (j := k + ts.length) (by rw [List.getElem?_map, hw1]; rfl)), ?_⟩
    refine ⟨_, rfl, rfl, _, rfl, ?_⟩
    refine iteF' (by rfl) ?_
    refine ⟨_, rfl, _, _, rfl, rfl, _, rfl, ?_⟩
    refine iteF' (decide_eq_false (by omega)) ?_
    have hcc : ts.length < 40 := by rw [hft, List.length_cons] at hlen; omega
    refine ⟨_, rfl, rfl, _, rfl, ?_⟩
    refine iteF' (decide_eq_false (fun z => by have := V.int.inj z; omega)) ?_
    have fin : ∀ (σ : L2.St) (H4 : Hp) (S' : List (Nat × Tw.E)) (y : V) (D : Ends), σ = [some (.ref lw), some (.int ((k + ts.length : Nat) : Int)), some (.ref l1), some (.ref l2), some (.int (ts.length : Nat)), some (.int (d : Nat)), some y, none] → Same H H4 →
        H4 l1 = some (.lst ((S'.map fun p => V.int (p.1 : Nat)).reverse)) → H4 l2 = some (.lst vs) → TdA K H4 vs (ts.map Tok.d) → Td K H4 y t.d → (S'.flatMap fun p => p.2.toks) = ft ++ (S.flatMap fun p => p.2.toks) → (∀ p ∈ S', p.2.wf = true ∧ p.1 + p.2.deep ≤ 9) →
        (∀ σ' H', (∃ (x5 x6 : Option V) (S' : List (Nat × Tw.E)) (ts' : List Tok) (vs : List V), (S'.flatMap fun p => p.2.toks).length < (((d, f) :: S).flatMap fun p => p.2.toks).length ∧
      σ' = [some (.ref lw), some (.int ((k + ts'.length : Nat) : Int)), some (.ref l1), some (.ref l2), some (.int (ts'.length : Nat)), x5, x6, none] ∧ Same H H' ∧
      H' l1 = some (.lst ((S'.map fun p => V.int (p.1 : Nat)).reverse)) ∧ H' l2 = some (.lst vs) ∧ TdA K H' vs (ts'.map Tok.d) ∧
      e.toks = ts' ++ (S'.flatMap fun p => p.2.toks) ∧ ∀ p ∈ S', p.2.wf = true ∧ p.1 + p.2.deep ≤ 9) → D.nx σ' H') →
        (tSeq (tDrop (tBM K "list" rAppend (tVar 3) (tCons (tVar 6) tNil))) (tSeq (tAug 1 (tC (.int 1)) (ipI fun i j => i + j)) (tAug 4 (tC (.int 1)) (ipI fun i j => i + j)))) D σ H4 := by
      intro σ H4 S' y D es s4 c1 c2 a4 ay hS1 hS2 hD
      subst es
      have hvl := a4.length
      rw [List.length_map] at hvl
      refine ⟨_, rfl, Or.inl ⟨rfl, _, SqL.of c2⟩, _, rfl, l2, vs, _, rfl, rfl, c2, (by rw [sizeLine_eq]; omega), ?_⟩
      refine ⟨_, rfl, _, _, rfl, rfl, ?_⟩
      refine ⟨_, rfl, _, _, rfl, rfl, ?_⟩
      refine hD _ _ ⟨some (.int (d : Nat)), some y, S', ts ++ [t], vs ++ [y], ?_, ?_, same_put s4 m2, ?_, upd_same, ?_, ?_, hS2⟩
      · rw [hS1, List.flatMap_cons]
        dsimp only
        rw [hft, List.length_append, List.length_append, List.length_cons]
        omega
      · show [some (V.ref lw), some (V.int (((k + ts.length : Nat) : Int) + 1)), some (V.ref l1), some (V.ref l2), some (V.int ((ts.length : Int) + 1)), some (V.int d), some y, none] = _
        rw [List.length_append, List.length_singleton] <;> rfl
      · rw [upd_ne (Ne.symm n21)]; exact c1
      · rw [List.map_append]
        exact (a4.put c2).append (tda_cons.mpr ⟨ay.put c2, tda_nil⟩)
      · rw [hts, List.flatMap_cons, hS1]
        dsimp only
        rw [hft]
        simp
    cases f with
    | bin o a b =>
      cases hft
      have hfd2 : d + (1 + max a.deep b.deep) ≤ 9 := hfd
      obtain ⟨w1, w2⟩ := Bool.and_eq_true_iff.mp (show (a.wf && b.wf) = true from hfw)
      refine ⟨_, rfl, _, _, rfl, .inr (T.t_PAIRS H3), rfl, flat_strs _, _, rfl, ?_⟩
      refine iteT' (by show (if false = true then _ else inV (V.str o.w) (c_PAIRS.map V.str)) = true; rw [if_neg Bool.false_ne_true, inV_strs]; exact decide_eq_true (op_in_pairs o)) ?_
      refine ⟨_, rfl, Or.inl ⟨rfl, _, SqL.of b1⟩, _, rfl, _, _, rfl, rfl, _, rfl, _, _, rfl, rfl, (by show 2 ≤ sizeLine; decide), fun p hp => ?_⟩
      have np1 : l1 ≠ p := fun z => by rw [z, hp] at b1; cases b1
      have np2 : l2 ≠ p := fun z => by rw [z, hp] at b2; cases b2
      have hSl : S.length ≤ 40 := by
        have : ∀ S : List (Nat × Tw.E), S.length ≤ (S.flatMap fun p => p.2.toks).length := by
          intro S
          induction S with
          | nil => simp
          | cons p S ih =>
            have := p.2.parts_pos
            have := p.2.toks_len
            rw [List.flatMap_cons, List.length_append, List.length_cons]
            omega
        have := this S
        have : e.toks.length = e.parts := htl
        rw [hts, List.flatMap_cons, List.length_append, List.length_append] at this
        omega
      refine ⟨l1, p, _, _, rfl, rfl, by rw [upd_ne np1]; exact b1, upd_same, ?_, ?_⟩
      · rw [List.length_reverse, List.length_map]
        show S.length + 2 ≤ sizeLine
        rw [sizeLine_eq]; omega
      refine fin _ _ ((d + 1, a) :: (d + 1, b) :: S) _ _ rfl (same_put (same_put s2 (s2.free hp)) n1) ?_ ?_ ?_ (td_str.mpr rfl) ?_ ?_ (fun _ _ h => h)
      · rw [upd_same]
        simp
      · rw [upd_ne n21, upd_ne np2]; exact b2
      · exact (a2.same (same_new hp)).put (by rw [upd_ne np1]; exact b1)
      · simp
      · intro p hp
        rcases List.mem_cons.mp hp with e | hp
        · rw [e]; exact ⟨w1, by dsimp only; omega⟩
        · rcases List.mem_cons.mp hp with e | hp
          · rw [e]; exact ⟨w2, by dsimp only; omega⟩
          · exact hS' p hp
    | nam x =>
      cases hft
      have hx : isName x = true := hfw
      refine ⟨_, rfl, _, _, rfl, .inr (T.t_PAIRS H3), rfl, flat_strs _, _, rfl, ?_⟩
      refine iteF' (by show (if false = true then _ else inV (V.str x) (c_PAIRS.map V.str)) = false; rw [if_neg Bool.false_ne_true, inV_strs]; exact decide_eq_false (name_pairs hx)) ?_
      refine ⟨_, rfl, x, rfl, by have := name_len hx; omega, fun H4 s4 => ?_⟩
      rw [hx]
      refine ⟨_, rfl, ?_⟩
      refine iteT ?_
      refine ⟨_, rfl, (by show 2 ≤ sizeLine; decide), fun p hp => ?_⟩
      have s5 := s4.trans (same_new hp (o := .tup [.str "name", .str x]))
      refine fin _ _ S _ _ rfl (s2.trans s5) (s5 _ _ b1) (s5 _ _ b2) (a2.same s5) ?_ rfl hS' (fun _ _ h => h)
      exact Td.new hp (tda_cons.mpr ⟨td_str.mpr rfl, tda_cons.mpr ⟨td_str.mpr rfl, tda_nil⟩⟩)
    | num n =>
      cases hft
      have hn : n ≤ 996 := of_decide_eq_true hfw
      refine ⟨_, rfl, _, _, rfl, .inr (T.t_PAIRS H3), rfl, flat_strs _, _, rfl, ?_⟩
      refine iteF' (by show (if false = true then _ else inV (V.str (numS n)) (c_PAIRS.map V.str)) = false; rw [if_neg Bool.false_ne_true, inV_strs]; exact decide_eq_false (fig_pairs hn)) ?_
      refine ⟨_, rfl, numS n, rfl, by have := numS_len hn; omega, fun H4 s4 => ?_⟩
      rw [fig_name]
      refine ⟨_, rfl, ?_⟩
      refine iteF ?_
      refine ⟨_, rfl, n, rfl, hn, fun H5 s5 => ?_⟩
      refine ⟨rfl, _, rfl, ?_⟩
      refine iteT' (by rfl) ?_
      refine ⟨_, rfl, n, rfl, hn, fun H6 s6 => ?_⟩
      refine ⟨(by show 2 ≤ sizeLine; decide), fun p hp => ?_⟩
      have s7 := ((s4.trans s5).trans s6).trans (same_new hp (o := .tup [.str "number", .int n]))
      refine fin _ _ S _ _ rfl (s2.trans s7) (s7 _ _ b1) (s7 _ _ b2) (a2.same s7) ?_ rfl hS' (fun _ _ h => h)
      exact Td.new hp (tda_cons.mpr ⟨td_str.mpr rfl, tda_cons.mpr ⟨td_int.mpr rfl, tda_nil⟩⟩)
end
end Tw
set_option Elab.async false
set_option linter.all false
set_option maxRecDepth 100000
set_option maxHeartbeats 4000000
/-! sets of texts: set(list), sorted(set) -/
namespace Tw
open PySem PySem.Spec PyProof.Rows L2 PySem.Froz
theorem perm_of_sub {α : Type} [DecidableEq α] : ∀ (l ks : List α), l.Nodup → ks.length = l.length → (∀ x ∈ l, x ∈ ks) → ks.Perm l
  | [], ks, _, hl, _ => by rw [List.length_nil] at hl; rw [List.length_eq_zero_iff.mp hl]
  | x :: l, ks, hn, hl, hs => by
    obtain ⟨h1, h2⟩ := List.nodup_cons.mp hn
    have hx := hs x List.mem_cons_self
    have p := List.perm_cons_erase hx
    refine p.trans (List.Perm.cons x (perm_of_sub l (ks.erase x) h2 ?_ fun y hy => ?_))
    · have := p.length_eq
      rw [List.length_cons] at this hl
      omega
    · have hne : y ≠ x := fun z => h1 (z ▸ hy)
      exact (List.mem_erase_of_ne hne).mpr (hs y (List.mem_cons_of_mem _ hy))
structure StS (P : Program) (w : World) (h : Heap) (a : Addr) (l : List Str) : Prop where
  ex : ∃ D : SD, h.get? a = some (sObj "set" D) ∧ TxOk P w D l ∧ Ris D.2.2.place.toList ∧ (w.params.followText "set-order" = true ∨ D.2.2.led = true)
  nd : l.Nodup
section
variable {P : Program} {w : World} {A : Around} {E : Value → Shared → Prop} {s : Shared}
theorem StS.keep {h h' : Heap} {a : Addr} {l : List Str} (R : StS P w h a l) (k : ∀ o, h.get? a = some o → h'.get? a = some o) : StS P w h' a l := by
  obtain ⟨⟨D, ho, r⟩, nd⟩ := R
  exact ⟨⟨D, k _ ho, r⟩, nd⟩
theorem tail_ris {ep : Nat} {es1 : Array (Int × Value)} {t2 : SetTable} {b : Bool} (r : Ris t2.place.toList) : Ris (tailTx ep es1 t2 b).2.2.place.toList := by
  unfold tailTx
  split
  · exact relayAll_ris _ _ _
  · exact r
theorem tail_led {ep : Nat} {es1 : Array (Int × Value)} {t2 : SetTable} {b : Bool} : (tailTx ep es1 t2 b).2.2.led = t2.led := by
  unfold tailTx
  split
  · exact relayAll_led _ _ _
  · rfl
theorem addTx_ris {h : Int} {v : Value} {D : SD} (r : Ris D.2.2.place.toList) : Ris (addTx h v D).2.2.place.toList := by
  unfold addTx
  refine tail_ris ?_
  have := layNew_ris D.2.2 D.1 h v r
  split <;> exact this
theorem addTx_led {h : Int} {v : Value} {D : SD} : (addTx h v D).2.2.led = D.2.2.led := by
  unfold addTx
  rw [tail_led]
  have := layNew_led D.2.2 D.1 h v
  split <;> exact this
theorem add_old {a : Addr} {T : String} {D : SD} {l : List Str} {k : Str} {u : PySem.Tok} {Q : Bool → Shared → Prop} (ho : s.heap.get? a = some (sObj T D)) (F : TxOk P w D l) (hk : k ∈ l) (hb : l.length < scanBound)
    (h : Q false s) : wpAny (model P w) A (setAddHashed a (.str k u) (hashStr w k)) Q E s := by
  obtain ⟨es, ep, t⟩ := D
  have hd : (sObj T (es, ep, t)).data = .set es ep t := rfl
  have hf : t.fits es.size = true := F.fit
  have hel : ElemsOf (strKind P w) es.toList := F.el
  have hsz : es.size = l.length := F.sz
  have hb0 : es.size < scanBound := by omega
  have hkey : (strKind P w).is k (.str k u) = true := is_str k u
  obtain ⟨e, he, pe⟩ := (F.mem k).mp hk
  unfold setAddHashed setAddHashedIn
  refine wpAny_holding (wpAny_bind (wpAny_setState_of ho hd hf ?_))
  dsimp only
  rw [byScan_of rfl hb0 hel]
  simp only [↓reduceIte]
  unfold setAddByScan
  refine wpAny_bind ?_
  refine wpAny_bind (wpAny_rule ?_)
  refine wpAny_bind (wpAny_setScan_of (knd := strKind P w) (k := k) hkey ho hd hf hel ?_)
  cases hfi : List.findIdx? (fun e => (strKind P w).is k e.2) es.toList with
  | some j =>
    dsimp only
    exact wpAny_pure (wpAny_pure h)
  | none =>
    have c := List.findIdx?_eq_none_iff.mp hfi e he
    rw [pe] at c
    cases c
theorem scan_room {n : Nat} (h : n < 1000) : n + 1 < scanBound := by unfold scanBound; omega
theorem stS_add {a : Addr} {l : List Str} {k : Str} {u : PySem.Tok} {Q : Bool → Shared → Prop} (R : StS P w s.heap a l) (hb : l.length < 1000)
    (h : ∀ b h' l', Heap.SameBut a s.heap h' → StS P w h' a l' → l' = (if k ∈ l then l else k :: l) → Q b { s with heap := h' }) : wpAny (model P w) A (setAddHashed a (.str k u) (hashStr w k)) Q E s := by
  obtain ⟨⟨D, ho, F, r, ld⟩, nd⟩ := R
  by_cases hk : k ∈ l
  · refine add_old ho F hk (by have := scan_room hb; omega) ?_
    exact h _ s.heap l (Heap.SameBut.refl a s.heap) ⟨⟨D, ho, F, r, ld⟩, nd⟩ (by rw [if_pos hk])
  · refine add_x ho F hk (scan_room hb) ?_
    refine h _ _ (k :: l) (Heap.SameBut.update s.heap a _) ⟨⟨_, get_upd _ ho rfl, add_ok u F, addTx_ris r, ?_⟩, List.nodup_cons.mpr ⟨hk, nd⟩⟩ (by rw [if_neg hk])
    rw [addTx_led]
    exact ld
theorem stS_fresh {h : Heap} {a : Addr} (ho : h.get? a = some { cls := .type "set", dict := none, data := .set #[] 0 (.fresh 0 0 (!w.params.followText "set-order")) }) : StS P w h a [] where
  ex := ⟨(#[], 0, .fresh 0 0 (!w.params.followText "set-order")), ho, TxOk.nil (by rfl), List.Pairwise.nil, by
    show _ ∨ (!w.params.followText "set-order") = true
    cases w.params.followText "set-order"
    · exact .inr rfl
    · exact .inl rfl⟩
  nd := List.nodup_nil
/-- the texts of xs, each once -/
def gotS : List Str → List Str → List Str
  | [], l => l
  | x :: xs, l => gotS xs (if x ∈ l then l else x :: l)
theorem gotS_mem : ∀ (xs l : List Str) (y : Str), y ∈ gotS xs l ↔ y ∈ l ∨ y ∈ xs
  | [], l, y => by simp [gotS]
  | x :: xs, l, y => by
    rw [gotS, gotS_mem xs]
    by_cases h : x ∈ l
    · rw [if_pos h]
      simp only [List.mem_cons]
      constructor
      · rintro (a | a)
        · exact .inl a
        · exact .inr (.inr a)
      · rintro (a | a | a)
        · exact .inl a
        · exact .inl (a ▸ h)
        · exact .inr a
    · rw [if_neg h]
      simp only [List.mem_cons]
      constructor
      · rintro ((a | a) | a)
        · exact .inr (.inl a)
        · exact .inl a
        · exact .inr (.inr a)
      · rintro (a | a | a)
        · exact .inl (.inr a)
        · exact .inl (.inl a)
        · exact .inr a
theorem gotS_nodup : ∀ (xs l : List Str), l.Nodup → (gotS xs l).Nodup
  | [], _, h => h
  | x :: xs, l, h => by
    rw [gotS]
    by_cases hx : x ∈ l
    · rw [if_pos hx]; exact gotS_nodup xs l h
    · rw [if_neg hx]; exact gotS_nodup xs _ (List.nodup_cons.mpr ⟨hx, h⟩)
theorem gotS_len : ∀ (xs l : List Str), (gotS xs l).length ≤ xs.length + l.length
  | [], l => by rw [gotS]; simp
  | x :: xs, l => by
    rw [gotS, List.length_cons]
    by_cases h : x ∈ l
    · rw [if_pos h]
      have := gotS_len xs l
      omega
    · rw [if_neg h]
      have := gotS_len xs (x :: l)
      rw [List.length_cons] at this
      omega
/-- set.update's loop -/
theorem set_update_strs {I : Addr} {fp wr : List Addr} {G : Array GenState → Array GenState → Prop} {n : Nat} {Pv : Nat → Value → Prop} {St : Nat → Shared → Prop} {R : Result → Shared → Prop}
    (W : WalksS P w A.in1 I fp wr G n Pv St) (S : Addr) (hSf : S ∉ fp) (xs : List Str) (hn : n = xs.length) (hfew : xs.length < 900) (hval : ∀ i v, Pv i v → ∃ x t, xs[i]? = some x ∧ v = .str x t)
    (h0 : Heap) (hS0 : h0.get? S = none) (hw0 : ∀ b ∈ wr, h0.get? b = none) :
    ∀ (k i : Nat) (l : List Str) (s : Shared), n - i = k → i ≤ n → St i s → (∀ b o, h0.get? b = some o → s.heap.get? b = some o) → StS P w s.heap S l → l.length ≤ i →
      (∀ s', Moved (S :: wr) G s s' → StS P w s'.heap S (gotS (xs.drop i) l) → (∀ b o, h0.get? b = some o → s'.heap.get? b = some o) → R (.ok (.ret .none)) s') →
      codeAny (model P w) A (.builtin "set.update.loop" ⟨[.ref S, .ref I], []⟩) R s := by
  have hSw : S ∉ wr := fun h => hSf (W.sub _ h)
  have hsub : ∀ b ∈ wr, b ∈ S :: wr := fun b hb => List.mem_cons_of_mem _ hb
  have keepM : ∀ {s s' : Shared}, Moved wr G s s' → (∀ b o, h0.get? b = some o → s.heap.get? b = some o) → ∀ b o, h0.get? b = some o → s'.heap.get? b = some o := fun hm hkp b o e =>
    hm.heap b o (fun hb => by rw [hw0 b hb] at e; cases e) (hkp b o e)
  intro k
  induction k with
  | zero =>
    intro i l s hk' hi hst hkp hS hl hR
    have hin : i = n := by omega
    subst hin
    refine codeAny_builtin F.entry_set_update_loop ?_
    rw [Around.under_plainId F.plain_set_update_loop _]
    show wpAny _ A.in1 (pyNext (.ref I) >>= _) _ _ s
    refine wpAny_bind (W.done s _ _ hst fun s' hm => ?_)
    show wpAny _ A.in1 (ret Value.none) _ _ s'
    have hkp' := keepM hm hkp
    refine wpAny_pure (hR s' (hm.mono hsub) ?_ hkp')
    rw [hn, List.drop_length, gotS]
    exact hS.keep fun o e => hm.heap S o hSw e
  | succ k ih =>
    intro i l s hk' hi hst hkp hS hl hR
    have hlt : i < n := by omega
    refine codeAny_builtin F.entry_set_update_loop ?_
    rw [Around.under_plainId F.plain_set_update_loop _]
    show wpAny _ A.in1 (pyNext (.ref I) >>= _) _ _ s
    refine wpAny_bind (W.item i s _ _ hlt hst fun v s' hP hst' hm => ?_)
    obtain ⟨x, t, hx, rfl⟩ := hval i v hP
    have hkp' := keepM hm hkp
    have hS' : StS P w s'.heap S l := hS.keep fun o e => hm.heap S o hSw e
    show wpAny _ A.in1 (holding [Value.str x t] (setAdd S (.str x t)) >>= _) _ _ s'
    refine wpAny_bind (wpAny_holding ?_)
    unfold setAdd
    refine wpAny_holding ?_
    refine wpAny_bind ((strKind P w).pyHash (k := x) (is_str x t) ?_)
    refine stS_add (s := { s' with toks := s'.toks + 1 }) hS' (by omega) fun b h' l' hsb hS2 el => ?_
    have hdrop : xs.drop i = x :: xs.drop (i + 1) := by
      have hi' : i < xs.length := by omega
      rw [List.drop_eq_getElem_cons hi']
      rw [List.getElem?_eq_getElem hi'] at hx
      rw [Option.some.inj hx]
    have hkp2 : ∀ b o, h0.get? b = some o → h'.get? b = some o := fun b o e => (hsb.2 b (fun z => by rw [z, hS0] at e; cases e)).trans (hkp' b o e)
    have hl' : l'.length ≤ i + 1 := by
      rw [el]
      split
      · omega
      · rw [List.length_cons]; omega
    refine wpAny_pure ⟨plainId_quiet F.plain_set_update_loop _, ih (i + 1) l' _ (by omega) hlt (W.frame _ s' _ _ hst' (Nat.le_succ _) fun b hb o e => ?_) hkp2 hS2 hl' fun s'' hm'' hS'' hkp'' => ?_⟩
    · rw [hsb.2 b (fun h : b = S => hSf (by rw [← h]; exact hb))]; exact e
    · refine hR s'' (Moved.trans W.gtrans ((hm.mono hsub).then_heap (Nat.le_succ _) fun b o hb e => ?_) hm'') ?_ hkp''
      · rw [hsb.2 b (fun h : b = S => hb (by rw [h]; exact List.mem_cons_self))]; exact e
      · rw [hdrop, gotS, ← el]
        exact hS''
theorem strsAre_get : ∀ {vs : List Value} {xs : List Str} {i : Nat} {v : Value}, StrsAre vs xs → vs[i]? = some v → ∃ x t, xs[i]? = some x ∧ v = .str x t := by
  intro vs xs i v h
  induction h generalizing i with
  | nil => intro e; simp at e
  | cons x u _ ih =>
    intro e
    cases i with
    | zero =>
      simp at e
      exact ⟨x, u, rfl, e.symm⟩
    | succ i =>
      simp at e
      obtain ⟨y, t, h1, h2⟩ := ih e
      exact ⟨y, t, by simpa using h1, h2⟩
set_option maxHeartbeats 3200000 in
/-- set(xs) -/
theorem call_set_strs {l : Addr} {items : Array Value} {xs : List Str} {Q : Value → Shared → Prop} (hh : A.handled = none) (hl : s.heap.IsList l items) (hit : StrsAre items.toList xs) (hfew : xs.length < 900)
    (h : ∀ (h' : Heap) (tk : Nat), StS P w h' s.heap.objs.size (gotS xs []) → (∀ b o, s.heap.get? b = some o → h'.get? b = some o) → Q (.ref s.heap.objs.size) { s with heap := h', toks := tk }) :
    wpAny (model P w) A (call (.type "set") [.ref l]) Q E s := by
  have hisz : items.size = xs.length := by rw [← StrsAre.len_eq hit, Array.length_toList]
  obtain ⟨c, tl, hmro⟩ := F.called_set.mro
  have hmade := F.called_set.made
  have hsub := F.called_set.sub
  refine wpAny_call (codeAny_of_tree ?_)
  show wpAny _ _ (callAny (.type "set") _) _ _ _
  refine wpAny_pure ⟨Code.quiet_builtin _ (by decide +kernel), codeAny_builtin F.entry_type_call ?_⟩
  rw [Around.under_plain (weight_type_call_type "set" [.ref l] []) rfl]
  have h1 := F.called_set.notType
  have h2 := F.called_set.canCreate
  have hct := F.typeCall_set_1 (.ref l)
  repeat (any_goals (first | assumption | wp_step))
  refine codeAny_mono (code_set_led1 (.ref l) (E := E) (Q₁ := fun obj s₁ => obj = .ref s.heap.objs.size ∧ s₁ = { s with heap := s.heap.push { cls := .type "set", dict := none, data := .set #[] 0 (.fresh 0 0 (!w.params.followText "set-order")) } }) ⟨rfl, rfl⟩) fun r s₁ hr => ?_
  cases r with
  | error e => exact hr
  | ok fl =>
    cases fl with
    | ret obj =>
      obtain ⟨rfl, rfl⟩ := hr
      have hS : (s.heap.push { cls := .type "set", dict := none, data := .set #[] 0 (.fresh 0 0 (!w.params.followText "set-order")) }).get? s.heap.objs.size = some { cls := .type "set", dict := none, data := .set #[] 0 (.fresh 0 0 (!w.params.followText "set-order")) } := Heap.get?_push_size _ rfl
      have hT : Shared.TypeIs { s with heap := s.heap.push { cls := .type "set", dict := none, data := .set #[] 0 (.fresh 0 0 (!w.params.followText "set-order")) } } (.ref s.heap.objs.size) "set" := ⟨_, hS, rfl⟩
      have hli := F.called_set.init.lookup
      have hbi := F.called_set.init.bind (.ref s.heap.objs.size)
      repeat (any_goals (first | assumption | wp_step))
      refine codeAny_mono (codeAny_call_builtin (R := wants (fun r s₂ => r = .none ∧ ∃ h' tk, s₂ = { s with heap := h', toks := tk } ∧ StS P w h' s.heap.objs.size (gotS xs []) ∧
          (∀ b o, s.heap.get? b = some o → h'.get? b = some o)) E) F.called_set.init.plain F.entry_set_init (check_set_init_1 hT ?_)) fun r₂ s₂ hr₂ => ?_
      · obtain ⟨ol, hol, hcl, nl, hdl⟩ := hl
        obtain ⟨ocls, odict, odata, oslots⟩ := ol
        simp only at hcl hdl
        subst hcl; subst hdl
        have hol' : (s.heap.push { cls := .type "set", dict := none, data := .set #[] 0 (.fresh 0 0 (!w.params.followText "set-order")) }).get? l = some { cls := .type "list", dict := odict, data := .seq items nl, slots := oslots } := Heap.get?_push_of_some _ hol
        have hsls := F.sub_list_set
        have hslf := F.sub_list_frozenset
        have hne : (Value.type "list" == Value.type "dict") = false := by decide
        have hl1 : (s.heap.push { cls := .type "set", dict := none, data := .set #[] 0 (.fresh 0 0 (!w.params.followText "set-order")) }).IsList l items := ⟨_, hol', rfl, nl, rfl⟩
        unfold Builtin.«set.__init__» noKeywords Builtin.Frozenset.updateFrom
        generalize hPI : pyIter = PI
        wp_walk
        subst hPI
        refine wpAny_pyIter_list hl1 ?_
        refine wpAny_bind (wpAny_runValue ?_)
        have hlS : l < s.heap.objs.size := Heap.lt_size hol
        have hh3 : A.in1.in1.in1.handled = none := by simp [hh]
        have hneI : l ≠ (s.heap.push { cls := .type "set", dict := none, data := .set #[] 0 (.fresh 0 0 (!w.params.followText "set-order")) }).objs.size := by
          rw [Heap.size_push]; exact Nat.ne_of_lt (Nat.lt_succ_of_lt hlS)
        have hSf : s.heap.objs.size ∉ [(s.heap.push { cls := .type "set", dict := none, data := .set #[] 0 (.fresh 0 0 (!w.params.followText "set-order")) }).objs.size, l] := by
          rw [Heap.size_push]; simp only [List.mem_cons, List.mem_singleton, List.not_mem_nil, or_false, not_or]
          exact ⟨Nat.ne_of_lt (Nat.lt_succ_self _), Nat.ne_of_gt hlS⟩
        have hval : ∀ (i : Nat) (v : Value), items[i]? = some v → ∃ x t, xs[i]? = some x ∧ v = .str x t := fun i v hv => by
          have q : items.toList[i]? = some v := by rw [Array.getElem?_toList]; exact hv
          exact strsAre_get hit q
        have none_of : ∀ b, s.heap.objs.size ≤ b → s.heap.get? b = none := fun b hb => by
          cases q : s.heap.get? b with
          | none => rfl
          | some o => exact absurd (Nat.lt_of_lt_of_le (Heap.lt_size q) hb) (Nat.lt_irrefl _)
        refine set_update_strs ((Walks.list hh3 _ l hneI items).toS) s.heap.objs.size
          hSf xs hisz hfew hval s.heap (none_of _ (Nat.le_refl _)) (fun b hb => none_of b (by
            rw [List.mem_singleton.mp hb, Heap.size_push]
            exact Nat.le_succ _)) (items.size - 0) 0 [] _ (by omega) (Nat.zero_le _)
          ⟨⟨_, Heap.get?_push_size _ rfl, rfl, rfl⟩, (hl1.push _)⟩ (fun b o e => Heap.get?_push_of_some _ (Heap.get?_push_of_some _ e)) (stS_fresh (Heap.get?_push_of_some _ hS)) (Nat.le_refl _) ?hR
        case hR =>
          intro s' hm hS' hkp
          obtain ⟨h', g2, d', tk', os'⟩ := s'
          have eg : g2 = s.gens := hm.gens
          have ed : d' = s.drawn := hm.drawn
          have eo : os' = s.os := hm.os
          subst eg; subst ed; subst eo
          show wpAny _ _ _ _ _ _
          refine wpAny_pure ?_
          show wpAny _ _ (ret Value.none) _ _ _
          exact wpAny_pure ⟨rfl, h', tk', rfl, hS', hkp⟩
      · cases r₂ with
        | error e => exact hr₂
        | ok fl₂ =>
          cases fl₂ with
          | ret r =>
            obtain ⟨rfl, h', tk, rfl, hS', hk'⟩ := hr₂
            repeat (any_goals (first | assumption | wp_step))
            exact h _ _ hS' hk'
          | _ => exact hr₂.elim
    | _ => exact hr.elim
/-- sorted(set) -/
theorem sorted_setS {a : Addr} {l : List Str} {Q : Value → Shared → Prop} (R : StS P w s.heap a l) (hh : A.handled = none) (h64 : l.length < 64)
    (hQ : ∀ s' p (out : Array Value) (c : Nat) (ys : List Str), (∀ b o, s.heap.get? b = some o → s'.heap.get? b = some o) → s'.gens = s.gens → s'.os = s.os → s.heap.objs.size ≤ p →
      s'.heap.get? p = some (seqObj "list" out c) → StrsAre out.toList ys → ys.Perm l → sortedS ys = true → Q (.ref p) s') :
    wpAny (model P w) A (call (.builtin "sorted") [.ref a]) Q E s := by
  obtain ⟨⟨⟨es, ep, t⟩, ho, F, r, ld⟩, nd⟩ := R
  have hsz : es.size = l.length := F.sz
  have hel : ElemsOf (strKind P w) es.toList := F.el
  refine Calls.call_function_entry kind_sorted plain_sorted entry_sorted (args_sorted1 _) ?_
  unfold Builtin.«sorted»
  refine wpAny_bind (m := checkCount "sorted" 1 1 _) (wpAny_pure ?_)
  refine wpAny_bind (collect_set (A := A.in1) hh ⟨_, ho, rfl, rfl⟩ F.fit (by show es.size < scanBound; unfold scanBound; omega) r ld fun s1 vs k1 hz g1 o1 pm => ?_)
  have hvl : vs.length = l.length := by rw [pm.length_eq, List.length_map, Array.length_toList]; exact hsz
  obtain ⟨ks, hks⟩ : ∃ ks, StrsAre vs ks := by
    have all : ∀ v ∈ vs, ∃ k u, v = Value.str k u := fun v hv => by
      obtain ⟨e, he, q⟩ := List.mem_map.mp (pm.mem_iff.mp hv)
      obtain ⟨⟨k, hk, _⟩, _⟩ := hel e he
      obtain ⟨u, eu⟩ := Value.isStrOf_shape (x := k) (v := e.2) hk
      exact ⟨k, u, by rw [← q, eu]⟩
    clear pm hvl
    induction vs with
    | nil => exact ⟨[], .nil⟩
    | cons v vs ih =>
      obtain ⟨k, u, rfl⟩ := all v List.mem_cons_self
      obtain ⟨ks, h⟩ := ih fun u hu => all u (List.mem_cons_of_mem _ hu)
      exact ⟨k :: ks, .cons _ _ h⟩
  have memS : ∀ {vs : List Value} {ks : List Str}, StrsAre vs ks → ∀ v ∈ vs, ∀ k u, v = Value.str k u → k ∈ ks := by
    intro vs ks h
    induction h with
    | nil => intro v hv; cases hv
    | cons x u _ ih =>
      intro v hv k u' e
      rcases List.mem_cons.mp hv with z | z
      · rw [z] at e
        cases e
        exact List.mem_cons_self
      · exact List.mem_cons_of_mem _ (ih v z k u' e)
  have hkl : ks.length = l.length := by rw [← StrsAre.len_eq hks, hvl]
  have pk : ks.Perm l := perm_of_sub l ks nd hkl fun x hx => by
    obtain ⟨e, he, q⟩ := (F.mem x).mp hx
    obtain ⟨u, eu⟩ := Value.isStrOf_shape (x := x) (v := e.2) q
    exact memS hks e.2 (pm.mem_iff.mpr (List.mem_map.mpr ⟨e, he, rfl⟩)) x u eu
  refine wpAny_bind (wpAny_newList ?_ (by rw [hvl, sizeLine_eq]; omega))
  have hoL : (s1.heap.push (seqObj "list" vs.toArray 0)).get? s1.heap.objs.size = some (seqObj "list" vs.toArray 0) := Heap.get?_push_size _ rfl
  refine wpAny_bind (wpAny_holding (wpAny_call_entry slot_list_sort ⟨_, hoL, rfl⟩ entry_list_sort
    (list_sort_treeK strKind_oneLt (s := { s1 with heap := s1.heap.push (seqObj "list" vs.toArray 0) }) hoL hks.keysOf (fun v₁ v₂ rest e => keyKind_strs (by rw [← e]; exact hks)) (by rw [hvl]; exact h64) fun st' hp hs => ⟨_, rfl, ?_⟩)
    (args_list_sort _)))
  obtain ⟨ys, g1', g2, g3⟩ := sorted_out_str hks hp hs
  obtain ⟨c, hc⟩ := sortedHeap_at (vs := vs) (out := (arrOf st').map (·.2)) hoL
  refine wpAny_pure ⟨_, rfl, hQ _ s1.heap.objs.size _ c ys (fun b u e => ?_) g1 o1 hz hc g1' (g2.trans pk) g3⟩
  have q := k1 b u e
  have hlt := Heap.lt_size q
  show (sortedHeap (s1.heap.push (seqObj "list" vs.toArray 0)) s1.heap.objs.size vs _).get? b = some u
  rw [sortedHeap_old (Nat.ne_of_lt hlt) (by rw [size_push']; exact Nat.lt_succ_of_lt hlt)]
  exact Heap.get?_push_of_some _ q
/-! ### as rules -/
def SetSO (P : Program) (w : World) (a : Addr) (l : List Str) : HO := .ext fun h => StS P w h a l
theorem setSO_new {H : Hp} {h : Heap} {a : Addr} {l : List Str} (R : StS P w h a l) : ObjOk P w H h a (SetSO P w a l) := by
  have ⟨⟨D, ho, r⟩, nd⟩ := R
  exact ⟨R, ⟨_, ho⟩, fun h1 h2 p k => StS.keep p k⟩
end
section
variable {X : Cx}
/-- set(xs), xs a list of texts -/
def rSetOfS (K : PySem.W.Frag) (P : Program) (w : World) : List V → Hp → VK → Prop := fun vs H Q => ∃ (l : Addr) (xs : List Str), vs = [V.ref l] ∧ SqL K H l (xs.map V.str) ∧ xs.length < 900 ∧ ∀ a, H a = none → Q (.ref a) (upd H a (SetSO P w a (gotS xs [])))
theorem call_setS (hc : X.calm = true) : CallR X (.type "set") (rSetOfS X.K X.prog X.w) := by
  intro pins s σ H xs us Q I r h
  obtain ⟨l, xs, rfl, hl, hf, q⟩ := h
  rw [Vals.ref1 r]
  obtain ⟨its, rv, pl, hz⟩ := I.list hl
  refine call_set_strs (P := X.prog) (w := X.w) (I.ok.hd hc) pl.isList (by simpa using rv.strs) hf fun h' tk R k => ?_
  exact ⟨.ref s.heap.objs.size, upd H s.heap.objs.size (SetSO X.prog X.w s.heap.objs.size (gotS xs [])), I.laid (t' := tk) k (Nat.le_refl _) (setSO_new R), rfl, q _ (I.hok.fresh (Nat.le_refl _))⟩
/-- sorted(set) -/
def rSortSet (P : Program) (w : World) : List V → Hp → VK → Prop := fun vs H Q => ∃ (a : Addr) (l : List Str), vs = [V.ref a] ∧ H a = some (SetSO P w a l) ∧ l.length < 64 ∧
  ∀ (ys : List Str) (p : Addr), ys.Perm l → sortedS ys = true → H p = none → Q (.ref p) (upd H p (.lst (ys.map V.str)))
theorem cr_sortSet (hc : X.calm = true) : CallR X (.builtin "sorted") (rSortSet X.prog X.w) := by
  intro pins s σ H vs us Q I r h
  obtain ⟨a, l, rfl, ha, h64, q⟩ := h
  have R : StS X.prog X.w s.heap a l := (I.hok a _ ha).1
  rw [Vals.ref1 r]
  refine sorted_setS R (I.ok.hd hc) h64 fun s' p out c ys k g o hp hg hout pm pw => ?_
  have hlen : (ys.map V.str).length ≤ sizeLine := by rw [List.length_map, pm.length_eq, sizeLine_eq]; omega
  have hn : H p = none := I.hok.fresh hp
  have hv : Vals (ys.map V.str) out.toList := vals_of_strs hout
  have J : Inv X pins σ (upd H p (.lst (ys.map V.str))) { s with heap := s'.heap, gens := s'.gens, drawn := s'.drawn, toks := s'.toks } :=
    I.call (ch := []) (Un.laid k hp hn) (I.hok.laid k hp ⟨hlen, out.toList, c, hv, hg⟩) (by rw [g]; exact I.bare) (fun _ z => nomatch z)
  have e : s' = { s with heap := s'.heap, gens := s'.gens, drawn := s'.drawn, toks := s'.toks } := by
    cases s'
    cases s
    cases o
    rfl
  rw [e]
  exact ⟨.ref p, _, J, rfl, q ys p pm pw hn⟩
end
end Tw
set_option Elab.async false
set_option linter.all false
set_option maxRecDepth 100000
set_option maxHeartbeats 4000000
namespace Tw
open PySem PySem.Spec PyProof.Rows L2
theorem str_ext {x y : Str} (h : x.cps.toList = y.cps.toList) : x = y := Str.ext' (Array.toList_inj.mp h)
theorem slt_irrefl (x : Str) : ¬ slt x x := List.lt_irrefl _
theorem slt_trans {x y z : Str} (a : slt x y) (b : slt y z) : slt x z := List.lt_trans a b
theorem slt_asymm {x y : Str} (a : slt x y) : ¬ slt y x := fun b => slt_irrefl x (slt_trans a b)
theorem slt_of_le {x y : Str} (a : ¬ slt y x) (b : x ≠ y) : slt x y := by
  rcases Classical.em (slt x y) with h | h
  · exact h
  · exact absurd (str_ext (List.le_antisymm (show x.cps.toList ≤ y.cps.toList from a) (show y.cps.toList ≤ x.cps.toList from h))) b
theorem slt_tri (x y : Str) : slt x y ∨ x = y ∨ slt y x := by
  rcases Classical.em (slt y x) with h | h
  · exact .inr (.inr h)
  · rcases Classical.em (x = y) with e | e
    · exact .inr (.inl e)
    · exact .inl (slt_of_le h e)
theorem ltCps_iff {x y : Str} : ltCps x.cps.toList y.cps.toList = true ↔ slt x y := by
  rw [ltCps_eq]
  exact decide_eq_true_iff
theorem risingS_pw : ∀ (p : Str) (l : List Str), risingS p l = true → (p :: l).Pairwise fun a b => ¬ slt b a
  | p, [], _ => List.pairwise_singleton _ _
  | p, x :: r, h => by
    rw [risingS, Bool.and_eq_true, Bool.not_eq_true'] at h
    have ih := risingS_pw x r h.2
    have hx : ¬ slt x p := fun z => by rw [ltCps_iff.mpr z] at h; exact absurd h.1 (by decide)
    refine List.pairwise_cons.mpr ⟨fun y hy => ?_, ih⟩
    rcases List.mem_cons.mp hy with e | hy
    · rw [e]; exact hx
    · have h2 := (List.pairwise_cons.mp ih).1 y hy
      intro z
      rcases slt_tri p x with a | a | a
      · exact h2 (slt_trans z a)
      · exact h2 (a ▸ z)
      · exact hx a
theorem rising_of {ys : List Str} (h : sortedS ys = true) (nd : ys.Nodup) : rising ys := by
  cases ys with
  | nil => exact List.Pairwise.nil
  | cons x r =>
    have pw := risingS_pw x r h
    exact (pw.and nd).imp fun h => slt_of_le h.1 h.2
theorem rising.nodup {ys : List Str} (h : rising ys) : ys.Nodup := List.Pairwise.imp (R := slt) (S := (· ≠ ·)) (fun {a b} h (e : a = b) => by subst e; exact slt_irrefl _ h) h
theorem rising_ext : ∀ {xs ys : List Str}, rising xs → rising ys → (∀ x, x ∈ xs ↔ x ∈ ys) → xs = ys
  | [], [], _, _, _ => rfl
  | [], y :: ys, _, _, h => absurd ((h y).mpr List.mem_cons_self) (by simp)
  | x :: xs, [], _, _, h => absurd ((h x).mp List.mem_cons_self) (by simp)
  | x :: xs, y :: ys, hx, hy, h => by
    obtain ⟨h1, h2⟩ := List.pairwise_cons.mp hx
    obtain ⟨h3, h4⟩ := List.pairwise_cons.mp hy
    have e : x = y := by
      rcases List.mem_cons.mp ((h x).mp List.mem_cons_self) with e | a
      · exact e
      · rcases List.mem_cons.mp ((h y).mpr List.mem_cons_self) with e | b
        · exact e.symm
        · exact absurd (h1 y b) (slt_asymm (h3 x a))
    subst e
    rw [rising_ext h2 h4 fun z => ?_]
    constructor
    · intro hz
      rcases List.mem_cons.mp ((h z).mp (List.mem_cons_of_mem _ hz)) with e | a
      · rw [e] at hz
        exact absurd (h1 x hz) (slt_irrefl x)
      · exact a
    · intro hz
      rcases List.mem_cons.mp ((h z).mpr (List.mem_cons_of_mem _ hz)) with e | a
      · rw [e] at hz
        exact absurd (h3 x hz) (slt_irrefl x)
      · exact a
/-- the names of l, each once, by their signs -/
structure NamesOf (l ys : List Str) : Prop where
  up : rising ys
  mem : ∀ x, x ∈ ys ↔ x ∈ l
theorem NamesOf.ext {l l' xs ys : List Str} (a : NamesOf l xs) (b : NamesOf l' ys) (h : ∀ x, x ∈ l ↔ x ∈ l') : xs = ys :=
  rising_ext a.up b.up fun x => (a.mem x).trans ((h x).trans (b.mem x).symm)
theorem nodup_len_le : ∀ {xs ys : List Str}, xs.Nodup → (∀ x ∈ xs, x ∈ ys) → xs.length ≤ ys.length
  | [], _, _, _ => Nat.zero_le _
  | x :: xs, ys, hn, hs => by
    obtain ⟨h1, h2⟩ := List.nodup_cons.mp hn
    have hx := hs x List.mem_cons_self
    have := nodup_len_le (ys := ys.erase x) h2 fun y hy => (List.mem_erase_of_ne (fun (z : y = x) => h1 (z ▸ hy))).mpr (hs y (List.mem_cons_of_mem _ hy))
    rw [List.length_erase_of_mem hx] at this
    have : 1 ≤ ys.length := List.length_pos_of_mem hx
    rw [List.length_cons]
    omega
theorem NamesOf.len {l ys : List Str} (a : NamesOf l ys) : ys.length ≤ l.length := nodup_len_le a.up.nodup fun x h => (a.mem x).mp h
theorem E.vars_len : ∀ e : E, e.vars.length ≤ e.parts
  | .num _ => Nat.zero_le _
  | .nam _ => Nat.le_refl _
  | .bin _ a b => by
    have := a.vars_len
    have := b.vars_len
    rw [E.vars, List.length_append, E.parts]
    omega
end Tw
set_option Elab.async false
set_option linter.all false
set_option maxRecDepth 100000
set_option maxHeartbeats 4000000
namespace Tw
open PySem PySem.Spec PyProof.Rows L2
theorem upd2_same {H : Hp} {a b : Addr} {o u : HO} (h : a ≠ b) : upd (upd H a o) b u a = some o := by rw [upd_ne h, upd_same]
section
variable {P : Program} {w : World} {K : PySem.W.Frag} {mg : Str → Option Value} {base : Heap}
def sp_names_in (K : PySem.W.Frag) (n : Nat) : Sp := fun vs H Q _ => ∃ (v : V) (e : E), vs = [v] ∧ Td K H v e.d ∧ e.parts ≤ 40 ∧ e.deep ≤ n ∧ ∀ H' p ys, Same H H' → H p = none → H' p = some (.lst (ys.map V.str)) → NamesOf e.vars ys → Q (.ref p) H'
theorem ok_names_in (T : Txt K mg) : ∀ n, Cal P w K mg base "names_in" (n + 1) ["expr"] (sp_names_in K n)
  | 0 => Cal.vac T.d_names_in b_names_in fun vs H Q E h => by
    obtain ⟨v, e, _, _, _, h, _⟩ := h
    have := e.deep_pos
    omega
  | n + 1 => by
    have C_names_in := ok_names_in T n
    refine Cal.of T.d_names_in b_names_in sc_names_in (fun vs H Q E h => ?_) (fun cdv A outer s H vs Q E hr h => ?_)
    · obtain ⟨v, e, rfl, _⟩ := h; rfl
    obtain ⟨v, e, rfl, ht, hp, hn, q⟩ := h
    refine ⟨_, (pss_cons (ps_if (pt_cmpR op_eq (pe_ix ix_tup (pv 0) pe_int (fun _ _ => rfl)) pe_str (nomark _)) (pss_one (ps_ret (pe_lst pa_nil))) pss_nil)
  (pss_cons (ps_if (pt_cmpR op_eq (pe_ix ix_tup (pv 0) pe_int (fun _ _ => rfl)) pe_str (nomark _)) (pss_one (ps_ret (pe_lst (pa_cons (pe_ix ix_tup (pv 0) pe_int (fun _ _ => rfl)) pa_nil)))) pss_nil)
  (pss_one (ps_ret (pe_callB (cr_sortSet rfl) (by rfl) T.sorted bb_sorted (pa_cons (pe_callTy (call_setS rfl) (by rfl) T.set bb_set (pa_cons (pe_op op_cat (pe_callC C_names_in hr rfl (pa_cons (pe_ix ix_tup (pv 0) pe_int (fun _ _ => rfl)) pa_nil)) (pe_callC C_names_in hr rfl (pa_cons (pe_ix ix_tup (pv 0) pe_int (fun _ _ => rfl)) pa_nil))) pa_nil)) pa_nil)))))), ?_⟩
    cases e with
    | num m =>
      obtain ⟨a, rfl, hs⟩ := td_num ht
      refine ⟨_, rfl, _, _, _, _, rfl, rfl, hs, rfl, rfl, _, rfl, ?_⟩
      refine iteT' (by decide +kernel) ?_
      refine ⟨(by show 0 ≤ sizeLine; decide), fun p hp => ?_⟩
      exact q _ p [] (same_new hp) hp upd_same ⟨List.Pairwise.nil, fun x => Iff.rfl⟩
    | nam x =>
      obtain ⟨a, rfl, hs⟩ := td_nam ht
      refine ⟨_, rfl, _, _, _, _, rfl, rfl, hs, rfl, rfl, _, rfl, ?_⟩
      refine iteF' (by decide +kernel) ?_
      refine ⟨_, rfl, _, _, _, _, rfl, rfl, hs, rfl, rfl, _, rfl, ?_⟩
      refine iteT' (by decide +kernel) ?_
      refine ⟨_, rfl, _, _, _, _, rfl, rfl, hs, rfl, (by show 1 ≤ sizeLine; decide), fun p hp => ?_⟩
      exact q _ p [x] (same_new hp) hp upd_same ⟨List.pairwise_singleton _ _, fun x => Iff.rfl⟩
    | bin o e1 e2 =>
      obtain ⟨a, x, y, rfl, hs, h1, h2⟩ := td_bin ht
      have hdd : 1 + max e1.deep e2.deep ≤ n + 1 := hn
      have hpp : 1 + e1.parts + e2.parts ≤ 40 := hp
      refine ⟨_, rfl, _, _, _, _, rfl, rfl, hs, rfl, rfl, _, rfl, ?_⟩
      refine iteF' (decide_eq_false (op_ne_number o)) ?_
      refine ⟨_, rfl, _, _, _, _, rfl, rfl, hs, rfl, rfl, _, rfl, ?_⟩
      refine iteF' (decide_eq_false (op_ne_name o)) ?_
      refine ⟨_, rfl, _, _, _, _, rfl, rfl, hs, rfl, _, e1, rfl, h1, by omega, by omega, fun H1 p1 y1 s1 n1 l1 g1 => ?_⟩
      refine ⟨_, rfl, _, _, _, _, rfl, rfl, same_tup s1 hs, rfl, _, e2, rfl, h2.same s1, by omega, by omega, fun H2 p2 y2 s2 n2 l2 g2 => ?_⟩
      have b1 := g1.len
      have b2 := g2.len
      have b3 := e1.vars_len
      have b4 := e2.vars_len
      refine ⟨p1, p2, _, _, rfl, rfl, s2 _ _ l1, l2, ?_, fun p3 n3 => ?_⟩
      · rw [List.length_map, List.length_map, sizeLine_eq]; omega
      refine ⟨p3, y1 ++ y2, rfl, SqL.of (by rw [upd_same, List.map_append]), by rw [List.length_append]; omega, fun p4 n4 => ?_⟩
      have hlen := gotS_len (y1 ++ y2) []
      rw [List.length_append] at hlen
      refine ⟨p4, _, rfl, upd_same, by simp only [List.length_nil] at hlen; omega, fun ys p5 hperm hsort n5 => ?_⟩
      have nd : ys.Nodup := hperm.nodup_iff.mpr (gotS_nodup _ _ List.nodup_nil)
      have s12 := s1.trans s2
      have s3 := same_put s12 (s12.free n3) (o := .lst (y1.map V.str ++ y2.map V.str))
      have s4 := same_put s3 (s3.free n4) (o := SetSO P w p4 (gotS (y1 ++ y2) []))
      refine q _ p5 ys (same_put s4 (s4.free n5)) (s4.free n5) upd_same ⟨rising_of hsort nd, fun x => ?_⟩
      rw [hperm.mem_iff, gotS_mem, E.vars, List.mem_append, List.mem_append, g1.mem, g2.mem]
      simp
end
end Tw
set_option Elab.async false
set_option linter.all false
set_option maxRecDepth 100000
set_option maxHeartbeats 4000000
namespace Tw
open PySem PySem.Spec PyProof.Rows L2
section
variable {H H1 H2 : Hp} {K : PySem.W.Frag} {a b p : Addr} {xs ys vs : List V} {v : V} {d : PyData} {ds : List PyData} {o : HO} {Q : VK}
theorem same_lst (k : Same H H1) (h : SqL K H a xs) : SqL K H1 a xs := by
  rcases h with h | h
  · rcases h with h | ⟨ob, h⟩
    · exact .inl (.inl (k _ _ h))
    · exact .inl (.inr ⟨ob, k _ _ h⟩)
  · exact .inr h
theorem slA_of {lo hi : Option Int} (hs : SqT K H a xs) (h : ∀ H' p, Same H H' → SqT K H' p (cutV xs lo hi) → Q (.ref p) H') : rSlA K (.ref a) lo hi H Q := by
  refine ⟨a, xs, rfl, hs, fun hw => h H a (Same.refl H) ?_, fun _ p hp => h _ p (same_new hp) (.of upd_same)⟩
  have e : cutV xs lo hi = xs := by
    unfold cutV
    rw [hw.1, hw.2, List.drop_zero, Nat.sub_zero, List.take_length]
  rw [e]
  exact hs
theorem at0 {x : V} : atI (x :: xs) 0 = some x := atI_nat (j := 0) rfl
theorem np {σ : L2.St} {Q : Option Int → Hp → Prop} (h : Q none H) : tNoPart σ H Q := h
theorem cut_from {k : Nat} : cutV xs (some (k : Int)) none = xs.drop k := by
  unfold cutV
  rw [HT.sIx_nat, HT.sIx_none]
  by_cases h : k ≤ xs.length
  · rw [Nat.min_eq_left h, List.take_of_length_le (by rw [List.length_drop]; omega)]
  · rw [Nat.min_eq_right (by omega), List.drop_length, List.drop_of_length_le (by omega), List.take_nil]
theorem cut_to {k : Nat} : cutV xs none (some (k : Int)) = xs.take k := by
  unfold cutV
  rw [HT.sIx_nat, HT.sIx_none, List.drop_zero, Nat.sub_zero]
  by_cases h : k ≤ xs.length
  · rw [Nat.min_eq_left h]
  · rw [Nat.min_eq_right (by omega), List.take_length, List.take_of_length_le (by omega)]
theorem walk_zipT {n : Nat} (hn : n = min xs.length ys.length) : Walk (RZ.ItzT K a b) n (fun H => SqT K H a xs ∧ SqT K H b ys) (YPair (fun i => xs[i]?) (fun i => ys[i]?)) := by
  subst hn
  refine ⟨fun i _ hi q => ?_, fun _ q => ⟨xs, ys, q.1, q.2, by omega⟩, fun i H v H' _ q y => ?_⟩
  · have h1 : i < xs.length := by omega
    have h2 : i < ys.length := by omega
    exact ⟨xs, ys, xs[i], ys[i], q.1, q.2, by simp [h1], by simp [h2]⟩
  · obtain ⟨T, x, z, h1, h2, h3, h4, h5⟩ := y
    exact ⟨T, x, z, h1, h2, h3, h4 xs q.1, h5 ys q.2⟩
theorem all_true {ys : List V} (h : ∀ (i : Nat) y, ys[i]? = some y → y = V.bl true) : ys = (List.replicate ys.length true).map V.bl := by
  apply List.ext_getElem?
  intro i
  by_cases hi : i < ys.length
  · rw [List.getElem?_eq_getElem hi, h i _ (List.getElem?_eq_getElem hi), List.getElem?_map, List.getElem?_replicate, if_pos hi] <;> rfl
  · rw [List.getElem?_eq_none (by omega), List.getElem?_eq_none (by simp; omega)]
theorem all_rep (n : Nat) : (List.replicate n true).all id = true := by simp
end
/-! ### rules in a comprehension's own scope: the kit K said -/
section
variable {X : Cx}
theorem ix_tupB (K : PySem.W.Frag) (e : X.K = K := by rfl) : IxR X (rIxT K) := e ▸ ix_tup
theorem ix_listB (K : PySem.W.Frag) (e : X.K = K := by rfl) : IxR X (rIxL K) := e ▸ ix_list
theorem op_catAB (K : PySem.W.Frag) (e : X.K = K := by rfl) : OpR X (binaryOp .Add) (rCatA K) := e ▸ op_catA
theorem call_isiB (K : PySem.W.Frag) (e : X.K = K := by rfl) : CallR X (.builtin "isinstance") (rIsi K) := e ▸ call_isi
def rTupOf (K : PySem.W.Frag) : List V → Hp → VK → Prop := fun xs H Q => ∃ p ys, xs = [.ref p] ∧ ((SqL K H p ys ∧ ∀ l, H l = none → Q (.ref l) (upd H l (.tup ys))) ∨ (SqT K H p ys ∧ Q (.ref p) H))
theorem call_tuple_ofB (K : PySem.W.Frag) (e : X.K = K := by rfl) : CallR X (.type "tuple") (rTupOf K) := e ▸ call_tuple_of
theorem op_in_seqB (K : PySem.W.Frag) (e : X.K = K := by rfl) : OpR X (compareOp .In) (rIn K false) := e ▸ op_in_seq
theorem pg_tupB (K : PySem.W.Frag) (n : Nat) {es : List Expr} {k : Nat} {t : TGs} {pos : Pos} (hc : X.calm = true) (h : PGs X es t) (e : X.K = K := by rfl)
    (hn : (assignEach es X.env).length = n := by rfl) (hst : (assignEach es X.env).findIdx? (·.1) = none := by rfl) : PG X (.Tuple es k pos) (gTup K n t) := e ▸ pg_tup hc h hn hst
theorem pi_tupB (K : PySem.W.Frag) {tg l : Expr} {tl : TE} (hl : PE X l tl) (e : X.K = K := by rfl) : PI X tg l (iTup K tl) := e ▸ pi_tup hl
theorem pi_listB (K : PySem.W.Frag) {tg l : Expr} {tl : TE} (hl : PE X l tl) (e : X.K = K := by rfl) : PI X tg l (iList K tl) := e ▸ pi_list hl
theorem pe_sliceB {r : V → Option Int → Option Int → Hp → VK → Prop} {e : Expr} {te : TE} {lo hi : Option Expr} {tl th : TO} {p2 pos : Pos} (hr : SlR X r) (he : PE X e te) (hl : PO X lo tl) (hu : PO X hi th) : PE X (.Subscript e (.Slice lo hi none p2) pos) (tSl r te tl th) := pe_slice hr he hl hu
theorem sl_tupB (K : PySem.W.Frag) (e : X.K = K := by rfl) : SlR X (rSlA K) := e ▸ sl_tupA
end
/-! ### rows by their shape -/
section
variable {H : Hp} {K : PySem.W.Frag} {v : V}
theorem td_lt {op : Bool} {x : Str} {e : E} (h : Td K H v (Row.lt op x e).d) : ∃ a y, v = .ref a ∧ SqT K H a [.str (ltw op), .str x, y] ∧ Td K H y e.d := by
  rw [Row.d] at h
  obtain ⟨a, x1, y, z, e1, t, h1, h2, h3⟩ := Td.t3 h
  rw [td_str.mp h1, td_str.mp h2] at t
  exact ⟨a, z, e1, t, h3⟩
theorem td_ask {x h0 : Str} {k : Bool} (h : Td K H v (Row.ask x h0 k).d) : ∃ a, v = .ref a ∧ SqT K H a [.str "ask", .str x, .str h0, .bl k] := by
  rw [Row.d] at h
  obtain ⟨a, x1, y, z, u, e1, t, h1, h2, h3, h4⟩ := Td.t4 h
  rw [td_str.mp h1, td_str.mp h2, td_str.mp h3, td_bool.mp h4] at t
  exact ⟨a, e1, t⟩
theorem td_say {h0 : Str} {e : E} (h : Td K H v (Row.say h0 e).d) : ∃ a y, v = .ref a ∧ SqT K H a [.str "say", .str h0, y] ∧ Td K H y e.d := by
  rw [Row.d] at h
  obtain ⟨a, x1, y, z, e1, t, h1, h2, h3⟩ := Td.t3 h
  rw [td_str.mp h1, td_str.mp h2] at t
  exact ⟨a, z, e1, t, h3⟩
theorem td_iff' {e : E} {b c : List Row} (h : Td K H v (Row.iff e b c).d) : ∃ a x y z, v = .ref a ∧ SqT K H a [.str "if", x, y, z] ∧ Td K H x e.d ∧ Td K H y (.tuple (rowsD b)) ∧ Td K H z (.tuple (rowsD c)) := by
  rw [Row.d] at h
  obtain ⟨a, x1, y, z, u, e1, t, h1, h2, h3, h4⟩ := Td.t4 h
  rw [td_str.mp h1] at t
  exact ⟨a, y, z, u, e1, t, h2, h3, h4⟩
theorem td_whl {e : E} {b : List Row} (h : Td K H v (Row.whl e b).d) : ∃ a x y, v = .ref a ∧ SqT K H a [.str "while", x, y] ∧ Td K H x e.d ∧ Td K H y (.tuple (rowsD b)) := by
  rw [Row.d] at h
  obtain ⟨a, x1, y, z, e1, t, h1, h2, h3⟩ := Td.t3 h
  rw [td_str.mp h1] at t
  exact ⟨a, y, z, e1, t, h2, h3⟩
end
def Row.blks : Row → List (List Row)
  | .iff _ a b => [a, b]
  | .whl _ a => [a]
  | _ => []
theorem Row.blks_kids (r : Row) : r.blks.flatten = r.kids := by cases r <;> simp [Row.blks, Row.kids]
/-- the text at the head of a row, the row's length -/
def Row.hd : Row → Str
  | .lt op _ _ => ltw op | .ask _ _ _ => "ask" | .say _ _ => "say" | .iff _ _ _ => "if" | .whl _ _ => "while"
def Row.len : Row → Nat
  | .lt _ _ _ => 3 | .ask _ _ _ => 4 | .say _ _ => 3 | .iff _ _ _ => 4 | .whl _ _ => 3
def Row.tl : Row → List PyData
  | .lt _ x e => [.str x, e.d] | .ask x h k => [.str x, .str h, .bool k] | .say h e => [.str h, e.d] | .iff e a b => [e.d, .tuple (rowsD a), .tuple (rowsD b)] | .whl e a => [e.d, .tuple (rowsD a)]
theorem Row.d_tl (r : Row) : r.d = .tuple (.str r.hd :: r.tl) := by cases r <;> rw [Row.d] <;> rfl
theorem td_row {H : Hp} {K : PySem.W.Frag} {v : V} {r : Row} (h : Td K H v r.d) : ∃ a xs, v = .ref a ∧ SqT K H a (.str r.hd :: xs) ∧ TdA K H xs r.tl := by
  rw [r.d_tl] at h
  obtain ⟨a, xs, e, t, q⟩ := td_tup.mp h
  obtain ⟨u, ys, rfl, h1, h2⟩ := q.cons_of
  rw [td_str.mp h1] at t
  exact ⟨a, ys, e, t, h2⟩
end Tw
set_option Elab.async false
set_option linter.all false
set_option maxRecDepth 100000
set_option maxHeartbeats 4000000
namespace Tw
open PySem PySem.Spec PyProof.Rows L2
section
variable {P : Program} {w : World} {K : PySem.W.Frag} {mg : Str → Option Value} {base : Heap}
def sp_are_marks (K : PySem.W.Frag) : Sp := fun vs H Q _ => ∃ (v : V) (ms : List (Str × Str)), vs = [v] ∧ Td K H v (.tuple (ms.map markD)) ∧ (∀ m ∈ ms, isName m.1 = true ∧ isHouse m.2 = true) ∧ rising (ms.map (·.1)) ∧ ms.length ≤ 1000 ∧ ∀ H', Same H H' → Q (.bl true) H'
theorem ok_are_marks (T : Txt K mg) : Cal P w K mg base "are_marks" 2 ["thing"] (sp_are_marks K) := by
  have C_is_name := ok_is_name (P := P) (w := w) (base := base) T
  have C_is_house := ok_is_house (P := P) (w := w) (base := base) T
  refine Cal.of T.d_are_marks b_are_marks sc_are_marks (fun vs H Q E h => ?_) (fun cdv A outer s H vs Q E hr h => ?_)
  · obtain ⟨v, ms, rfl, _⟩ := h; rfl
  obtain ⟨v, ms, rfl, ht, hms, hup, hl, q⟩ := h
  refine ⟨_, (pss_cons (ps_if (pt_not (pt_val (pe_callB call_isi (by rfl) T.isinstance bb_isinstance (pa_cons (pv 0) (pa_cons (pe_bty T.tuple bb_tuple rfl) pa_nil))))) (pss_one (ps_ret pe_bl)) pss_nil)
  (pss_cons (ps_for PassesOwn.never rfl (pi_tup (pv 0)) (pg_name (i := 1) sc_are_marks.nd rfl (Or.inl rfl))
   (pss_one (ps_if (PW.pt (pw_or (pt_not (pt_val (pe_callB call_isi (by rfl) T.isinstance bb_isinstance (pa_cons (pv 1) (pa_cons (pe_bty T.tuple bb_tuple rfl) pa_nil))))) (pw_or (pt_cmpR op_ne (pe_callB call_len_seq (by rfl) T.len bb_len (pa_cons (pv 1) pa_nil)) pe_int (nomark _)) (pw_or (pt_not (pt_val (pe_callC C_is_name (hr.mono (by decide)) rfl (pa_cons (pe_ix ix_tup (pv 1) pe_int (fun _ _ => rfl)) pa_nil)))) (pw_or1 (pt_not (pt_val (pe_callC C_is_house (hr.mono (by decide)) rfl (pa_cons (pe_ix ix_tup (pv 1) pe_int (fun _ _ => rfl)) pa_nil))))))))) (pss_one (ps_ret pe_bl)) pss_nil)))
  (pss_one (ps_ret (pe_callB (cr_all rfl) (by rfl) T.all bb_all (pa_cons (pe_lc (own := [("one", 2), ("other", 3)]) (by rfl) sc_are_marks.nd (RZ.pi_zipA (by rfl) T.zip (pa_cons (pv 0) (pa_cons (pe_slice sl_tupA (pv 0) (po_some pe_int) po_none) pa_nil))) (blkOk_by (own := [("one", 2), ("other", 3)]) (N := N_are_marks) (sc := defScope s_are_marks) (by decide +kernel)) (fun _ _ _ _ _ => (pg_tupB K 2 (by rfl) (pgs_cons (pg_name (i := 2) sc_are_marks.nd rfl (Or.inl rfl)) (pgs_cons (pg_name (i := 3) sc_are_marks.nd rfl (Or.inl rfl)) pgs_nil)))) (fun _ _ _ _ _ => pts_nil) (fun _ _ _ _ _ => (pe_cmpR op_lt_str (pe_ix (ix_tupB K) (pv 2) pe_int (fun _ _ => rfl)) (pe_ix (ix_tupB K) (pv 3) pe_int (fun _ _ => rfl)) (nomark _)))) pa_nil)))))), ?_⟩
  obtain ⟨a, xs, rfl, hs, hxs⟩ := td_tup.mp ht
  have hlen := hxs.length
  rw [List.length_map] at hlen
  refine ⟨_, rfl, _, _, _, _, _, rfl, .ty _, tyx_seqT hs, kt_tuple_tuple, _, rfl, ?_⟩
  refine iteF ?_
  refine ⟨_, rfl, a, rfl, ⟨_, hs⟩, for_it walk_tup (fun i σ H' => Same H H' ∧ ∃ x1, σ = [some (.ref a), x1, none, none]) ⟨Same.refl H, none, rfl⟩ (fun i σ H' _ h => same_tup h.1 hs) ?_ ?_⟩
  · rintro i x σ H' H'' hi ⟨s1, x1, rfl⟩ ⟨rfl, hx⟩
    obtain ⟨dd, hdd, hxd⟩ := (hxs.same s1).get hx
    rw [List.getElem?_map] at hdd
    obtain ⟨m, hm, rfl⟩ := Option.map_eq_some_iff.mp hdd
    obtain ⟨h1, h2⟩ := hms m (List.mem_of_getElem? hm)
    obtain ⟨b, y1, y2, rfl, hb, g1, g2⟩ := Td.t2 hxd
    obtain rfl := td_str.mp g1
    obtain rfl := td_str.mp g2
    refine ⟨_, rfl, _, _, _, _, _, rfl, .ty _, tyx_seqT hb, kt_tuple_tuple, _, rfl, ?_⟩
    refine iteF ?_
    refine ⟨_, rfl, _, _, rfl, .inr hb, rfl, _, rfl, ?_⟩
    refine iteF' (by rfl) ?_
    refine ⟨_, rfl, _, _, _, _, rfl, rfl, hb, rfl, m.1, rfl, by have := name_len h1; omega, fun H2 s2 => ?_⟩
    rw [h1]
    refine ⟨_, rfl, ?_⟩
    refine iteF ?_
    refine ⟨_, rfl, _, _, _, _, rfl, rfl, same_tup s2 hb, rfl, m.2, rfl, ?_⟩
    rw [h2]
    refine ⟨_, rfl, ?_⟩
    refine iteF ?_
    exact ⟨s1.trans s2, _, rfl⟩
  · rintro σ H1 ⟨s1, x1, rfl⟩
    have hs1 := same_tup s1 hs
    have hxs1 := hxs.same s1
    refine ⟨_, rfl, _, rfl, 1, rfl, np (slA_of hs1 fun H2 p s2 hp => ?_)⟩
    rw [show ((1 : Int)) = ((1 : Nat) : Int) from rfl, cut_from] at hp
    have hs2 := same_tup s2 hs1
    have hxs2 := hxs1.same s2
    refine ⟨a, p, xs, xs.drop 1, rfl, .inr ⟨hs2, hp, fun D hD => ?_⟩⟩
    refine lc_pu (walk_zipT rfl) (by omega) hD (fun H' s' => ⟨same_tup s' hs2, same_tup s' hp⟩) (fun i y _ => y = V.bl true) (fun _ _ _ _ _ _ r => r) ?_ ?_
    · rintro i v H3 H4 Qc hi s3 _ ⟨t, x, y, rfl, hT, rfl, hx, hy⟩ hq
      have hxs3 := (hxs2.same s3).same (same_new hT (o := .tup [x, y]))
      have hx : xs[i]? = some x := hx
      have hy : (xs.drop 1)[i]? = some y := hy
      rw [List.getElem?_drop] at hy
      obtain ⟨d1, hd1, hxd⟩ := hxs3.get hx
      obtain ⟨d2, hd2, hyd⟩ := hxs3.get hy
      rw [List.getElem?_map] at hd1 hd2
      obtain ⟨m1, hm1, rfl⟩ := Option.map_eq_some_iff.mp hd1
      obtain ⟨m2, hm2, rfl⟩ := Option.map_eq_some_iff.mp hd2
      obtain ⟨b1, y1, y2, rfl, hb1, g1, g2⟩ := Td.t2 hxd
      obtain ⟨b2, z1, z2, rfl, hb2, g3, g4⟩ := Td.t2 hyd
      obtain rfl := td_str.mp g1
      obtain rfl := td_str.mp g3
      refine ⟨t, _, rfl, .of upd_same, rfl, _, _, rfl, _, _, rfl, rfl, ?_⟩
      refine ⟨rfl, _, rfl, _, _, _, _, rfl, rfl, hb1, rfl, _, rfl, _, _, _, _, rfl, rfl, hb2, rfl, _, _, rfl, rfl, ?_⟩
      have hlt : slt m1.1 m2.1 := by
        have h1 : (ms.map (·.1))[i]? = some m1.1 := by rw [List.getElem?_map, hm1] <;> rfl
        have h2 : (ms.map (·.1))[1 + i]? = some m2.1 := by rw [List.getElem?_map, hm2] <;> rfl
        obtain ⟨k1, e1⟩ := List.getElem?_eq_some_iff.mp h1
        obtain ⟨k2, e2⟩ := List.getElem?_eq_some_iff.mp h2
        have := List.pairwise_iff_getElem.mp hup i (1 + i) k1 k2 (by omega)
        rw [e1, e2] at this
        exact this
      refine hq _ _ (same_new hT) ?_
      rw [decide_eq_true (show m1.1.cps.toList < m2.1.cps.toList from hlt)]
    · intro ys H' s' hl' hlen' hr'
      rw [all_true hr'] at hl'
      refine ⟨D, _, rfl, SqL.of hl', ?_⟩
      rw [all_rep]
      exact q H' (s1.trans (s2.trans s'))
end
end Tw
set_option Elab.async false
set_option linter.all false
set_option maxRecDepth 100000
set_option maxHeartbeats 4000000
namespace Tw
open PySem PySem.Spec PyProof.Rows L2
/-- the head text of a row, tested against constants -/
theorem hd_let2 (r : Row) : inV (.str r.hd) [.str "let", .str "open"] = match r with | .lt _ _ _ => true | _ => false := by
  cases r with
  | lt op _ _ => exact (by intro op; cases op <;> decide +kernel : ∀ op, inV (.str (ltw op)) [.str "let", .str "open"] = true) op
  | ask _ _ _ => exact (by decide +kernel : inV (.str "ask") [.str "let", .str "open"] = false)
  | say _ _ => exact (by decide +kernel : inV (.str "say") [.str "let", .str "open"] = false)
  | iff _ _ _ => exact (by decide +kernel : inV (.str "if") [.str "let", .str "open"] = false)
  | whl _ _ => exact (by decide +kernel : inV (.str "while") [.str "let", .str "open"] = false)
theorem hd_let3 (r : Row) : inV (.str r.hd) [.str "let", .str "open", .str "ask"] = r.told.isSome := by
  cases r with
  | lt op _ _ => exact (by intro op; cases op <;> decide +kernel : ∀ op, inV (.str (ltw op)) [.str "let", .str "open", .str "ask"] = true) op
  | ask _ _ _ => exact (by decide +kernel : inV (.str "ask") [.str "let", .str "open", .str "ask"] = true)
  | say _ _ => exact (by decide +kernel : inV (.str "say") [.str "let", .str "open", .str "ask"] = false)
  | iff _ _ _ => exact (by decide +kernel : inV (.str "if") [.str "let", .str "open", .str "ask"] = false)
  | whl _ _ => exact (by decide +kernel : inV (.str "while") [.str "let", .str "open", .str "ask"] = false)
abbrev plcs : List (L2.Key × V) := mergeK [] [(Sum.inr "let", V.int 2), (Sum.inr "open", .int 2), (Sum.inr "say", .int 2), (Sum.inr "if", .int 1), (Sum.inr "while", .int 1)]
theorem plcs_let (op : Bool) : valV plcs (Sum.inr (ltw op)) = some (.int 2) := by cases op <;> decide +kernel
theorem plcs_ask : valV plcs (Sum.inr "ask") = none := by decide +kernel
theorem plcs_say : valV plcs (Sum.inr "say") = some (.int 2) := by decide +kernel
theorem plcs_if : valV plcs (Sum.inr "if") = some (.int 1) := by decide +kernel
theorem plcs_while : valV plcs (Sum.inr "while") = some (.int 1) := by decide +kernel
theorem blk_let (a b : Addr) (op : Bool) : valV (mergeK [] [(Sum.inr "if", V.ref a), (Sum.inr "while", .ref b)]) (Sum.inr (ltw op) : L2.Key) = none := by
  have h1 : ¬ ((Sum.inr ("if" : Str) : L2.Key) = Sum.inr (ltw op)) := by simp; cases op <;> decide +kernel
  have h2 : ¬ ((Sum.inr ("while" : Str) : L2.Key) = Sum.inr (ltw op)) := by simp; cases op <;> decide +kernel
  show valV [(Sum.inr ("if" : Str), V.ref a), (Sum.inr ("while" : Str), .ref b)] (Sum.inr (ltw op) : L2.Key) = none
  rw [valV_neg h1, valV_neg h2, valV_nil]
def optS : Option Str → V
  | some x => .str x
  | none => .non
def OptE (K : PySem.W.Frag) (H : Hp) (u : V) : Option E → Prop
  | some e => Td K H u e.d
  | none => u = .non
section
variable {P : Program} {w : World} {K : PySem.W.Frag} {mg : Str → Option Value} {base : Heap}
def sp_told_by (K : PySem.W.Frag) : Sp := fun vs H Q _ => ∃ (v : V) (r : Row), vs = [v] ∧ Td K H v r.d ∧ ∀ H', Same H H' → Q (optS r.told) H'
theorem ok_told_by (T : Txt K mg) : Cal P w K mg base "told_by" 1 ["row"] (sp_told_by K) := by
  refine Cal.of T.d_told_by b_told_by sc_told_by (fun vs H Q E h => ?_) (fun cdv A outer s H vs Q E hr h => ?_)
  · obtain ⟨v, ms, rfl, _⟩ := h; rfl
  obtain ⟨v, r, rfl, ht, q⟩ := h
  refine ⟨_, (pss_one (ps_ret (pe_ifExp (pt_cmpR op_in_seq (pe_ix ix_tup (pv 0) pe_int (fun _ _ => rfl)) (pe_tup (pa_cons pe_str (pa_cons pe_str (pa_cons pe_str pa_nil)))) (by rfl)) (pe_ix ix_tup (pv 0) pe_int (fun _ _ => rfl)) pe_non))), ?_⟩
  obtain ⟨a, xs, rfl, hs, hl⟩ := td_row ht
  refine ⟨_, rfl, _, _, _, _, rfl, rfl, hs, at0, (by show 3 ≤ sizeLine; decide), fun p hp => ?_⟩
  have s0 := same_new hp (o := .tup [V.str "let", V.str "open", V.str "ask"])
  refine ⟨_, _, rfl, .inr (SqT.of upd_same), rfl, rfl, _, rfl, ?_⟩
  show if inV (V.str r.hd) [V.str "let", V.str "open", V.str "ask"] = true then _ else _
  rw [hd_let3]
  cases r with
  | lt op x e =>
    refine iteT ?_
    obtain ⟨b, y, e1, t, _⟩ := td_lt ht
    cases e1
    exact ⟨_, rfl, _, _, _, _, rfl, rfl, same_tup s0 t, rfl, q _ s0⟩
  | ask x h k =>
    refine iteT ?_
    obtain ⟨b, e1, t⟩ := td_ask ht
    cases e1
    exact ⟨_, rfl, _, _, _, _, rfl, rfl, same_tup s0 t, rfl, q _ s0⟩
  | say h e => refine iteF ?_; exact q _ s0
  | iff e b c => refine iteF ?_; exact q _ s0
  | whl e b => refine iteF ?_; exact q _ s0
def sp_expr_of (K : PySem.W.Frag) : Sp := fun vs H Q _ => ∃ (v : V) (r : Row), vs = [v] ∧ Td K H v r.d ∧ ∀ H' u, Same H H' → OptE K H' u r.expr → Q u H'
theorem ok_expr_of (T : Txt K mg) : Cal P w K mg base "expr_of" 1 ["row"] (sp_expr_of K) := by
  refine Cal.of T.d_expr_of b_expr_of sc_expr_of (fun vs H Q E h => ?_) (fun cdv A outer s H vs Q E hr h => ?_)
  · obtain ⟨v, ms, rfl, _⟩ := h; rfl
  obtain ⟨v, r, rfl, ht, q⟩ := h
  have hu := hu_of hr
  refine ⟨_, (pss_cons (ps_set (i := 1) sc_expr_of.nd rfl (Or.inl rfl) (pe_disp (pps_cons pe_str pe_int (pps_cons pe_str pe_int (pps_cons pe_str pe_int (pps_cons pe_str pe_int (pps_cons pe_str pe_int pps_nil))))) (by rfl) (by rfl) (fun z => by cases z) (by decide)))
  (pss_one (ps_ret (pe_ifExp (pt_cmp (pc_din hu (pe_ix ix_tup (pv 0) pe_int (fun _ _ => rfl)) (pv 1))) (pe_ix ix_tup (pv 0) (pe_dget hu (pv 1) (pe_ix ix_tup (pv 0) pe_int (fun _ _ => rfl)) (fun _ _ => rfl)) (fun _ _ => rfl)) pe_non)))), ?_⟩
  intro p hp
  refine ⟨upd_same, [(Sum.inr "let", .int 2), (Sum.inr "open", .int 2), (Sum.inr "say", .int 2), (Sum.inr "if", .int 1), (Sum.inr "while", .int 1)], rfl, (by decide), ?_⟩
  rw [upd_upd]
  have s0 := same_new hp (o := .dK (plcs))
  have ht' := ht.same s0
  have hd : upd H p (.dK (plcs)) p = some _ := upd_same
  generalize upd H p (.dK (plcs)) = H1 at s0 ht' hd ⊢
  obtain ⟨a, xs, rfl, hs, hl⟩ := td_row ht'
  refine ⟨_, rfl, _, _, _, _, rfl, rfl, hs, at0, _, rfl, p, _, rfl, DGet.k (k := Sum.inr r.hd) hd, _, rfl, ?_⟩
  cases r with
  | lt op x e =>
    obtain ⟨b, y, e1, t, hy⟩ := td_lt ht'
    cases e1
    refine iteT' (by show (valV plcs (Sum.inr (ltw op))).isSome = true; rw [plcs_let]; rfl) ?_
    refine ⟨_, rfl, _, rfl, _, rfl, _, _, _, _, rfl, rfl, t, rfl, p, _, rfl, plcs_let op ▸ DGet.k (k := Sum.inr (ltw op)) hd, _, _, _, _, rfl, rfl, t, rfl, ?_⟩
    exact q H1 y s0 hy
  | ask x h k =>
    refine iteF' (by show (valV plcs (Sum.inr "ask")).isSome = false; rw [plcs_ask]; rfl) ?_
    exact q H1 _ s0 rfl
  | say h e =>
    obtain ⟨b, y, e1, t, hy⟩ := td_say ht'
    cases e1
    refine iteT' (by show (valV plcs (Sum.inr "say")).isSome = true; rw [plcs_say]; rfl) ?_
    refine ⟨_, rfl, _, rfl, _, rfl, _, _, _, _, rfl, rfl, t, rfl, p, _, rfl, plcs_say ▸ DGet.k (k := Sum.inr "say") hd, _, _, _, _, rfl, rfl, t, rfl, ?_⟩
    exact q H1 y s0 hy
  | iff e b c =>
    obtain ⟨b, x, y, z, e1, t, hx, _⟩ := td_iff' ht'
    cases e1
    refine iteT' (by show (valV plcs (Sum.inr "if")).isSome = true; rw [plcs_if]; rfl) ?_
    refine ⟨_, rfl, _, rfl, _, rfl, _, _, _, _, rfl, rfl, t, rfl, p, _, rfl, plcs_if ▸ DGet.k (k := Sum.inr "if") hd, _, _, _, _, rfl, rfl, t, rfl, ?_⟩
    exact q H1 x s0 hx
  | whl e b =>
    obtain ⟨b, x, y, e1, t, hx, _⟩ := td_whl ht'
    cases e1
    refine iteT' (by show (valV plcs (Sum.inr "while")).isSome = true; rw [plcs_while]; rfl) ?_
    refine ⟨_, rfl, _, rfl, _, rfl, _, _, _, _, rfl, rfl, t, rfl, p, _, rfl, plcs_while ▸ DGet.k (k := Sum.inr "while") hd, _, _, _, _, rfl, rfl, t, rfl, ?_⟩
    exact q H1 x s0 hx
def blkD (b : List Row) : PyData := .tuple (rowsD b)
def sp_blocks_in (K : PySem.W.Frag) : Sp := fun vs H Q _ => ∃ (v : V) (r : Row), vs = [v] ∧ Td K H v r.d ∧ ∀ H' p xs, Same H H' → H p = none → H' p = some (.lst xs) → TdA K H' xs (r.blks.map blkD) → Q (.ref p) H'
theorem ok_blocks_in (T : Txt K mg) : Cal P w K mg base "blocks_in" 1 ["row"] (sp_blocks_in K) := by
  refine Cal.of T.d_blocks_in b_blocks_in sc_blocks_in (fun vs H Q E h => ?_) (fun cdv A outer s H vs Q E hr h => ?_)
  · obtain ⟨v, ms, rfl, _⟩ := h; rfl
  obtain ⟨v, r, rfl, ht, q⟩ := h
  have hu := hu_of hr
  refine ⟨_, (pss_one (ps_ret (pe_callTy call_list_of (by rfl) T.list bb_list (pa_cons (pe_dget2 hu (pe_disp (pps_cons pe_str (pe_slice sl_tupA (pv 0) (po_some pe_int) po_none) (pps_cons pe_str (pe_slice sl_tupA (pv 0) (po_some pe_int) po_none) pps_nil)) (by rfl) (by rfl) (fun z => by cases z) (by decide)) (pe_ix ix_tup (pv 0) pe_int (fun _ _ => rfl)) (pe_tup pa_nil) ⟨rfl, rfl, rfl, rfl⟩) pa_nil)))), ?_⟩
  intro p hp
  obtain ⟨a, xs, rfl, hs, hl⟩ := td_row ht
  have s0 := same_new hp (o := .dK [])
  refine ⟨_, rfl, 2, rfl, np (slA_of (same_tup s0 hs) fun H2 p2 s2 hp2 => ?_)⟩
  rw [show ((2 : Int)) = ((2 : Nat) : Int) from rfl, cut_from] at hp2
  have s02 := s0.trans s2
  refine ⟨_, rfl, 2, rfl, np (slA_of (same_tup s02 hs) fun H3 p3 s3 hp3 => ?_)⟩
  rw [show ((2 : Int)) = ((2 : Nat) : Int) from rfl, cut_from] at hp3
  have s03 := s02.trans s3
  refine ⟨s3 _ _ (s2 _ _ upd_same), [(Sum.inr "if", .ref p2), (Sum.inr "while", .ref p3)], rfl, (by show 2 ≤ 15; decide), p, rfl, .inl ⟨_, .of upd_same⟩, ?_⟩
  have s3' := s2.trans s3
  have hp2' := same_tup s3 hp2
  have k4 : Kp [p] H3 (upd H3 p (.dK (mergeK [] [(Sum.inr "if", V.ref p2), (Sum.inr "while", .ref p3)]))) := .at
  have tf4 : TF H3 [p] := TF.one (s3' _ _ upd_same) (fun _ e => by cases e) (fun _ _ e => by cases e) .nil
  have hp24 := k4.tup tf4 hp2'
  have hp34 := k4.tup tf4 hp3
  have hs4 := k4.tup tf4 (same_tup s03 hs)
  have ht4 := Td.kp k4 tf4 _ (ht.same s03)
  have s4 : Same H (upd H3 p (.dK (mergeK [] [(Sum.inr "if", V.ref p2), (Sum.inr "while", .ref p3)]))) := same_put s03 hp
  have hd : upd H3 p (.dK (mergeK [] [(Sum.inr "if", V.ref p2), (Sum.inr "while", .ref p3)])) p = some _ := upd_same
  have k4' := k4
  generalize upd H3 p (.dK (mergeK [] [(Sum.inr "if", V.ref p2), (Sum.inr "while", .ref p3)])) = H4 at hp24 hp34 hs4 ht4 s4 hd k4' ⊢
  refine ⟨_, rfl, _, _, _, _, rfl, rfl, hs4, at0, (by show 0 ≤ sizeLine; decide), fun p5 hp5 => ?_⟩
  have s5 := same_new hp5 (o := .tup [])
  have hd5 := s5 _ _ hd
  refine ⟨_, DGet.k (k := Sum.inr r.hd) hd5, ?_⟩
  have fin : ∀ (b : Addr) (ys : List V), SqT K (upd H4 p5 (.tup [])) b ys → TdA K (upd H4 p5 (.tup [])) ys (r.blks.map blkD) → ∃ p_1 ys_1, [V.ref b] = [V.ref p_1] ∧ (SqL K (upd H4 p5 (.tup [])) p_1 ys_1 ∨ SqT K (upd H4 p5 (.tup [])) p_1 ys_1) ∧ ∀ l, upd H4 p5 (.tup []) l = none → Q (.ref l) (upd (upd H4 p5 (.tup [])) l (.lst ys_1)) := by
    intro b ys h1 h2
    refine ⟨b, ys, rfl, .inr h1, fun l hl => ?_⟩
    have s6 := s4.trans s5
    exact q _ l ys (same_put s6 (s6.free hl)) (s6.free hl) upd_same (h2.same (same_new hl))
  have h2 := same_tup s5 hp24
  have h3 := same_tup s5 hp34
  have hx5 : TdA K (upd H4 p5 (.tup [])) xs r.tl := (TdA.kp k4' tf4 _ (hl.same s03)).same s5
  cases r with
  | lt op x e =>
    show ∃ p_1 ys, [(valV (mergeK [] [(Sum.inr "if", V.ref p2), (Sum.inr "while", .ref p3)]) (Sum.inr (ltw op) : L2.Key)).getD (V.ref p5)] = [V.ref p_1] ∧ _
    rw [blk_let]
    exact fin p5 [] (.of upd_same) tda_nil
  | ask x h k => exact fin p5 [] (.of upd_same) tda_nil
  | say h e => exact fin p5 [] (.of upd_same) tda_nil
  | iff e b c => exact fin p2 _ h2 (hx5.drop 1)
  | whl e b => exact fin p3 _ h3 (hx5.drop 1)
end
end Tw
set_option Elab.async false
set_option linter.all false
set_option maxRecDepth 100000
set_option maxHeartbeats 4000000
namespace Tw
open PySem PySem.Spec PyProof.Rows L2
/-- a dict that tells each name's house, or nothing -/
def Homes (hm : Str → Str) (kvs : List (L2.Key × V)) : Prop := ∀ x : Str, valV kvs (Sum.inr x) = none ∨ valV kvs (Sum.inr x) = some (.str (hm x))
theorem hd_str (r : Row) (s : Str) : (decide (V.str r.hd = V.str s)) = decide (r.hd = s) := by simp
abbrev mny : List (L2.Key × V) := mergeK [] [(Sum.inr "if", V.int 4), (Sum.inr "while", .int 3)]
theorem mny_if : valV mny (Sum.inr "if") = some (.int 4) := by decide +kernel
theorem mny_while : valV mny (Sum.inr "while") = some (.int 3) := by decide +kernel
section
variable {P : Program} {w : World} {K : PySem.W.Frag} {mg : Str → Option Value} {base : Heap}
theorem rows_lists {H : Hp} {xs : List V} {bs : List (List Row)} (h : TdA K H xs (bs.map blkD)) {i : Nat} {v : V} (hv : xs[i]? = some v) : ∃ a ys b, bs[i]? = some b ∧ v = .ref a ∧ SqT K H a ys ∧ TdA K H ys (rowsD b) := by
  obtain ⟨d, hd, ht⟩ := h.get hv
  rw [List.getElem?_map] at hd
  obtain ⟨b, hb, rfl⟩ := Option.map_eq_some_iff.mp hd
  obtain ⟨a, ys, e, t, q⟩ := td_tup.mp ht
  exact ⟨a, ys, b, hb, e, t, q⟩
def sp_is_plain_row (K : PySem.W.Frag) : Sp := fun vs H Q _ => ∃ (v : V) (r : Row) (d : Addr) (kvs : List (L2.Key × V)) (hm : Str → Str), vs = [v, .ref d] ∧ Td K H v r.d ∧ H d = some (.dK kvs) ∧ Homes hm kvs ∧ r.ok hm ∧ (∀ x, isHouse (hm x) = true) ∧ ∀ H', Same H H' → Q (.bl true) H'
theorem ok_is_plain_row (T : Txt K mg) : Cal P w K mg base "is_plain_row" 13 ["thing", "homes"] (sp_is_plain_row K) := by
  have C_is_name := ok_is_name (P := P) (w := w) (base := base) T
  have C_is_house := ok_is_house (P := P) (w := w) (base := base) T
  have C_is_expr := ok_is_expr (P := P) (w := w) (base := base) T
  refine Cal.of T.d_is_plain_row b_is_plain_row sc_is_plain_row (fun vs H Q E h => ?_) (fun cdv A outer s H vs Q E hr h => ?_)
  · obtain ⟨_, _, _, _, _, rfl, _⟩ := h; rfl
  obtain ⟨v, r, d, kvs, hm, rfl, ht, hd, hho, hok, hhs, q⟩ := h
  have hu := hu_of hr
  refine ⟨_, (pss_cons (ps_if (PW.pt (pw_or (pt_not (pt_val (pe_callB call_isi (by rfl) T.isinstance bb_isinstance (pa_cons (pv 0) (pa_cons (pe_bty T.tuple bb_tuple rfl) pa_nil))))) (pw_or (pt_cmpR op_lt (pe_callB call_len_seq (by rfl) T.len bb_len (pa_cons (pv 0) pa_nil)) pe_int (nomark _)) (pw_or1 (pt_not (pt_val (pe_callB call_isi (by rfl) T.isinstance bb_isinstance (pa_cons (pe_ix ix_tup (pv 0) pe_int (fun _ _ => rfl)) (pa_cons (pe_bty T.str bb_str rfl) pa_nil))))))))) (pss_one (ps_ret pe_bl)) pss_nil)
  (pss_cons (ps_if (pt_cmpR op_in_seq (pe_ix ix_tup (pv 0) pe_int (fun _ _ => rfl)) (pe_tup (pa_cons pe_str (pa_cons pe_str pa_nil))) (by rfl)) (pss_one (ps_ret (pe_and (pe_cmpR op_eq (pe_callB call_len_seq (by rfl) T.len bb_len (pa_cons (pv 0) pa_nil)) pe_int (nomark _)) (pe_and (pe_callC C_is_name (hr.mono (by decide)) rfl (pa_cons (pe_ix ix_tup (pv 0) pe_int (fun _ _ => rfl)) pa_nil)) (pe_one (pe_callC C_is_expr (hr.mono (by decide)) rfl (pa_cons (pe_ix ix_tup (pv 0) pe_int (fun _ _ => rfl)) pa_nil))))))) pss_nil)
  (pss_cons (ps_if (pt_cmpR op_eq (pe_ix ix_tup (pv 0) pe_int (fun _ _ => rfl)) pe_str (nomark _)) (pss_cons (ps_if (PW.pt (pw_or (pt_cmpR op_ne (pe_callB call_len_seq (by rfl) T.len bb_len (pa_cons (pv 0) pa_nil)) pe_int (nomark _)) (pw_or (pt_not (pt_val (pe_callC C_is_name (hr.mono (by decide)) rfl (pa_cons (pe_ix ix_tup (pv 0) pe_int (fun _ _ => rfl)) pa_nil)))) (pw_or (pt_not (pt_val (pe_callC C_is_house (hr.mono (by decide)) rfl (pa_cons (pe_ix ix_tup (pv 0) pe_int (fun _ _ => rfl)) pa_nil)))) (pw_or1 (pt_not (pt_val (pe_callB call_isi (by rfl) T.isinstance bb_isinstance (pa_cons (pe_ix ix_tup (pv 0) pe_int (fun _ _ => rfl)) (pa_cons (pe_bty T.bool bb_bool rfl) pa_nil)))))))))) (pss_one (ps_ret pe_bl)) pss_nil)
  (pss_one (ps_ret (pe_cmpR op_eq (pe_dget2 hu (pv 1) (pe_ix ix_tup (pv 0) pe_int (fun _ _ => rfl)) (pe_ix ix_tup (pv 0) pe_int (fun _ _ => rfl)) ⟨rfl, rfl, rfl, rfl⟩) (pe_ix ix_tup (pv 0) pe_int (fun _ _ => rfl)) (nomark _))))) pss_nil)
  (pss_cons (ps_if (pt_cmpR op_eq (pe_ix ix_tup (pv 0) pe_int (fun _ _ => rfl)) pe_str (nomark _)) (pss_one (ps_ret (pe_and (pe_cmpR op_eq (pe_callB call_len_seq (by rfl) T.len bb_len (pa_cons (pv 0) pa_nil)) pe_int (nomark _)) (pe_and (pe_callC C_is_house (hr.mono (by decide)) rfl (pa_cons (pe_ix ix_tup (pv 0) pe_int (fun _ _ => rfl)) pa_nil)) (pe_one (pe_callC C_is_expr (hr.mono (by decide)) rfl (pa_cons (pe_ix ix_tup (pv 0) pe_int (fun _ _ => rfl)) pa_nil))))))) pss_nil)
  (pss_cons (ps_set (i := 2) sc_is_plain_row.nd rfl (Or.inl rfl) (pe_dget2 hu (pe_disp (pps_cons pe_str pe_int (pps_cons pe_str pe_int pps_nil)) (by rfl) (by rfl) (fun z => by cases z) (by decide)) (pe_ix ix_tup (pv 0) pe_int (fun _ _ => rfl)) pe_int ⟨rfl, rfl, rfl, rfl⟩))
  (pss_one (ps_ret (pe_and (pe_cmpR op_eq (pe_callB call_len_seq (by rfl) T.len bb_len (pa_cons (pv 0) pa_nil)) (pv 2) (nomark _)) (pe_and (pe_callC C_is_expr (hr.mono (by decide)) rfl (pa_cons (pe_ix ix_tup (pv 0) pe_int (fun _ _ => rfl)) pa_nil)) (pe_one (pe_callB (cr_all rfl) (by rfl) T.all bb_all (pa_cons (pe_lc (own := [("block", 3)]) (by rfl) sc_is_plain_row.nd (pi_tup (pe_slice sl_tupA (pv 0) (po_some pe_int) po_none)) (blkOk_by (own := [("block", 3)]) (N := N_is_plain_row) (sc := defScope s_is_plain_row) (by decide +kernel)) (fun _ _ _ _ _ => (pg_name (i := 3) sc_is_plain_row.nd rfl (Or.inl rfl))) (fun _ _ _ _ _ => pts_nil) (fun _ _ _ _ _ => (pe_callB (call_isiB K) (by rfl) T.isinstance bb_isinstance (pa_cons (pv 3) (pa_cons (pe_bty T.tuple bb_tuple rfl) pa_nil))))) pa_nil)))))))))))), ?_⟩
  obtain ⟨a, xs, rfl, hs, hl⟩ := td_row ht
  have hln := hl.length
  have hlen3 : ¬ (((V.str r.hd :: xs).length : Nat) : Int) < 3 := by
    rw [List.length_cons, hln]
    cases r <;> simp [Row.tl]
  refine ⟨_, rfl, _, _, _, _, _, rfl, .ty _, tyx_seqT hs, kt_tuple_tuple, _, rfl, ?_⟩
  refine iteF ?_
  refine ⟨_, rfl, _, _, rfl, .inr hs, _, _, rfl, rfl, _, rfl, ?_⟩
  refine iteF' (decide_eq_false hlen3) ?_
  refine ⟨_, rfl, _, _, _, _, rfl, rfl, hs, at0, _, _, _, _, _, rfl, .ty _, .base (.str _), kt_str_str, _, rfl, ?_⟩
  refine iteF ?_
  refine ⟨_, rfl, _, _, _, _, rfl, rfl, hs, at0, (by show 2 ≤ sizeLine; decide), fun p hp => ?_⟩
  have s0 := same_new hp (o := .tup [V.str "let", V.str "open"])
  have ht0 := ht.same s0
  have hd0 := s0 _ _ hd
  have q0 : ∀ H', Same (upd H p (.tup [V.str "let", V.str "open"])) H' → Q (.bl true) H' := fun H' s => q H' (s0.trans s)
  refine ⟨_, _, rfl, .inr (SqT.of upd_same), rfl, rfl, _, rfl, ?_⟩
  show if inV (V.str r.hd) [V.str "let", V.str "open"] = true then _ else _
  rw [hd_let2]
  generalize upd H p (.tup [V.str "let", V.str "open"]) = H1 at s0 ht0 hd0 q0 ⊢
  clear hs hl hp
  cases r with
  | lt op x e =>
    refine iteT ?_
    obtain ⟨h1, h2⟩ := hok
    obtain ⟨b, y, e1, t, hy⟩ := td_lt ht0
    cases e1
    refine ⟨_, rfl, _, _, rfl, .inr t, rfl, _, rfl, ?_⟩
    refine iteT ?_
    refine ⟨_, rfl, _, _, _, _, rfl, rfl, t, rfl, _, rfl, by have := name_len h1; omega, fun H2 s2 => ?_⟩
    rw [h1]
    refine ⟨_, rfl, ?_⟩
    refine iteT ?_
    refine ⟨_, rfl, _, _, _, _, rfl, rfl, same_tup s2 t, rfl, _, e, rfl, hy.same s2, h2, fun H3 s3 => ?_⟩
    exact q0 _ (s2.trans s3)
  | ask x h k =>
    refine iteF ?_
    obtain ⟨h1, h2⟩ := hok
    obtain ⟨b, e1, t⟩ := td_ask ht0
    cases e1
    refine ⟨_, rfl, _, _, _, _, rfl, rfl, t, rfl, rfl, _, rfl, ?_⟩
    refine iteT' (by decide +kernel) ?_
    refine ⟨_, rfl, _, _, rfl, .inr t, rfl, _, rfl, ?_⟩
    refine iteF' (by rfl) ?_
    refine ⟨_, rfl, _, _, _, _, rfl, rfl, t, rfl, _, rfl, by have := name_len h1; omega, fun H2 s2 => ?_⟩
    rw [h1]
    refine ⟨_, rfl, ?_⟩
    refine iteF ?_
    refine ⟨_, rfl, _, _, _, _, rfl, rfl, same_tup s2 t, rfl, _, rfl, ?_⟩
    rw [h2, hhs]
    refine ⟨_, rfl, ?_⟩
    refine iteF ?_
    refine ⟨_, rfl, _, _, _, _, rfl, rfl, same_tup s2 t, rfl, _, _, _, _, _, rfl, .ty _, .base (.bl _), kt_bool_bool, _, rfl, ?_⟩
    refine iteF ?_
    have hd2 := s2 _ _ hd0
    refine ⟨_, rfl, d, rfl, .inl ⟨_, .of hd2⟩, _, rfl, _, _, _, _, rfl, rfl, same_tup s2 t, rfl, _, rfl, _, _, _, _, rfl, rfl, same_tup s2 t, rfl, _, DGet.k (k := Sum.inr x) hd2, ?_⟩
    refine ⟨_, rfl, _, _, _, _, rfl, rfl, same_tup s2 t, rfl, ?_⟩
    have e1 : (valV kvs (Sum.inr x)).getD (V.str h) = V.str h := by
      rcases hho x with z | z
      · rw [z] <;> rfl
      · rw [z, h2] <;> rfl
    rw [e1]
    refine ⟨rfl, ?_⟩
    rw [decide_eq_true rfl]
    exact q0 _ s2
  | say h e =>
    refine iteF ?_
    obtain ⟨h1, h2⟩ := hok
    obtain ⟨b, y, e1, t, hy⟩ := td_say ht0
    cases e1
    refine ⟨_, rfl, _, _, _, _, rfl, rfl, t, rfl, rfl, _, rfl, ?_⟩
    refine iteF' (by decide +kernel) ?_
    refine ⟨_, rfl, _, _, _, _, rfl, rfl, t, rfl, rfl, _, rfl, ?_⟩
    refine iteT' (by decide +kernel) ?_
    refine ⟨_, rfl, _, _, rfl, .inr t, rfl, _, rfl, ?_⟩
    refine iteT ?_
    refine ⟨_, rfl, _, _, _, _, rfl, rfl, t, rfl, _, rfl, ?_⟩
    rw [h1]
    refine ⟨_, rfl, ?_⟩
    refine iteT ?_
    exact ⟨_, rfl, _, _, _, _, rfl, rfl, t, rfl, _, e, rfl, hy, h2, fun H3 s3 => q0 _ s3⟩
  | iff e b c =>
    refine iteF ?_
    obtain ⟨b', x, y, z, e1, t, hx, hy, hz⟩ := td_iff' ht0
    cases e1
    refine ⟨_, rfl, _, _, _, _, rfl, rfl, t, rfl, rfl, _, rfl, ?_⟩
    refine iteF' (by decide +kernel) ?_
    refine ⟨_, rfl, _, _, _, _, rfl, rfl, t, rfl, rfl, _, rfl, ?_⟩
    refine iteF' (by decide +kernel) ?_
    intro p5 hp5
    refine ⟨upd_same, [(Sum.inr "if", V.int 4), (Sum.inr "while", .int 3)], rfl, (by decide), p5, rfl, .inl ⟨_, .of upd_same⟩, ?_⟩
    rw [upd_upd]
    have s5 := same_new hp5 (o := .dK mny)
    have t5 := same_tup s5 t
    refine ⟨_, rfl, _, _, _, _, rfl, rfl, t5, rfl, _, DGet.k (k := Sum.inr "if") upd_same, ?_⟩
    have hx5 := hx.same s5
    have hys5 : TdA K (upd H1 p5 (.dK mny)) [y, z] ([b, c].map blkD) := tda_cons.mpr ⟨hy.same s5, tda_cons.mpr ⟨hz.same s5, tda_nil⟩⟩
    have q5 : ∀ H', Same (upd H1 p5 (.dK mny)) H' → Q (.bl true) H' := fun H' s => q0 H' (s5.trans s)
    generalize upd H1 p5 (.dK mny) = H5 at s5 t5 hx5 hys5 q5 ⊢
    refine ⟨_, rfl, _, _, rfl, .inr t5, _, rfl, rfl, _, rfl, ?_⟩
    refine iteT' (by show decide (V.int 4 = (valV mny (Sum.inr "if")).getD (.int 0)) = true; rw [mny_if]; rfl) ?_
    refine ⟨_, rfl, _, _, _, _, rfl, rfl, t5, rfl, _, e, rfl, hx5, hok.1, fun H6 s6 => ?_⟩
    refine ⟨_, rfl, ?_⟩
    refine iteT ?_
    refine ⟨_, rfl, 2, rfl, np (slA_of (same_tup s6 t5) fun H7 p7 s7 hp7 => ?_)⟩
    refine ⟨p7, rfl, ⟨_, hp7⟩, fun D hD => ?_⟩
    have s67 := s6.trans s7
    refine lc_pu walk_tup (by show 2 ≤ 100000; decide) hD (fun H' s' => same_tup s' hp7) (fun i y _ => y = V.bl true) (fun _ _ _ _ _ _ r => r) ?_ ?_
    · rintro i v H8 H9 Qc hi s8 _ ⟨rfl, hv⟩ hq
      obtain ⟨b1, ys, b2, hb2, rfl, hb3, _⟩ := rows_lists ((hys5.same s67).same s8) hv
      exact ⟨rfl, _, rfl, _, _, _, _, _, rfl, .ty _, tyx_seqT hb3, kt_tuple_tuple, hq _ _ (Same.refl _) rfl⟩
    · intro ys H' s' hl' hlen' hr'
      rw [all_true hr'] at hl'
      refine ⟨D, _, rfl, SqL.of hl', ?_⟩
      rw [all_rep]
      exact q5 H' (s67.trans s')
  | whl e b =>
    refine iteF ?_
    obtain ⟨b', x, y, e1, t, hx, hy⟩ := td_whl ht0
    cases e1
    refine ⟨_, rfl, _, _, _, _, rfl, rfl, t, rfl, rfl, _, rfl, ?_⟩
    refine iteF' (by decide +kernel) ?_
    refine ⟨_, rfl, _, _, _, _, rfl, rfl, t, rfl, rfl, _, rfl, ?_⟩
    refine iteF' (by decide +kernel) ?_
    intro p5 hp5
    refine ⟨upd_same, [(Sum.inr "if", V.int 4), (Sum.inr "while", .int 3)], rfl, (by decide), p5, rfl, .inl ⟨_, .of upd_same⟩, ?_⟩
    rw [upd_upd]
    have s5 := same_new hp5 (o := .dK mny)
    have t5 := same_tup s5 t
    refine ⟨_, rfl, _, _, _, _, rfl, rfl, t5, rfl, _, DGet.k (k := Sum.inr "while") upd_same, ?_⟩
    have hx5 := hx.same s5
    have hys5 : TdA K (upd H1 p5 (.dK mny)) [y] ([b].map blkD) := tda_cons.mpr ⟨hy.same s5, tda_nil⟩
    have q5 : ∀ H', Same (upd H1 p5 (.dK mny)) H' → Q (.bl true) H' := fun H' s => q0 H' (s5.trans s)
    generalize upd H1 p5 (.dK mny) = H5 at s5 t5 hx5 hys5 q5 ⊢
    refine ⟨_, rfl, _, _, rfl, .inr t5, _, rfl, rfl, _, rfl, ?_⟩
    refine iteT' (by show decide (V.int 3 = (valV mny (Sum.inr "while")).getD (.int 0)) = true; rw [mny_while]; rfl) ?_
    refine ⟨_, rfl, _, _, _, _, rfl, rfl, t5, rfl, _, e, rfl, hx5, hok.1, fun H6 s6 => ?_⟩
    refine ⟨_, rfl, ?_⟩
    refine iteT ?_
    refine ⟨_, rfl, 2, rfl, np (slA_of (same_tup s6 t5) fun H7 p7 s7 hp7 => ?_)⟩
    refine ⟨p7, rfl, ⟨_, hp7⟩, fun D hD => ?_⟩
    have s67 := s6.trans s7
    refine lc_pu walk_tup (by show 1 ≤ 100000; decide) hD (fun H' s' => same_tup s' hp7) (fun i y _ => y = V.bl true) (fun _ _ _ _ _ _ r => r) ?_ ?_
    · rintro i v H8 H9 Qc hi s8 _ ⟨rfl, hv⟩ hq
      obtain ⟨b1, ys, b2, hb2, rfl, hb3, _⟩ := rows_lists ((hys5.same s67).same s8) hv
      exact ⟨rfl, _, rfl, _, _, _, _, _, rfl, .ty _, tyx_seqT hb3, kt_tuple_tuple, hq _ _ (Same.refl _) rfl⟩
    · intro ys H' s' hl' hlen' hr'
      rw [all_true hr'] at hl'
      refine ⟨D, _, rfl, SqL.of hl', ?_⟩
      rw [all_rep]
      exact q5 H' (s67.trans s')
end
end Tw
set_option Elab.async false
set_option linter.all false
set_option maxRecDepth 100000
set_option maxHeartbeats 4000000
/-! dict(tuple of pairs), dict(zip(..)), d.update(d2) -/
namespace Tw
open PySem PySem.Spec PyProof.Rows L2
section
variable {X : Cx}
/-- dict(t), t a tuple of pairs -/
theorem call_dict_T (hcalm : X.calm = true) : CallR X (.type "dict") (fun xs H Q => ∃ (a : Addr) (ps : List Addr) (kvs : List (L2.Key × V)) (ob : Obj), xs = [.ref a] ∧ H a = some (.frz ob (.tup (ps.map V.ref))) ∧ ob.dict = none ∧ Paired (fun p kv => SqT X.K H p [kV kv.1, kv.2]) ps kvs ∧
    ∀ p, H p = none → Q (.ref p) (upd H p (.dK (mergeK [] kvs)))) := by
  intro pins s σ H xs us Q I r q
  obtain ⟨a, ps, kvs, ob, ex, hq, hob, hp, q⟩ := q
  subst ex
  obtain ⟨u, eu, rx⟩ := vals1 r
  subst eu
  cases rx
  obtain ⟨hob2, hz, its, rv, pl⟩ : s.heap.get? a = some ob ∧ ObjOk X.prog X.w H s.heap a (.tup (ps.map V.ref)) := I.hok a _ hq
  have ei := refs_at rv
  subst ei
  rw [List.length_map] at hz
  obtain ⟨prs, rel, hl, hpr⟩ := pairs_of I hp
  obtain ⟨vps, hv⟩ : ∃ vps : List (Value × Value), vps.length = prs.length ∧ ∀ (j : Nat) (q : L2.Key × Value), prs[j]? = some q → ∃ (b : Addr) (u : Value), ps[j]? = some b ∧ IsTup s.heap b #[u, q.2] ∧ keyIs q.1 u = true ∧ vps[j]? = some (u, q.2) := by
    clear rel hp hz rv hq r I pl hob2
    induction prs generalizing ps with
    | nil => exact ⟨[], rfl, fun j q e => by simp at e⟩
    | cons q prs ih =>
      obtain ⟨b, u, h1, h2, h3⟩ := hpr 0 q rfl
      cases ps with
      | nil => simp at h1
      | cons b' ps =>
        obtain ⟨vps, e1, e2⟩ := ih ps (by simpa using hl) fun j q e => by
          obtain ⟨b, u, g1, g2, g3⟩ := hpr (j + 1) q (by simpa using e)
          exact ⟨b, u, by simpa using g1, g2, g3⟩
        refine ⟨(u, q.2) :: vps, by rw [List.length_cons, List.length_cons, e1], fun j q' e => ?_⟩
        cases j with
        | zero =>
          have e' : q = q' := Option.some.inj e
          subst e'
          exact ⟨b, u, h1, h2, h3, rfl⟩
        | succ j =>
          obtain ⟨b, u, g1, g2, g3, g4⟩ := e2 j q' (by simpa using e)
          exact ⟨b, u, by simpa using g1, g2, g3, by simpa using g4⟩
  obtain ⟨hvl, hv⟩ := hv
  have hd : ∃ o n, s.heap.get? a = some o ∧ o.cls = .type "tuple" ∧ o.dict = none ∧ o.data = .seq (ps.map Value.ref).toArray n := by
    obtain ⟨o, h1, h2, n, h3⟩ := pl
    rw [hob2] at h1
    cases h1
    exact ⟨ob, n, hob2, h2, hob, h3⟩
  have ok : _root_.PySem.PlainSeq "tuple" s.heap a (ps.map Value.ref).toArray ∧ PairItems s.heap (ps.map Value.ref).toArray (fun j => ps.getD j 0) vps := by
    refine ⟨hd, by rw [List.size_toArray, List.length_map, hvl, hl], fun j k v e => ?_⟩
    have hj : j < prs.length := by
      have := (List.getElem?_eq_some_iff.mp e).1
      omega
    obtain ⟨b, u, g1, g2, g3, g4⟩ := hv j _ (List.getElem?_eq_getElem hj)
    rw [g4] at e
    cases e
    have eb : ps.getD j 0 = b := by rw [List.getD_eq_getElem?_getD, g1] <;> rfl
    refine ⟨?_, ?_⟩
    · show (List.map Value.ref ps).toArray[j]? = some (Value.ref (ps.getD j 0))
      rw [eb]
      simp [g1]
    · show PairAt s.heap (ps.getD j 0) _ _
      rw [eb]
      exact .inl g2
  refine _root_.PySem.call_dict_pairs (knd := mixKind X.prog X.w) (kvs := prs) (_root_.PySem.PairArg.tuple a (ps.map Value.ref).toArray (fun j => ps.getD j 0) vps) (I.ok.hd hcalm) ok ⟨by rw [hvl], fun i key v e => ?_⟩ (by rw [hvl, hl]; exact hz) fun h' tk hd' k => ?_
  · have hi : i < prs.length := by
      have := (List.getElem?_eq_some_iff.mp e).1
      omega
    obtain ⟨b, u, g1, g2, g3, g4⟩ := hv i _ (List.getElem?_eq_getElem hi)
    rw [show vps[i]? = some (key, v) from e] at g4
    cases g4
    exact ⟨prs[i].1, by rw [List.getElem?_eq_getElem hi], g3⟩
  · have hm : (s.heap.objs.size == sysModules) = false := beq_eq_false_iff_ne.mpr (Nat.ne_of_gt I.big)
    have hlen : (mergeK [] kvs).length ≤ sizeLine := by
      refine Nat.le_trans (length_mergeK kvs []) ?_
      rw [List.length_nil, Nat.zero_add, rel.length, hl]
      exact hz
    exact ⟨.ref s.heap.objs.size, upd H s.heap.objs.size (.dK (mergeK [] kvs)), I.laid (t' := tk) (fun b o e => k b o (by simp) e) (Nat.le_refl _) (show ObjOk X.prog X.w _ _ _ (.dK (mergeK [] kvs)) from ⟨hlen, hm, merged [] prs, KV.merge rel .nil, hd'⟩), rfl, q _ (I.hok.fresh (Nat.le_refl _))⟩
/-- tuple(l), the new tuple known -/
theorem call_tupleF (K : PySem.W.Frag) (e : X.K = K := by rfl) : CallR X (.type "tuple") (fun xs H Q => ∃ p ys, xs = [.ref p] ∧ SqL K H p ys ∧ ∀ l ob, H l = none → ob.dict = none → Q (.ref l) (upd H l (.frz ob (.tup ys)))) := by
  subst e
  intro pins s σ H xs us Q I r h
  obtain ⟨p, ys, rfl, hq, q⟩ := h
  obtain ⟨u, rfl, rx⟩ := vals1 r
  cases rx
  obtain ⟨its, r', pl, hz⟩ := I.list hq
  have hlen := r'.length
  refine call_tuple_list pl.isList (fun h' kp => ?_) (by simp only [List.size_toArray] <;> omega)
  have I1 : Inv X pins σ H { s with heap := h' } := I.kept (t' := s.toks) kp
  have I2 : Inv X pins σ (upd H h'.objs.size (.frz { cls := .type "tuple", data := .seq its.toArray } (.tup ys))) { s with heap := h'.push { cls := .type "tuple", data := .seq its.toArray } } :=
    I1.laid (t' := s.toks) (fun b o e => Heap.get?_push_of_some _ e) (Nat.le_refl _) (show ObjOk X.prog X.w _ _ _ (.frz _ (.tup ys)) from ⟨Heap.get?_push_size _ rfl, hz, its, r', IsTup.new _ _⟩)
  exact ⟨.ref h'.objs.size, _, I2, rfl, q _ _ (I1.hok.fresh (Nat.le_refl _)) rfl⟩
/-- dict(zip(a, b)), a of texts -/
def tDictZip (K : PySem.W.Frag) (ta : TA) : TE := fun σ H Q => ta σ H fun vs H1 => ∃ (a b : Addr) (ks : List Str) (ys : List V), vs = [.ref a, .ref b] ∧ SqL K H1 a (ks.map V.str) ∧ SqL K H1 b ys ∧ ks.length = ys.length ∧
  ∀ p, H1 p = none → Q (.ref p) (upd H1 p (.dK (mergeK [] ((ks.map Sum.inr).zip ys))))
theorem pe_dictzip {e e2 : Expr} {ta : TA} {p p2 pos pos2 : Pos} (hcalm : X.calm = true) (hg1 : Gl X "dict") (hm1 : X.mg "dict" = none) (hg : Gl X "zip") (hm : X.mg "zip" = none) (ha : PA X [e, e2] ta)
    (hs0 : starEach [.Call (.Name "zip" p2) [e, e2] [] pos2] X.env = [(false, eval (.Call (.Name "zip" p2) [e, e2] [] pos2) X.env)] := by rfl)
    (hs : starEach [e, e2] X.env = (false, eval e X.env) :: starEach [e2] X.env := by rfl) (hpl : (backTo pos2 (starEach [e2] X.env)).any (·.1) = false := by rfl) :
    PE X (.Call (.Name "dict" p) [.Call (.Name "zip" p2) [e, e2] [] pos2] [] pos) (tDictZip X.K ta) := by
  refine ⟨fun pins s σ H Q I h => ?_⟩
  refine wpAny_Call_Name_kw (ld_blt I hg1 hm1 (by decide +kernel : bootBuiltins "dict" = some (.type "dict")) ?_ (by decide) (by decide))
  refine PyProof.Rows.callWith_type1 ?_ hs0 rfl
  rw [hs0]
  show wpAny _ _ (spliced [(false, eval (.Call (.Name "zip" p2) [e, e2] [] pos2) X.env)]) _ _ s
  refine Calls.spliced_cons ?_
  refine Call_ (ld_blt I hg hm PyProof.Rows.boot_zip (PyProof.Rows.callWith_type1 (thn (ha.run pos2 pins s σ H _ I h) fun us s1 ⟨vs, H1, I1, r1, q1⟩ => ?_) hs hpl))
  obtain ⟨a, b, ks, ys, ex, hqx, hqy, hlen, q⟩ := q1
  subst ex
  cases r1 with
  | cons r rr =>
    cases rr with
    | cons r' rr =>
      cases rr
      cases r
      cases r'
      obtain ⟨its, rv, p1, z1⟩ := I1.list hqx
      obtain ⟨its2, rv2, p2, z2⟩ := I1.list hqy
      have la : a < s1.heap.objs.size := p1.lt
      have lb : b < s1.heap.objs.size := p2.lt
      have hl1 : its.length = ks.length := by have := rv.length; rw [List.length_map] at this; exact this.symm
      have hl2 : its2.length = ks.length := by have := rv2.length; omega
      refine call_zip_2 p1.isList p2.isList fun h' hz hTI hTO h1 h2 hsz hk => ?_
      refine Calls.spliced_nil ?_
      have rel : KV ((ks.map Sum.inr).zip ys) ((ks.map (Sum.inr : Str → L2.Key)).zip its2) := by
        clear q hqx hqy p1 p2 z1 z2 hl1 rv h1 h2 ha
        induction ks generalizing ys its2 with
        | nil => exact .nil
        | cons k ks ih =>
          cases rv2 with
          | nil => simp at hlen
          | cons r0 rt => exact .cons ⟨rfl, r0⟩ (by apply ih <;> first | exact rt | simpa using hlen | simpa using hl2)
      have hkl : ((ks.map (Sum.inr : Str → L2.Key)).zip its2).length = ks.length := by rw [List.length_zip, List.length_map, hl2, Nat.min_self]
      have I2 : Inv X pins σ H1 { s1 with heap := h' } := I1.kept (t' := s1.toks) hk
      have hmin : min its.toArray.size its2.toArray.size = ks.length := by rw [List.size_toArray, List.size_toArray, hl1, hl2, Nat.min_self]
      have hks : ks.length ≤ sizeLine := by rw [List.length_map] at z1; exact z1
      refine _root_.PySem.call_dict_pairs (s := { s1 with heap := h' }) (knd := mixKind X.prog X.w) (kvs := (ks.map (Sum.inr : Str → L2.Key)).zip its2) (_root_.PySem.PairArg.zip (s1.heap.objs.size + 4) (s1.heap.objs.size + 2) (s1.heap.objs.size + 3) s1.heap.objs.size (s1.heap.objs.size + 1) a b (PySem.W.ktu_apart s1.heap.objs.size a b la lb) its.toArray its2.toArray)
        (I.ok.hd hcalm) ⟨hz, hTI, ⟨_, _, hTO⟩, h1, h2, p1.isList.at (fun o q => hk _ o q), p2.isList.at (fun o q => hk _ o q)⟩ ⟨by rw [hkl, hmin], fun i key v e => ?_⟩ (by rw [hmin]; exact hks) fun h2' tk hd' k => ?_
      · obtain ⟨e1, e2⟩ := e
        have e1' : its[i]? = some key := by simpa using e1
        have e2' : its2[i]? = some v := by simpa using e2
        have hi : i < ks.length := by
          have := (List.getElem?_eq_some_iff.mp e1').1
          omega
        obtain ⟨u, hu, ru⟩ := rv.get (by rw [List.getElem?_map, List.getElem?_eq_getElem hi] <;> rfl)
        rw [e1'] at hu
        cases hu
        refine ⟨Sum.inr ks[i], ?_, kV_is (k := Sum.inr ks[i]) ru⟩
        rw [List.getElem?_zip_eq_some]
        exact ⟨by rw [List.getElem?_map, List.getElem?_eq_getElem hi] <;> rfl, e2'⟩
      · have hm2 : (h'.objs.size == sysModules) = false := beq_eq_false_iff_ne.mpr (Nat.ne_of_gt I2.big)
        have hl3 : (mergeK [] ((ks.map Sum.inr).zip ys)).length ≤ sizeLine := by
          refine Nat.le_trans (length_mergeK _ []) ?_
          rw [List.length_nil, Nat.zero_add, rel.length, hkl]
          exact hks
        have hold : ∀ b o, s1.heap.get? b = some o → h2'.get? b = some o := fun c o e => by
          have hlt := Heap.lt_size e
          refine k c o ?_ (hk c o e)
          simp only [List.mem_cons, List.not_mem_nil, or_false, not_or]
          exact ⟨Nat.ne_of_lt (Nat.lt_of_lt_of_le hlt (Nat.le_add_right _ _)), Nat.ne_of_lt (Nat.lt_of_lt_of_le hlt (Nat.le_add_right _ _)), Nat.ne_of_lt hlt, Nat.ne_of_lt (Nat.lt_of_lt_of_le hlt (Nat.le_add_right _ _))⟩
        exact ⟨.ref h'.objs.size, upd H1 h'.objs.size (.dK (mergeK [] ((ks.map Sum.inr).zip ys))), I1.laid (t' := tk) hold (by omega) (show ObjOk X.prog X.w _ _ _ (.dK _) from ⟨hl3, hm2, merged [] _, KV.merge rel .nil, hd'⟩), rfl, q _ (I2.hok.fresh (Nat.le_refl _))⟩
/-- d.update(d2), d2 another dict -/
def rUpdate : V → List V → Hp → VK → Prop := fun x xs H Q => ∃ (a b : Addr) (kvs more : List (L2.Key × V)), x = .ref a ∧ xs = [.ref b] ∧ a ≠ b ∧ H a = some (.dK kvs) ∧ H b = some (.dK more) ∧ kvs.length + more.length ≤ sizeLine ∧ Q .non (upd H a (.dK (mergeK kvs more)))
theorem mt_dupdate : MtR X "dict.update" rUpdate := by
  intro pins s σ H x xs v us Q I rx rs q
  obtain ⟨a, b, kvs, more, rfl, rfl, hne, ha, hb, hz, q⟩ := q
  cases rx
  obtain ⟨u, rfl, ru⟩ := vals1 rs
  cases ru
  obtain ⟨z, hd, vs, rel, dd⟩ := dk_of I.hok ha
  obtain ⟨z2, hd2, vs2, rel2, dd2⟩ := dk_of I.hok hb
  refine call_meetsIn PySem.F.slot_dict_update dd.typeIs PySem.F.entry_dict_update (PySem.F.args_dict_update_2 _ _) (meets_dict_update (mixKind X.prog X.w) a b hne hd2)
    ⟨vs, vs2, dd, dd2, (by rw [← rel.length, ← rel2.length]; exact hz), fun h' dd' _ hs => ⟨.non, _, ?_, rfl, q⟩⟩
  have he : ∃ q, h'.get? a = some q := let ⟨q, _, _, hq, _⟩ := dd'; ⟨q, hq⟩
  exact d_write (t' := s.toks) I (by rw [ha]; exact True.intro) hs he (dk_new (Nat.le_trans (length_mergeK more kvs) hz) hd (KV.merge rel2 rel) dd')
/-! ### sorted(t), t a tuple of pairs of texts -/
open PySem.W in
theorem each_of_td {H : Hp} : ∀ {ms : List (Str × Str)} {xs : List V} {us : List Value}, TdA X.K H xs (ms.map markD) → Vals xs us → EachIs (fun u m => ∃ y, RelV y u ∧ Td X.K H y (markD m)) us ms
  | [], xs, us, t, r => by
    obtain rfl := t.nil_of
    cases r
    exact .nil
  | m :: ms, xs, us, t, r => by
    obtain ⟨y, ys, rfl, h1, h2⟩ := TdA.cons_of t
    cases r with
    | cons r0 rt => exact .cons ⟨y, r0, h1⟩ (each_of_td h2 rt)
open PySem.W in
theorem td_of_each {H : Hp} : ∀ {ms : List (Str × Str)} {us : List Value}, EachIs (fun u m => ∃ y, RelV y u ∧ Td X.K H y (markD m)) us ms → ∃ ys, Vals ys us ∧ TdA X.K H ys (ms.map markD)
  | _, _, .nil => ⟨[], .nil, tda_nil⟩
  | _, _, .cons h t => by
    obtain ⟨y, r, d⟩ := h
    obtain ⟨ys, rs, ds⟩ := td_of_each t
    exact ⟨y :: ys, .cons r rs, tda_cons.mpr ⟨d, ds⟩⟩
open PySem.W in
theorem marks_sorted {ms : List (Str × Str)} (hn : (ms.map (·.1)).Nodup) : rising ((ms.mergeSort (dataLe false markD)).map (·.1)) := by
  have pm : (ms.mergeSort (dataLe false markD)).Perm ms := List.mergeSort_perm _ _
  have pw := sort_pairwise (sortLe_total (listOrd itemOrd) false fun b => keyToks (markD b)) ms
  have nd : ((ms.mergeSort (dataLe false markD)).map (·.1)).Nodup := (pm.map (·.1)).nodup_iff.mpr hn
  have nd2 := List.pairwise_map.mp nd
  refine List.pairwise_map.mpr ((List.Pairwise.and pw nd2).imp fun {a b} h => ?_)
  obtain ⟨h1, h2⟩ := h
  have h3 : (!dataLt (markD b) (markD a)) = true := h1
  have e1 : PyData.eqv (.str b.1) (.str a.1) = false := by
    rw [PyData.eqv]
    exact beq_eq_false_iff_ne.mpr (Ne.symm h2)
  have h4 : dataLt (markD b) (markD a) = dataLt (.str b.1) (.str a.1) := by
    unfold markD
    rw [dataLt_pair (by simp [alike]) (by simp [alike]), e1] <;> rfl
  have h5 := congrFun (congrFun (dataLe_str (fun (m : Str × Str) => m.1)) a) b
  rw [dataLe_eq] at h5
  have h6 : (!dataLt (.str b.1) (.str a.1)) = decide (a.1.cps.toList ≤ b.1.cps.toList) := h5
  rw [← h4, h3] at h6
  have h7 : a.1.cps.toList ≤ b.1.cps.toList := of_decide_eq_true h6.symm
  exact slt_of_le (fun z => h7 z) h2
theorem reads_mark {h : Heap} {u : Value} {m : Str × Str} {as : List Addr} (r : Reads h u (markD m) as) : as = [] := by
  cases r with
  | tuple h1 h2 h3 ra =>
    revert ra
    generalize (_ : Array Value).toList = l
    intro ra
    cases ra with
    | cons r1 r2 =>
      cases r1
      cases r2 with
      | cons r3 r4 =>
        cases r3
        cases r4
        rfl
/-- sorted(t) -/
theorem cr_sortPairs (hcalm : X.calm = true) (hu : X.A.units + 64 < cLine) : CallR X (.builtin "sorted") (fun vs H Q => ∃ (a : Addr) (xs : List V) (ms : List (Str × Str)), vs = [.ref a] ∧ SqT X.K H a xs ∧ TdA X.K H xs (ms.map markD) ∧ (ms.map (·.1)).Nodup ∧
    ∀ (ms' : List (Str × Str)) (ys : List V) (p : Addr), ms'.Perm ms → rising (ms'.map (·.1)) → TdA X.K H ys (ms'.map markD) → H p = none → Q (.ref p) (upd H p (.lst ys))) := by
  intro pins s σ H vs us Q I r q
  obtain ⟨a, xs, ms, rfl, hs, ht, hn, q⟩ := q
  rw [Vals.ref1 r]
  obtain ⟨its, rv, ⟨o, ho, hc, n, hd⟩, hz⟩ := I.tuple hs
  have hil : its.length = ms.length := by
    have h1 := rv.length
    have h2 := ht.length
    rw [List.length_map] at h2
    omega
  refine Calls.call_function_entry kind_sorted plain_sorted entry_sorted (args_sorted1 _) ?_
  unfold Builtin.«sorted»
  refine wpAny_bind (m := checkCount "sorted" 1 1 _) (wpAny_pure ?_)
  refine wpAny_bind (wpAny_collect_seq (A := X.A.in1) a (.inr rfl) ho hc hd (fun h' hk => ?_) (by rw [List.size_toArray, ← rv.length]; exact hz))
  rw [List.toList_toArray]
  have I1 : Inv X pins σ H { s with heap := h' } := I.kept (t' := s.toks) hk
  refine wpAny_bind (wpAny_newList ?_ (by rw [← rv.length]; exact hz))
  have hoL : (h'.push (seqObj "list" its.toArray 0)).get? h'.objs.size = some (seqObj "list" its.toArray 0) := Heap.get?_push_size _ rfl
  have each := each_of_td ht rv
  have k2 : ∀ b o, h'.get? b = some o → (h'.push (seqObj "list" its.toArray 0)).get? b = some o := fun b o e => Heap.get?_push_of_some _ e
  have er : PySem.W.EachIs (fun v b => ∃ as, Reads (h'.push (seqObj "list" its.toArray 0)) v (markD b) as ∧ h'.objs.size ∉ as) its ms := by
    refine each.mono fun v m hv => ?_
    obtain ⟨y, ry, hy⟩ := hv
    obtain ⟨as, hr⟩ := Dp.reads I1 (markD m) y v (Td.dp _ hy) ry
    refine ⟨as, PyProof.Rows.Reads.keeps k2 hr, ?_⟩
    rw [reads_mark hr]
    simp
  refine wpAny_bind (wpAny_holding (PySem.W.list_sort_data (s := { s with heap := h'.push (seqObj "list" its.toArray 0) }) hoL each er (PySem.W.AllAlike.of fun b b' => by simp [markD, PySem.W.alike, PySem.W.alikeAll]) (PySem.W.Sortable.tuples fun b => ⟨_, _, rfl⟩) (by rw [← hil, ← rv.length]; exact hz) (fun b _ => ?_) fun out hol heach => ?_))
  · have : (markD b).depth ≤ 5 := by simp [markD, PyData.depth, PyData.depthAll]
    show X.A.in1.units + 1 + _ < cLine
    have e1 : X.A.in1.units ≤ X.A.units + 1 := by first | exact Nat.le_refl _ | exact Nat.le_succ _ | (show X.A.units + 1 ≤ _; omega)
    omega
  obtain ⟨ys, ry, dy⟩ := td_of_each heach
  obtain ⟨c, hcL⟩ := sortedHeap_at (vs := its) (out := out.toArray) hoL
  have pm : (ms.mergeSort (PySem.W.dataLe false markD)).Perm ms := List.mergeSort_perm _ _
  have hylen : ys.length ≤ sizeLine := by
    have h1 := dy.length
    rw [List.length_map, pm.length_eq, ← hil, ← rv.length] at h1
    omega
  refine wpAny_pure ⟨_, rfl, .ref h'.objs.size, upd H h'.objs.size (.lst ys), I1.laid (t' := s.toks) (fun b u e => ?_) (Nat.le_refl _)
    (show ObjOk X.prog X.w _ _ _ (.lst ys) from ⟨hylen, out, c, ry, hcL⟩), rfl, q _ ys _ pm (marks_sorted hn) dy (I1.hok.fresh (Nat.le_refl _))⟩
  have hb : b < h'.objs.size := Heap.lt_size e
  show (sortedHeap (h'.push (seqObj "list" its.toArray 0)) h'.objs.size its out.toArray).get? b = some u
  rw [sortedHeap_old (Nat.ne_of_lt hb) (by rw [size_push']; exact Nat.lt_succ_of_lt hb)]
  exact Heap.get?_push_of_some _ e
end
end Tw
set_option Elab.async false
set_option linter.all false
set_option maxRecDepth 100000
set_option maxHeartbeats 4000000
namespace Tw
open PySem PySem.Spec PyProof.Rows L2
/-! ### a program's data: the tuple of marks is known whole -/
def MkT (K : PySem.W.Frag) (H : Hp) (v : V) (ms : List (Str × Str)) : Prop := ∃ a xs ob, v = .ref a ∧ H a = some (.frz ob (.tup xs)) ∧ ob.dict = none ∧ TdA K H xs (ms.map markD)
def PgT (K : PySem.W.Frag) (H : Hp) (v : V) (p : Pg) : Prop := ∃ a x y, v = .ref a ∧ SqT K H a [x, y] ∧ MkT K H x p.ms ∧ Td K H y (.tuple (rowsD p.rs))
section
variable {M : List Addr} {H H1 H2 : Hp} {a p : Addr} {K : PySem.W.Frag} {xs ys : List V} {v : V} {ms : List (Str × Str)} {pg : Pg}
theorem SqT.frz {ob : Obj} (h : H a = some (.frz ob (.tup xs))) : SqT K H a xs := .inl (.inr ⟨ob, h⟩)
theorem MkT.td (h : MkT K H v ms) : Td K H v (.tuple (ms.map markD)) := by
  obtain ⟨a, xs, ob, e, h1, h2, h3⟩ := h
  exact td_tup.mpr ⟨a, xs, e, SqT.frz h1, h3⟩
theorem MkT.kp (k : Kp M H H1) (f : TF H M) (h : MkT K H v ms) : MkT K H1 v ms := by
  obtain ⟨a, xs, ob, e, h1, h2, h3⟩ := h
  exact ⟨a, xs, ob, e, k _ _ h1 fun z => (f _ z _ h1).2 _ _ rfl, h2, TdA.kp k f _ h3⟩
theorem MkT.same (s : Same H H1) (h : MkT K H v ms) : MkT K H1 v ms := MkT.kp (Kp.of (M := []) s) .nil h
theorem PgT.td (h : PgT K H v pg) : Td K H v pg.d := by
  obtain ⟨a, x, y, e, h1, h2, h3⟩ := h
  exact td_tup.mpr ⟨a, _, e, h1, tda_cons.mpr ⟨h2.td, tda_cons.mpr ⟨h3, tda_nil⟩⟩⟩
theorem PgT.kp (k : Kp M H H1) (f : TF H M) (h : PgT K H v pg) : PgT K H1 v pg := by
  obtain ⟨a, x, y, e, h1, h2, h3⟩ := h
  exact ⟨a, x, y, e, k.tup f h1, h2.kp k f, Td.kp k f _ h3⟩
theorem PgT.same (s : Same H H1) (h : PgT K H v pg) : PgT K H1 v pg := PgT.kp (Kp.of (M := []) s) .nil h
end
/-! ### homes -/
theorem homes_nil {hm : Str → Str} : Homes hm [] := fun _ => .inl rfl
theorem Homes.put {hm : Str → Str} {kvs : List (L2.Key × V)} (h : Homes hm kvs) (x : Str) : Homes hm (putK kvs (Sum.inr x) (.str (hm x))) := fun y => by
  rw [valV_put]
  by_cases e : (Sum.inr y : L2.Key) = Sum.inr x
  · rw [if_pos e]
    cases e
    exact .inr rfl
  · rw [if_neg e]
    exact h y
theorem Homes.merge {hm : Str → Str} : ∀ {ms : List (Str × Str)} {kvs : List (L2.Key × V)}, Homes hm kvs → (∀ m ∈ ms, m.2 = hm m.1) → Homes hm (mergeK kvs (ms.map fun m => (Sum.inr m.1, V.str m.2)))
  | [], _, h, _ => h
  | m :: ms, kvs, h, e => by
    have h1 := h.put m.1
    rw [← e m List.mem_cons_self] at h1
    exact Homes.merge (ms := ms) h1 fun m' hm' => e m' (List.mem_cons_of_mem _ hm')
/-- the pairs of a tuple of marks, by their addresses -/
theorem pairs_of_marks {K : PySem.W.Frag} {H : Hp} : ∀ {ms : List (Str × Str)} {xs : List V}, TdA K H xs (ms.map markD) → ∃ ps : List Addr, xs = ps.map V.ref ∧ Paired (fun p kv => SqT K H p [kV kv.1, kv.2]) ps (ms.map fun m => ((Sum.inr m.1 : L2.Key), V.str m.2))
  | [], xs, h => ⟨[], h.nil_of, .nil⟩
  | m :: ms, xs, h => by
    obtain ⟨v, vs, rfl, h1, h2⟩ := TdA.cons_of h
    obtain ⟨a, x, y, rfl, hs, g1, g2⟩ := Td.t2 h1
    rw [td_str.mp g1, td_str.mp g2] at hs
    obtain ⟨ps, e, hp⟩ := pairs_of_marks h2
    exact ⟨a :: ps, by rw [e]; rfl, .cons hs hp⟩
theorem catA_of {K : PySem.W.Frag} {H : Hp} {Q : VK} {a b : Addr} {xs ys : List V} (ha : SqT K H a xs) (hb : SqT K H b ys) (hz : xs.length + ys.length ≤ sizeLine) (h : ∀ H' p, Same H H' → SqT K H' p (xs ++ ys) → Q (.ref p) H') : rCatA K (.ref a) (.ref b) H Q := by
  refine ⟨a, b, xs, ys, rfl, rfl, ha, hb, hz, fun e => ?_, fun _ e => ?_, fun _ _ p hp => h _ p (same_new hp) (.of upd_same)⟩
  · refine h H b (Same.refl H) ?_
    rw [e]; exact hb
  · refine h H a (Same.refl H) ?_
    rw [e, List.append_nil]; exact ha
/-! ### piles of rows -/
theorem pile_rev {α β : Type} (f : α → β) : ∀ bs : List (List α), (bs.reverse.map fun b => (b.map f).reverse).flatten = (bs.flatten.map f).reverse
  | [] => rfl
  | b :: bs => by
    rw [List.reverse_cons, List.map_append, List.flatten_append, pile_rev f bs, List.flatten_cons, List.map_append, List.reverse_append]
    simp
theorem Row.blks_cnt (r : Row) : cnts r.kids + 1 = r.cnt := by rw [r.cnt_kids]; omega
theorem blks_len_le (r : Row) : ∀ b ∈ r.blks, b.length ≤ cnts r.kids := by
  have len : ∀ rs : List Row, rs.length ≤ cnts rs := by
    intro rs
    induction rs with
    | nil => exact Nat.le_refl _
    | cons r rs ih => rw [List.length_cons, cnts]; have := r.cnt_pos; omega
  intro b hb
  cases r with
  | iff e a c =>
    simp only [Row.blks, List.mem_cons, List.not_mem_nil, or_false] at hb
    simp only [Row.kids, cnts_append]
    rcases hb with e | e <;> subst e
    · have := len b; omega
    · have := len b; omega
  | whl e a =>
    simp only [Row.blks, List.mem_cons, List.not_mem_nil, or_false] at hb
    subst hb
    exact len b
  | lt _ _ _ => simp [Row.blks] at hb
  | ask _ _ _ => simp [Row.blks] at hb
  | say _ _ => simp [Row.blks] at hb
theorem rows_len_le : ∀ rs : List Row, rs.length ≤ cnts rs
  | [] => Nat.le_refl _
  | r :: rs => by rw [List.length_cons, cnts]; have := r.cnt_pos; have := rows_len_le rs; omega
end Tw
set_option Elab.async false
set_option linter.all false
set_option maxRecDepth 100000
set_option maxHeartbeats 4000000
namespace Tw
open PySem PySem.Spec PyProof.Rows L2
def itW (t : Row × Nat) : PyData := .tuple [t.1.d, .int (t.2 : Nat)]
section
variable {P : Program} {w : World} {K : PySem.W.Frag} {mg : Str → Option Value} {base : Heap}
def sp_need_program (K : PySem.W.Frag) : Sp := fun vs H Q _ => ∃ (v : V) (p : Pg) (hm : Str → Str), vs = [v] ∧ PgT K H v p ∧ p.ok hm ∧ ∀ H', Same H H' → Q .non H'
theorem ok_need_program (T : Txt K mg) : Cal P w K mg base "need_program" 14 ["thing"] (sp_need_program K) := by
  have C_are_marks := ok_are_marks (P := P) (w := w) (base := base) T
  have C_is_plain_row := ok_is_plain_row (P := P) (w := w) (base := base) T
  have C_blocks_in := ok_blocks_in (P := P) (w := w) (base := base) T
  refine Cal.of T.d_need_program b_need_program sc_need_program (fun vs H Q E h => ?_) (fun cdv A outer s H vs Q E hr h => ?_)
  · obtain ⟨_, _, _, rfl, _⟩ := h; rfl
  obtain ⟨v, pg, hm, rfl, ht, hok, q⟩ := h
  have hu := hu_of hr
  refine ⟨_, (pss_cons (ps_if (PW.pt (pw_or (pt_not (pt_val (pe_callB call_isi (by rfl) T.isinstance bb_isinstance (pa_cons (pv 0) (pa_cons (pe_bty T.tuple bb_tuple rfl) pa_nil))))) (pw_or (pt_cmpR op_ne (pe_callB call_len_seq (by rfl) T.len bb_len (pa_cons (pv 0) pa_nil)) pe_int (nomark _)) (pw_or1 (pt_not (pt_val (pe_callC C_are_marks (hr.mono (by decide)) rfl (pa_cons (pe_ix ix_tup (pv 0) pe_int (fun _ _ => rfl)) pa_nil)))))))) pss_never pss_nil)
  (pss_cons (ps_if (PW.pt (pw_or (pt_not (pt_val (pe_callB call_isi (by rfl) T.isinstance bb_isinstance (pa_cons (pe_ix ix_tup (pv 0) pe_int (fun _ _ => rfl)) (pa_cons (pe_bty T.tuple bb_tuple rfl) pa_nil))))) (pw_or1 (pt_cmpR (op_eqE hr.units0) (pe_ix ix_tup (pv 0) pe_int (fun _ _ => rfl)) (pe_tup pa_nil) (nomark _))))) pss_never pss_nil)
  (pss_cons (ps_set (i := 1) sc_need_program.nd rfl (Or.inl rfl) (pe_callTy (call_dict_T rfl) (by rfl) T.dict bb_dict (pa_cons (pe_ix ix_tup (pv 0) pe_int (fun _ _ => rfl)) pa_nil)))
  (pss_cons (ps_setLc (i := 2) (own := [("row", 3)]) (by rfl) sc_need_program.nd rfl rfl (sw_true rfl rfl rfl (by decide +kernel)) (pi_tup (pe_revT (pe_ix ix_tup (pv 0) pe_int (fun _ _ => rfl)))) (blkOk_by (own := [("row", 3)]) (N := N_need_program) (sc := defScope s_need_program) (by decide +kernel)) (fun _ _ _ _ _ => (pg_name (i := 3) sc_need_program.nd rfl (Or.inl rfl))) (fun _ _ _ _ _ => pts_nil) (fun _ _ _ _ _ => (pe_tup (pa_cons (pv 3) (pa_cons pe_int pa_nil)))))
  (pss_cons (ps_set (i := 4) sc_need_program.nd rfl (Or.inl rfl) pe_int)
  (pss_one (ps_while PassesOwn.never (pt_cmpR (op_neE hr.units0) (pv 2) (pe_lst pa_nil) (nomark _))
   (pss_cons (ps_asg (pe_bm0 PySem.F.plainAttrs_list PySem.F.slot_list_pop PySem.F.type_list_pop mt_pop (pv 2)) (pg_tup (by rfl) (pgs_cons (pg_name (i := 3) sc_need_program.nd rfl (Or.inl rfl)) (pgs_cons (pg_name (i := 5) sc_need_program.nd rfl (Or.inr rfl)) pgs_nil))))
  (pss_cons (ps_aug (i := 4) sc_need_program.nd rfl (Or.inl rfl) pe_int ip_add)
  (pss_cons (ps_if (PW.pt (pw_or (pt_cmpR op_gt (pv 4) (pe_cint T.i_MOST_ROWS rfl) (nomark _)) (pw_or (pt_cmpR op_gt (pv 5) (pe_cint T.i_MOST_BLOCKS rfl) (nomark _)) (pw_or1 (pt_not (pt_val (pe_callC C_is_plain_row (hr.mono (by decide)) rfl (pa_cons (pv 3) (pa_cons (pv 1) pa_nil))))))))) pss_never pss_nil)
  (pss_cons (ps_if (pt_cmpR op_eq (pe_ix ix_tup (pv 3) pe_int (fun _ _ => rfl)) pe_str (nomark _)) (pss_one (ps_dput hu (pv 1) (pe_ix ix_tup (pv 3) pe_int (fun _ _ => rfl)) (pe_ix ix_tup (pv 3) pe_int (fun _ _ => rfl)) rfl)) pss_nil)
  (pss_one (ps_for PassesOwn.never rfl (pi_list (pe_revL (pe_callC C_blocks_in (hr.mono (by decide)) rfl (pa_cons (pv 3) pa_nil)))) (pg_name (i := 6) sc_need_program.nd rfl (Or.inl rfl))
   (pss_one (ps_expr (pe_bm PySem.F.plainAttrs_list PySem.F.slot_list_extend PySem.F.type_list_extend mt_extend (pv 2) (pa_cons (pe_lc (own := [("inner", 7)]) (by rfl) sc_need_program.nd (pi_tup (pe_revT (pv 6))) (blkOk_by (own := [("inner", 7)]) (N := N_need_program) (sc := defScope s_need_program) (by decide +kernel)) (fun _ _ _ _ _ => (pg_name (i := 7) sc_need_program.nd rfl (Or.inl rfl))) (fun _ _ _ _ _ => pts_nil) (fun _ _ _ _ _ => (pe_tup (pa_cons (pv 7) (pa_cons (pe_op op_add (pv 5) pe_int) pa_nil))))) pa_nil))))))))))))))))), ?_⟩
  obtain ⟨a, x, y, rfl, hs, hmk, hrw⟩ := id ht
  obtain ⟨b, ms, ob, rfl, hb, hob, hms⟩ := id hmk
  obtain ⟨c, rs, rfl, hc, hrs⟩ := td_tup.mp hrw
  have hrl := hrs.length
  rw [rowsD_map, List.length_map] at hrl
  have hrn := rows_len_le pg.rs
  have hcn := hok.cn
  refine ⟨_, rfl, _, _, _, _, _, rfl, .ty _, tyx_seqT hs, kt_tuple_tuple, _, rfl, ?_⟩
  refine iteF ?_
  refine ⟨_, rfl, _, _, rfl, .inr hs, rfl, _, rfl, ?_⟩
  refine iteF' (by rfl) ?_
  refine ⟨_, rfl, _, _, _, _, rfl, rfl, hs, rfl, _, pg.ms, rfl, hmk.td, (fun m hm' => ⟨(hok.mks m hm').1, by rw [(hok.mks m hm').2]; exact hok.hs _⟩), hok.up, (by have := hok.few; omega), fun H1 s1 => ?_⟩
  refine ⟨_, rfl, ?_⟩
  refine iteF ?_
  have hs1 := same_tup s1 hs
  have hc1 := same_tup s1 hc
  refine ⟨_, rfl, _, _, _, _, rfl, rfl, hs1, rfl, _, _, _, _, _, rfl, .ty _, tyx_seqT hc1, kt_tuple_tuple, _, rfl, ?_⟩
  refine iteF ?_
  refine ⟨_, rfl, _, _, _, _, rfl, rfl, hs1, rfl, (by show 0 ≤ sizeLine; decide), fun p2 hp2 => ?_⟩
  have s2 := s1.trans (same_new hp2 (o := .tup []))
  refine ⟨c, p2, rs, rfl, rfl, .inr ⟨same_tup s2 hc, .of upd_same⟩, _, rfl, ?_⟩
  have hne : rs.isEmpty = false := by
    cases rs with
    | nil =>
      have := hok.ne
      cases hpr : pg.rs with
      | nil => exact absurd hpr this
      | cons r l => rw [hpr] at hrl; simp at hrl
    | cons _ _ => rfl
  refine iteF' hne ?_
  generalize upd H1 p2 (.tup []) = H2 at s2 ⊢
  clear hp2 s1 hs1 hc1 H1
  obtain ⟨ps, rfl, hpp⟩ := pairs_of_marks (hms.same s2)
  refine ⟨_, rfl, _, _, _, _, rfl, rfl, same_tup s2 hs, rfl, b, ps, _, ob, rfl, s2 _ _ hb, hob, hpp, fun pd npd => ?_⟩
  have hmg : Homes hm (mergeK [] (pg.ms.map fun m => (Sum.inr m.1, V.str m.2))) := homes_nil.merge fun m hm' => (hok.mks m hm').2
  have hlg := length_mergeK (pg.ms.map fun m => ((Sum.inr m.1 : L2.Key), V.str m.2)) []
  rw [List.length_map, List.length_nil] at hlg
  have hfw := hok.few
  generalize mergeK [] (pg.ms.map fun m => ((Sum.inr m.1 : L2.Key), V.str m.2)) = kvs0 at hmg hlg ⊢
  have n1d := s2.free npd
  have s3 := same_put s2 n1d (o := .dK kvs0)
  refine ⟨_, rfl, _, _, _, _, rfl, rfl, same_tup s3 hs, rfl, c, rs, rfl, same_tup s3 hc, fun pr npr => ?_⟩
  have s4 := same_put s3 (s3.free npr) (o := .tup rs.reverse)
  have hd4 : upd (upd H2 pd (.dK kvs0)) pr (.tup rs.reverse) pd = some (.dK kvs0) := upd2_same (fun z => by rw [← z, upd_same] at npr; cases npr)
  refine ⟨pr, rfl, ⟨_, .of upd_same⟩, fun lw nlw => ?_⟩
  have hrs4 := (hrs.same s4).reverse
  have hpr4 : SqT K (upd (upd H2 pd (.dK kvs0)) pr (.tup rs.reverse)) pr rs.reverse := .of upd_same
  generalize upd (upd H2 pd (.dK kvs0)) pr (.tup rs.reverse) = H4 at s4 hd4 hrs4 hpr4 nlw ⊢
  have n1w := s4.free nlw
  have nwd : lw ≠ pd := fun z => by rw [z, hd4] at nlw; cases nlw
  refine lc_pu walk_tup (by rw [List.length_reverse]; omega) nlw (fun H' s' => same_tup s' hpr4) (fun i y H' => ∃ r, pg.rs.reverse[i]? = some r ∧ Td K H' y (itW (r, 1))) (fun i y H' H'' ⟨l, hl⟩ k ⟨r, h1, h2⟩ => ⟨r, h1, Td.kp k (.lst hl) _ h2⟩) ?_ ?_
  · rintro i x H5 H6 Qc hi s5 _ ⟨rfl, hx⟩ hq
    obtain ⟨dd, hdd, hxd⟩ := (hrs4.same s5).get hx
    rw [rowsD_map, ← List.map_reverse, List.getElem?_map] at hdd
    obtain ⟨r, hr', rfl⟩ := Option.map_eq_some_iff.mp hdd
    refine ⟨rfl, _, rfl, (by show 2 ≤ sizeLine; decide), fun p hp => ?_⟩
    exact hq _ _ (same_new hp) ⟨r, hr', Td.new hp (tda_cons.mpr ⟨hxd, tda_cons.mpr ⟨td_int.mpr rfl, tda_nil⟩⟩)⟩
  intro ws H5 s5 hlw hwl hws
  rw [List.length_reverse] at hwl
  have hw : TdA K H5 ws (((pg.rs.map fun r => (r, 1)).map itW).reverse) := by
    refine TdA.of_get (by rw [List.length_reverse, List.length_map, List.length_map, hwl, hrl]) fun i v d h1 h2 => ?_
    obtain ⟨r, h3, h4⟩ := hws i v h1
    rw [← List.map_reverse, ← List.map_reverse, List.map_map, List.getElem?_map, h3] at h2
    cases h2
    exact h4
  have s6 := s4.trans s5
  have hd5 := s5 _ _ hd4
  clear hws
  refine ⟨fun m σ H' => ∃ (x3 x5 x6 : Option V) (S : List (Row × Nat)) (num : Nat) (kvs : List (L2.Key × V)) (ws : List V), m = cnts (S.map (·.1)) ∧
    σ = [some (.ref a), some (.ref pd), some (.ref lw), x3, some (.int (num : Nat)), x5, x6, none] ∧ Same H H' ∧ H' pd = some (.dK kvs) ∧ Homes hm kvs ∧ kvs.length ≤ 60 + num ∧ H' lw = some (.lst ws) ∧ TdA K H' ws ((S.map itW).reverse) ∧
    num + cnts (S.map (·.1)) ≤ 60 ∧ ∀ t ∈ S, t.1.ok hm ∧ t.2 + t.1.dp ≤ 6, ⟨_, none, none, none, pg.rs.map fun r => (r, 1), 0, kvs0, ws, rfl, rfl, s6, hd5, hmg, by omega, hlw, hw, ?_, ?_⟩, ?_⟩
  · rw [List.map_map]
    show 0 + cnts (pg.rs.map id) ≤ 60
    rw [List.map_id]
    omega
  · intro t ht'
    obtain ⟨r, hr', rfl⟩ := List.mem_map.mp ht'
    have h1 := (oks_mem.mp hok.rk) r hr'
    have h2 := dps_mem.mp hok.dp r hr'
    exact ⟨h1, by dsimp only; omega⟩
  clear hw hlw hd5 s6 hwl s5 hd4 hrs4 hpr4 nlw s4 npr hlg hmg npd hpp s3 s2
  rintro m σ H7 ⟨x3, x5, x6, S, num, kvs, ws, rfl, rfl, s7, hd7, hho, hkl, hlw7, hw7, hcS, hS⟩
  refine ⟨_, rfl, (by show 0 ≤ sizeLine; decide), fun p hp => ?_⟩
  have nwp : lw ≠ p := fun z => by rw [z, hp] at hlw7; cases hlw7
  refine ⟨lw, p, _, rfl, rfl, .inl ⟨.of (by rw [upd_ne nwp]; exact hlw7), .of upd_same⟩, _, rfl, ?_⟩
  have sn := same_new hp (o := .lst [])
  have s8 := s7.trans sn
  have hd8 := sn _ _ hd7
  have hlw8 := sn _ _ hlw7
  have hw8 := hw7.same sn
  generalize upd H7 p (.lst []) = H8 at s8 hd8 hlw8 hw8 ⊢
  clear sn nwp hp hd7 hlw7 hw7 s7 H7
  cases S with
  | nil =>
    rw [hw8.nil_of] at hlw8 ⊢
    refine iteF' (by rfl) ?_
    exact q H8 s8
  | cons t S =>
    obtain ⟨r, d⟩ := t
    rw [List.map_cons, List.reverse_cons] at hw8
    obtain ⟨ws', wv, rfl, hw9, hwv⟩ : ∃ ws' wv, ws = ws' ++ [wv] ∧ TdA K H8 ws' ((S.map itW).reverse) ∧ Td K H8 wv (itW (r, d)) := by
      have h1 : TdA K H8 ws.reverse (itW (r, d) :: S.map itW) := by
        have := hw8.reverse
        simpa using this
      obtain ⟨wv, w2, e1, h2, h3⟩ := TdA.cons_of h1
      refine ⟨w2.reverse, wv, ?_, h3.reverse, h2⟩
      have := congrArg List.reverse e1
      rw [List.reverse_reverse] at this
      rw [this, List.reverse_cons]
    refine iteT' (by simp) ?_
    obtain ⟨hro, hrd⟩ : r.ok hm ∧ d + r.dp ≤ 6 := hS (r, d) (List.mem_cons_self ..)
    have hS' : ∀ t ∈ S, t.1.ok hm ∧ t.2 + t.1.dp ≤ 6 := fun t ht' => hS t (List.mem_cons_of_mem _ ht')
    have hcr := r.blks_cnt
    have hdk := r.dp_kids
    have hcS' : num + (r.cnt + cnts (S.map (·.1))) ≤ 60 := hcS
    refine ⟨fun σ' H' => ∃ (x3 x5 x6 : Option V) (S' : List (Row × Nat)) (num' : Nat) (kvs : List (L2.Key × V)) (ws : List V), cnts (S'.map (·.1)) < cnts (((r, d) :: S).map (·.1)) ∧
      σ' = [some (.ref a), some (.ref pd), some (.ref lw), x3, some (.int (num' : Nat)), x5, x6, none] ∧ Same H H' ∧ H' pd = some (.dK kvs) ∧ Homes hm kvs ∧ kvs.length ≤ 60 + num' ∧ H' lw = some (.lst ws) ∧ TdA K H' ws ((S'.map itW).reverse) ∧
      num' + cnts (S'.map (·.1)) ≤ 60 ∧ ∀ t ∈ S', t.1.ok hm ∧ t.2 + t.1.dp ≤ 6, fun σ' H' ⟨x3, x5, x6, S', num', kvs, ws, hm', r⟩ => ⟨_, hm', x3, x5, x6, S', num', kvs, ws, rfl, r⟩, ?_⟩
    refine ⟨_, rfl, Or.inl ⟨rfl, _, SqL.of hlw8⟩, lw, _, _, rfl, rfl, hlw8, last_rev _ _, ?_⟩
    rw [List.dropLast_concat]
    obtain ⟨qa, rv, dv, rfl, hq, hrv, hdv⟩ := Td.t2 hwv
    obtain rfl := td_int.mp hdv
    have s9 := same_put s8 n1w (o := .lst ws')
    have k9 : Kp [lw] H8 (upd H8 lw (.lst ws')) := .at
    have f9 : TF H8 [lw] := .lst hlw8
    have hq9 := k9.tup f9 hq
    have hrv9 := Td.kp k9 f9 _ hrv
    have hw9' := hw9.put hlw8 (o := .lst ws')
    have hd9 : upd H8 lw (.lst ws') pd = some (.dK kvs) := by rw [upd_ne (Ne.symm nwd)]; exact hd8
    have hl9 : upd H8 lw (.lst ws') lw = some (.lst ws') := upd_same
    generalize upd H8 lw (.lst ws') = H9 at s9 hq9 hrv9 hw9' hd9 hl9 ⊢
    clear k9 f9 hrv hq hw9 hdv hwv hw8 hlw8 hd8 s8 H8
    refine ⟨qa, _, rfl, hq9, rfl, _, _, rfl, _, _, rfl, rfl, ?_⟩
    refine ⟨_, rfl, _, _, rfl, rfl, ?_⟩
    have hdp := r.dp_kids
    refine ⟨_, rfl, _, _, rfl, rfl, _, rfl, ?_⟩
    refine iteF' (decide_eq_false (by have := r.cnt_pos; show ¬ ((60 : Int) < (num : Int) + 1); omega)) ?_
    refine ⟨_, rfl, _, _, rfl, rfl, _, rfl, ?_⟩
    refine iteF' (decide_eq_false (by omega)) ?_
    refine ⟨_, rfl, _, rfl, rv, r, pd, kvs, hm, rfl, hrv9, hd9, hho, hro, hok.hs, fun H10 s10 => ?_⟩
    refine ⟨_, rfl, ?_⟩
    refine iteF ?_
    have s11 := s9.trans s10
    have hrv10 := hrv9.same s10
    have hw10 := hw9'.same s10
    have hd10 := s10 _ _ hd9
    have hl10 := s10 _ _ hl9
    clear s10 hrv9 hw9' hd9 hl9 hq9 s9 H9
    obtain ⟨ra, xs, rfl, hrs, hrt⟩ := td_row hrv10
    refine ⟨_, rfl, _, _, _, _, rfl, rfl, hrs, at0, rfl, _, rfl, ?_⟩
    by_cases ha : r.hd = "ask"
    case pos =>
      refine iteT' (decide_eq_true (by rw [ha])) ?_
      obtain ⟨x, h0, k, er⟩ : ∃ x h0 k, r = .ask x h0 k := by
        cases r with
        | lt op _ _ => exact absurd ha (by show ¬ ltw op = "ask"; cases op <;> decide +kernel)
        | ask x h0 k => exact ⟨x, h0, k, rfl⟩
        | say _ _ => exact absurd ha (by show ¬ ("say" : Str) = "ask"; decide +kernel)
        | iff _ _ _ => exact absurd ha (by show ¬ ("if" : Str) = "ask"; decide +kernel)
        | whl _ _ => exact absurd ha (by show ¬ ("while" : Str) = "ask"; decide +kernel)
      obtain ⟨rb, e1, t⟩ := td_ask (er ▸ hrv10)
      cases e1
      refine ⟨_, rfl, _, _, _, _, rfl, rfl, t, rfl, _, rfl, _, rfl, _, _, _, _, rfl, rfl, t, rfl, pd, _, rfl, DPut.k (k := Sum.inr x) hd10 (by rw [sizeLine_eq]; omega), ?_⟩
      have hh0 : h0 = hm x := by rw [er] at hro; exact hro.2
      have hlp := length_putK kvs (Sum.inr x) (V.str h0)
      have hho' : Homes hm (putK kvs (Sum.inr x) (.str h0)) := by rw [hh0]; exact hho.put x
      have hkl' : (putK kvs (Sum.inr x) (V.str h0)).length ≤ 60 + (num + 1) := by omega
      have k11 : Kp [pd] H10 (upd H10 pd (.dK (putK kvs (Sum.inr x) (.str h0)))) := .at
      have f11 : TF H10 [pd] := TF.one hd10 (fun _ e => by cases e) (fun _ _ e => by cases e) .nil
      have s12 := same_put s11 n1d (o := .dK (putK kvs (Sum.inr x) (.str h0)))
      have hrv11 := Td.kp k11 f11 _ hrv10
      have hw11 := TdA.kp k11 f11 _ hw10
      have hd11 : upd H10 pd (.dK (putK kvs (Sum.inr x) (.str h0))) pd = some (.dK (putK kvs (Sum.inr x) (.str h0))) := upd_same
      have hl11 : upd H10 pd (.dK (putK kvs (Sum.inr x) (.str h0))) lw = some (.lst ws') := by rw [upd_ne nwd]; exact hl10
      generalize upd H10 pd (.dK (putK kvs (Sum.inr x) (.str h0))) = H11 at s12 hrv11 hw11 hd11 hl11 ⊢
      generalize putK kvs (Sum.inr x) (V.str h0) = kvs11 at hho' hkl' hd11
      refine ⟨_, rfl, _, r, rfl, hrv11, fun H12 pb xb s13 npb hpb hxb => ⟨pb, xb, rfl, .of hpb, fun pc npc => ⟨pc, rfl, ⟨_, .of upd_same⟩, ?_⟩⟩⟩
      have s14 := s13.trans (same_new npc (o := .lst xb.reverse))
      have hw14 := hw11.same s14
      have hd14 := s14 _ _ hd11
      have hl14 := s14 _ _ hl11
      have hxc := hxb.reverse.same (same_new npc (o := .lst xb.reverse))
      rw [← List.map_reverse] at hxc
      have hpc : upd H12 pc (.lst xb.reverse) pc = some (.lst xb.reverse) := upd_same
      have s15 := s12.trans s14
      generalize upd H12 pc (.lst xb.reverse) = H13 at s15 hw14 hd14 hl14 hxc hpc ⊢
      have nlc : lw ≠ pc := fun z => by rw [← z] at npc; have := s13 _ _ hl11; rw [npc] at this; cases this
      have hxl := hxc.length
      rw [List.length_map, List.length_reverse, List.length_reverse] at hxl
      have hb2 : r.blks.length ≤ 2 := by cases r <;> simp [Row.blks]
      refine for_it (walk_list (xs := xb.reverse)) (fun i σ H' => ∃ (x6 : Option V) (ws : List V), σ = [some (.ref a), some (.ref pd), some (.ref lw), some (.ref ra), some (.int ((num + 1 : Nat) : Int)), some (.int (d : Nat)), x6, none] ∧ Same H H' ∧ H' pc = some (.lst xb.reverse) ∧
        TdA K H' xb.reverse (r.blks.reverse.map blkD) ∧ H' pd = some (.dK kvs11) ∧ H' lw = some (.lst ws) ∧ ws.length ≤ 60 + 60 * i ∧ TdA K H' ws ((S.map itW).reverse ++ ((r.blks.reverse.take i).map fun b => ((b.map fun k => (k, d + 1)).map itW).reverse).flatten))
        ⟨x6, ws', rfl, s15, hpc, hxc, hd14, hl14, ?_, ?_⟩ ?_ ?_ ?_
      · have h1 := hw14.length
        rw [List.length_reverse, List.length_map] at h1
        have h2 := rows_len_le (S.map (·.1))
        rw [List.length_map] at h2
        omega
      · rw [List.take_zero, List.map_nil, List.flatten_nil, List.append_nil]
        exact hw14
      · rintro i σ H' _ ⟨_, _, _, _, h, _⟩
        exact .of h
      · rintro i x σ H14 H15 hi ⟨x6, ws, rfl, t1, t2, t3, t4, t5, t6, t7⟩ ⟨rfl, hx⟩
        obtain ⟨ya, ys, b, hb, rfl, hys, hyd⟩ := rows_lists t3 hx
        have hbm : b ∈ r.blks := List.mem_reverse.mp (List.mem_of_getElem? hb)
        have hbl := blks_len_le r b hbm
        have hyl := hyd.length
        rw [rowsD_map, List.length_map] at hyl
        have hi2 : i < 2 := by rw [List.length_reverse] at hi; omega
        refine ⟨_, rfl, Or.inl ⟨rfl, _, SqL.of t5⟩, _, rfl, ya, ys, rfl, hys, fun pt npt => ⟨pt, rfl, ⟨_, .of upd_same⟩, fun D nD => ?_⟩⟩
        have u1 := same_new npt (o := .tup ys.reverse)
        have hyd' := hyd.reverse.same u1
        have hpt : SqT K (upd H15 pt (.tup ys.reverse)) pt ys.reverse := .of upd_same
        have t1' := t1.trans u1
        have t2' := u1 _ _ t2
        have t3' := t3.same u1
        have t4' := u1 _ _ t4
        have t5' := u1 _ _ t5
        have t7' := t7.same u1
        generalize upd H15 pt (.tup ys.reverse) = H16 at nD hyd' hpt t1' t2' t3' t4' t5' t7' ⊢
        refine lc_pu walk_tup (by rw [List.length_reverse]; omega) nD (fun H' s' => same_tup s' hpt) (fun j y H' => ∃ k, b.reverse[j]? = some k ∧ Td K H' y (itW (k, d + 1))) (fun j y H' H'' ⟨l, hl⟩ k ⟨r, h1, h2⟩ => ⟨r, h1, Td.kp k (.lst hl) _ h2⟩) ?_ ?_
        · rintro j y H17 H18 Qc hj u2 _ ⟨rfl, hy⟩ hq
          obtain ⟨dd, hdd, hxd⟩ := (hyd'.same u2).get hy
          rw [rowsD_map, ← List.map_reverse, List.getElem?_map] at hdd
          obtain ⟨k, hk, rfl⟩ := Option.map_eq_some_iff.mp hdd
          refine ⟨rfl, _, rfl, _, rfl, _, _, rfl, rfl, (by show 2 ≤ sizeLine; decide), fun p hp => ?_⟩
          exact hq _ _ (same_new hp) ⟨k, hk, Td.new hp (tda_cons.mpr ⟨hxd, tda_cons.mpr ⟨td_int.mpr rfl, tda_nil⟩⟩)⟩
        · intro zs H17 u2 hzD hzl hzs
          rw [List.length_reverse] at hzl
          have hz : TdA K H17 zs ((b.map fun k => (k, d + 1)).map itW).reverse := by
            refine TdA.of_get (by rw [List.length_reverse, List.length_map, List.length_map]; omega) fun i v dd h1 h2 => ?_
            obtain ⟨k, h3, h4⟩ := hzs i v h1
            rw [← List.map_reverse, ← List.map_reverse, List.map_map, List.getElem?_map, h3] at h2
            cases h2
            exact h4
          have t5'' := u2 _ _ t5'
          refine ⟨lw, D, ws, zs, rfl, rfl, t5'', hzD, by rw [sizeLine_eq]; omega, ?_⟩
          refine ⟨some (.ref ya), ws ++ zs, rfl, same_put (t1'.trans u2) n1w, ?_, (t3'.same u2).put t5'', ?_, upd_same, by rw [List.length_append]; omega, ?_⟩
          · rw [upd_ne (Ne.symm nlc)]; exact u2 _ _ t2'
          · rw [upd_ne (Ne.symm nwd)]; exact u2 _ _ t4'
          · refine TdA.put t5'' ?_
            have e1 : (r.blks.reverse.take (i + 1)) = r.blks.reverse.take i ++ [b] := by rw [List.take_succ, hb] <;> rfl
            rw [e1, List.map_append, List.flatten_append, ← List.append_assoc]
            refine (t7'.same u2).append ?_
            simpa using hz
      · rintro σ H14 ⟨x6, ws, rfl, t1, t2, t3, t4, t5, t6, t7⟩
        rw [List.length_reverse, hxl, List.take_of_length_le (by rw [List.length_reverse]; exact Nat.le_refl _)] at t7
        have e1 : (r.blks.reverse.map fun b => ((b.map fun k => (k, d + 1)).map itW).reverse).flatten = ((r.kids.map fun k => (k, d + 1)).map itW).reverse := by
          have := pile_rev (fun k => itW (k, d + 1)) r.blks
          rw [r.blks_kids] at this
          simp only [List.map_map]
          exact this
        rw [e1, ← List.reverse_append, ← List.map_append] at t7
        refine ⟨some (.ref ra), some (.int (d : Nat)), x6, (r.kids.map fun k => (k, d + 1)) ++ S, num + 1, kvs11, ws, ?_, rfl, t1, t4, hho', hkl', t5, t7, ?_, ?_⟩
        · rw [List.map_append, cnts_append, List.map_map]
          show cnts (r.kids.map id) + _ < cnts (r :: _)
          rw [List.map_id, cnts]
          omega
        · rw [List.map_append, cnts_append, List.map_map]
          show num + 1 + (cnts (r.kids.map id) + _) ≤ 60
          rw [List.map_id]
          omega
        · intro t ht'
          rcases List.mem_append.mp ht' with h1 | h1
          · obtain ⟨k, hk, rfl⟩ := List.mem_map.mp h1
            have h2 := (oks_mem.mp (Row.ok_kids hro)) k hk
            have h3 := dps_mem.mp (Nat.le_refl (dps r.kids)) k hk
            exact ⟨h2, by dsimp only; omega⟩
          · exact hS' t h1
    case neg =>
      refine iteF' (decide_eq_false (fun z => ha (V.str.inj z))) ?_
      have hho' := hho
      have hkl' : kvs.length ≤ 60 + (num + 1) := by omega
      have s12 := s11
      have hrv11 := hrv10
      have hw11 := hw10
      have hd11 := hd10
      have hl11 := hl10
      generalize H10 = H11 at s12 hrv11 hw11 hd11 hl11 ⊢
      generalize kvs = kvs11 at hho' hkl' hd11
      refine ⟨_, rfl, _, r, rfl, hrv11, fun H12 pb xb s13 npb hpb hxb => ⟨pb, xb, rfl, .of hpb, fun pc npc => ⟨pc, rfl, ⟨_, .of upd_same⟩, ?_⟩⟩⟩
      have s14 := s13.trans (same_new npc (o := .lst xb.reverse))
      have hw14 := hw11.same s14
      have hd14 := s14 _ _ hd11
      have hl14 := s14 _ _ hl11
      have hxc := hxb.reverse.same (same_new npc (o := .lst xb.reverse))
      rw [← List.map_reverse] at hxc
      have hpc : upd H12 pc (.lst xb.reverse) pc = some (.lst xb.reverse) := upd_same
      have s15 := s12.trans s14
      generalize upd H12 pc (.lst xb.reverse) = H13 at s15 hw14 hd14 hl14 hxc hpc ⊢
      have nlc : lw ≠ pc := fun z => by rw [← z] at npc; have := s13 _ _ hl11; rw [npc] at this; cases this
      have hxl := hxc.length
      rw [List.length_map, List.length_reverse, List.length_reverse] at hxl
      have hb2 : r.blks.length ≤ 2 := by cases r <;> simp [Row.blks]
      refine for_it (walk_list (xs := xb.reverse)) (fun i σ H' => ∃ (x6 : Option V) (ws : List V), σ = [some (.ref a), some (.ref pd), some (.ref lw), some (.ref ra), some (.int ((num + 1 : Nat) : Int)), some (.int (d : Nat)), x6, none] ∧ Same H H' ∧ H' pc = some (.lst xb.reverse) ∧
        TdA K H' xb.reverse (r.blks.reverse.map blkD) ∧ H' pd = some (.dK kvs11) ∧ H' lw = some (.lst ws) ∧ ws.length ≤ 60 + 60 * i ∧ TdA K H' ws ((S.map itW).reverse ++ ((r.blks.reverse.take i).map fun b => ((b.map fun k => (k, d + 1)).map itW).reverse).flatten))
        ⟨x6, ws', rfl, s15, hpc, hxc, hd14, hl14, ?_, ?_⟩ ?_ ?_ ?_
      · have h1 := hw14.length
        rw [List.length_reverse, List.length_map] at h1
        have h2 := rows_len_le (S.map (·.1))
        rw [List.length_map] at h2
        omega
      · rw [List.take_zero, List.map_nil, List.flatten_nil, List.append_nil]
        exact hw14
      · rintro i σ H' _ ⟨_, _, _, _, h, _⟩
        exact .of h
      · rintro i x σ H14 H15 hi ⟨x6, ws, rfl, t1, t2, t3, t4, t5, t6, t7⟩ ⟨rfl, hx⟩
        obtain ⟨ya, ys, b, hb, rfl, hys, hyd⟩ := rows_lists t3 hx
        have hbm : b ∈ r.blks := List.mem_reverse.mp (List.mem_of_getElem? hb)
        have hbl := blks_len_le r b hbm
        have hyl := hyd.length
        rw [rowsD_map, List.length_map] at hyl
        have hi2 : i < 2 := by rw [List.length_reverse] at hi; omega
        refine ⟨_, rfl, Or.inl ⟨rfl, _, SqL.of t5⟩, _, rfl, ya, ys, rfl, hys, fun pt npt => ⟨pt, rfl, ⟨_, .of upd_same⟩, fun D nD => ?_⟩⟩
        have u1 := same_new npt (o := .tup ys.reverse)
        have hyd' := hyd.reverse.same u1
        have hpt : SqT K (upd H15 pt (.tup ys.reverse)) pt ys.reverse := .of upd_same
        have t1' := t1.trans u1
        have t2' := u1 _ _ t2
        have t3' := t3.same u1
        have t4' := u1 _ _ t4
        have t5' := u1 _ _ t5
        have t7' := t7.same u1
        generalize upd H15 pt (.tup ys.reverse) = H16 at nD hyd' hpt t1' t2' t3' t4' t5' t7' ⊢
        refine lc_pu walk_tup (by rw [List.length_reverse]; omega) nD (fun H' s' => same_tup s' hpt) (fun j y H' => ∃ k, b.reverse[j]? = some k ∧ Td K H' y (itW (k, d + 1))) (fun j y H' H'' ⟨l, hl⟩ k ⟨r, h1, h2⟩ => ⟨r, h1, Td.kp k (.lst hl) _ h2⟩) ?_ ?_
        · rintro j y H17 H18 Qc hj u2 _ ⟨rfl, hy⟩ hq
          obtain ⟨dd, hdd, hxd⟩ := (hyd'.same u2).get hy
          rw [rowsD_map, ← List.map_reverse, List.getElem?_map] at hdd
          obtain ⟨k, hk, rfl⟩ := Option.map_eq_some_iff.mp hdd
          refine ⟨rfl, _, rfl, _, rfl, _, _, rfl, rfl, (by show 2 ≤ sizeLine; decide), fun p hp => ?_⟩
          exact hq _ _ (same_new hp) ⟨k, hk, Td.new hp (tda_cons.mpr ⟨hxd, tda_cons.mpr ⟨td_int.mpr rfl, tda_nil⟩⟩)⟩
        · intro zs H17 u2 hzD hzl hzs
          rw [List.length_reverse] at hzl
          have hz : TdA K H17 zs ((b.map fun k => (k, d + 1)).map itW).reverse := by
            refine TdA.of_get (by rw [List.length_reverse, List.length_map, List.length_map]; omega) fun i v dd h1 h2 => ?_
            obtain ⟨k, h3, h4⟩ := hzs i v h1
            rw [← List.map_reverse, ← List.map_reverse, List.map_map, List.getElem?_map, h3] at h2
            cases h2
            exact h4
          have t5'' := u2 _ _ t5'
          refine ⟨lw, D, ws, zs, rfl, rfl, t5'', hzD, by rw [sizeLine_eq]; omega, ?_⟩
          refine ⟨some (.ref ya), ws ++ zs, rfl, same_put (t1'.trans u2) n1w, ?_, (t3'.same u2).put t5'', ?_, upd_same, by rw [List.length_append]; omega, ?_⟩
          · rw [upd_ne (Ne.symm nlc)]; exact u2 _ _ t2'
          · rw [upd_ne (Ne.symm nwd)]; exact u2 _ _ t4'
          · refine TdA.put t5'' ?_
            have e1 : (r.blks.reverse.take (i + 1)) = r.blks.reverse.take i ++ [b] := by rw [List.take_succ, hb] <;> rfl
            rw [e1, List.map_append, List.flatten_append, ← List.append_assoc]
            refine (t7'.same u2).append ?_
            simpa using hz
      · rintro σ H14 ⟨x6, ws, rfl, t1, t2, t3, t4, t5, t6, t7⟩
        rw [List.length_reverse, hxl, List.take_of_length_le (by rw [List.length_reverse]; exact Nat.le_refl _)] at t7
        have e1 : (r.blks.reverse.map fun b => ((b.map fun k => (k, d + 1)).map itW).reverse).flatten = ((r.kids.map fun k => (k, d + 1)).map itW).reverse := by
          have := pile_rev (fun k => itW (k, d + 1)) r.blks
          rw [r.blks_kids] at this
          simp only [List.map_map]
          exact this
        rw [e1, ← List.reverse_append, ← List.map_append] at t7
        refine ⟨some (.ref ra), some (.int (d : Nat)), x6, (r.kids.map fun k => (k, d + 1)) ++ S, num + 1, kvs11, ws, ?_, rfl, t1, t4, hho', hkl', t5, t7, ?_, ?_⟩
        · rw [List.map_append, cnts_append, List.map_map]
          show cnts (r.kids.map id) + _ < cnts (r :: _)
          rw [List.map_id, cnts]
          omega
        · rw [List.map_append, cnts_append, List.map_map]
          show num + 1 + (cnts (r.kids.map id) + _) ≤ 60
          rw [List.map_id]
          omega
        · intro t ht'
          rcases List.mem_append.mp ht' with h1 | h1
          · obtain ⟨k, hk, rfl⟩ := List.mem_map.mp h1
            have h2 := (oks_mem.mp (Row.ok_kids hro)) k hk
            have h3 := dps_mem.mp (Nat.le_refl (dps r.kids)) k hk
            exact ⟨h2, by dsimp only; omega⟩
          · exact hS' t h1
end
end Tw
set_option Elab.async false
set_option linter.all false
set_option maxRecDepth 100000
set_option maxHeartbeats 4000000
namespace Tw
open PySem PySem.Spec PyProof.Rows L2
def natsD (ar : List Nat) : PyData := .tuple (ar.map fun (n : Nat) => .int (n : Int))
def itR (t : Row × List Nat) : PyData := .tuple [t.1.d, natsD t.2]
section
variable {P : Program} {w : World} {K : PySem.W.Frag} {mg : Str → Option Value} {base : Heap}
def sp_rows_in (K : PySem.W.Frag) : Sp := fun vs H Q _ => ∃ (v : V) (p : Pg) (hm : Str → Str), vs = [v] ∧ PgT K H v p ∧ p.ok hm ∧ ∀ H' l fs, Same H H' → H l = none → H' l = some (.lst fs) → TdA K H' fs (p.flat.map itemD) → Q (.ref l) H'
theorem ok_rows_in (T : Txt K mg) : Cal P w K mg base "rows_in" 15 ["program"] (sp_rows_in K) := by
  have C_need_program := ok_need_program (P := P) (w := w) (base := base) T
  have C_blocks_in := ok_blocks_in (P := P) (w := w) (base := base) T
  refine Cal.of T.d_rows_in b_rows_in sc_rows_in (fun vs H Q E h => ?_) (fun cdv A outer s H vs Q E hr h => ?_)
  · obtain ⟨_, _, _, rfl, _⟩ := h; rfl
  obtain ⟨v, pg, hm, rfl, ht, hok, q⟩ := h
  refine ⟨_, (pss_cons (ps_expr (pe_callC C_need_program (hr.mono (by decide)) rfl (pa_cons (pv 0) pa_nil)))
  (pss_cons (ps_setLc (i := 1) (own := [("row", 2)]) (by rfl) sc_rows_in.nd rfl rfl (sw_true rfl rfl rfl (by decide +kernel)) (pi_tup (pe_revT (pe_ix ix_tup (pv 0) pe_int (fun _ _ => rfl)))) (blkOk_by (own := [("row", 2)]) (N := N_rows_in) (sc := defScope s_rows_in) (by decide +kernel)) (fun _ _ _ _ _ => (pg_name (i := 2) sc_rows_in.nd rfl (Or.inl rfl))) (fun _ _ _ _ _ => pts_nil) (fun _ _ _ _ _ => (pe_tup (pa_cons (pv 2) (pa_cons (pe_tup pa_nil) pa_nil)))))
  (pss_cons (ps_set (i := 3) sc_rows_in.nd rfl (Or.inl rfl) (pe_lst pa_nil))
  (pss_cons (ps_while PassesOwn.never (pt_cmpR (op_neE hr.units0) (pv 1) (pe_lst pa_nil) (nomark _))
   (pss_cons (ps_asg (pe_bm0 PySem.F.plainAttrs_list PySem.F.slot_list_pop PySem.F.type_list_pop mt_pop (pv 1)) (pg_tup (by rfl) (pgs_cons (pg_name (i := 2) sc_rows_in.nd rfl (Or.inl rfl)) (pgs_cons (pg_name (i := 4) sc_rows_in.nd rfl (Or.inr rfl)) pgs_nil))))
  (pss_cons (ps_set (i := 5) sc_rows_in.nd rfl (Or.inr rfl) (pe_op op_add (pe_callB call_len_seq (by rfl) T.len bb_len (pa_cons (pv 3) pa_nil)) pe_int))
  (pss_cons (ps_expr (pe_bm PySem.F.plainAttrs_list PySem.F.slot_list_append PySem.F.type_list_append mt_append (pv 3) (pa_cons (pe_tup (pa_cons (pv 5) (pa_cons (pv 2) (pa_cons (pv 4) pa_nil)))) pa_nil)))
  (pss_one (ps_for PassesOwn.never rfl (pi_list (pe_revL (pe_callC C_blocks_in (hr.mono (by decide)) rfl (pa_cons (pv 2) pa_nil)))) (pg_name (i := 6) sc_rows_in.nd rfl (Or.inl rfl))
   (pss_one (ps_expr (pe_bm PySem.F.plainAttrs_list PySem.F.slot_list_extend PySem.F.type_list_extend mt_extend (pv 1) (pa_cons (pe_lc (own := [("inner", 7)]) (by rfl) sc_rows_in.nd (pi_tup (pe_revT (pv 6))) (blkOk_by (own := [("inner", 7)]) (N := N_rows_in) (sc := defScope s_rows_in) (by decide +kernel)) (fun _ _ _ _ _ => (pg_name (i := 7) sc_rows_in.nd rfl (Or.inl rfl))) (fun _ _ _ _ _ => pts_nil) (fun _ _ _ _ _ => (pe_tup (pa_cons (pv 7) (pa_cons (pe_op (op_catAB K) (pv 4) (pe_tup (pa_cons (pv 5) pa_nil))) pa_nil))))) pa_nil))))))))))
  (pss_one (ps_ret (pv 3))))))), ?_⟩
  obtain ⟨a, x, y, rfl, hs, hmk, hrw⟩ := id ht
  obtain ⟨c, rs, rfl, hc, hrs⟩ := td_tup.mp hrw
  have hrl := hrs.length
  rw [rowsD_map, List.length_map] at hrl
  have hrn := rows_len_le pg.rs
  have hcn := hok.cn
  refine ⟨_, rfl, _, pg, hm, rfl, ht, hok, fun H1 s1 => ?_⟩
  refine ⟨_, rfl, _, _, _, _, rfl, rfl, same_tup s1 hs, rfl, c, rs, rfl, same_tup s1 hc, fun pr npr => ?_⟩
  have s4 := same_put s1 (s1.free npr) (o := .tup rs.reverse)
  refine ⟨pr, rfl, ⟨_, .of upd_same⟩, fun lw nlw => ?_⟩
  have hrs4 := (hrs.same s4).reverse
  have hpr4 : SqT K (upd H1 pr (.tup rs.reverse)) pr rs.reverse := .of upd_same
  generalize upd H1 pr (.tup rs.reverse) = H4 at s4 hrs4 hpr4 nlw ⊢
  have n1w := s4.free nlw
  refine lc_pu walk_tup (by rw [List.length_reverse]; omega) nlw (fun H' s' => same_tup s' hpr4) (fun i y H' => ∃ r, pg.rs.reverse[i]? = some r ∧ Td K H' y (itR (r, []))) (fun i y H' H'' ⟨l, hl⟩ k ⟨r, h1, h2⟩ => ⟨r, h1, Td.kp k (.lst hl) _ h2⟩) ?_ ?_
  · rintro i x H5 H6 Qc hi s5 _ ⟨rfl, hx⟩ hq
    obtain ⟨dd, hdd, hxd⟩ := (hrs4.same s5).get hx
    rw [rowsD_map, ← List.map_reverse, List.getElem?_map] at hdd
    obtain ⟨r, hr', rfl⟩ := Option.map_eq_some_iff.mp hdd
    refine ⟨rfl, _, rfl, (by show 0 ≤ sizeLine; decide), fun p0 hp0 => ?_⟩
    have u0 := same_new hp0 (o := .tup [])
    have h0 : Td K (upd H6 p0 (.tup [])) (.ref p0) (natsD []) := Td.new hp0 tda_nil
    refine ⟨(by show 2 ≤ sizeLine; decide), fun p hp => ?_⟩
    exact hq _ _ (u0.trans (same_new hp)) ⟨r, hr', Td.new hp (tda_cons.mpr ⟨hxd.same u0, tda_cons.mpr ⟨h0, tda_nil⟩⟩)⟩
  intro ws H5 s5 hlw hwl hws
  rw [List.length_reverse] at hwl
  have hw : TdA K H5 ws (((pg.rs.map fun r => (r, ([] : List Nat))).map itR).reverse) := by
    refine TdA.of_get (by rw [List.length_reverse, List.length_map, List.length_map, hwl, hrl]) fun i v d h1 h2 => ?_
    obtain ⟨r, h3, h4⟩ := hws i v h1
    rw [← List.map_reverse, ← List.map_reverse, List.map_map, List.getElem?_map, h3] at h2
    cases h2
    exact h4
  have s6 := s4.trans s5
  clear hws
  refine ⟨by show 0 ≤ sizeLine; decide, fun lf nlf => ?_⟩
  have n1f := s6.free nlf
  have nfw : lf ≠ lw := fun z => by rw [z, hlw] at nlf; cases nlf
  have s7 := same_put s6 n1f (o := .lst [])
  have hlw' : upd H5 lf (.lst []) lw = some (.lst ws) := by rw [upd_ne (Ne.symm nfw)]; exact hlw
  have hw' := hw.same (same_new nlf (o := .lst []))
  have hcn0 : cntS (pg.rs.map fun r => (r, ([] : List Nat))) = cnts pg.rs := by
    have := cntS_map ([] : List Nat) pg.rs []
    rw [List.append_nil] at this
    rw [this] <;> rfl
  refine ⟨fun m σ H' => ∃ (x2 x4 x5 x6 : Option V) (S : List (Row × List Nat)) (D : List (Nat × Row × List Nat)) (ws fs : List V), m = cntS S ∧
    σ = [some (.ref a), some (.ref lw), x2, some (.ref lf), x4, x5, x6, none] ∧ Same H H' ∧ H' lw = some (.lst ws) ∧ TdA K H' ws ((S.map itR).reverse) ∧ H' lf = some (.lst fs) ∧ TdA K H' fs (D.map itemD) ∧
    D.length + cntS S ≤ 60 ∧ pg.flat = D ++ flatS (D.length + 1) S ∧ ∀ t ∈ S, t.2.length + t.1.dp ≤ 5, ⟨_, none, none, none, none, pg.rs.map fun r => (r, ([] : List Nat)), [], ws, [], rfl, rfl, s7, hlw', hw', upd_same, tda_nil, ?_, ?_, ?_⟩, ?_⟩
  · rw [hcn0, List.length_nil]
    omega
  · have := flatS_map ([] : List Nat) 1 pg.rs []
    rw [List.append_nil] at this
    show flats 1 [] pg.rs = [] ++ flatS (0 + 1) _
    rw [List.nil_append, Nat.zero_add, this]
    show _ = _ ++ []
    rw [List.append_nil]
  · intro t ht'
    obtain ⟨r, hr', rfl⟩ := List.mem_map.mp ht'
    have h2 := dps_mem.mp hok.dp r hr'
    show 0 + r.dp ≤ 5
    omega
  clear hw hlw s6 hwl s5 hrs4 hpr4 nlw s4 npr hw' hlw' s7 nlf
  rintro m σ H7 ⟨x2, x4, x5, x6, S, D, ws, fs, rfl, rfl, s7, hlw7, hw7, hlf7, hf7, hcS, hfl, hS⟩
  refine ⟨_, rfl, (by show 0 ≤ sizeLine; decide), fun p hp => ?_⟩
  have nwp : lw ≠ p := fun z => by rw [z, hp] at hlw7; cases hlw7
  refine ⟨lw, p, _, rfl, rfl, .inl ⟨.of (by rw [upd_ne nwp]; exact hlw7), .of upd_same⟩, _, rfl, ?_⟩
  have sn := same_new hp (o := .lst [])
  have s8 := s7.trans sn
  have hlw8 := sn _ _ hlw7
  have hw8 := hw7.same sn
  have hlf8 := sn _ _ hlf7
  have hf8 := hf7.same sn
  generalize upd H7 p (.lst []) = H8 at s8 hlw8 hw8 hlf8 hf8 ⊢
  clear sn nwp hp hlw7 hw7 hlf7 hf7 s7 H7
  cases S with
  | nil =>
    rw [hw8.nil_of] at hlw8 ⊢
    refine iteF' (by rfl) ?_
    refine ⟨_, rfl, ?_⟩
    refine q H8 lf fs s8 n1f hlf8 ?_
    rw [hfl]
    show TdA K H8 fs ((D ++ []).map itemD)
    rw [List.append_nil]
    exact hf8
  | cons t S =>
    obtain ⟨r, ar⟩ := t
    rw [List.map_cons, List.reverse_cons] at hw8
    obtain ⟨ws', wv, rfl, hw9, hwv⟩ : ∃ ws' wv, ws = ws' ++ [wv] ∧ TdA K H8 ws' ((S.map itR).reverse) ∧ Td K H8 wv (itR (r, ar)) := by
      have h1 : TdA K H8 ws.reverse (itR (r, ar) :: S.map itR) := by
        have := hw8.reverse
        simpa using this
      obtain ⟨wv, w2, e1, h2, h3⟩ := TdA.cons_of h1
      refine ⟨w2.reverse, wv, ?_, h3.reverse, h2⟩
      have := congrArg List.reverse e1
      rw [List.reverse_reverse] at this
      rw [this, List.reverse_cons]
    refine iteT' (by simp) ?_
    have hrd : ar.length + r.dp ≤ 5 := hS (r, ar) (List.mem_cons_self ..)
    have hS' : ∀ t ∈ S, t.2.length + t.1.dp ≤ 5 := fun t ht' => hS t (List.mem_cons_of_mem _ ht')
    have hcr := r.blks_cnt
    have hdk := r.dp_kids
    have hcS' : D.length + (r.cnt + cntS S) ≤ 60 := hcS
    refine ⟨fun σ' H' => ∃ (x2 x4 x5 x6 : Option V) (S' : List (Row × List Nat)) (D' : List (Nat × Row × List Nat)) (ws fs : List V), cntS S' < cntS ((r, ar) :: S) ∧
      σ' = [some (.ref a), some (.ref lw), x2, some (.ref lf), x4, x5, x6, none] ∧ Same H H' ∧ H' lw = some (.lst ws) ∧ TdA K H' ws ((S'.map itR).reverse) ∧ H' lf = some (.lst fs) ∧ TdA K H' fs (D'.map itemD) ∧
      D'.length + cntS S' ≤ 60 ∧ pg.flat = D' ++ flatS (D'.length + 1) S' ∧ ∀ t ∈ S', t.2.length + t.1.dp ≤ 5, fun σ' H' ⟨x2, x4, x5, x6, S', D', ws, fs, hm', r⟩ => ⟨_, hm', x2, x4, x5, x6, S', D', ws, fs, rfl, r⟩, ?_⟩
    refine ⟨_, rfl, Or.inl ⟨rfl, _, SqL.of hlw8⟩, lw, _, _, rfl, rfl, hlw8, last_rev _ _, ?_⟩
    rw [List.dropLast_concat]
    obtain ⟨qa, rv, dv, rfl, hq, hrv, hdv⟩ := Td.t2 hwv
    have s9 := same_put s8 n1w (o := .lst ws')
    have k9 : Kp [lw] H8 (upd H8 lw (.lst ws')) := .at
    have f9 : TF H8 [lw] := .lst hlw8
    have hq9 := k9.tup f9 hq
    have hrv9 := Td.kp k9 f9 _ hrv
    have hdv9 := Td.kp k9 f9 _ hdv
    have hw9' := hw9.put hlw8 (o := .lst ws')
    have hf9 := hf8.put hlw8 (o := .lst ws')
    have hlf9 : upd H8 lw (.lst ws') lf = some (.lst fs) := by rw [upd_ne nfw]; exact hlf8
    have hl9 : upd H8 lw (.lst ws') lw = some (.lst ws') := upd_same
    generalize upd H8 lw (.lst ws') = H9 at s9 hq9 hrv9 hdv9 hw9' hf9 hlf9 hl9 ⊢
    clear k9 f9 hrv hq hw9 hdv hwv hw8 hlw8 s8 hf8 hlf8 H8
    refine ⟨qa, _, rfl, hq9, rfl, _, _, rfl, _, _, rfl, rfl, ?_⟩
    have hfl9 := hf9.length
    rw [List.length_map] at hfl9
    refine ⟨_, rfl, lf, fs, rfl, .inl (.of hlf9), _, _, rfl, rfl, ?_⟩
    refine ⟨_, rfl, Or.inl ⟨rfl, _, SqL.of hlf9⟩, _, rfl, _, rfl, _, rfl, (by show 3 ≤ sizeLine; decide), fun pn npn => ?_⟩
    have u1 := same_new npn (o := .tup [.int ((fs.length : Int) + 1), rv, dv])
    have hnum : ((fs.length : Nat) : Int) + 1 = ((D.length + 1 : Nat) : Int) := by rw [hfl9]; omega
    have hitem : Td K (upd H9 pn (.tup [.int ((fs.length : Int) + 1), rv, dv])) (.ref pn) (itemD (D.length + 1, r, ar)) := by
      refine Td.new npn (tda_cons.mpr ⟨td_int.mpr (by rw [hnum]), tda_cons.mpr ⟨hrv9, tda_cons.mpr ⟨hdv9, tda_nil⟩⟩⟩)
    refine ⟨lf, fs, _, rfl, rfl, u1 _ _ hlf9, (by rw [sizeLine_eq]; omega), ?_⟩
    have hrv10 := (hrv9.same u1).put (u1 _ _ hlf9) (o := .lst (fs ++ [.ref pn]))
    have hdv10 := (hdv9.same u1).put (u1 _ _ hlf9) (o := .lst (fs ++ [.ref pn]))
    have hw10 := (hw9'.same u1).put (u1 _ _ hlf9) (o := .lst (fs ++ [.ref pn]))
    have hf10 : TdA K (upd (upd H9 pn (.tup [.int ((fs.length : Int) + 1), rv, dv])) lf (.lst (fs ++ [.ref pn]))) (fs ++ [.ref pn]) ((D ++ [(D.length + 1, r, ar)]).map itemD) := by
      rw [List.map_append]
      exact ((hf9.same u1).put (u1 _ _ hlf9)).append (tda_cons.mpr ⟨hitem.put (u1 _ _ hlf9), tda_nil⟩)
    have s12 := same_put (s9.trans u1) n1f (o := .lst (fs ++ [.ref pn]))
    have hl11 : upd (upd H9 pn (.tup [.int ((fs.length : Int) + 1), rv, dv])) lf (.lst (fs ++ [.ref pn])) lw = some (.lst ws') := by rw [upd_ne (Ne.symm nfw)]; exact u1 _ _ hl9
    have hlf11 : upd (upd H9 pn (.tup [.int ((fs.length : Int) + 1), rv, dv])) lf (.lst (fs ++ [.ref pn])) lf = some (.lst (fs ++ [.ref pn])) := upd_same
    generalize upd (upd H9 pn (.tup [.int ((fs.length : Int) + 1), rv, dv])) lf (.lst (fs ++ [.ref pn])) = H11 at s12 hrv10 hdv10 hw10 hf10 hl11 hlf11 ⊢
    generalize fs ++ [V.ref pn] = fs2 at hf10 hlf11 ⊢
    clear hitem u1 npn hl9 hlf9 hf9 hw9' hdv9 hrv9 hq9 s9
    obtain ⟨da, ds, rfl, hda, hds⟩ := td_tup.mp hdv10
    obtain ⟨ra, xs, rfl, hrs, hrt⟩ := td_row hrv10
    refine ⟨_, rfl, _, r, rfl, hrv10, fun H12 pb xb s13 npb hpb hxb => ⟨pb, xb, rfl, .of hpb, fun pc npc => ⟨pc, rfl, ⟨_, .of upd_same⟩, ?_⟩⟩⟩
    have s14 := s13.trans (same_new npc (o := .lst xb.reverse))
    have hw14 := hw10.same s14
    have hf14 := hf10.same s14
    have hlf14 := s14 _ _ hlf11
    have hl14 := s14 _ _ hl11
    have hda14 := same_tup s14 hda
    have hds14 := hds.same s14
    have hxc := hxb.reverse.same (same_new npc (o := .lst xb.reverse))
    rw [← List.map_reverse] at hxc
    have hpc : upd H12 pc (.lst xb.reverse) pc = some (.lst xb.reverse) := upd_same
    have s15 := s12.trans s14
    have nlc : lw ≠ pc := fun z => by rw [← z] at npc; have := s13 _ _ hl11; rw [npc] at this; cases this
    generalize upd H12 pc (.lst xb.reverse) = H13 at s15 hw14 hf14 hlf14 hl14 hda14 hds14 hxc hpc ⊢
    have hxl := hxc.length
    rw [List.length_map, List.length_reverse, List.length_reverse] at hxl
    have hb2 : r.blks.length ≤ 2 := by cases r <;> simp [Row.blks]
    have hdl : ds.length = ar.length := by
      have := hds14.length
      rw [List.length_map] at this
      exact this
    have hsum : ((fs.length : Nat) : Int) + 1 = ((D.length + 1 : Nat) : Int) := hnum
    refine for_it (walk_list (xs := xb.reverse)) (fun i σ H' => ∃ (x6 : Option V) (ws : List V), σ = [some (.ref a), some (.ref lw), some (.ref ra), some (.ref lf), some (.ref da), some (.int ((fs.length : Int) + 1)), x6, none] ∧ Same H H' ∧ H' pc = some (.lst xb.reverse) ∧
      TdA K H' xb.reverse (r.blks.reverse.map blkD) ∧ SqT K H' da ds ∧ TdA K H' ds (ar.map fun (n : Nat) => .int (n : Int)) ∧ H' lf = some (.lst fs2) ∧ TdA K H' fs2 ((D ++ [(D.length + 1, r, ar)]).map itemD) ∧ H' lw = some (.lst ws) ∧ ws.length ≤ 60 + 60 * i ∧
      TdA K H' ws ((S.map itR).reverse ++ ((r.blks.reverse.take i).map fun b => ((b.map fun k => (k, ar ++ [D.length + 1])).map itR).reverse).flatten))
      ⟨x6, ws', rfl, s15, hpc, hxc, hda14, hds14, hlf14, hf14, hl14, ?_, ?_⟩ ?_ ?_ ?_
    · have h1 := hw14.length
      rw [List.length_reverse, List.length_map] at h1
      have h2 : ∀ S : List (Row × List Nat), S.length ≤ cntS S := by
        intro S
        induction S with
        | nil => exact Nat.le_refl _
        | cons t S ih => have := t.1.cnt_pos; rw [List.length_cons]; show _ ≤ t.1.cnt + cntS S; omega
      have := h2 S
      omega
    · rw [List.take_zero, List.map_nil, List.flatten_nil, List.append_nil]
      exact hw14
    · rintro i σ H' _ ⟨_, _, _, _, h, _⟩
      exact .of h
    · rintro i x σ H14 H15 hi ⟨x6, ws, rfl, t1, t2, t3, v1, v2, v3, v4, t5, t6, t7⟩ ⟨rfl, hx⟩
      obtain ⟨ya, ys, b, hb, rfl, hys, hyd⟩ := rows_lists t3 hx
      have hbm : b ∈ r.blks := List.mem_reverse.mp (List.mem_of_getElem? hb)
      have hbl := blks_len_le r b hbm
      have hyl := hyd.length
      rw [rowsD_map, List.length_map] at hyl
      have hi2 : i < 2 := by rw [List.length_reverse] at hi; omega
      refine ⟨_, rfl, Or.inl ⟨rfl, _, SqL.of t5⟩, _, rfl, ya, ys, rfl, hys, fun pt npt => ⟨pt, rfl, ⟨_, .of upd_same⟩, fun Da nD => ?_⟩⟩
      have u1 := same_new npt (o := .tup ys.reverse)
      have hyd' := hyd.reverse.same u1
      have hpt : SqT K (upd H15 pt (.tup ys.reverse)) pt ys.reverse := .of upd_same
      have t1' := t1.trans u1
      have t2' := u1 _ _ t2
      have t3' := t3.same u1
      have v1' := same_tup u1 v1
      have v2' := v2.same u1
      have v3' := u1 _ _ v3
      have v4' := v4.same u1
      have t5' := u1 _ _ t5
      have t7' := t7.same u1
      generalize upd H15 pt (.tup ys.reverse) = H16 at nD hyd' hpt t1' t2' t3' v1' v2' v3' v4' t5' t7' ⊢
      refine lc_pu walk_tup (by rw [List.length_reverse]; omega) nD (fun H' s' => same_tup s' hpt) (fun j y H' => ∃ k, b.reverse[j]? = some k ∧ Td K H' y (itR (k, ar ++ [D.length + 1]))) (fun j y H' H'' ⟨l, hl⟩ k ⟨r, h1, h2⟩ => ⟨r, h1, Td.kp k (.lst hl) _ h2⟩) ?_ ?_
      · rintro j y H17 H18 Qc hj u2 _ ⟨rfl, hy⟩ hq
        obtain ⟨dd, hdd, hxd⟩ := (hyd'.same u2).get hy
        rw [rowsD_map, ← List.map_reverse, List.getElem?_map] at hdd
        obtain ⟨k, hk, rfl⟩ := Option.map_eq_some_iff.mp hdd
        refine ⟨rfl, _, rfl, _, rfl, _, rfl, (by show 1 ≤ sizeLine; decide), fun p1 hp1 => ?_⟩
        have w1 := same_new hp1 (o := .tup [.int ((fs.length : Int) + 1)])
        refine catA_of (same_tup w1 (same_tup u2 v1')) (.of upd_same) (by show ds.length + 1 ≤ sizeLine; rw [sizeLine_eq, hdl]; omega) fun H19 p2 w2 hp2 => ?_
        refine ⟨(by show 2 ≤ sizeLine; decide), fun p hp => ?_⟩
        have w3 := w1.trans w2
        have hnats : Td K H19 (.ref p2) (natsD (ar ++ [D.length + 1])) := by
          refine td_tup.mpr ⟨p2, _, rfl, hp2, ?_⟩
          rw [List.map_append]
          exact ((v2'.same u2).same w3).append (tda_cons.mpr ⟨td_int.mpr (by rw [hsum]), tda_nil⟩)
        exact hq _ _ (w3.trans (same_new hp)) ⟨k, hk, Td.new hp (tda_cons.mpr ⟨hxd.same w3, tda_cons.mpr ⟨hnats, tda_nil⟩⟩)⟩
      · intro zs H17 u2 hzD hzl hzs
        rw [List.length_reverse] at hzl
        have hz : TdA K H17 zs ((b.map fun k => (k, ar ++ [D.length + 1])).map itR).reverse := by
          refine TdA.of_get (by rw [List.length_reverse, List.length_map, List.length_map]; omega) fun i v dd h1 h2 => ?_
          obtain ⟨k, h3, h4⟩ := hzs i v h1
          rw [← List.map_reverse, ← List.map_reverse, List.map_map, List.getElem?_map, h3] at h2
          cases h2
          exact h4
        have t5'' := u2 _ _ t5'
        have kw : Kp [lw] H17 (upd H17 lw (.lst (ws ++ zs))) := .at
        refine ⟨lw, Da, ws, zs, rfl, rfl, t5'', hzD, by rw [sizeLine_eq]; omega, ?_⟩
        refine ⟨some (.ref ya), ws ++ zs, rfl, same_put (t1'.trans u2) n1w, ?_, (t3'.same u2).put t5'', kw.tup (.lst t5'') (same_tup u2 v1'), (v2'.same u2).put t5'', ?_, (v4'.same u2).put t5'', upd_same, by rw [List.length_append]; omega, ?_⟩
        · rw [upd_ne (Ne.symm nlc)]; exact u2 _ _ t2'
        · rw [upd_ne nfw]; exact u2 _ _ v3'
        · refine TdA.put t5'' ?_
          have e1 : (r.blks.reverse.take (i + 1)) = r.blks.reverse.take i ++ [b] := by rw [List.take_succ, hb] <;> rfl
          rw [e1, List.map_append, List.flatten_append, ← List.append_assoc]
          refine (t7'.same u2).append ?_
          simpa using hz
    · rintro σ H14 ⟨x6, ws, rfl, t1, t2, t3, v1, v2, v3, v4, t5, t6, t7⟩
      rw [List.length_reverse, hxl, List.take_of_length_le (by rw [List.length_reverse]; exact Nat.le_refl _)] at t7
      have e1 : (r.blks.reverse.map fun b => ((b.map fun k => (k, ar ++ [D.length + 1])).map itR).reverse).flatten = ((r.kids.map fun k => (k, ar ++ [D.length + 1])).map itR).reverse := by
        have := pile_rev (fun k => itR (k, ar ++ [D.length + 1])) r.blks
        rw [r.blks_kids] at this
        simp only [List.map_map]
        exact this
      rw [e1, ← List.reverse_append, ← List.map_append] at t7
      have hct := cntS_turn r ar (ar ++ [D.length + 1]) S
      have hct' : r.cnt + cntS S = 1 + cntS (r.kids.map (fun k => (k, ar ++ [D.length + 1])) ++ S) := hct
      refine ⟨some (.ref ra), some (.ref da), some (.int ((fs.length : Int) + 1)), x6, (r.kids.map fun k => (k, ar ++ [D.length + 1])) ++ S, D ++ [(D.length + 1, r, ar)], ws, fs2, ?_, rfl, t1, t5, t7, v3, v4, ?_, ?_, ?_⟩
      · omega
      · rw [List.length_append, List.length_singleton]
        omega
      · rw [hfl, flatS_turn, List.length_append, List.length_singleton, List.append_assoc] <;> rfl
      · intro t ht'
        rcases List.mem_append.mp ht' with h1 | h1
        · obtain ⟨k, hk, rfl⟩ := List.mem_map.mp h1
          have h3 := dps_mem.mp (Nat.le_refl (dps r.kids)) k hk
          show (ar ++ [D.length + 1]).length + k.dp ≤ 5
          rw [List.length_append, List.length_singleton]
          omega
        · exact hS' t h1
end
end Tw
set_option Elab.async false
set_option linter.all false
set_option maxRecDepth 100000
set_option maxHeartbeats 4000000
namespace Tw
open PySem PySem.Spec PyProof.Rows L2
/-! ### keys of dicts, all texts -/
def addE (ks : List Str) (x : Str) : List Str := if x ∈ ks then ks else ks ++ [x]
def KeysAre (kvs : List (L2.Key × V)) (ks : List Str) : Prop := kvs.map (·.1) = ks.map Sum.inr
theorem KeysAre.nil : KeysAre [] [] := rfl
theorem KeysAre.len {kvs : List (L2.Key × V)} {ks : List Str} (h : KeysAre kvs ks) : kvs.length = ks.length := by
  have := congrArg List.length h
  rw [List.length_map, List.length_map] at this
  exact this
theorem KeysAre.put {kvs : List (L2.Key × V)} {ks : List Str} (h : KeysAre kvs ks) (x : Str) (v : V) : KeysAre (putK kvs (Sum.inr x) v) (addE ks x) := by
  have hany : (kvs.any fun kv => decide (kv.1 = (Sum.inr x : L2.Key))) = decide (x ∈ ks) := by
    have h1 : (kvs.any fun kv => decide (kv.1 = (Sum.inr x : L2.Key))) = ((kvs.map (·.1)).any fun k => decide (k = (Sum.inr x : L2.Key))) := by rw [List.any_map]; rfl
    rw [h1, h, List.any_map]
    have : ∀ l : List Str, (l.any ((fun k => decide (k = (Sum.inr x : L2.Key))) ∘ Sum.inr)) = decide (x ∈ l) := by
      intro l
      induction l with
      | nil => rfl
      | cons y l ih =>
        rw [List.any_cons, ih]
        show (decide ((Sum.inr y : L2.Key) = Sum.inr x) || decide (x ∈ l)) = decide (x ∈ y :: l)
        by_cases e : y = x
        · subst e; simp
        · have e2 : ¬ x = y := fun z => e z.symm
          simp [e, e2]
    exact this ks
  unfold putK addE KeysAre
  rw [hany]
  by_cases hx : x ∈ ks
  · rw [decide_eq_true hx, if_pos rfl, if_pos hx, List.map_map]
    rw [← h]
    apply List.map_congr_left
    intro kv _
    show (if kv.1 = (Sum.inr x : L2.Key) then (kv.1, v) else kv).1 = kv.1
    split <;> rfl
  · rw [decide_eq_false hx, if_neg Bool.false_ne_true, if_neg hx, List.map_append, List.map_append, h] <;> rfl
def addsE (ks xs : List Str) : List Str := xs.foldl addE ks
theorem KeysAre.merge {α : Type} (key : α → Str) (val : α → V) : ∀ {xs : List α} {kvs : List (L2.Key × V)} {ks : List Str}, KeysAre kvs ks → KeysAre (mergeK kvs (xs.map fun n => ((Sum.inr (key n) : L2.Key), val n))) (addsE ks (xs.map key))
  | [], _, _, h => h
  | x :: xs, kvs, ks, h => KeysAre.merge (xs := xs) key val (h.put (key x) (val x))
theorem addE_mem {ks : List Str} {x y : Str} : y ∈ addE ks x ↔ y ∈ ks ∨ y = x := by
  unfold addE
  split
  · rename_i h
    exact ⟨.inl, fun z => z.elim id fun e => e ▸ h⟩
  · simp
theorem addE_nodup {ks : List Str} {x : Str} (h : ks.Nodup) : (addE ks x).Nodup := by
  unfold addE
  split
  · exact h
  · rename_i hx
    rw [List.nodup_append]
    exact ⟨h, by simp, fun a ha b hb => by rw [List.mem_singleton.mp hb]; exact fun e => hx (e ▸ ha)⟩
theorem addsE_mem : ∀ {xs ks : List Str} {y : Str}, y ∈ addsE ks xs ↔ y ∈ ks ∨ y ∈ xs
  | [], ks, y => by simp [addsE]
  | x :: xs, ks, y => by
    show y ∈ addsE (addE ks x) xs ↔ _
    rw [addsE_mem, addE_mem, List.mem_cons, or_assoc]
theorem addsE_nodup : ∀ {xs ks : List Str}, ks.Nodup → (addsE ks xs).Nodup
  | [], _, h => h
  | x :: xs, ks, h => addsE_nodup (xs := xs) (addE_nodup h)
/-- pairs in a row, by their addresses -/
theorem paired_of {K : PySem.W.Frag} {H : Hp} {α : Type} (key : α → L2.Key) (val : α → V) : ∀ {ns : List α} {zs : List V}, zs.length = ns.length → (∀ (i : Nat) z, zs[i]? = some z → ∃ p n, z = .ref p ∧ ns[i]? = some n ∧ SqT K H p [kV (key n), val n]) →
    ∃ ps : List Addr, zs = ps.map V.ref ∧ Paired (fun p kv => SqT K H p [kV kv.1, kv.2]) ps (ns.map fun n => (key n, val n))
  | [], [], _, _ => ⟨[], rfl, .nil⟩
  | n :: ns, z :: zs, hl, h => by
    obtain ⟨p, n', e1, e2, e3⟩ := h 0 z rfl
    have e2' : n = n' := by simpa using e2
    subst e2'
    subst e1
    obtain ⟨ps, e4, hp⟩ := paired_of key val (ns := ns) (zs := zs) (by simpa using hl) fun i z hz => by
      obtain ⟨p, n, a, b, c⟩ := h (i + 1) z (by simpa using hz)
      exact ⟨p, n, a, by simpa using b, c⟩
    exact ⟨p :: ps, by rw [e4]; rfl, .cons e3 hp⟩
  | [], _ :: _, hl, _ => by simp at hl
  | _ :: _, [], hl, _ => by simp at hl
/-! ### names of programs -/
def Row.evars (r : Row) : List Str := match r.expr with | some e => e.vars | none => []
def Row.vars (r : Row) : List Str := r.told.toList ++ r.evars
def varsOf (l : List (Nat × Row × List Nat)) : List Str := l.flatMap fun t => t.2.1.vars
def Pg.vars (p : Pg) : List Str := varsOf p.flat
def Few (l : List Str) : Prop := ∃ m : List Str, m.length < 64 ∧ ∀ x ∈ l, x ∈ m
theorem Few.len {l ks : List Str} (h : Few l) (hn : ks.Nodup) (hs : ∀ x ∈ ks, x ∈ l) : ks.length < 64 := by
  obtain ⟨m, h1, h2⟩ := h
  exact Nat.lt_of_le_of_lt (nodup_len_le hn fun x hx => h2 x (hs x hx)) h1
mutual
theorem Row.flat_ok {hm : Str → Str} (n : Nat) (ar : List Nat) : ∀ r : Row, r.ok hm → ∀ t ∈ r.flat n ar, t.2.1.ok hm
  | .iff e a b, h, t, ht => by
    rw [Row.flat] at ht
    rcases List.mem_cons.mp ht with e1 | ht
    · rw [e1]; exact h
    · rw [Row.ok] at h
      rcases List.mem_append.mp ht with ht | ht
      · exact flats_ok _ _ a h.2.1 t ht
      · exact flats_ok _ _ b h.2.2 t ht
  | .whl e a, h, t, ht => by
    rw [Row.flat] at ht
    rcases List.mem_cons.mp ht with e1 | ht
    · rw [e1]; exact h
    · rw [Row.ok] at h
      exact flats_ok _ _ a h.2 t ht
  | .lt op x e, h, t, ht => by rw [Row.flat] at ht; rw [List.mem_singleton.mp ht]; exact h
  | .ask x h0 k, h, t, ht => by rw [Row.flat] at ht; rw [List.mem_singleton.mp ht]; exact h
  | .say h0 e, h, t, ht => by rw [Row.flat] at ht; rw [List.mem_singleton.mp ht]; exact h
theorem flats_ok {hm : Str → Str} (n : Nat) (ar : List Nat) : ∀ rs : List Row, oks hm rs → ∀ t ∈ flats n ar rs, t.2.1.ok hm
  | [], _, t, ht => by simp [flats] at ht
  | r :: rs, h, t, ht => by
    rw [flats] at ht
    rw [oks] at h
    rcases List.mem_append.mp ht with ht | ht
    · exact Row.flat_ok n ar r h.1 t ht
    · exact flats_ok _ ar rs h.2 t ht
end
theorem Pg.ok.flat {hm : Str → Str} {p : Pg} (h : p.ok hm) : ∀ t ∈ p.flat, t.2.1.ok hm := flats_ok 1 [] p.rs h.rk
theorem Pg.ok.flen {hm : Str → Str} {p : Pg} (h : p.ok hm) : p.flat.length ≤ 60 := by
  have := flats_len 1 [] p.rs
  have := h.cn
  unfold Pg.flat
  omega
theorem Row.ok.expr {hm : Str → Str} {r : Row} (h : r.ok hm) {e : E} (he : r.expr = some e) : e.ok := by
  cases r with
  | lt op x e' => cases he; exact h.2
  | ask x h0 k => cases he
  | say h0 e' => cases he; exact h.2
  | iff e' a b => cases he; exact h.1
  | whl e' a => cases he; exact h.1
end Tw
set_option Elab.async false
set_option linter.all false
set_option maxRecDepth 100000
set_option maxHeartbeats 4000000
namespace Tw
open PySem PySem.Spec PyProof.Rows L2
section
variable {P : Program} {w : World} {K : PySem.W.Frag} {mg : Str → Option Value} {base : Heap}
def sp_row_at (K : PySem.W.Frag) : Sp := fun vs H Q _ => ∃ (v : V) (p : Pg) (hm : Str → Str) (k : Nat) (t : Nat × Row × List Nat), vs = [v, .int ((k + 1 : Nat) : Int)] ∧ PgT K H v p ∧ p.ok hm ∧ p.flat[k]? = some t ∧ ∀ H' u, Same H H' → Td K H' u t.2.1.d → Q u H'
theorem ok_row_at (T : Txt K mg) : Cal P w K mg base "row_at" 16 ["program", "number"] (sp_row_at K) := by
  have C_rows_in := ok_rows_in (P := P) (w := w) (base := base) T
  have C_is_among := ok_is_among (P := P) (w := w) (base := base) T
  refine Cal.of T.d_row_at b_row_at sc_row_at (fun vs H Q E h => ?_) (fun cdv A outer s H vs Q E hr h => ?_)
  · obtain ⟨_, _, _, _, _, rfl, _⟩ := h; rfl
  obtain ⟨v, pg, hm, k, t, rfl, ht, hok, hk, q⟩ := h
  refine ⟨_, (pss_cons (ps_set (i := 2) sc_row_at.nd rfl (Or.inl rfl) (pe_callC C_rows_in (hr.mono (by decide)) rfl (pa_cons (pv 0) pa_nil)))
  (pss_cons (ps_if (pt_not (pt_val (pe_callC C_is_among (hr.mono (by decide)) rfl (pa_cons (pv 1) (pa_cons pe_int (pa_cons (pe_callB call_len_seq (by rfl) T.len bb_len (pa_cons (pv 2) pa_nil)) pa_nil)))))) pss_never pss_nil)
  (pss_one (ps_ret (pe_ix ix_tup (pe_ix ix_list (pv 2) (pe_op op_sub (pv 1) pe_int) (fun _ _ => rfl)) pe_int (fun _ _ => rfl)))))), ?_⟩
  refine ⟨_, rfl, v, pg, hm, rfl, ht, hok, fun H1 l fs s1 nl hl hfs => ?_⟩
  have hfl := hfs.length
  rw [List.length_map] at hfl
  have hkl := (List.getElem?_eq_some_iff.mp hk).1
  refine ⟨_, rfl, _, rfl, l, fs, rfl, .inl (.of hl), _, _, _, rfl, ?_⟩
  rw [decide_eq_true (by omega)]
  refine ⟨_, rfl, ?_⟩
  refine iteF ?_
  obtain ⟨x, hx⟩ : ∃ x, fs[k]? = some x := ⟨_, List.getElem?_eq_getElem (by omega)⟩
  obtain ⟨d, hd, hxd⟩ := hfs.get hx
  rw [List.getElem?_map, hk] at hd
  cases hd
  obtain ⟨a, y1, y2, y3, rfl, ha, h1, h2, h3⟩ := Td.t3 hxd
  have e : ((k + 1 : Nat) : Int) - 1 = ((k : Nat) : Int) := by omega
  refine ⟨_, rfl, _, rfl, _, _, rfl, rfl, _, _, _, _, rfl, rfl, .of hl, (by rw [e]; exact atI_nat hx), _, _, _, _, rfl, rfl, ha, rfl, ?_⟩
  exact q H1 y2 s1 h2
def sp_names_of (K : PySem.W.Frag) : Sp := fun vs H Q _ => ∃ (v : V) (p : Pg) (hm : Str → Str), vs = [v] ∧ PgT K H v p ∧ p.ok hm ∧ Few p.vars ∧ ∀ H' l ys, Same H H' → H l = none → H' l = some (.lst (ys.map V.str)) → NamesOf p.vars ys → Q (.ref l) H'
theorem ok_names_of (T : Txt K mg) : Cal P w K mg base "names_of" 16 ["program"] (sp_names_of K) := by
  have C_rows_in := ok_rows_in (P := P) (w := w) (base := base) T
  have C_told_by := ok_told_by (P := P) (w := w) (base := base) T
  have C_expr_of := ok_expr_of (P := P) (w := w) (base := base) T
  have C_names_in := ok_names_in (P := P) (w := w) (base := base) T 8
  refine Cal.of T.d_names_of b_names_of sc_names_of (fun vs H Q E h => ?_) (fun cdv A outer s H vs Q E hr h => ?_)
  · obtain ⟨_, _, _, rfl, _⟩ := h; rfl
  obtain ⟨v, pg, hm, rfl, ht, hok, hfew, q⟩ := h
  have hu := hu_of hr
  refine ⟨_, (pss_cons (ps_set (i := 1) sc_names_of.nd rfl (Or.inl rfl) pe_dnewK)
  (pss_cons (ps_for PassesOwn.never rfl (pi_list (pe_callC C_rows_in (hr.mono (by decide)) rfl (pa_cons (pv 0) pa_nil))) (pg_tup (by rfl) (pgs_cons (pg_name (i := 2) sc_names_of.nd rfl (Or.inl rfl)) (pgs_cons (pg_name (i := 3) sc_names_of.nd rfl (Or.inl rfl)) (pgs_cons (pg_name (i := 4) sc_names_of.nd rfl (Or.inl rfl)) pgs_nil))))
   (pss_cons (ps_if (pt_cmpR op_notN (pe_callC C_told_by (hr.mono (by decide)) rfl (pa_cons (pv 3) pa_nil)) pe_non (nomark _)) (pss_one (ps_dput hu (pv 1) (pe_callC C_told_by (hr.mono (by decide)) rfl (pa_cons (pv 3) pa_nil)) pe_bl rfl)) pss_nil)
  (pss_cons (ps_set (i := 5) sc_names_of.nd rfl (Or.inl rfl) (pe_callC C_expr_of (hr.mono (by decide)) rfl (pa_cons (pv 3) pa_nil)))
  (pss_one (ps_if (pt_cmpR op_notN (pv 5) pe_non (nomark _)) (pss_one (ps_expr (pe_bm PySem.F.plainAttrs_dict PySem.F.slot_dict_update PySem.F.type_dict_update mt_dupdate (pv 1) (pa_cons (pe_callTy (call_dictP rfl) (by rfl) T.dict bb_dict (pa_cons (pe_lc (own := [("name", 6)]) (by rfl) sc_names_of.nd (pi_list (pe_callC C_names_in (hr.mono (by decide)) rfl (pa_cons (pv 5) pa_nil))) (blkOk_by (own := [("name", 6)]) (N := N_names_of) (sc := defScope s_names_of) (by decide +kernel)) (fun _ _ _ _ _ => (pg_name (i := 6) sc_names_of.nd rfl (Or.inl rfl))) (fun _ _ _ _ _ => pts_nil) (fun _ _ _ _ _ => (pe_tup (pa_cons (pv 6) (pa_cons pe_bl pa_nil))))) pa_nil)) pa_nil)))) pss_nil)))))
  (pss_one (ps_ret (pe_callB (call_sortedD rfl) (by rfl) T.sorted bb_sorted (pa_cons (pv 1) pa_nil)))))), ?_⟩
  intro ld nld
  have s0 := same_new nld (o := .dK [])
  refine ⟨_, rfl, v, pg, hm, rfl, ht.same s0, hok, fun H1 l fs s1 nl hl hfs => ?_⟩
  have hd1 := s1 _ _ (show upd H ld (.dK []) ld = some (.dK []) from upd_same)
  have s01 := s0.trans s1
  have hfl := hfs.length
  rw [List.length_map] at hfl
  have h60 := hok.flen
  refine ⟨l, rfl, ⟨_, .of hl⟩, for_it (walk_list (xs := fs)) (fun i σ H' => ∃ (x2 x3 x4 x5 : Option V) (kvs : List (L2.Key × V)) (ks : List Str), σ = [some v, some (.ref ld), x2, x3, x4, x5, none] ∧ Same H H' ∧ H' l = some (.lst fs) ∧ TdA K H' fs (pg.flat.map itemD) ∧ H' ld = some (.dK kvs) ∧
    KeysAre kvs ks ∧ ks.Nodup ∧ (∀ x, x ∈ ks ↔ x ∈ varsOf (pg.flat.take i))) ⟨none, none, none, none, [], [], rfl, s01, hl, hfs, hd1, rfl, List.nodup_nil, fun x => by rw [List.take_zero]; exact Iff.rfl⟩ ?_ ?_ ?_⟩
  · rintro i σ H' _ ⟨_, _, _, _, _, _, _, _, h, _⟩
    exact .of h
  · rintro i x σ H2 H3 hi ⟨x2, x3, x4, x5, kvs, ks, rfl, s2, h2, hf2, hd2, hk, hnd, hmem⟩ ⟨rfl, hx⟩
    obtain ⟨d, hd, hxd⟩ := hf2.get hx
    rw [List.getElem?_map] at hd
    obtain ⟨t, htt, rfl⟩ := Option.map_eq_some_iff.mp hd
    have hro := hok.flat t (List.mem_of_getElem? htt)
    obtain ⟨n, r, ar⟩ := t
    obtain ⟨qa, vn, vr, va, rfl, hq, g1, g2, g3⟩ := Td.t3 hxd
    have htake : varsOf (pg.flat.take (i + 1)) = varsOf (pg.flat.take i) ++ r.vars := by
      rw [List.take_succ, htt]
      unfold varsOf
      rw [List.flatMap_append]
      simp
    have hsubAll : ∀ x, x ∈ varsOf (pg.flat.take i) ++ r.vars → x ∈ pg.vars := by
      intro x hx
      rw [← htake] at hx
      unfold varsOf at hx
      obtain ⟨t, h1, h2⟩ := List.mem_flatMap.mp hx
      exact List.mem_flatMap.mpr ⟨t, List.mem_of_mem_take h1, h2⟩
    refine ⟨qa, _, rfl, hq, rfl, _, _, rfl, _, _, rfl, _, _, rfl, rfl, ?_⟩
    refine ⟨_, rfl, vr, r, rfl, g2, fun H4 s4 => ?_⟩
    refine ⟨rfl, _, rfl, ?_⟩
    -- behind the told name
    have key : ∀ (Z : Hp → Prop), (∀ H5 kvs', Same H H5 → H5 l = some (.lst fs) → TdA K H5 fs (pg.flat.map itemD) → Td K H5 vr r.d → H5 ld = some (.dK kvs') → KeysAre kvs' (addsE ks r.told.toList) → Z H5) →
        if (!decide (optS r.told = V.non)) = true then sDPut (tVar 1) (tCall (sp_told_by K) [] E0 (tCons (tVar 3) tNil)) (tC (.bl true)) { nx := fun _ H => Z H, rt := Q } [some v, some (.ref ld), some vn, some vr, some va, x5, none] H4 else Z H4 := by
      intro Z hZ
      have s24 := s2.trans s4
      cases htold : r.told with
      | none =>
        refine iteF' (by rfl) ?_
        refine hZ H4 kvs s24 (s4 _ _ h2) (hf2.same s4) (g2.same s4) (s4 _ _ hd2) ?_
        rw [htold]
        exact hk
      | some x =>
        refine iteT' (by rfl) ?_
        refine ⟨_, rfl, _, rfl, vr, r, rfl, g2.same s4, fun H5 s5 => ?_⟩
        have s45 := s4.trans s5
        have hd5 := s45 _ _ hd2
        have hkl := hk.len
        have hks : ks.length < 64 := hfew.len hnd fun x hx => hsubAll x (List.mem_append_left _ ((hmem x).mp hx))
        rw [htold]
        refine ⟨ld, _, rfl, DPut.k (k := Sum.inr x) hd5 (by rw [sizeLine_eq]; omega), ?_⟩
        have k6 : Kp [ld] H5 (upd H5 ld (.dK (putK kvs (Sum.inr x) (.bl true)))) := .at
        have f6 : TF H5 [ld] := TF.one hd5 (fun _ e => by cases e) (fun _ _ e => by cases e) .nil
        refine hZ _ _ (same_put (s2.trans s45) nld) ?_ (TdA.kp k6 f6 _ (hf2.same s45)) (Td.kp k6 f6 _ (g2.same s45)) upd_same ?_
        · rw [upd_ne (fun z => by have := s45 _ _ h2; rw [z, hd5] at this; cases this)]
          exact s45 _ _ h2
        · rw [htold]
          exact hk.put x (.bl true)
    refine key _ fun H5 kvs' s5 h5 hf5 hr5 hd5 hk5 => ?_
    have hnd5 : (addsE ks r.told.toList).Nodup := addsE_nodup hnd
    have hmem5 : ∀ x, x ∈ addsE ks r.told.toList ↔ x ∈ varsOf (pg.flat.take i) ++ r.told.toList := fun x => by rw [addsE_mem, hmem, List.mem_append]
    generalize addsE ks r.told.toList = ks5 at hk5 hnd5 hmem5
    clear key hk hnd hmem hd2 hf2 h2 s2 g2 s4 hq g1 g3 hxd
    refine ⟨_, rfl, vr, r, rfl, hr5, fun H6 u s6 hu6 => ?_⟩
    refine ⟨_, rfl, rfl, _, rfl, ?_⟩
    have s56 := s5.trans s6
    have h6 := s6 _ _ h5
    have hf6 := hf5.same s6
    have hd6 := s6 _ _ hd5
    cases hex : r.expr with
    | none =>
      rw [hex] at hu6
      cases hu6
      refine iteF' (by rfl) ?_
      refine ⟨some vn, some vr, some va, some .non, kvs', ks5, rfl, s56, h6, hf6, hd6, hk5, hnd5, fun x => ?_⟩
      rw [htake, hmem5]
      unfold Row.vars Row.evars
      rw [hex, List.append_nil]
    | some e =>
      rw [hex] at hu6
      have heok := hro.expr hex
      have hun : u ≠ V.non := by
        intro z
        have hu6 : Td K H6 u e.d := hu6
        rw [z] at hu6
        cases e with
        | num n => obtain ⟨_, e, _⟩ := td_num hu6; cases e
        | nam n => obtain ⟨_, e, _⟩ := td_nam hu6; cases e
        | bin o a b => obtain ⟨_, _, _, e, _⟩ := td_bin hu6; cases e
      refine iteT' (by rw [decide_eq_false hun]; rfl) ?_
      refine ⟨_, rfl, Or.inr (Or.inr (Or.inl ⟨rfl, Or.inl ⟨_, hd6⟩⟩)), ?_⟩
      refine ⟨_, rfl, u, e, rfl, hu6, heok.2.2, heok.2.1, fun H7 pn ys s7 npn hpn hys => ?_⟩
      refine ⟨pn, rfl, ⟨_, .of hpn⟩, fun D nD => ?_⟩
      have hyl := hys.len
      have hvl := e.vars_len
      have hpt := heok.2.2
      refine lc_pu (walk_list (xs := ys.map V.str)) (by rw [List.length_map]; omega) nD (fun H' s' => .of (s' _ _ hpn)) (fun i y H' => ∃ p n, y = .ref p ∧ ys[i]? = some n ∧ SqT K H' p [.str n, .bl true])
        (fun i y H' H'' ⟨l, hl⟩ k ⟨p, n, e1, e2, e3⟩ => ⟨p, n, e1, e2, k.tup (.lst hl) e3⟩) ?_ ?_
      · rintro j y H8 H9 Qc hj s8 _ ⟨rfl, hy⟩ hq
        rw [List.getElem?_map] at hy
        obtain ⟨nm, hnm, rfl⟩ := Option.map_eq_some_iff.mp hy
        refine ⟨rfl, _, rfl, (by show 2 ≤ sizeLine; decide), fun p hp => ?_⟩
        exact hq _ _ (same_new hp) ⟨p, nm, rfl, hnm, .of upd_same⟩
      · intro zs H8 s8 hzD hzl hzs
        rw [List.length_map] at hzl
        obtain ⟨ps, rfl, hps⟩ := paired_of (K := K) (H := H8) (fun n : Str => (Sum.inr n : L2.Key)) (fun _ => V.bl true) hzl hzs
        refine ⟨D, ps, _, rfl, .of hzD, hps, fun p9 n9 => ?_⟩
        have s68 := s7.trans s8
        have hd8 := s68 _ _ hd6
        have n98 : ld ≠ p9 := fun z => by rw [z, n9] at hd8; cases hd8
        have hkl5 := hk5.len
        have hks5 : ks5.length < 64 := hfew.len hnd5 fun x hx => hsubAll x (by
          have := (hmem5 x).mp hx
          rcases List.mem_append.mp this with h1 | h1
          · exact List.mem_append_left _ h1
          · exact List.mem_append_right _ (List.mem_append_left _ h1))
        have hmm := length_mergeK (ys.map fun n => ((Sum.inr n : L2.Key), V.bl true)) []
        rw [List.length_map, List.length_nil] at hmm
        refine ⟨ld, p9, kvs', _, rfl, rfl, n98, by rw [upd_ne n98]; exact hd8, upd_same, by rw [sizeLine_eq]; omega, ?_⟩
        have s9 := same_new n9 (o := .dK (mergeK [] (ys.map fun n => ((Sum.inr n : L2.Key), V.bl true))))
        have s69 := s68.trans s9
        have hd9 := s69 _ _ hd6
        have hkm : KeysAre (mergeK [] (ys.map fun n => ((Sum.inr n : L2.Key), V.bl true))) (addsE [] (ys.map id)) := KeysAre.nil.merge id (fun _ => V.bl true)
        rw [List.map_id] at hkm
        -- the keys of the merged dict
        have hke : ∀ (more : List (L2.Key × V)) (ms : List Str), KeysAre more ms → KeysAre (mergeK kvs' more) (addsE ks5 ms) := by
          intro more ms hmore
          have e1 : more = more.map fun kv => (kv.1, kv.2) := by simp
          obtain ⟨vs, hvs⟩ : ∃ vs : List (Str × V), more = vs.map (fun n => ((Sum.inr n.1 : L2.Key), n.2)) ∧ vs.map (·.1) = ms := by
            clear e1
            induction more generalizing ms with
            | nil =>
              cases ms with
              | nil => exact ⟨[], rfl, rfl⟩
              | cons => cases hmore
            | cons kv more ih =>
              cases ms with
              | nil => cases hmore
              | cons m ms =>
                have h1 : kv.1 = Sum.inr m ∧ more.map (·.1) = ms.map Sum.inr := by
                  have : kv.1 :: more.map (·.1) = Sum.inr m :: ms.map Sum.inr := hmore
                  injection this with a b
                  exact ⟨a, b⟩
                obtain ⟨vs, e1, e2⟩ := ih ms h1.2
                exact ⟨(m, kv.2) :: vs, by rw [e1, List.map_cons, ← h1.1], by rw [List.map_cons, e2]⟩
          rw [hvs.1, ← hvs.2]
          exact hk5.merge (fun (n : Str × V) => n.1) (fun n => n.2)
        have hfin := hke _ _ hkm
        have k10 : Kp [ld] (upd H8 p9 (.dK (mergeK [] (ys.map fun n => ((Sum.inr n : L2.Key), V.bl true))))) (upd (upd H8 p9 (.dK (mergeK [] (ys.map fun n => ((Sum.inr n : L2.Key), V.bl true))))) ld (.dK (mergeK kvs' (mergeK [] (ys.map fun n => ((Sum.inr n : L2.Key), V.bl true)))))) := .at
        have f10 : TF (upd H8 p9 (.dK (mergeK [] (ys.map fun n => ((Sum.inr n : L2.Key), V.bl true))))) [ld] := TF.one hd9 (fun _ e => by cases e) (fun _ _ e => by cases e) .nil
        refine ⟨some vn, some vr, some va, some u, _, addsE ks5 (addsE [] ys), rfl, same_put (s56.trans s69) nld, ?_, TdA.kp k10 f10 _ (hf6.same s69), upd_same, hfin, addsE_nodup hnd5, fun x => ?_⟩
        · rw [upd_ne (fun z => by have := s69 _ _ h6; rw [z, hd9] at this; cases this)]
          exact s69 _ _ h6
        · rw [htake, addsE_mem, addsE_mem, hmem5, hys.mem]
          unfold Row.vars Row.evars
          rw [hex]
          simp only [List.mem_append, List.not_mem_nil, false_or]
          rw [or_assoc]
  · rintro σ H2 ⟨x2, x3, x4, x5, kvs, ks, rfl, s2, h2, hf2, hd2, hk, hnd, hmem⟩
    rw [hfl, List.take_length] at hmem
    refine ⟨_, rfl, ld, kvs, ks, rfl, .inl hd2, hk, hfew.len hnd fun x hx => (hmem x).mp hx, fun ys p hperm hsort np => ?_⟩
    exact q _ p ys (same_new np |> s2.trans) (s2.free np) upd_same ⟨rising_of hsort (hperm.nodup_iff.mpr hnd), fun x => (hperm.mem_iff).trans (hmem x)⟩
end
end Tw
set_option Elab.async false
set_option linter.all false
set_option maxRecDepth 100000
set_option maxHeartbeats 4000000
namespace Tw
open PySem PySem.Spec PyProof.Rows L2 TL
/-! ### the words of a row: short, never empty, no blank, no end of line -/
/-- a word: one sign at least, ten at most, small letters, figures, = -/
def okC (c : Nat) : Bool := (97 ≤ c && c ≤ 122) || (48 ≤ c && c ≤ 57) || c == 61
structure Wd (x : Str) : Prop where
  ne : tl x ≠ []
  len : x.length ≤ 10
  cs : ∀ c ∈ tl x, okC c = true
theorem Wd.no32 {x : Str} (h : Wd x) : 32 ∉ tl x := fun z => by have := h.cs 32 z; revert this; decide
theorem Wd.no10 {x : Str} (h : Wd x) : 10 ∉ tl x := fun z => by have := h.cs 10 z; revert this; decide
theorem wd_lit {x : Str} (h : (!(tl x).isEmpty && decide (x.length ≤ 10) && (tl x).all okC) = true) : Wd x := by
  rw [Bool.and_eq_true, Bool.and_eq_true] at h
  obtain ⟨⟨h1, h2⟩, h3⟩ := h
  refine ⟨fun e => (by rw [e] at h1; cases h1), of_decide_eq_true h2, fun c hc => ?_⟩
  rw [List.all_eq_true] at h3
  exact h3 c hc
theorem wd_name {x : Str} (h : isName x = true) : Wd x := by
  have hl := name_len h
  unfold isName at h
  simp only [Bool.and_eq_true, decide_eq_true_eq] at h
  refine ⟨fun e => ?_, by omega, fun c hc => ?_⟩
  · have := h.1.1.1
    rw [len_tl, e] at this
    simp at this
  · have h2 := h.2
    rw [List.all_eq_true] at h2
    have h3 := of_decide_eq_true (h2 c hc)
    have key : ∀ c ∈ letters.cps.toList, okC c = true := by decide +kernel
    exact key c h3
theorem wd_num {n : Nat} (h : n ≤ 996) : Wd (numS n) := by
  obtain ⟨l1, l2⟩ := numS_len h
  refine ⟨fun e => by rw [len_tl, e] at l1; simp at l1, by omega, fun c hc => ?_⟩
  rw [tl_numS] at hc
  have := numL_digits n c hc
  have h2 : 48 ≤ c ∧ c ≤ 57 := by first | exact this | (constructor <;> omega)
  unfold okC
  simp [h2.1, h2.2]
theorem wd_op (o : Op) : Wd o.w := by cases o <;> exact wd_lit (by decide +kernel)
theorem wd_house {x : Str} (h : isHouse x = true) : Wd x := by
  rcases house_ok h with e | e <;> rw [e] <;> exact wd_lit (by decide +kernel)
theorem E.words_wd : ∀ e : E, e.wf = true → ∀ x ∈ e.words, Wd x
  | .num n, h, x, hx => by
    rw [E.words] at hx
    rw [List.mem_singleton.mp hx]
    exact wd_num (of_decide_eq_true h)
  | .nam y, h, x, hx => by
    rw [E.words] at hx
    rw [List.mem_singleton.mp hx]
    exact wd_name h
  | .bin o a b, h, x, hx => by
    obtain ⟨w1, w2⟩ := Bool.and_eq_true_iff.mp (show (a.wf && b.wf) = true from h)
    rw [E.words] at hx
    rcases List.mem_cons.mp hx with e | hx
    · rw [e]; exact wd_op o
    · rcases List.mem_append.mp hx with hx | hx
      · exact a.words_wd w1 x hx
      · exact b.words_wd w2 x hx
theorem E.words_ne (e : E) : e.words ≠ [] := by cases e <;> simp [E.words]
/-- the houses of a row are houses -/
def HsOk (hm : Str → Str) : Prop := ∀ x, isHouse (hm x) = true
theorem Row.words_wd {hm : Str → Str} (hh : HsOk hm) (r : Row) (h : r.ok hm) : ∀ x ∈ r.words, Wd x := by
  intro x hx
  cases r with
  | lt op y e =>
    rw [Row.words] at hx
    rcases List.mem_cons.mp hx with e1 | hx
    · rw [e1]; cases op <;> exact wd_lit (by decide +kernel)
    · rcases List.mem_cons.mp hx with e1 | hx
      · rw [e1]; exact wd_name h.1
      · rcases List.mem_cons.mp hx with e1 | hx
        · rw [e1]; exact wd_lit (by decide +kernel)
        · exact e.words_wd h.2.1 x hx
  | ask y h0 k =>
    rw [Row.words] at hx
    rcases List.mem_cons.mp hx with e1 | hx
    · rw [e1]; exact wd_lit (by decide +kernel)
    · rcases List.mem_cons.mp hx with e1 | hx
      · rw [e1]; exact wd_name h.1
      · rcases List.mem_cons.mp hx with e1 | hx
        · rw [e1, h.2]; exact wd_house (hh _)
        · cases k with
          | false => simp at hx
          | true => simp at hx; rw [hx]; exact wd_lit (by decide +kernel)
  | say h0 e =>
    rw [Row.words] at hx
    rcases List.mem_cons.mp hx with e1 | hx
    · rw [e1]; exact wd_lit (by decide +kernel)
    · rcases List.mem_cons.mp hx with e1 | hx
      · rw [e1]; exact wd_house h.1
      · exact e.words_wd h.2.1 x hx
  | iff e a b =>
    rw [Row.words] at hx
    rcases List.mem_cons.mp hx with e1 | hx
    · rw [e1]; exact wd_lit (by decide +kernel)
    · exact e.words_wd h.1.1 x hx
  | whl e a =>
    rw [Row.words] at hx
    rcases List.mem_cons.mp hx with e1 | hx
    · rw [e1]; exact wd_lit (by decide +kernel)
    · exact e.words_wd h.1.1 x hx
theorem Row.words_len {hm : Str → Str} (r : Row) (h : r.ok hm) : r.words.length ≤ 43 := by
  cases r with
  | lt op y e => have := e.words_len; have := h.2.2.2; simp only [Row.words, List.length_cons]; omega
  | ask y h0 k => cases k <;> simp [Row.words]
  | say h0 e => have := e.words_len; have := h.2.2.2; simp only [Row.words, List.length_cons]; omega
  | iff e a b => have := e.words_len; have := h.1.2.2; simp only [Row.words, List.length_cons]; omega
  | whl e a => have := e.words_len; have := h.1.2.2; simp only [Row.words, List.length_cons]; omega
theorem Row.words_ne (r : Row) : r.words ≠ [] := by cases r <;> simp [Row.words]
theorem sum_le {ws : List Str} {k : Nat} (h : ∀ x ∈ ws, x.length ≤ k) : (ws.map (·.length)).sum ≤ k * ws.length := by
  induction ws with
  | nil => simp
  | cons x ws ih =>
    have h1 := h x List.mem_cons_self
    have h2 := ih fun y hy => h y (List.mem_cons_of_mem _ hy)
    rw [List.map_cons, List.sum_cons, List.length_cons, Nat.mul_succ]
    omega
theorem joinL_len (S : List Nat) : ∀ ps : List (List Nat), (joinL S ps).length ≤ (ps.map (·.length)).sum + ps.length * S.length
  | [] => by simp [joinL]
  | [p] => by simp [joinL]
  | p :: q :: ps => by
    have ih := joinL_len S (q :: ps)
    have e : joinL S (p :: q :: ps) = p ++ S ++ joinL S (q :: ps) := by first | rfl | simp [joinL]
    rw [e, List.length_append, List.length_append, List.map_cons, List.sum_cons, List.length_cons (a := p), Nat.succ_mul]
    omega
theorem join_len (y : Str) (ps : List Str) : (Str.join y ps).length ≤ (ps.map (·.length)).sum + ps.length * y.length := by
  rw [len_tl, tl_join]
  have h := joinL_len (tl y) (ps.map tl)
  rw [List.map_map, List.length_map] at h
  have e : (ps.map (List.length ∘ tl)).sum = (ps.map (·.length)).sum := by
    rw [show List.length ∘ tl = fun x : Str => x.length from funext fun x => (len_tl x).symm]
  rw [e, ← len_tl] at h
  exact h
theorem sp_len : sp.length = 1 := by decide +kernel
theorem nl_len : nl.length = 1 := by decide +kernel
theorem tl_sp : tl sp = [32] := by decide +kernel
theorem tl_nl : tl nl = [10] := by decide +kernel
theorem tl_ahead (d : Nat) : tl (ahead d) = List.replicate (2 * d) 32 := rfl
theorem ahead_len (d : Nat) : (ahead d).length = 2 * d := by rw [len_tl, tl_ahead, List.length_replicate]
theorem rep_ahead (d : Nat) : repS "  " d = ahead d := by
  have e : tl (repS "  " d) = tl (ahead d) := by
    show (List.replicate d (("  " : Str)).cps.toList).flatten = List.replicate (2 * d) 32
    rw [show (("  " : Str)).cps.toList = [32, 32] by decide +kernel]
    induction d with
    | zero => rfl
    | succ d ih => rw [List.replicate_succ, List.flatten_cons, ih, show 2 * (d + 1) = 2 * d + 1 + 1 by omega, List.replicate_succ, List.replicate_succ] <;> rfl
  exact ext_tl e
theorem Row.line_len {hm : Str → Str} (hh : HsOk hm) (d : Nat) (r : Row) (h : r.ok hm) : (Row.line d r).length ≤ 2 * d + 480 := by
  unfold Row.line
  rw [len_tl, tl_append, List.length_append, ← len_tl, ← len_tl, ahead_len]
  have h1 := join_len sp r.words
  have h2 := sum_le fun x hx => (r.words_wd hh h x hx).len
  have h3 := r.words_len h
  rw [sp_len] at h1
  omega
mutual
theorem Row.lines_len (d : Nat) : ∀ r : Row, (r.lines d).length ≤ 2 * r.cnt
  | .iff e a b => by
    have h1 := liness_len (d + 1) a
    cases b with
    | nil => rw [Row.lines, Row.cnt]; simp only [List.length_cons, List.length_append, List.length_nil]; omega
    | cons r rs =>
      have h2 := r.lines_len (d + 1)
      have h3 := liness_len (d + 1) rs
      rw [Row.lines, Row.cnt, cnts]
      simp only [List.length_cons, List.length_append]
      have := r.cnt_pos
      omega
  | .whl e a => by
    have h1 := liness_len (d + 1) a
    rw [Row.lines, Row.cnt, List.length_cons]; omega
  | .lt op x e => by rw [Row.lines]; simp [Row.cnt]
  | .ask x h k => by rw [Row.lines]; simp [Row.cnt]
  | .say h e => by rw [Row.lines]; simp [Row.cnt]
theorem liness_len (d : Nat) : ∀ rs : List Row, (liness d rs).length ≤ 2 * cnts rs
  | [] => by simp [liness]
  | r :: rs => by
    have h1 := r.lines_len d
    have h2 := liness_len d rs
    rw [liness, List.length_append, cnts]; omega
end
mutual
theorem Row.lines_short {hm : Str → Str} (hh : HsOk hm) (d : Nat) : ∀ r : Row, r.ok hm → d + r.dp ≤ 10 → ∀ x ∈ r.lines d, x.length ≤ 520
  | .iff e a b, h, hd, x, hx => by
    have hd' : d + (1 + max (dps a) (dps b)) ≤ 10 := hd
    obtain ⟨o1, o2, o3⟩ : e.ok ∧ oks hm a ∧ oks hm b := id h
    cases b with
    | nil =>
      rw [Row.lines] at hx
      rcases List.mem_cons.mp hx with e1 | hx
      · rw [e1]; have := Row.line_len hh d (.iff e a []) h; omega
      · rw [List.append_nil] at hx
        exact liness_short hh (d + 1) a o2 (by omega) x hx
    | cons r rs =>
      rw [Row.lines] at hx
      rcases List.mem_cons.mp hx with e1 | hx
      · rw [e1]; have := Row.line_len hh d (.iff e a (r :: rs)) h; omega
      · rcases List.mem_append.mp hx with hx | hx
        · exact liness_short hh (d + 1) a o2 (by omega) x hx
        · rcases List.mem_cons.mp hx with e1 | hx
          · rw [e1, len_tl, tl_append, List.length_append, ← len_tl, ← len_tl, ahead_len, show ("else" : Str).length = 4 by decide +kernel]
            omega
          · have hd2 : d + 1 + max r.dp (dps rs) ≤ 10 := by have : dps (r :: rs) = max r.dp (dps rs) := rfl; omega
            rcases List.mem_append.mp hx with hx | hx
            · exact Row.lines_short hh (d + 1) r o3.1 (by omega) x hx
            · exact liness_short hh (d + 1) rs o3.2 (by omega) x hx
  | .whl e a, h, hd, x, hx => by
    have hd' : d + (1 + dps a) ≤ 10 := hd
    rw [Row.lines] at hx
    rcases List.mem_cons.mp hx with e1 | hx
    · rw [e1]; have := Row.line_len hh d (.whl e a) h; omega
    · exact liness_short hh (d + 1) a h.2 (by omega) x hx
  | .lt op y e, h, hd, x, hx => by
    have hd' : d + 1 ≤ 10 := hd
    rw [Row.lines, List.mem_singleton] at hx; rw [hx]; have := Row.line_len hh d (.lt op y e) h; omega
  | .ask y h0 k, h, hd, x, hx => by
    have hd' : d + 1 ≤ 10 := hd
    rw [Row.lines, List.mem_singleton] at hx; rw [hx]; have := Row.line_len hh d (.ask y h0 k) h; omega
  | .say h0 e, h, hd, x, hx => by
    have hd' : d + 1 ≤ 10 := hd
    rw [Row.lines, List.mem_singleton] at hx; rw [hx]; have := Row.line_len hh d (.say h0 e) h; omega
theorem liness_short {hm : Str → Str} (hh : HsOk hm) (d : Nat) : ∀ rs : List Row, oks hm rs → d + dps rs ≤ 10 → ∀ x ∈ liness d rs, x.length ≤ 520
  | [], _, _, x, hx => by simp [liness] at hx
  | r :: rs, h, hd, x, hx => by
    have hd' : d + max r.dp (dps rs) ≤ 10 := hd
    rw [liness] at hx
    rcases List.mem_append.mp hx with hx | hx
    · exact Row.lines_short hh d r h.1 (by omega) x hx
    · exact liness_short hh d rs h.2 (by omega) x hx
end
theorem markL_len {hm : Str → Str} {p : Pg} (h : p.ok hm) : ∀ m ∈ p.ms, (markL m).length ≤ 50 := by
  intro m hm'
  obtain ⟨h1, h2⟩ := h.mks m hm'
  have e := join_len sp ["mark", m.1, m.2]
  have l1 := name_len h1
  have l2 := (wd_house (h.hs m.1)).len
  rw [← h2] at l2
  rw [sp_len] at e
  simp only [List.map_cons, List.map_nil, List.sum_cons, List.sum_nil, List.length_cons, List.length_nil] at e
  rw [show ("mark" : Str).length = 4 by decide +kernel] at e
  unfold markL
  omega
theorem Pg.lines_len {hm : Str → Str} {p : Pg} (h : p.ok hm) : p.lines.length ≤ 180 := by
  unfold Pg.lines
  rw [List.length_append, List.length_map]
  have h1 := liness_len 0 p.rs
  have h2 := h.cn
  have h3 := h.few
  omega
theorem Pg.lines_short {hm : Str → Str} {p : Pg} (h : p.ok hm) : ∀ x ∈ p.lines, x.length ≤ 520 := by
  intro x hx
  unfold Pg.lines at hx
  rcases List.mem_append.mp hx with hx | hx
  · obtain ⟨m, hm', rfl⟩ := List.mem_map.mp hx
    have := markL_len h m hm'
    omega
  · exact liness_short h.hs 0 p.rs h.rk (by have := h.dp; omega) x hx
theorem Pg.text_len {hm : Str → Str} {p : Pg} (h : p.ok hm) : p.text.length ≤ 100000 := by
  unfold Pg.text
  have h1 := join_len nl p.lines
  have h2 := sum_le (Pg.lines_short h)
  have h3 := Pg.lines_len h
  rw [nl_len] at h1
  omega
/-! ### join, in a comprehension too -/
def rJoin (K : PySem.W.Frag) : V → List V → Hp → VK → Prop := fun x xs H Q => ∃ a p, ∃ ys : List Str, x = .str a ∧ xs = [.ref p] ∧ (SqL K H p (ys.map V.str) ∨ SqT K H p (ys.map V.str)) ∧ (ys.map (·.length)).sum + ys.length * a.length ≤ 16777216 ∧ Q (.str (Txt.join a ys)) H
theorem pe_joinB {X : Cx} (K : PySem.W.Frag) {o e : Expr} {to te : TE} {apos pos : Pos} (ho : PE X o to) (he : PE X e te) (ek : X.K = K := by rfl) (hs : starEach [e] X.env = [(false, eval e X.env)] := by rfl) (hbase : attributeBase o "join" X.env (eval o X.env) = eval o X.env := by rfl) (hline : (apos.endLine == pos.line) = true := by rfl) :
    PE X (.Call (.Attribute o "join" apos) [e] [] pos) (tM1 (rJoin K) to te) := ek ▸ pe_join ho he hs hbase hline
end Tw
set_option Elab.async false
set_option linter.all false
set_option maxRecDepth 100000
set_option maxHeartbeats 4000000
namespace Tw
open PySem PySem.Spec PyProof.Rows L2 TL
theorem hd_two (r : Row) : inV (.str r.hd) [.str "if", .str "while"] = match r with | .iff _ _ _ => true | .whl _ _ => true | _ => false := by
  cases r with
  | lt op _ _ => exact (by intro op; cases op <;> decide +kernel : ∀ op, inV (.str (ltw op)) [.str "if", .str "while"] = false) op
  | ask _ _ _ => exact (by decide +kernel : inV (.str "ask") [.str "if", .str "while"] = false)
  | say _ _ => exact (by decide +kernel : inV (.str "say") [.str "if", .str "while"] = false)
  | iff _ _ _ => exact (by decide +kernel : inV (.str "if") [.str "if", .str "while"] = true)
  | whl _ _ => exact (by decide +kernel : inV (.str "while") [.str "if", .str "while"] = true)
theorem hd_if (r : Row) : decide (V.str r.hd = V.str "if") = match r with | .iff _ _ _ => true | _ => false := by
  cases r with
  | lt op _ _ => exact (by intro op; cases op <;> decide +kernel : ∀ op, decide (V.str (ltw op) = V.str "if") = false) op
  | ask _ _ _ => exact (by decide +kernel : decide (V.str "ask" = V.str "if") = false)
  | say _ _ => exact (by decide +kernel : decide (V.str "say" = V.str "if") = false)
  | iff _ _ _ => exact (by decide +kernel : decide (V.str "if" = V.str "if") = true)
  | whl _ _ => exact (by decide +kernel : decide (V.str "while" = V.str "if") = false)
section
variable {P : Program} {w : World} {K : PySem.W.Frag} {mg : Str → Option Value} {base : Heap}
def sp_row_words (K : PySem.W.Frag) : Sp := fun vs H Q _ => ∃ (v : V) (r : Row) (hm : Str → Str), vs = [v] ∧ Td K H v r.d ∧ r.ok hm ∧ ∀ H' p, Same H H' → H p = none → H' p = some (.lst (r.words.map V.str)) → Q (.ref p) H'
theorem ok_row_words (T : Txt K mg) : Cal P w K mg base "row_words" 10 ["row"] (sp_row_words K) := by
  have C_expr_words := ok_expr_words (P := P) (w := w) (base := base) T 8
  refine Cal.of T.d_row_words b_row_words sc_row_words (fun vs H Q E h => ?_) (fun cdv A outer s H vs Q E hr h => ?_)
  · obtain ⟨_, _, _, rfl, _⟩ := h; rfl
  obtain ⟨v, r, hm, rfl, ht, hok, q⟩ := h
  refine ⟨_, (pss_cons (ps_if (pt_cmpR op_in_seq (pe_ix ix_tup (pv 0) pe_int (fun _ _ => rfl)) (pe_tup (pa_cons pe_str (pa_cons pe_str pa_nil))) (by rfl)) (pss_one (ps_ret (pe_op op_cat (pe_lst (pa_cons (pe_ix ix_tup (pv 0) pe_int (fun _ _ => rfl)) (pa_cons (pe_ix ix_tup (pv 0) pe_int (fun _ _ => rfl)) (pa_cons pe_str pa_nil)))) (pe_callC C_expr_words (hr.mono (by decide)) rfl (pa_cons (pe_ix ix_tup (pv 0) pe_int (fun _ _ => rfl)) pa_nil))))) pss_nil)
  (pss_cons (ps_if (pt_cmpR op_eq (pe_ix ix_tup (pv 0) pe_int (fun _ _ => rfl)) pe_str (nomark _)) (pss_one (ps_ret (pe_op op_cat (pe_lst (pa_cons (pe_ix ix_tup (pv 0) pe_int (fun _ _ => rfl)) (pa_cons (pe_ix ix_tup (pv 0) pe_int (fun _ _ => rfl)) (pa_cons (pe_ix ix_tup (pv 0) pe_int (fun _ _ => rfl)) pa_nil)))) (pe_ifExp (pt_val (pe_ix ix_tup (pv 0) pe_int (fun _ _ => rfl))) (pe_lst (pa_cons pe_str pa_nil)) (pe_lst pa_nil))))) pss_nil)
  (pss_cons (ps_if (pt_cmpR op_eq (pe_ix ix_tup (pv 0) pe_int (fun _ _ => rfl)) pe_str (nomark _)) (pss_one (ps_ret (pe_op op_cat (pe_lst (pa_cons (pe_ix ix_tup (pv 0) pe_int (fun _ _ => rfl)) (pa_cons (pe_ix ix_tup (pv 0) pe_int (fun _ _ => rfl)) pa_nil))) (pe_callC C_expr_words (hr.mono (by decide)) rfl (pa_cons (pe_ix ix_tup (pv 0) pe_int (fun _ _ => rfl)) pa_nil))))) pss_nil)
  (pss_one (ps_ret (pe_op op_cat (pe_lst (pa_cons (pe_ix ix_tup (pv 0) pe_int (fun _ _ => rfl)) pa_nil)) (pe_callC C_expr_words (hr.mono (by decide)) rfl (pa_cons (pe_ix ix_tup (pv 0) pe_int (fun _ _ => rfl)) pa_nil)))))))), ?_⟩
  obtain ⟨a, xs, rfl, hs, hl⟩ := td_row ht
  refine ⟨_, rfl, _, _, _, _, rfl, rfl, hs, at0, (by show 2 ≤ sizeLine; decide), fun p hp => ?_⟩
  have s0 := same_new hp (o := .tup [V.str "let", V.str "open"])
  have ht0 := ht.same s0
  have q0 : ∀ H' p', Same (upd H p (.tup [V.str "let", V.str "open"])) H' → upd H p (.tup [V.str "let", V.str "open"]) p' = none → H' p' = some (.lst (r.words.map V.str)) → Q (.ref p') H' := fun H' p' s h => q H' p' (s0.trans s) (s0.free h)
  refine ⟨_, _, rfl, .inr (SqT.of upd_same), rfl, rfl, _, rfl, ?_⟩
  show if inV (V.str r.hd) [V.str "let", V.str "open"] = true then _ else _
  rw [hd_let2]
  generalize upd H p (.tup [V.str "let", V.str "open"]) = H1 at s0 ht0 q0 ⊢
  clear hs hl hp q
  -- a list of words ahead of an expression's
  have fin : ∀ (H2 : Hp) (l : Addr) (ws : List Str) (e : Tw.E) (x : V) (hl : H2 l = some (.lst (ws.map V.str))), Same H1 H2 → H1 l = none → Td K H2 x e.d → e.ok → r.words = ws ++ e.words → ws.length ≤ 5 →
      sp_expr_words K 8 [x] H2 (fun y H3 => ∃ l' b xs zs, V.ref l = .ref l' ∧ y = .ref b ∧ H3 l' = some (.lst xs) ∧ H3 b = some (.lst zs) ∧ xs.length + zs.length ≤ sizeLine ∧ ∀ p, H3 p = none → Q (.ref p) (upd H3 p (.lst (xs ++ zs)))) E0 := by
    intro H2 l ws e x hl s2 n1 hx hok hw hwl
    refine ⟨x, e, rfl, hx, hok.1, by have := hok.2.2; omega, hok.2.1, fun H3 p3 s3 n3 hl3 => ?_⟩
    have l1 := e.words_len
    have l2 := hok.2.2
    refine ⟨l, p3, _, _, rfl, rfl, s3 _ _ hl, hl3, by rw [List.length_map, List.length_map, sizeLine_eq]; omega, fun p4 n4 => ?_⟩
    have s4 := s2.trans s3
    refine q0 _ p4 (same_put s4 (s4.free n4)) (s4.free n4) ?_
    rw [upd_same, hw, List.map_append]
  cases r with
  | lt op x e =>
    refine iteT ?_
    obtain ⟨b, y, e1, t, hy⟩ := td_lt ht0
    cases e1
    refine ⟨_, rfl, _, _, _, _, rfl, rfl, t, rfl, _, rfl, _, _, _, _, rfl, rfl, t, rfl, (by show 3 ≤ sizeLine; decide), fun p1 n1 => ?_⟩
    have s1 := same_new n1 (o := .lst [V.str (ltw op), .str x, .str "="])
    refine ⟨_, rfl, _, _, _, _, rfl, rfl, same_tup s1 t, rfl, ?_⟩
    exact fin _ p1 [ltw op, x, "="] e y upd_same s1 n1 (hy.same s1) hok.2 rfl (by show 3 ≤ 5; decide)
  | ask x h k =>
    refine iteF ?_
    obtain ⟨b, e1, t⟩ := td_ask ht0
    cases e1
    refine ⟨_, rfl, _, _, _, _, rfl, rfl, t, rfl, rfl, _, rfl, ?_⟩
    refine iteT' (by decide +kernel) ?_
    refine ⟨_, rfl, _, _, _, _, rfl, rfl, t, rfl, _, rfl, _, _, _, _, rfl, rfl, t, rfl, _, rfl, _, _, _, _, rfl, rfl, t, rfl, (by show 3 ≤ sizeLine; decide), fun p1 n1 => ?_⟩
    have s1 := same_new n1 (o := .lst [V.str "ask", .str x, .str h])
    refine ⟨_, rfl, _, _, _, _, rfl, rfl, same_tup s1 t, rfl, k, rfl, ?_⟩
    cases k with
    | true =>
      refine iteT ?_
      refine ⟨(by show 1 ≤ sizeLine; decide), fun p2 n2 => ?_⟩
      have n12 : p1 ≠ p2 := fun z => by rw [← z, upd_same] at n2; cases n2
      have s2 := s1.trans (same_new n2 (o := .lst [V.str "kept"]))
      refine ⟨p1, p2, _, _, rfl, rfl, upd2_same n12, upd_same, (by show 4 ≤ sizeLine; decide), fun p4 n4 => ?_⟩
      exact q0 _ p4 (same_put s2 (s2.free n4)) (s2.free n4) upd_same
    | false =>
      refine iteF ?_
      refine ⟨(by show 0 ≤ sizeLine; decide), fun p2 n2 => ?_⟩
      have n12 : p1 ≠ p2 := fun z => by rw [← z, upd_same] at n2; cases n2
      have s2 := s1.trans (same_new n2 (o := .lst []))
      refine ⟨p1, p2, _, _, rfl, rfl, upd2_same n12, upd_same, (by show 3 ≤ sizeLine; decide), fun p4 n4 => ?_⟩
      exact q0 _ p4 (same_put s2 (s2.free n4)) (s2.free n4) upd_same
  | say h e =>
    refine iteF ?_
    obtain ⟨b, y, e1, t, hy⟩ := td_say ht0
    cases e1
    refine ⟨_, rfl, _, _, _, _, rfl, rfl, t, rfl, rfl, _, rfl, ?_⟩
    refine iteF' (by decide +kernel) ?_
    refine ⟨_, rfl, _, _, _, _, rfl, rfl, t, rfl, rfl, _, rfl, ?_⟩
    refine iteT' (by decide +kernel) ?_
    refine ⟨_, rfl, _, _, _, _, rfl, rfl, t, rfl, _, rfl, _, _, _, _, rfl, rfl, t, rfl, (by show 2 ≤ sizeLine; decide), fun p1 n1 => ?_⟩
    have s1 := same_new n1 (o := .lst [V.str "say", .str h])
    refine ⟨_, rfl, _, _, _, _, rfl, rfl, same_tup s1 t, rfl, ?_⟩
    exact fin _ p1 ["say", h] e y upd_same s1 n1 (hy.same s1) hok.2 rfl (by show 2 ≤ 5; decide)
  | iff e b c =>
    refine iteF ?_
    obtain ⟨b', x, y, z, e1, t, hx, hy, hz⟩ := td_iff' ht0
    cases e1
    refine ⟨_, rfl, _, _, _, _, rfl, rfl, t, rfl, rfl, _, rfl, ?_⟩
    refine iteF' (by decide +kernel) ?_
    refine ⟨_, rfl, _, _, _, _, rfl, rfl, t, rfl, rfl, _, rfl, ?_⟩
    refine iteF' (by decide +kernel) ?_
    refine ⟨_, rfl, _, _, _, _, rfl, rfl, t, rfl, (by show 1 ≤ sizeLine; decide), fun p1 n1 => ?_⟩
    have s1 := same_new n1 (o := .lst [V.str "if"])
    refine ⟨_, rfl, _, _, _, _, rfl, rfl, same_tup s1 t, rfl, ?_⟩
    exact fin _ p1 ["if"] e x upd_same s1 n1 (hx.same s1) hok.1 rfl (by show 1 ≤ 5; decide)
  | whl e b =>
    refine iteF ?_
    obtain ⟨b', x, y, e1, t, hx, hy⟩ := td_whl ht0
    cases e1
    refine ⟨_, rfl, _, _, _, _, rfl, rfl, t, rfl, rfl, _, rfl, ?_⟩
    refine iteF' (by decide +kernel) ?_
    refine ⟨_, rfl, _, _, _, _, rfl, rfl, t, rfl, rfl, _, rfl, ?_⟩
    refine iteF' (by decide +kernel) ?_
    refine ⟨_, rfl, _, _, _, _, rfl, rfl, t, rfl, (by show 1 ≤ sizeLine; decide), fun p1 n1 => ?_⟩
    have s1 := same_new n1 (o := .lst [V.str "while"])
    refine ⟨_, rfl, _, _, _, _, rfl, rfl, same_tup s1 t, rfl, ?_⟩
    exact fin _ p1 ["while"] e x upd_same s1 n1 (hx.same s1) hok.1 rfl (by show 1 ≤ 5; decide)
end
end Tw
set_option Elab.async false
set_option linter.all false
set_option maxRecDepth 100000
set_option maxHeartbeats 4000000
namespace Tw
open PySem PySem.Spec PyProof.Rows L2 TL
theorem liness_append (d : Nat) : ∀ a b : List Row, liness d (a ++ b) = liness d a ++ liness d b
  | [], b => rfl
  | r :: a, b => by rw [List.cons_append, liness, liness_append d a b, liness, List.append_assoc]
theorem liness_one (d : Nat) (r : Row) : liness d [r] = r.lines d := by rw [liness, liness, List.append_nil]
theorem cnts_take (rs : List Row) (i : Nat) : cnts (rs.take i) ≤ cnts rs := by
  conv => rhs; rw [← List.take_append_drop i rs, cnts_append]
  omega
theorem cnts_mem : ∀ {rs : List Row} {r : Row}, r ∈ rs → r.cnt ≤ cnts rs
  | x :: rs, r, h => by
    rw [cnts]
    rcases List.mem_cons.mp h with e | h
    · rw [e]; omega
    · have := cnts_mem h; omega
section
variable {P : Program} {w : World} {K : PySem.W.Frag} {mg : Str → Option Value} {base : Heap}
def sp_block_lines (K : PySem.W.Frag) (n : Nat) : Sp := fun vs H Q _ => ∃ (v : V) (rs : List Row) (d : Nat) (hm : Str → Str), vs = [v, .int (d : Nat)] ∧ Td K H v (.tuple (rowsD rs)) ∧ oks hm rs ∧ HsOk hm ∧ dps rs < n ∧ d + dps rs ≤ 10 ∧ cnts rs ≤ 60 ∧
  ∀ H' p, Same H H' → H p = none → H' p = some (.lst ((liness d rs).map V.str)) → Q (.ref p) H'
theorem ok_block_lines (T : Txt K mg) : ∀ n, Cal P w K mg base "block_lines" (n + 11) ["rows", "deep"] (sp_block_lines K n)
  | 0 => Cal.vac T.d_block_lines b_block_lines fun vs H Q E h => by
    obtain ⟨_, _, _, _, _, _, _, _, h, _⟩ := h
    omega
  | n + 1 => by
    have C_block_lines := ok_block_lines T n
    have C_row_words := ok_row_words (P := P) (w := w) (base := base) T
    refine Cal.of T.d_block_lines b_block_lines sc_block_lines (fun vs H Q E h => ?_) (fun cdv A outer s H vs Q E hr h => ?_)
    · obtain ⟨_, _, _, _, rfl, _⟩ := h; rfl
    obtain ⟨v, rs, d, hm, rfl, ht, hok, hhs, hdn, hd9, hcn, q⟩ := h
    refine ⟨_, (pss_cons (ps_set (i := 2) sc_block_lines.nd rfl (Or.inl rfl) (pe_lst pa_nil))
  (pss_cons (ps_for PassesOwn.never rfl (pi_tup (pv 0)) (pg_name (i := 3) sc_block_lines.nd rfl (Or.inl rfl))
   (pss_cons (ps_set (i := 4) sc_block_lines.nd rfl (Or.inl rfl) (pe_op op_repS pe_str (pv 1)))
  (pss_cons (ps_expr (pe_bm PySem.F.plainAttrs_list PySem.F.slot_list_append PySem.F.type_list_append mt_append (pv 2) (pa_cons (pe_op op_add_str (pv 4) (pe_join pe_str (pe_callC C_row_words (hr.mono (by omega)) rfl (pa_cons (pv 3) pa_nil)))) pa_nil)))
  (pss_cons (ps_if (pt_cmpR op_in_seq (pe_ix ix_tup (pv 3) pe_int (fun _ _ => rfl)) (pe_tup (pa_cons pe_str (pa_cons pe_str pa_nil))) (by rfl)) (pss_one (ps_expr (pe_bm PySem.F.plainAttrs_list PySem.F.slot_list_extend PySem.F.type_list_extend mt_extend (pv 2) (pa_cons (pe_callC C_block_lines hr rfl (pa_cons (pe_ix ix_tup (pv 3) pe_int (fun _ _ => rfl)) (pa_cons (pe_op op_add (pv 1) pe_int) pa_nil))) pa_nil)))) pss_nil)
  (pss_one (ps_if (PW.pt (pw_and (pt_cmpR op_eq (pe_ix ix_tup (pv 3) pe_int (fun _ _ => rfl)) pe_str (nomark _)) (pw_and1 (pt_cmpR (op_neE hr.units0) (pe_ix ix_tup (pv 3) pe_int (fun _ _ => rfl)) (pe_tup pa_nil) (nomark _))))) (pss_cons (ps_expr (pe_bm PySem.F.plainAttrs_list PySem.F.slot_list_append PySem.F.type_list_append mt_append (pv 2) (pa_cons (pe_op op_add_str (pv 4) pe_str) pa_nil)))
  (pss_one (ps_expr (pe_bm PySem.F.plainAttrs_list PySem.F.slot_list_extend PySem.F.type_list_extend mt_extend (pv 2) (pa_cons (pe_callC C_block_lines hr rfl (pa_cons (pe_ix ix_tup (pv 3) pe_int (fun _ _ => rfl)) (pa_cons (pe_op op_add (pv 1) pe_int) pa_nil))) pa_nil))))) pss_nil))))))
  (pss_one (ps_ret (pv 2))))), ?_⟩
    obtain ⟨a, xs, rfl, hs, hxs⟩ := td_tup.mp ht
    have hxl := hxs.length
    rw [rowsD_map, List.length_map] at hxl
    refine ⟨by show 0 ≤ sizeLine; decide, fun lf nlf => ?_⟩
    have s0 := same_new nlf (o := .lst [])
    refine ⟨_, rfl, a, rfl, ⟨_, same_tup s0 hs⟩, for_it (walk_tup (xs := xs)) (fun i σ H' => ∃ (x3 x4 : Option V), σ = [some (.ref a), some (.int (d : Nat)), some (.ref lf), x3, x4] ∧ Same H H' ∧ H' lf = some (.lst ((liness d (rs.take i)).map V.str)))
      ⟨none, none, rfl, s0, upd_same⟩ (fun i σ H' _ h => by obtain ⟨_, _, _, s, _⟩ := h; exact same_tup s hs) ?_ ?_⟩
    · rintro i x σ H1 H2 hi ⟨x3, x4, rfl, s1, h1⟩ ⟨rfl, hx⟩
      obtain ⟨dd, hdd, hxd⟩ := (hxs.same s1).get hx
      rw [rowsD_map, List.getElem?_map] at hdd
      obtain ⟨r, hr', rfl⟩ := Option.map_eq_some_iff.mp hdd
      have hrm := List.mem_of_getElem? hr'
      have hro := (oks_mem.mp hok) r hrm
      have hrd := (dps_mem.mp (Nat.le_refl (dps rs))) r hrm
      have hrc := cnts_mem hrm
      have hct := cnts_take rs i
      have hll := liness_len d (rs.take i)
      have hcr := r.cnt_kids
      have hdr := r.dp_kids
      have e1 : rs.take (i + 1) = rs.take i ++ [r] := by rw [List.take_succ, hr'] <;> rfl
      have e2 : liness d (rs.take (i + 1)) = liness d (rs.take i) ++ r.lines d := by rw [e1, liness_append, liness_one]
      have hline := Row.line_len hhs d r hro
      have hwl := r.words_len hro
      have hws := sum_le fun x hx => (r.words_wd hhs hro x hx).len
      generalize hL : liness d (rs.take i) = L at h1 hll e2
      refine ⟨_, rfl, _, _, rfl, rfl, by omega, by omega, (by decide), ?_⟩
      have ed : repS "  " ((d : Int)).toNat = ahead d := rep_ahead d
      rw [ed]
      refine ⟨_, rfl, Or.inl ⟨rfl, _, SqL.of h1⟩, _, rfl, ⟨_, rfl⟩, _, rfl, x, r, hm, rfl, hxd, hro, fun H3 p3 s3 n3 l3 => ?_⟩
      have hsp : (" " : Str).length = 1 := sp_len
      refine ⟨_, p3, r.words, rfl, rfl, .inl (.of l3), (by rw [hsp]; omega), _, _, rfl, rfl, ?_, ?_⟩
      · rw [join_eq, ahead_len, sizeLine_eq]
        have h2 := join_len sp r.words
        rw [sp_len] at h2
        show 2 * d + (Str.join sp r.words).length ≤ _
        omega
      have el : ahead d ++ Txt.join " " r.words = Row.line d r := by rw [join_eq]; rfl
      rw [el]
      have s13 := s1.trans s3
      have h3 := s3 _ _ h1
      refine ⟨lf, _, _, rfl, rfl, h3, by rw [List.length_map, sizeLine_eq]; omega, ?_⟩
      have hxd4 := (hxd.same s3).put h3 (o := .lst (L.map V.str ++ [.str (Row.line d r)]))
      have s4 := same_put s13 nlf (o := .lst (L.map V.str ++ [.str (Row.line d r)]))
      have h4 : upd H3 lf (.lst (L.map V.str ++ [.str (Row.line d r)])) lf = some (.lst ((L ++ [Row.line d r]).map V.str)) := by rw [upd_same, List.map_append] <;> rfl
      have hl4 : (L ++ [Row.line d r]).length ≤ 1000 := by rw [List.length_append, List.length_singleton]; omega
      generalize upd H3 lf (.lst (L.map V.str ++ [.str (Row.line d r)])) = H4 at s4 hxd4 h4 ⊢
      clear s13 h3 s3 n3 l3 hxd h1 s1 H3
      obtain ⟨ra, xs', rfl, hrs, hrt⟩ := td_row hxd4
      refine ⟨_, rfl, _, _, _, _, rfl, rfl, hrs, at0, (by show 2 ≤ sizeLine; decide), fun p5 n5 => ?_⟩
      have s5 := same_new n5 (o := .tup [V.str "if", V.str "while"])
      have hxd5 := hxd4.same s5
      have h5 := s5 _ _ h4
      have s45 := s4.trans s5
      refine ⟨_, _, rfl, .inr (SqT.of upd_same), rfl, rfl, _, rfl, ?_⟩
      show if inV (V.str r.hd) [V.str "if", V.str "while"] = true then _ else _
      rw [hd_two]
      generalize upd H4 p5 (.tup [V.str "if", V.str "while"]) = H5 at s45 hxd5 h5 ⊢
      clear s5 n5 hxd4 h4 hrs hrt s4 H4
      cases r with
      | lt op y e =>
        refine iteF ?_
        obtain ⟨b, z, e3, t, _⟩ := td_lt hxd5
        cases e3
        refine ⟨_, rfl, _, _, _, _, rfl, rfl, t, rfl, rfl, _, rfl, ?_⟩
        refine iteF' (hd_if (.lt op y e)) ?_
        refine iteF ?_
        exact ⟨_, _, rfl, s45, by rw [h5, e2, Row.lines]⟩
      | ask y h0 k =>
        refine iteF ?_
        obtain ⟨b, e3, t⟩ := td_ask hxd5
        cases e3
        refine ⟨_, rfl, _, _, _, _, rfl, rfl, t, rfl, rfl, _, rfl, ?_⟩
        refine iteF' (hd_if (.ask y h0 k)) ?_
        refine iteF ?_
        exact ⟨_, _, rfl, s45, by rw [h5, e2, Row.lines]⟩
      | say h0 e =>
        refine iteF ?_
        obtain ⟨b, z, e3, t, _⟩ := td_say hxd5
        cases e3
        refine ⟨_, rfl, _, _, _, _, rfl, rfl, t, rfl, rfl, _, rfl, ?_⟩
        refine iteF' (hd_if (.say h0 e)) ?_
        refine iteF ?_
        exact ⟨_, _, rfl, s45, by rw [h5, e2, Row.lines]⟩
      | whl e ba =>
        refine iteT ?_
        obtain ⟨b, z, u, e3, t, hz, hu⟩ := td_whl hxd5
        cases e3
        have ob : oks hm ba := hro.2
        have kd : dps ba ≤ dps (Row.whl e ba).kids := Nat.le_refl _
        have kc : cnts ba ≤ cnts (Row.whl e ba).kids := Nat.le_refl _
        have lb := liness_len (d + 1) ba
        refine ⟨_, rfl, Or.inl ⟨rfl, _, SqL.of h5⟩, _, rfl, _, _, _, _, rfl, rfl, t, rfl, _, rfl, _, _, rfl, rfl, _, ba, d + 1, hm, rfl, hu, ob, hhs, by omega, by omega, by omega, fun H6 p6 s6 n6 l6 => ?_⟩
        have h6 := s6 _ _ h5
        refine ⟨lf, p6, _, _, rfl, rfl, h6, l6, by rw [List.length_map, List.length_map, sizeLine_eq]; omega, ?_⟩
        have t7 := (Kp.at (a := lf) (o := .lst ((L ++ [Row.line d (.whl e ba)]).map V.str ++ (liness (d + 1) ba).map V.str))).tup (.lst h6) (same_tup s6 t)
        refine ⟨_, rfl, _, _, _, _, rfl, rfl, t7, rfl, rfl, _, rfl, ?_⟩
        refine iteF' (hd_if (.whl e ba)) ?_
        refine iteF ?_
        refine ⟨_, _, rfl, same_put (s45.trans s6) nlf, ?_⟩
        rw [upd_same, e2, Row.lines, ← List.map_append, List.append_assoc] <;> rfl
      | iff e ba bb =>
        refine iteT ?_
        obtain ⟨b, z, u, u2, e3, t, hz, hu, hu2⟩ := td_iff' hxd5
        cases e3
        obtain ⟨oe, ob, ob2⟩ : e.ok ∧ oks hm ba ∧ oks hm bb := id hro
        have kd : max (dps ba) (dps bb) ≤ dps (Row.iff e ba bb).kids := by show _ ≤ dps (ba ++ bb); rw [dps_append]; exact Nat.le_refl _
        have kc : cnts ba + cnts bb ≤ cnts (Row.iff e ba bb).kids := by show _ ≤ cnts (ba ++ bb); rw [cnts_append]; exact Nat.le_refl _
        have lb := liness_len (d + 1) ba
        have lb2 := liness_len (d + 1) bb
        refine ⟨_, rfl, Or.inl ⟨rfl, _, SqL.of h5⟩, _, rfl, _, _, _, _, rfl, rfl, t, rfl, _, rfl, _, _, rfl, rfl, _, ba, d + 1, hm, rfl, hu, ob, hhs, by omega, by omega, by omega, fun H6 p6 s6 n6 l6 => ?_⟩
        have h6 := s6 _ _ h5
        refine ⟨lf, p6, _, _, rfl, rfl, h6, l6, by rw [List.length_map, List.length_map, sizeLine_eq]; omega, ?_⟩
        have k7 := (Kp.at (H := H6) (a := lf) (o := .lst ((L ++ [Row.line d (.iff e ba bb)]).map V.str ++ (liness (d + 1) ba).map V.str)))
        have t7 := k7.tup (.lst h6) (same_tup s6 t)
        have hu7 := Td.kp k7 (.lst h6) _ (hu2.same s6)
        have s7 := same_put (s45.trans s6) nlf (o := .lst ((L ++ [Row.line d (.iff e ba bb)]).map V.str ++ (liness (d + 1) ba).map V.str))
        have h7 : upd H6 lf (.lst ((L ++ [Row.line d (.iff e ba bb)]).map V.str ++ (liness (d + 1) ba).map V.str)) lf = some (.lst ((L ++ [Row.line d (.iff e ba bb)] ++ liness (d + 1) ba).map V.str)) := by rw [upd_same, ← List.map_append]
        have hl7 : (L ++ [Row.line d (.iff e ba bb)] ++ liness (d + 1) ba).length ≤ 1000 := by rw [List.length_append]; simp only [List.length_append, List.length_singleton] at hl4 ⊢; omega
        generalize upd H6 lf (.lst ((L ++ [Row.line d (.iff e ba bb)]).map V.str ++ (liness (d + 1) ba).map V.str)) = H7 at t7 hu7 s7 h7 ⊢
        obtain ⟨ua, us, rfl, hus, husd⟩ := td_tup.mp hu7
        have husl := husd.length
        rw [rowsD_map, List.length_map] at husl
        refine ⟨_, rfl, _, _, _, _, rfl, rfl, t7, rfl, rfl, _, rfl, ?_⟩
        refine iteT' (hd_if (.iff e ba bb)) ?_
        refine ⟨_, rfl, _, _, _, _, rfl, rfl, t7, rfl, (by show 0 ≤ sizeLine; decide), fun p8 n8 => ?_⟩
        have s8 := same_new n8 (o := .tup [])
        refine ⟨ua, p8, us, rfl, rfl, .inr ⟨same_tup s8 hus, .of upd_same⟩, _, rfl, ?_⟩
        have h8 := s8 _ _ h7
        have t8 := same_tup s8 t7
        have hu8 := hu7.same s8
        have s78 := s7.trans s8
        generalize upd H7 p8 (.tup []) = H8 at h8 t8 hu8 s78 ⊢
        cases bb with
        | nil =>
          have : us = [] := by cases us with
            | nil => rfl
            | cons => simp at husl
          rw [this]
          refine iteF' (by rfl) ?_
          refine ⟨_, _, rfl, s78, ?_⟩
          rw [h8, e2, Row.lines]
          simp
        | cons r2 rs2 =>
          have : us.isEmpty = false := by cases us with
            | nil => simp at husl
            | cons => rfl
          refine iteT' (by show (!us.isEmpty) = true; rw [this]; rfl) ?_
          refine ⟨_, rfl, Or.inl ⟨rfl, _, SqL.of h8⟩, _, rfl, _, _, rfl, rfl, ?_, lf, _, _, rfl, rfl, h8, by rw [List.length_map, sizeLine_eq]; omega, ?_⟩
          · rw [ahead_len, sizeLine_eq, show ("else" : Str).length = 4 by decide +kernel]
            omega
          have k9 := (Kp.at (H := H8) (a := lf) (o := .lst ((L ++ [Row.line d (.iff e ba (r2 :: rs2))] ++ liness (d + 1) ba).map V.str ++ [V.str (ahead d ++ "else")])))
          have t9 := k9.tup (.lst h8) t8
          have hu9 := Td.kp k9 (.lst h8) _ hu8
          have s9 := same_put s78 nlf (o := .lst ((L ++ [Row.line d (.iff e ba (r2 :: rs2))] ++ liness (d + 1) ba).map V.str ++ [V.str (ahead d ++ "else")]))
          have h9 : upd H8 lf (.lst ((L ++ [Row.line d (.iff e ba (r2 :: rs2))] ++ liness (d + 1) ba).map V.str ++ [V.str (ahead d ++ "else")])) lf = some (.lst ((L ++ [Row.line d (.iff e ba (r2 :: rs2))] ++ liness (d + 1) ba ++ [ahead d ++ "else"]).map V.str)) := by
            rw [upd_same, List.map_append (l₁ := L ++ [Row.line d (.iff e ba (r2 :: rs2))] ++ liness (d + 1) ba)] <;> rfl
          generalize upd H8 lf (.lst ((L ++ [Row.line d (.iff e ba (r2 :: rs2))] ++ liness (d + 1) ba).map V.str ++ [V.str (ahead d ++ "else")])) = H9 at t9 hu9 s9 h9 ⊢
          refine ⟨_, rfl, Or.inl ⟨rfl, _, SqL.of h9⟩, _, rfl, _, _, _, _, rfl, rfl, t9, rfl, _, rfl, _, _, rfl, rfl, _, r2 :: rs2, d + 1, hm, rfl, hu9, ob2, hhs, by omega, by omega, by omega, fun H10 p10 s10 n10 l10 => ?_⟩
          have h10 := s10 _ _ h9
          refine ⟨lf, p10, _, _, rfl, rfl, h10, l10, by rw [List.length_map, List.length_map, List.length_append, List.length_singleton, sizeLine_eq]; omega, ?_⟩
          refine ⟨_, _, rfl, same_put (s9.trans s10) nlf, ?_⟩
          rw [upd_same, e2, Row.lines, ← List.map_append, liness]
          simp
    · rintro σ H1 ⟨x3, x4, rfl, s1, h1⟩
      rw [hxl, List.take_length] at h1
      exact ⟨_, rfl, q H1 lf s1 nlf h1⟩
end
end Tw
set_option Elab.async false
set_option linter.all false
set_option maxRecDepth 100000
set_option maxHeartbeats 4000000
namespace Tw
open PySem PySem.Spec PyProof.Rows L2 TL
section
variable {P : Program} {w : World} {K : PySem.W.Frag} {mg : Str → Option Value} {base : Heap}
def sp_program_text (K : PySem.W.Frag) : Sp := fun vs H Q _ => ∃ (v : V) (p : Pg) (hm : Str → Str), vs = [v] ∧ PgT K H v p ∧ p.ok hm ∧ ∀ H', Same H H' → Q (.str p.text) H'
theorem ok_program_text (T : Txt K mg) : Cal P w K mg base "program_text" 18 ["program"] (sp_program_text K) := by
  have C_need_program := ok_need_program (P := P) (w := w) (base := base) T
  have C_block_lines := ok_block_lines (P := P) (w := w) (base := base) T 6
  refine Cal.of T.d_program_text b_program_text sc_program_text (fun vs H Q E h => ?_) (fun cdv A outer s H vs Q E hr h => ?_)
  · obtain ⟨_, _, _, rfl, _⟩ := h; rfl
  obtain ⟨v, pg, hm, rfl, ht, hok, q⟩ := h
  refine ⟨_, (pss_cons (ps_expr (pe_callC C_need_program (hr.mono (by decide)) rfl (pa_cons (pv 0) pa_nil)))
  (pss_cons (ps_setLc (i := 1) (own := [("name", 2), ("house", 3)]) (by rfl) sc_program_text.nd rfl rfl (sw_true rfl rfl rfl (by decide +kernel)) (pi_tup (pe_ix ix_tup (pv 0) pe_int (fun _ _ => rfl))) (blkOk_by (own := [("name", 2), ("house", 3)]) (N := N_program_text) (sc := defScope s_program_text) (by decide +kernel)) (fun _ _ _ _ _ => (pg_tupB K 2 (by rfl) (pgs_cons (pg_name (i := 2) sc_program_text.nd rfl (Or.inl rfl)) (pgs_cons (pg_name (i := 3) sc_program_text.nd rfl (Or.inl rfl)) pgs_nil)))) (fun _ _ _ _ _ => pts_nil) (fun _ _ _ _ _ => (pe_joinB K pe_str (pe_lst (pa_cons pe_str (pa_cons (pv 2) (pa_cons (pv 3) pa_nil)))))))
  (pss_one (ps_ret (pe_join pe_str (pe_op op_cat (pv 1) (pe_callC C_block_lines (hr.mono (by decide)) rfl (pa_cons (pe_ix ix_tup (pv 0) pe_int (fun _ _ => rfl)) (pa_cons pe_int pa_nil))))))))), ?_⟩
  obtain ⟨a, x, y, rfl, hs, hmk, hrw⟩ := id ht
  obtain ⟨b, ms, ob, rfl, hb, hob, hms⟩ := id hmk
  have hml := hms.length
  rw [List.length_map] at hml
  have hfw := hok.few
  refine ⟨_, rfl, _, pg, hm, rfl, ht, hok, fun H1 s1 => ?_⟩
  refine ⟨_, rfl, _, _, _, _, rfl, rfl, same_tup s1 hs, rfl, b, rfl, ⟨ms, SqT.frz (s1 _ _ hb)⟩, fun D nD => ?_⟩
  have nD0 := s1.free nD
  refine lc_pu (walk_tup (xs := ms)) (by omega) nD (fun H' s' => SqT.frz (s' _ _ (s1 _ _ hb))) (fun i y H' => ∃ m, pg.ms[i]? = some m ∧ y = V.str (markL m)) (fun _ _ _ _ _ _ h => h) ?_ ?_
  · rintro i v H2 H3 Qc hi s2 _ ⟨rfl, hv⟩ hq
    obtain ⟨dd, hdd, hvd⟩ := ((hms.same s1).same s2).get hv
    rw [List.getElem?_map] at hdd
    obtain ⟨m, hm', rfl⟩ := Option.map_eq_some_iff.mp hdd
    obtain ⟨c, y1, y2, rfl, hc, g1, g2⟩ := Td.t2 hvd
    obtain rfl := td_str.mp g1
    obtain rfl := td_str.mp g2
    obtain ⟨k1, k2⟩ := hok.mks m (List.mem_of_getElem? hm')
    have l1 := name_len k1
    have l2 := (wd_house (hok.hs m.1)).len
    rw [← k2] at l2
    refine ⟨c, _, rfl, hc, rfl, _, _, rfl, _, _, rfl, rfl, ?_⟩
    refine ⟨rfl, ⟨_, rfl⟩, _, rfl, _, rfl, (by show 3 ≤ sizeLine; decide), fun p hp => ?_⟩
    refine ⟨_, p, ["mark", m.1, m.2], rfl, rfl, .inl (.of upd_same), ?_, ?_⟩
    · simp only [List.map_cons, List.map_nil, List.sum_cons, List.sum_nil, List.length_cons, List.length_nil]
      rw [show ("mark" : Str).length = 4 by decide +kernel, show (" " : Str).length = 1 by decide +kernel]
      omega
    · refine hq _ _ (same_new hp) ⟨m, hm', ?_⟩
      rw [join_eq]
      rfl
  intro zs H2 s2 hzD hzl hzs
  have hz : zs = (pg.ms.map markL).map V.str := by
    apply List.ext_getElem?
    intro i
    by_cases hi : i < zs.length
    · obtain ⟨m, h1, h2⟩ := hzs i _ (List.getElem?_eq_getElem hi)
      rw [List.getElem?_eq_getElem hi, h2, List.getElem?_map, List.getElem?_map, h1] <;> rfl
    · rw [List.getElem?_eq_none (by omega), List.getElem?_eq_none (by rw [List.length_map, List.length_map]; omega)]
  subst hz
  have s12 := s1.trans s2
  refine ⟨⟨_, rfl⟩, _, rfl, _, rfl, _, _, _, _, rfl, rfl, same_tup s12 hs, rfl, _, pg.rs, 0, hm, rfl, hrw.same s12, hok.rk, hok.hs, ?_, ?_, hok.cn, fun H3 p3 s3 n3 l3 => ?_⟩
  · have := hok.dp; omega
  · have := hok.dp; omega
  have hll := Pg.lines_len hok
  have hls := Pg.lines_short hok
  have hsum := sum_le hls
  have hlines : (pg.ms.map markL).map V.str ++ (liness 0 pg.rs).map V.str = pg.lines.map V.str := by rw [← List.map_append]; rfl
  refine ⟨D, p3, _, _, rfl, rfl, s3 _ _ hzD, l3, ?_, fun p4 n4 => ?_⟩
  · have h1 := congrArg List.length hlines
    rw [List.length_append, List.length_map (as := pg.lines)] at h1
    rw [h1, sizeLine_eq]
    omega
  refine ⟨_, p4, pg.lines, rfl, rfl, .inl (.of (by rw [upd_same, hlines])), ?_, ?_⟩
  · rw [show ("\n" : Str).length = 1 by decide +kernel]
    omega
  · rw [join_eq]
    exact q _ ((s12.trans s3).trans (same_new n4))
end
end Tw
set_option Elab.async false
set_option linter.all false
set_option maxRecDepth 100000
set_option maxHeartbeats 4000000
/-! a lambda of parameters, handed to a method -/
namespace Tw
open PySem PySem.Spec PyProof.Rows L2 LamX NdefX
/-- the lambda's body as an expression -/
structure LF where
  qual : Str
  params : Arguments
  body : Expr
  scope : Scope
  cl : List (Str × Addr)
  c : Addr
abbrev LF.nf (F : LF) : NF := ⟨"<lambda>", F.qual, F.params, [], F.scope, F.cl, F.c⟩
abbrev LF.ob (F : LF) (pm ctv : Value) : Obj := PySem.W.kla_obj "<lambda>" F.qual F.params F.body F.scope F.cl pm F.c ctv
def LamO (f : Addr) (F : LF) : HO := .ext fun h => ∃ pm ctv : Value, h.get? f = some (F.ob pm ctv)
theorem lamO_at {P : Program} {w : World} {H : Hp} {h : Heap} {f : Addr} {F : LF} (hok : HOk P w H h) (e : H f = some (LamO f F)) : ∃ pm ctv : Value, h.get? f = some (F.ob pm ctv) := by
  obtain ⟨z, _, _⟩ := hok f _ e
  exact z
theorem lamO_ne {f : Addr} {F : LF} (ps : Array Value) : LamO f F ≠ .tbl ps := fun z => by
  unfold LamO at z
  cases z
section
variable {X : Cx} {pins : List (Addr × Obj)} {σ : L2.St} {H : Hp} {s : Shared}
theorem inv_lam {F : LF} {t' : Nat} {pm ctv : Value} (I : Inv X pins σ H s) :
    Inv X pins σ (upd H s.heap.objs.size (LamO s.heap.objs.size F)) { s with heap := s.heap.push (F.ob pm ctv), toks := t' } := by
  refine I.laid (a := s.heap.objs.size) (fun b u e => Heap.get?_push_of_some _ e) (Nat.le_refl _) ?_
  have e : (s.heap.push (F.ob pm ctv)).get? s.heap.objs.size = some (F.ob pm ctv) := Heap.get?_push_size _ rfl
  exact ⟨⟨pm, ctv, e⟩, ⟨_, e⟩, fun h1 h2 ⟨p, t, z⟩ st => ⟨p, t, st _ z⟩⟩
/-- the lambda is made: its code object is new, or found in the table; the function object is known from now on -/
theorem lam_make3 {T : List (Addr × Str)} {c P : Addr} {params : Arguments} {body : Expr} {scope : Scope} {pos : Pos} {E : Value → Shared → Prop} {Q : Value → Shared → Prop} (I : Inv X pins σ H s) (TB : LamX.TabB X.base X.mg c P) (hcode : X.env.code = .ref c)
    (hm : (P, X.env.qual ++ "<lambda>") ∈ T) (hu : ∀ p ∈ T, p.1 = P → p.2 = X.env.qual ++ "<lambda>") (hT : Tabs T H) (hdef : defaultsOf params X.env = ([], [])) (hfree : ∀ y ∈ scope.names, y.2 = .free → ∃ c, X.env.cells.lookup y.1 = some c)
    (h : ∀ (f c' : Addr) (H1 : Hp) (s' : Shared), Inv X pins σ H1 s' → ExtN H H1 → (∀ b, H1 b = Option.none → H b = Option.none) → Tabs T H1 → H f = none → H1 f = some (LamO f ⟨X.env.qual ++ "<lambda>", params, body, scope, cloFrom X.env.cells scope.names [], c'⟩) →
      H1 c' = some (CodeO c' (X.env.qual ++ "<lambda>")) → Q (.ref f) s') :
    wpAny (model X.prog X.w) X.A (eval (.Lambda params body scope pos) X.env) Q E s := by
  obtain ⟨ps, hP, ht, ha⟩ := hT _ hm
  refine PySem.W.kla_eval hdef ?_
  have bP : s.heap.BuiltinsAt X.mg P := TB.bm.keeps I.bk
  have hP' : s.heap.get? P = some { cls := .none, data := .fields ps } := I.hok P _ hP
  cases hc : codeAmong pos ps.toList with
  | none =>
    refine PySem.W.kla_makeFunction (mg := X.mg) (c := c) (P := P) (ps := ps) (closure_ok hfree) I.ok.glob (I.mod.glob.keeps I.bk) hcode (TB.code.keeps I.bk) hP' ht hc TB.gP bP fun c' ctv h' tk hx hge hlt hrec htb => ?_
    obtain ⟨c2, oc, vs, t, e2, hoc, hd, hv⟩ := hrec
    cases e2
    have nC : H c' = none := I.hok.fresh hge
    have I1 := inv_table (t' := tk) (more := #[rawInt pos.line, rawInt pos.col, .ref c']) (h' := h') I hP (fun b o hb e => hx b o hb e) htb hge ⟨oc, vs, t, hoc, hd, hv⟩
    have hE : ExtN H (upd (upd H P (.tbl (ps ++ #[rawInt pos.line, rawInt pos.col, .ref c']))) c' (CodeO c' (X.env.qual ++ "<lambda>"))) := fun b o e n => by
      rw [upd_ne (ne_of_none e nC), upd_ne (fun z => n ps (Option.some.inj (e.symm.trans (by rw [z]; exact hP))))]
      exact e
    have eL : (ps ++ #[rawInt pos.line, rawInt pos.col, .ref c']).toList = ps.toList ++ [rawInt pos.line, rawInt pos.col, .ref c'] := by simp
    have T1 : Tabs T (upd (upd H P (.tbl (ps ++ #[rawInt pos.line, rawInt pos.col, .ref c']))) c' (CodeO c' (X.env.qual ++ "<lambda>"))) := fun p hp => by
      by_cases hb : p.1 = P
      · rw [hu p hp hb, hb]
        refine ⟨_, by rw [upd_ne (ne_of_none hP nC), upd_same], by rw [eL]; exact PySem.TriplesOk_snoc _ _ _ _ ht, fun p' cv hcv => ?_⟩
        rw [eL] at hcv
        rcases among_app _ ht hcv with z | z
        · obtain ⟨c0, e1, e2⟩ := ha p' cv z
          exact ⟨c0, e1, hE _ _ e2 codeO_ne⟩
        · exact ⟨c', z, upd_same⟩
      · obtain ⟨ps', a1, a2, a3⟩ := hT p hp
        refine ⟨ps', by rw [upd_ne (ne_of_none a1 nC), upd_ne hb]; exact a1, a2, fun p' cv hcv => ?_⟩
        obtain ⟨c0, e1, e2⟩ := a3 p' cv hcv
        exact ⟨c0, e1, hE _ _ e2 codeO_ne⟩
    have nF := I1.hok.fresh (Nat.le_refl _)
    have I2 := inv_lam (F := ⟨X.env.qual ++ "<lambda>", params, body, scope, cloFrom X.env.cells scope.names [], c'⟩) (t' := tk) (pm := (X.mg "__name__").getD .none) (ctv := ctv) I1
    refine h h'.objs.size c' _ _ I2 (fun b o e n => ?_) (fun b e => upd_none (upd_none (upd_none e))) (T1.ext fun b o e => ?_) (I.hok.fresh (Nat.le_trans hge (Nat.le_of_lt hlt))) upd_same ?_
    · have e1 := hE b o e n
      exact (upd_ne (ne_of_none e1 nF)).trans e1
    · exact (upd_ne (ne_of_none e nF)).trans e
    · exact (upd_ne (Nat.ne_of_lt hlt)).trans upd_same
  | some cv =>
    obtain ⟨c', e, hco⟩ := ha pos cv hc
    subst e
    refine PySem.W.kla_makeFunctionHit (mg := X.mg) (c := c) (P := P) (ps := ps) (closure_ok hfree) I.ok.glob (I.mod.glob.keeps I.bk) hcode (TB.code.keeps I.bk) hP' ht hc bP fun ctv h' tk hx hsz => ?_
    have I1 : Inv X pins σ H { s with heap := h', toks := tk } := I.kept hx
    have nF : H h'.objs.size = none := I1.hok.fresh (Nat.le_refl _)
    have I2 := inv_lam (F := ⟨X.env.qual ++ "<lambda>", params, body, scope, cloFrom X.env.cells scope.names [], c'⟩) (t' := tk) (pm := (X.mg "__name__").getD .none) (ctv := ctv) I1
    refine h h'.objs.size c' _ _ I2 (fun b o e n => ?_) (fun b e => upd_none e) (hT.ext fun b o e => ?_) nF upd_same ?_
    · exact (upd_ne (ne_of_none e nF)).trans e
    · exact (upd_ne (ne_of_none e nF)).trans e
    · exact (upd_ne (ne_of_none hco nF)).trans hco
/-- what the cells held when the running frame began they hold still -/
theorem cells_later {cl : List (Str × Addr)} {fr : List Str} {ws : List (Option V)} (C : CellsAt cl fr ws X.s_0.heap X.H_0) (hx : X.ex = []) (I : Inv X pins σ H s) : CellsAt cl fr ws s.heap H := by
  have nx : ∀ b : Addr, b ∉ X.ex := fun b => by rw [hx]; simp
  have kp : ∀ y c, cl.lookup y = some c → ∀ v, X.s_0.heap.IsCell c v → s.heap.IsCell c v := fun y c e v ⟨o, ho, hd⟩ => by
    obtain ⟨sl, q⟩ := I.base.any ho (C.all y c e).1 (nx c)
    exact ⟨_, q, hd⟩
  refine ⟨C.len, fun y c e => ?_, C.inj, fun i y e => ?_⟩
  · obtain ⟨n, v, z⟩ := C.all y c e
    refine ⟨?_, v, kp y c e v z⟩
    obtain ⟨o, ho, _⟩ := z
    exact I.base.free c o ho n (nx c)
  · obtain ⟨c, hc, hv⟩ := C.has i y e
    refine ⟨c, hc, fun v ev => ?_⟩
    obtain ⟨u, r, z⟩ := hv v ev
    exact ⟨u, r, kp y c hc _ z⟩
end
/-! ### what a lambda promises -/
structure LOk (P : Program) (w : World) (K : PySem.W.Frag) (mg : Str → Option Value) (base : Heap) (CX : CXT) (k : Nat) (f : Addr) (F : LF) (ps fr : List Str) (sp : List (Option V) → Sp) : Prop where
  len : ∀ ws vs H Q E, sp ws vs H Q E → vs.length = ps.length
  run : ∀ (A : Around) (outer : List Env) (s : Shared) (H : Hp) (us : List Value) (vs : List V) (ws : List (Option V)) (Q : VK) (E : XK), Room k A → Env0 P w K mg base A outer s H → H f = some (LamO f F) → H F.c = some (CodeO F.c F.qual) →
    CellsAt F.cl fr ws s.heap H → Vals vs us → sp ws vs H Q E → codeAny (model P w) A (.call (.ref f) ⟨us, []⟩) (CR CX outer P w H s Q E) s
section
variable {CX : CXT} {P : Program} {w : World} {K : PySem.W.Frag} {mg : Str → Option Value} {base : Heap} {N ps fr : List Str} {F : LF} {f : Addr} {k : Nat} {sp : List (Option V) → Sp}
theorem lok_of (S : NScope N ps fr F.scope) (hb : ∀ (pm ctv : Value) (us : List Value), us.length = ps.length → bindArgs (PySem.W.kla_fn "<lambda>" F.qual F.params F.body F.scope F.cl pm (.ref F.c) ctv) ⟨us, []⟩ = pure (ps.zip us)) (len : ∀ ws vs H Q E, sp ws vs H Q E → vs.length = ps.length)
    (hbody : ∀ (A : Around) (outer : List Env) (s : Shared) (H : Hp) (vs : List V) (ws : List (Option V)) (Q : VK) (E : XK), Room k (A.deeper (envF F.nf f s.heap.objs.size)) → ws.length = fr.length → sp ws vs H Q E →
      ∃ t, PE (ncx CX P w K mg base N F.nf f A outer s H E) F.body t ∧ t (startF N vs ws) H Q) :
    LOk P w K mg base CX (k + 1) f F ps fr sp := by
  refine ⟨len, fun A outer s H us vs ws Q E hr e0 hf hc C r hsp => ?_⟩
  have hl := len _ _ _ _ _ hsp
  have lim : s.heap.NoLimit := e0.mod.nolimit.keeps fun b o e => (e0.bs b o e).1
  obtain ⟨pm, ctv, ho⟩ := lamO_at e0.hok hf
  refine PySem.W.kla_callFunE hr.depth ho rfl S.co S.gen rfl (codeO_at e0.hok hc) ?_
  rw [hb pm ctv us (by rw [← r.length]; exact hl)]
  refine wpAny_pure (wpAny_newFunctionEnv S.nocell (fun ⟨n, _⟩ hy => S.par n (List.of_mem_zip hy).1) (fun h₁ hns hsb => ⟨lim.fresh _ hsb, ?_⟩) S.kind)
  show codeAny _ _ (.expr F.body (envF F.nf f s.heap.objs.size)) _ _
  have kp : ∀ b o, s.heap.get? b = some o → h₁.get? b = some o := fun b o e => hsb.extBut b o (Nat.ne_of_lt (Heap.lt_size e)) (Heap.get?_push_of_some _ e)
  obtain ⟨t, ht, hq⟩ := hbody A outer s H vs ws Q E (hr.deeper _) C.len hsp
  have I : Inv (ncx CX P w K mg base N F.nf f A outer s H E) [] (startF N vs ws) H { s with heap := h₁, toks := s.toks + (ps.zip us).length } := inv_startN (F := F.nf) S hr.hd e0 hl r C hns kp
  refine PySem.W.kla_codeExpr (wpAny_mono (ht.run [] _ (startF N vs ws) H Q I hq) (fun v s' hs => ?_) fun e s' hs => hs)
  obtain ⟨w', H', J', rv, q⟩ := hs
  exact ⟨w', H', J'.os, J'.bare, J'.base, J'.hok, rv, q⟩
end
/-! ### the call of the parameter that holds it -/
def tActL (f : Addr) (F : LF) (ws : List (Option V)) (i : Nat) (sp : List (Option V) → Sp) (E : XK) (t : TA) : TE := fun σ H Q => σ[i]? = some (some (.ref f)) ∧ H f = some (LamO f F) ∧
  t σ H fun vs H1 => H1 f = some (LamO f F) ∧ H1 F.c = some (CodeO F.c F.qual) ∧ sp ws vs H1 Q E
section
variable {Z : Cx} {CX : CXT} {F : LF} {f : Addr} {ps fr : List Str} {ws : List (Option V)} {i j k : Nat} {x : Str} {sp : List (Option V) → Sp} {E : XK} {t : TA} {e : Expr} {es : List Expr} {p pos : Pos}
theorem pe_actL (Fn : LOk Z.prog Z.w Z.K Z.mg Z.base CX k f F ps fr sp) (C : CellsAt F.cl fr ws Z.s_0.heap Z.H_0) (hex : Z.ex = []) (hr : Room j Z.A) (hk : k ≤ j) (hx : Passes CX Z E) (hN : Z.N[i]? = some x) (hv : Vis Z.env.scope x) (ha : PA Z (e :: es) t)
    (hd : (x == ("__debug__" : Str)) = false := by decide) (hcd : (x == ("__classdict__" : Str)) = false := by decide)
    (he : starEach (e :: es) Z.env = (false, eval e Z.env) :: starEach es Z.env := by rfl) (hpl : (backTo pos (starEach es Z.env)).any (·.1) = false := by rfl) :
    PE Z (.Call (.Name x p) (e :: es) [] pos) (tActL f F ws i sp E t) := by
  refine ⟨fun pins s σ H Q I h => ?_⟩
  obtain ⟨hs, hf, ht⟩ := h
  refine wpAny_Call_Name_kw (thn ((pe_var (pos := p) hN hv hd hcd).run pins s σ H (fun v H1 => v = .ref f ∧ H1 = H) I ⟨.ref f, hs, rfl, rfl⟩) fun u s1 ⟨v, H1, I1, r1, q1⟩ => ?_)
  obtain ⟨ev, eH⟩ := q1
  subst ev
  rw [eH] at I1
  obtain rfl : u = Value.ref f := r1
  have fnAt : ∀ {σ : L2.St} {H : Hp} {s : Shared}, Inv Z pins σ H s → H f = some (LamO f F) → PySem.W.FnAt f s.heap := fun J e => by
    obtain ⟨pm, ctv, ho⟩ := lamO_at J.hok e
    exact ⟨_, _, _, _, ho⟩
  refine PySem.W.callWith_F (first := []) (fnAt I1 hf) (thn (ha.run pos pins s1 σ H _ I1 ht) fun us s2 ⟨vs, H2, I2, r, h1, h2, q⟩ => ⟨fnAt I2 h1, ?_⟩) he hpl
  show wpAny _ _ (call (.ref f) us) _ _ _
  refine wpAny_call (codeAny_mono (Fn.run Z.A Z.stack s2 H2 us vs ws Q E (hr.mono hk) I2.env0 h1 h2 (cells_later C hex I2) r q) fun r s' hq => ?_)
  cases r with
  | error e => exact hx pins σ H2 s2 e s' I2 hq
  | ok fl =>
    cases fl with
    | ret u => exact I2.after hq
    | next => exact False.elim hq
    | brk => exact False.elim hq
    | cont => exact False.elim hq
end
end Tw
set_option Elab.async false
set_option linter.all false
set_option maxRecDepth 100000
set_option maxHeartbeats 4000000
namespace Tw
open PySem PySem.Spec PyProof.Rows L2 LamX NdefX
/-! ### methods -/
abbrev rdC (K : PySem.W.Frag) : Addr := He.ga K "Reading"
abbrev rdM (K : PySem.W.Frag) (m : Str) : Addr := He.ma K (rdC K) m
structure CalM (P : Program) (w : World) (K : PySem.W.Frag) (mg : Str → Option Value) (base : Heap) (m : Str) (k : Nat) (ps : List Str) (sp : Sp) : Prop where
  ex : ∃ fd, Binds K fd ps [] ∧ FnOk P w K mg base CX0 k (rdM K m) fd ps sp
def BindsOkM (m : Str) (st : Stmt) (ps : List Str) : Prop :=
  ∀ (kV doc pm : Value) (an : Option Addr) (cdv ct : Value) (us : List Value), us.length = ps.length → bindArgs (PySem.W.fnOf m ("Reading." ++ m) (defArgs st) (defBody st) (defScope st) .none kV doc pm an cdv ct) ⟨us, []⟩ = pure (ps.zip us)
theorem b_Rd_init : BindsOkM "__init__" s_Rd_init ["self", "line", "words"] := by
  intro kV doc pm an cdv ct us h
  match us, h with
  | [u0, u1, u2], _ => rfl
theorem b_Rd_take : BindsOkM "take" s_Rd_take ["self", "fits"] := by
  intro kV doc pm an cdv ct us h
  match us, h with
  | [u0, u1], _ => rfl
theorem b_Rd_take_expr : BindsOkM "take_expr" s_Rd_take_expr ["self"] := by
  intro kV doc pm an cdv ct us h
  match us, h with
  | [u0], _ => rfl
theorem b_Rd_end : BindsOkM "end" s_Rd_end ["self"] := by
  intro kV doc pm an cdv ct us h
  match us, h with
  | [u0], _ => rfl
section
variable {P : Program} {w : World} {K : PySem.W.Frag} {mg : Str → Option Value} {base : Heap} {m : Str} {ps : List Str} {sp sp' : Sp} {st : Stmt} {N : List Str} {j k : Nat}
theorem CalM.mono (C : CalM P w K mg base m j ps sp) (h : j ≤ k) : CalM P w K mg base m k ps sp := by
  obtain ⟨fd, b, F⟩ := C.ex
  exact ⟨fd, b, F.mono h⟩
theorem CalM.of (D : MetAt K m st) (b : BindsOkM m st ps) (S : FnScope N ps (defScope st)) (len : ∀ vs H Q E, sp vs H Q E → vs.length = ps.length)
    (hbody : ∀ (cdv : Value) (A : Around) (outer : List Env) (s : Shared) (H : Hp) (vs : List V) (Q : VK) (E : XK), Room k (A.deeper (envOfC ("Reading." ++ m) (defScope st) s.heap.objs.size (rdM K m) cdv)) → sp vs H Q E →
      ∃ t, PSs (cxOf CX0 P w K mg base N ("Reading." ++ m) (defScope st) (rdM K m) cdv A outer s H E).nox (defBody st) t ∧ t { nx := fun _ H' => Q .non H', rt := Q } (L2.start N vs) H) : CalM P w K mg base m (k + 1) ps sp := by
  obtain ⟨fd, F⟩ := D
  refine ⟨fd, F.bindsN b, F.ok S len fun cdv A outer s H vs Q E hr hsp => ?_⟩
  obtain ⟨t, h, q⟩ := hbody cdv A outer s H vs Q E hr hsp
  exact ⟨t, h.nox, q⟩
end
section
variable {X : Cx}
theorem pe_methC {m : Str} {k : Nat} {ps : List Str} {sp : Sp} {o e : Expr} {es : List Expr} {ta : TE} {t : TA} {apos pos : Pos} {pl : Sem Bool} (C : CalM X.prog X.w X.K X.mg X.base m k ps sp) (c : Cls X.K (rdC X.K)) (hm : Meth X.K (rdC X.K) m (rdM X.K m)) (hr : Room k X.A) (he : PE X o ta) (ha : PA X (e :: es) t)
    (hst : starEach (e :: es) X.env = (false, eval e X.env) :: starEach es X.env := by rfl) (hpl : (backTo pos (starEach es X.env)).any (·.1) = false := by rfl)
    (ht : eval (.Call (.Attribute o m apos) (e :: es) [] pos) X.env = (do
      let ov ← eval o X.env
      standAt apos.atName
      let (f, first) ← holding [ov] (getMethod ov m pl)
      callWith pos f first (backTo pos (starEach (e :: es) X.env)) (backToKw pos (keywordEach [] X.env))) := by rfl) : PE X (.Call (.Attribute o m apos) (e :: es) [] pos) (tMeth (rdC X.K) m sp [] E0 ta t) := by
  obtain ⟨fd, b, F⟩ := C.ex
  exact pe_meth he c hm F hr b .nil pass0 ha hst hpl ht
theorem pe_methC0 {m : Str} {k : Nat} {ps : List Str} {sp : Sp} {o : Expr} {ta : TE} {apos pos : Pos} {pl : Sem Bool} (C : CalM X.prog X.w X.K X.mg X.base m k ps sp) (c : Cls X.K (rdC X.K)) (hm : Meth X.K (rdC X.K) m (rdM X.K m)) (hr : Room k X.A) (he : PE X o ta)
    (ht : eval (.Call (.Attribute o m apos) [] [] pos) X.env = (do
      let ov ← eval o X.env
      standAt apos.atName
      let (f, first) ← holding [ov] (getMethod ov m pl)
      callWith pos f first (backTo pos (starEach [] X.env)) (backToKw pos (keywordEach [] X.env))) := by rfl) : PE X (.Call (.Attribute o m apos) [] [] pos) (tMeth (rdC X.K) m sp [] E0 ta tNil) := by
  obtain ⟨fd, b, F⟩ := C.ex
  exact pe_meth0 he c hm F hr b .nil pass0 ht
end
/-! ### the reading object -/
def rdF (line : Nat) (lw : Addr) (k : Nat) : List (Str × V) := [("line", .int line), ("words", .ref lw), ("at", .int k)]
def RdAt (K : PySem.W.Frag) (H : Hp) (a dx : Addr) (line : Nat) (lw : Addr) (k : Nat) : Prop := H a = some (.ins (rdC K) dx (rdF line lw k))
theorem rd_words {line k : Nat} {lw : Addr} : (rdF line lw k).lookup ("words" : Str) = some (.ref lw) := by
  unfold rdF
  rw [List.lookup_cons, show (("words" : Str) == "line") = false by decide +kernel]
  rw [List.lookup_cons, show (("words" : Str) == "words") = true by decide +kernel]
theorem rd_at {line k : Nat} {lw : Addr} : (rdF line lw k).lookup ("at" : Str) = some (.int k) := by
  unfold rdF
  rw [List.lookup_cons, show (("at" : Str) == "line") = false by decide +kernel]
  rw [List.lookup_cons, show (("at" : Str) == "words") = false by decide +kernel]
  rw [List.lookup_cons, show (("at" : Str) == "at") = true by decide +kernel]
theorem rd_line {line k : Nat} {lw : Addr} : (rdF line lw k).lookup ("line" : Str) = some (.int line) := by
  unfold rdF
  rw [List.lookup_cons, show (("line" : Str) == "line") = true by decide +kernel]
theorem rd_put {line k j : Nat} {lw : Addr} : putF "at" (.int j) (rdF line lw k) = rdF line lw j := by
  have h1 : ¬ (("line" : Str) = "at") := by decide +kernel
  have h2 : ¬ (("words" : Str) = "at") := by decide +kernel
  show putF "at" (.int j) [("line", .int line), ("words", .ref lw), ("at", .int k)] = _
  rw [putF, if_neg h1, putF, if_neg h2, putF, if_pos rfl]
  rfl
theorem rd_mk {line : Nat} {lw : Addr} : putF "at" (.int (1 : Nat)) (putF "words" (.ref lw) (putF "line" (.int line) [])) = rdF line lw 1 := by
  have h1 : ¬ (("line" : Str) = "words") := by decide +kernel
  have h2 : ¬ (("line" : Str) = "at") := by decide +kernel
  have h3 : ¬ (("words" : Str) = "at") := by decide +kernel
  show putF "at" (.int (1 : Nat)) (putF "words" (.ref lw) [("line", .int line)]) = _
  rw [putF, if_neg h1]
  show putF "at" (.int (1 : Nat)) [("line", .int line), ("words", .ref lw)] = _
  rw [putF, if_neg h2, putF, if_neg h3] <;> rfl
theorem rd_noM {line k : Nat} {lw : Addr} {m : Str} (h : (m == "line") = false ∧ (m == "words") = false ∧ (m == "at") = false) : (rdF line lw k).lookup m = none := by
  unfold rdF
  rw [List.lookup_cons, h.1, List.lookup_cons, h.2.1, List.lookup_cons, h.2.2] <;> rfl
theorem rd_len {line k : Nat} {lw : Addr} : (rdF line lw k).length < 1000 := by show 3 < 1000; decide
section
variable {H H1 : Hp} {a dx lw : Addr} {line k : Nat} {K : PySem.W.Frag}
theorem RdAt.same (s : Same H H1) (h : RdAt K H a dx line lw k) : RdAt K H1 a dx line lw k := s _ _ h
theorem RdAt.tf (h : RdAt K H a dx line lw k) : TF H [a] := TF.one h (fun _ e => by cases e) (fun _ _ e => by cases e) .nil
end
section
variable {P : Program} {w : World} {K : PySem.W.Frag} {mg : Str → Option Value} {base : Heap}
def sp_Rd_init (K : PySem.W.Frag) : Sp := fun vs H Q _ => ∃ (a dx : Addr) (line : Nat) (lw : Addr), vs = [.ref a, .int line, .ref lw] ∧ H a = some (.ins (rdC K) dx []) ∧ ∀ H', Kp [a] H H' → RdAt K H' a dx line lw 1 → Q .non H'
theorem ok_Rd_init (T : Txt K mg) : CalM P w K mg base "__init__" 1 ["self", "line", "words"] (sp_Rd_init K) := by
  refine CalM.of T.d_Rd_init b_Rd_init sc_Rd_init (fun vs H Q E h => ?_) (fun cdv A outer s H vs Q E hr h => ?_)
  · obtain ⟨_, _, _, _, rfl, _⟩ := h; rfl
  obtain ⟨a, dx, line, lw, rfl, ha, q⟩ := h
  refine ⟨_, (pss_cons (ps_fld (pv 0) (pv 1) rfl)
  (pss_cons (ps_fld (pv 0) (pv 2) rfl)
  (pss_one (ps_fld (pv 0) pe_int rfl)))), ?_⟩
  refine ⟨_, rfl, _, rfl, a, rdC K, dx, [], rfl, ha, T.Rd_cl, T.Rd_n_line, by decide, ?_⟩
  refine ⟨_, rfl, _, rfl, a, rdC K, dx, _, rfl, upd_same, T.Rd_cl, T.Rd_n_words, (by show 1 < 1000; decide), ?_⟩
  refine ⟨_, rfl, a, rdC K, dx, _, rfl, upd_same, T.Rd_cl, T.Rd_n_at, ?_, ?_⟩
  · have h1 : ¬ (("line" : Str) = "words") := by decide +kernel
    show (putF "words" (.ref lw) [(("line" : Str), V.int line)]).length < 1000
    rw [putF, if_neg h1]
    show 2 < 1000
    decide
  · rw [upd_upd, upd_upd]
    refine q _ .at ?_
    show upd H a _ a = _
    rw [upd_same]
    exact congrArg (fun fs => some (HO.ins (rdC K) dx fs)) rd_mk
def sp_Rd_end (K : PySem.W.Frag) : Sp := fun vs H Q _ => ∃ (a dx : Addr) (line : Nat) (lw : Addr) (k : Nat) (ws : List Str), vs = [.ref a] ∧ RdAt K H a dx line lw k ∧ SqL K H lw (ws.map V.str) ∧ ws.length ≤ k ∧ Q .non H
theorem ok_Rd_end (T : Txt K mg) : CalM P w K mg base "end" 1 ["self"] (sp_Rd_end K) := by
  refine CalM.of T.d_Rd_end b_Rd_end sc_Rd_end (fun vs H Q E h => ?_) (fun cdv A outer s H vs Q E hr h => ?_)
  · obtain ⟨_, _, _, _, _, _, rfl, _⟩ := h; rfl
  obtain ⟨a, dx, line, lw, k, ws, rfl, ha, hw, hk, q⟩ := h
  refine ⟨_, (pss_one (ps_if (pt_cmpR op_lt (pe_fld (pv 0) rfl) (pe_callB call_len_seq (by rfl) T.len bb_len (pa_cons (pe_fld (pv 0) rfl) pa_nil)) (nomark _)) pss_never pss_nil)), ?_⟩
  refine ⟨_, rfl, a, _, dx, _, _, rfl, ha, T.Rd_cl, T.Rd_n_at, rd_at, _, rfl, a, _, dx, _, _, rfl, ha, T.Rd_cl, T.Rd_n_words, rd_words, _, _, rfl, .inl hw, _, _, rfl, rfl, _, rfl, ?_⟩
  refine iteF' (decide_eq_false (by rw [List.length_map]; omega)) ?_
  exact q
def sp_Rd_take_expr (K : PySem.W.Frag) : Sp := fun vs H Q _ => ∃ (a dx : Addr) (line : Nat) (lw : Addr) (k : Nat) (ws : List Str) (e : E), vs = [.ref a] ∧ RdAt K H a dx line lw k ∧ SqL K H lw (ws.map V.str) ∧ e.ok ∧ ws.length ≤ 10000 ∧ (∀ j, j < e.words.length → ws[k + j]? = e.words[j]?) ∧
  ∀ H' u, Kp [a] H H' → RdAt K H' a dx line lw (k + e.parts) → Td K H' u e.d → Q u H'
theorem ok_Rd_take_expr (T : Txt K mg) : CalM P w K mg base "take_expr" 3 ["self"] (sp_Rd_take_expr K) := by
  have C_expr_in := ok_expr_in (P := P) (w := w) (base := base) T
  refine CalM.of T.d_Rd_take_expr b_Rd_take_expr sc_Rd_take_expr (fun vs H Q E h => ?_) (fun cdv A outer s H vs Q E hr h => ?_)
  · obtain ⟨_, _, _, _, _, _, _, rfl, _⟩ := h; rfl
  obtain ⟨a, dx, line, lw, k, ws, e, rfl, ha, hw, hok, hwl, hws, q⟩ := h
  refine ⟨_, (pss_cons (ps_asg (pe_callC C_expr_in (hr.mono (by decide)) rfl (pa_cons (pe_fld (pv 0) rfl) (pa_cons (pe_fld (pv 0) rfl) pa_nil))) (pg_tup (by rfl) (pgs_cons (pg_name (i := 1) sc_Rd_take_expr.nd rfl (Or.inl rfl)) (pgs_cons (pg_fld (pv 0)) pgs_nil))))
  (pss_cons (ps_if (pt_cmpR op_isN (pv 1) pe_non (nomark _)) pss_never pss_nil)
  (pss_one (ps_ret (pv 1))))), ?_⟩
  refine ⟨_, rfl, a, _, dx, _, _, rfl, ha, T.Rd_cl, T.Rd_n_words, rd_words, _, rfl, a, _, dx, _, _, rfl, ha, T.Rd_cl, T.Rd_n_at, rd_at, lw, ws, k, e, rfl, hw, hok, hwl, hws, fun H1 p x s1 hp hx => ?_⟩
  refine ⟨p, _, rfl, hp, rfl, _, _, rfl, _, _, rfl, ?_⟩
  have ha1 := ha.same s1
  refine ⟨_, rfl, a, _, dx, _, rfl, ha1, T.Rd_cl, T.Rd_n_at, rd_len, ?_⟩
  refine ⟨rfl, ?_⟩
  have hun : x ≠ V.non := by
    intro z
    rw [z] at hx
    cases e with
    | num n => obtain ⟨_, e, _⟩ := td_num hx; cases e
    | nam n => obtain ⟨_, e, _⟩ := td_nam hx; cases e
    | bin o a b => obtain ⟨_, _, _, e, _⟩ := td_bin hx; cases e
  refine ⟨_, rfl, rfl, _, rfl, ?_⟩
  refine iteF' (decide_eq_false hun) ?_
  refine ⟨_, rfl, ?_⟩
  rw [rd_put]
  exact q _ x ((Kp.of s1).put (by simp)) upd_same (Td.kp .at ha1.tf _ hx)
/-- take(fits), fits one of the two defs -/
def sp_Rd_take (K : PySem.W.Frag) : Sp := fun vs H Q _ => ∃ (a dx : Addr) (line : Nat) (lw : Addr) (k : Nat) (ws : List Str) (f : Addr) (x : Str), vs = [.ref a, .ref f] ∧ RdAt K H a dx line lw k ∧ SqL K H lw (ws.map V.str) ∧ ws[k]? = some x ∧ x.length ≤ 100000 ∧
  (f = He.ga K "is_name" ∧ isName x = true ∨ f = He.ga K "is_house" ∧ isHouse x = true) ∧ ∀ H', Kp [a] H H' → RdAt K H' a dx line lw (k + 1) → Q (.str x) H'
/-- the body of take, by what fits(word) does -/
theorem take_body (T : Txt K mg) {cdv : Value} {A : Around} {outer : List Env} {s : Shared} {H : Hp} {E : XK} {tc : TE}
    (act : ∀ p1 p2 p3, PE (cxOf CX0 P w K mg base N_Rd_take ("Reading." ++ ("take" : Str)) (defScope s_Rd_take) (rdM K "take") cdv A outer s H E).nox (.Call (.Name "fits" p1) [.Name "word" p2] [] p3) tc)
    {Q : VK} {a dx lw f : Addr} {line k : Nat} {ws : List Str} {x : Str} (ha : RdAt K H a dx line lw k) (hw : SqL K H lw (ws.map V.str)) (hx : ws[k]? = some x)
    (hc : ∀ Q' : VK, (∀ H', Same H H' → Q' (.bl true) H') → tc [some (.ref a), some (.ref f), some (.str x)] H Q')
    (q : ∀ H', Kp [a] H H' → RdAt K H' a dx line lw (k + 1) → Q (.str x) H') :
    ∃ t, PSs (cxOf CX0 P w K mg base N_Rd_take ("Reading." ++ ("take" : Str)) (defScope s_Rd_take) (rdM K "take") cdv A outer s H E).nox (defBody s_Rd_take) t ∧ t { nx := fun _ H' => Q .non H', rt := Q } (L2.start N_Rd_take [.ref a, .ref f]) H := by
  refine ⟨_, (pss_cons (ps_set (i := 2) sc_Rd_take.nd rfl (Or.inl rfl) (pe_ifExp (pt_cmpR op_lt (pe_fld (pv 0) rfl) (pe_callB call_len_seq (by rfl) T.len bb_len (pa_cons (pe_fld (pv 0) rfl) pa_nil)) (nomark _)) (pe_ix ix_list (pe_fld (pv 0) rfl) (pe_fld (pv 0) rfl) (fun _ _ => rfl)) pe_non))
  (pss_cons (ps_if (PW.pt (pw_or (pt_cmpR op_isN (pv 2) pe_non (nomark _)) (pw_or1 (pt_not (pt_val (act _ _ _)))))) pss_never pss_nil)
  (pss_cons (ps_fldaug (pv 0) pe_int in_add)
  (pss_one (ps_ret (pv 2)))))), ?_⟩
  have hk : k < ws.length := (List.getElem?_eq_some_iff.mp hx).1
  refine ⟨_, rfl, a, _, dx, _, _, rfl, ha, T.Rd_cl, T.Rd_n_at, rd_at, _, rfl, a, _, dx, _, _, rfl, ha, T.Rd_cl, T.Rd_n_words, rd_words, _, _, rfl, .inl hw, _, _, rfl, rfl, _, rfl, ?_⟩
  refine iteT' (decide_eq_true (by rw [List.length_map]; omega)) ?_
  refine ⟨_, rfl, a, _, dx, _, _, rfl, ha, T.Rd_cl, T.Rd_n_words, rd_words, _, rfl, a, _, dx, _, _, rfl, ha, T.Rd_cl, T.Rd_n_at, rd_at, _, _, _, _, rfl, rfl, hw, atI_nat (by rw [List.getElem?_map, hx]; rfl), ?_⟩
  refine ⟨_, rfl, rfl, _, rfl, ?_⟩
  refine iteF' (by rfl) ?_
  refine hc _ fun H1 s1 => ?_
  refine ⟨_, rfl, ?_⟩
  refine iteF ?_
  have ha1 := ha.same s1
  refine ⟨_, rfl, a, _, dx, _, _, rfl, ha1, T.Rd_cl, T.Rd_n_at, rd_at, _, _, rfl, rfl, dx, _, ha1, rd_len, ?_⟩
  refine ⟨_, rfl, ?_⟩
  have e : (k : Int) + 1 = ((k + 1 : Nat) : Int) := by omega
  rw [e, rd_put]
  exact q _ ((Kp.of s1).put (by simp)) upd_same
end
end Tw
set_option Elab.async false
set_option linter.all false
set_option maxRecDepth 100000
set_option maxHeartbeats 4000000
namespace Tw
open PySem PySem.Spec PyProof.Rows L2 LamX NdefX
section
variable {P : Program} {w : World} {K : PySem.W.Frag} {mg : Str → Option Value} {base : Heap}
theorem ok_Rd_take (T : Txt K mg) : CalM P w K mg base "take" 2 ["self", "fits"] (sp_Rd_take K) := by
  refine CalM.of T.d_Rd_take b_Rd_take sc_Rd_take (fun vs H Q E h => ?_) (fun cdv A outer s H vs Q E hr h => ?_)
  · obtain ⟨_, _, _, _, _, _, _, _, rfl, _⟩ := h; rfl
  obtain ⟨a, dx, line, lw, k, ws, f, x, rfl, ha, hw, hx, hxl, hf, q⟩ := h
  rcases hf with ⟨rfl, hn⟩ | ⟨rfl, hn⟩
  · obtain ⟨fd, _, hkp, hb, F⟩ := (ok_is_name (P := P) (w := w) (base := base) T).ex
    refine take_body T (tc := tCallL 1 (He.ga K "is_name") sp_is_name [] E0 (tCons (tVar 2) tNil)) (fun p1 p2 p3 => pe_callL F hr (i := 1) rfl (Or.inl rfl) hkp hb .nil pass0 (pa_cons (pv 2) pa_nil)) ha hw hx (fun Q' hq => ?_) q
    refine ⟨rfl, _, rfl, x, rfl, hxl, fun H' s' => ?_⟩
    rw [hn]
    exact hq H' s'
  · obtain ⟨fd, _, hkp, hb, F⟩ := (ok_is_house (P := P) (w := w) (base := base) T).ex
    refine take_body T (tc := tCallL 1 (He.ga K "is_house") sp_is_house [] E0 (tCons (tVar 2) tNil)) (fun p1 p2 p3 => pe_callL F hr (i := 1) rfl (Or.inl rfl) hkp hb .nil pass0 (pa_cons (pv 2) pa_nil)) ha hw hx (fun Q' hq => ?_) q
    refine ⟨rfl, _, rfl, x, rfl, ?_⟩
    rw [hn]
    exact hq H (Same.refl H)
end
/-! ### reading.take(lambda ..) -/
/-- what a lambda of one parameter is asked: it says True of x -/
def spG (good : List (Option V) → Str → Hp → Prop) : List (Option V) → Sp := fun ws vs H Q _ => ∃ x : Str, vs = [.str x] ∧ good ws x H ∧ ∀ H', Same H H' → Q (.bl true) H'
def tTakeLam (K : PySem.W.Frag) (T : List (Addr × Str)) (js : List Nat) (good : List (Option V) → Str → Hp → Prop) (ta : TE) : TE := fun σ H Q => ta σ H fun v H1 => ∃ (a dx : Addr) (line : Nat) (lw : Addr) (k : Nat) (ws : List Str) (x : Str), v = .ref a ∧ RdAt K H1 a dx line lw k ∧ Tabs T H1 ∧
  ws[k]? = some x ∧ ∀ H2, ExtN H1 H2 → (∀ b, H2 b = none → H1 b = none) → Tabs T H2 → SqL K H2 lw (ws.map V.str) ∧ good (js.map (slotAt σ)) x H2 ∧ ∀ H', Kp [a] H2 H' → RdAt K H' a dx line lw (k + 1) → Q (.str x) H'
section
variable {X : Cx}
theorem pe_takelam {Tt : Txt X.K X.mg} {T : List (Addr × Str)} {c P : Addr} {N fr : List Str} {js : List Nat} {good : List (Option V) → Str → Hp → Prop} {k : Nat} {o : Expr} {ta : TE} {params : Arguments} {body : Expr} {scope : Scope} {lpos apos pos : Pos} {pl : Sem Bool} {prm : Str}
    (he : PE X o ta) (TB : LamX.TabB X.base X.mg c P) (hcode : X.env.code = .ref c)
    (hmT : (P, X.env.qual ++ "<lambda>") ∈ T) (hu : ∀ p ∈ T, p.1 = P → p.2 = X.env.qual ++ "<lambda>") (hr : Room (k + 2) X.A)
    (hnd : ndefB X.env.scope scope fr = true) (hS : nscB N [prm] fr scope = true) (hjs : js.map (fun j => X.N[j]?) = fr.map some)
    (hdef : defaultsOf params X.env = ([], []))
    (hbind : ∀ (q : Str) (cl : List (Str × Addr)) (pm cv ctv : Value) (us : List Value), us.length = 1 → bindArgs (PySem.W.kla_fn "<lambda>" q params body scope cl pm cv ctv) ⟨us, []⟩ = pure (([prm] : List Str).zip us))
    (hbody : ∀ (cl : List (Str × Addr)) (c' f : Addr) (A : Around) (outer : List Env) (s : Shared) (H : Hp) (ws : List (Option V)) (x : Str) (Q : VK) (E : XK), Room k (A.deeper (envF (LF.nf ⟨X.env.qual ++ "<lambda>", params, body, scope, cl, c'⟩) f s.heap.objs.size)) → ws.length = fr.length → good ws x H → (∀ H', Same H H' → Q (.bl true) H') →
      ∃ t, PE (ncx CX0 X.prog X.w X.K X.mg X.base N (LF.nf ⟨X.env.qual ++ "<lambda>", params, body, scope, cl, c'⟩) f A outer s H E) body t ∧ t (startF N [.str x] ws) H Q)
    (ht : eval (.Call (.Attribute o "take" apos) [.Lambda params body scope lpos] [] pos) X.env = (do
      let ov ← eval o X.env
      standAt apos.atName
      let (f, first) ← holding [ov] (getMethod ov "take" pl)
      callWith pos f first (backTo pos (starEach [.Lambda params body scope lpos] X.env)) (backToKw pos (keywordEach [] X.env))) := by rfl) :
    PE X (.Call (.Attribute o "take" apos) [.Lambda params body scope lpos] [] pos) (tTakeLam X.K T js good ta) := by
  refine ⟨fun pins s σ H Q I h => ?_⟩
  refine PySem.W.methodCall_KW (pl := pl) (thn (he.run pins s σ H _ I h) fun u s1 ⟨v, H1, I1, rx, a, dx, line, lw, kk, ws, x, ex, ea, hT, hx, q⟩ => ?_) ht
  subst ex
  obtain rfl : u = Value.ref a := rx
  have hm := Tt.Rd_m_take
  refine getmeth_ok I1 ea Tt.Rd_cl hm (rd_noM (by decide +kernel)) ?_
  refine PySem.W.callWith_K (first := [.ref a]) (h₀ := X.base) I.ok.mod.kin hm.kp ?_ (by rfl) (by rfl)
  show wpAny _ _ (spliced ((false, eval (.Lambda params body scope lpos) X.env) :: backTo pos (starEach [] X.env))) _ _ s1
  have hfree : ∀ y ∈ scope.names, y.2 = .free → ∃ c, X.env.cells.lookup y.1 = some c := fun y hy e => (ndef_free hnd y hy e).elim (fun z => I1.ok.has _ (.inl z)) fun z => I1.ok.has _ (.inr z)
  refine Calls.spliced_cons (lam_make3 I1 TB hcode hmT hu hT hdef hfree fun f c' H2 s' I2 eN nn T2 f0 f1 c1 => ?_)
  refine Calls.spliced_nil ⟨I2.kIn, ?_⟩
  obtain ⟨fd, FD⟩ := Tt.d_Rd_take
  obtain ⟨oc, od, dV, kV, doc, pm, an, cdv, ct, osl, rfl, lk, hcd, _, _⟩ := FD.ex
  have hb := FD.bindsN b_Rd_take
  have S := nscope_by hS
  have LO : LOk X.prog X.w X.K X.mg X.base CX0 (k + 1) f ⟨X.env.qual ++ "<lambda>", params, body, scope, cloFrom X.env.cells scope.names [], c'⟩ [prm] fr (spG good) := by
    refine lok_of S (fun pm ctv us hl => hbind _ _ _ _ _ us hl) (fun ws vs H Q E hsp => ?_) fun A outer s H vs ws Q E hr' hwl hsp => ?_
    · obtain ⟨y, rfl, _⟩ := hsp; rfl
    · obtain ⟨y, rfl, hg, hq⟩ := hsp
      exact hbody _ _ f A outer s H ws y Q E hr' hwl hg hq
  have hC := cells_of I2 (Caps.made (fr := fr) (js := js) I2.ok (ndef_free hnd) (ndef_fr hnd) hjs)
  have ha2 : RdAt X.K H2 a dx line lw kk := eN _ _ ea (fun ps z => by cases z)
  obtain ⟨q1, q2, q3⟩ := q H2 eN nn T2
  have rc : codeAny (model X.prog X.w) X.A (.call (.ref (rdM X.K "take")) ⟨[.ref a, .ref f], []⟩) (CR CX0 X.stack X.prog X.w H2 s' Q E0) s' := by
    refine run_ofS (N := N_Rd_take) (ps := ["self", "fits"]) (us := [.ref a, .ref f]) (vs := [.ref a, .ref f]) lk hcd sc_Rd_take hr I2.env0 (hb s' [.ref a, .ref f] I2.kIn rfl) (.cons rfl (.cons rfl .nil)) rfl fun hr' => ?_
    obtain ⟨t, ht', hq'⟩ := take_body Tt (tc := tActL f ⟨X.env.qual ++ "<lambda>", params, body, scope, cloFrom X.env.cells scope.names [], c'⟩ (js.map (slotAt σ)) 1 (spG good) E0 (tCons (tVar 2) tNil))
      (fun p1 p2 p3 => pe_actL LO hC rfl hr' (Nat.le_refl _) pass0 (by rfl) (Or.inl rfl) (pa_cons (pv 2) pa_nil)) ha2 q1 hx (fun Q' hq => ⟨rfl, f1, _, rfl, f1, c1, x, rfl, q2, hq⟩) q3
    exact ⟨t, ht'.nox, hq'⟩
  refine wpAny_call (codeAny_mono rc fun r s2 hq => ?_)
  cases r with
  | error e => exact (show False from hq).elim
  | ok fl =>
    cases fl with
    | ret u => exact I2.after hq
    | next => exact False.elim hq
    | brk => exact False.elim hq
    | cont => exact False.elim hq
end
end Tw
set_option Elab.async false
set_option linter.all false
set_option maxRecDepth 100000
set_option maxHeartbeats 4000000
namespace Tw
open PySem PySem.Spec PyProof.Rows L2 LamX NdefX
/-! ### the tables of the two defs that make lambdas -/
def lamQ (x : Str) : Str := (x ++ ".<locals>.") ++ "<lambda>"
abbrev tbA (K : PySem.W.Frag) (x : Str) : Addr := (He.cT K (x, none)).2
abbrev cdA (K : PySem.W.Frag) (x : Str) : Addr := (He.cT K (x, none)).1
def TT (K : PySem.W.Frag) : List (Addr × Str) := [(tbA K "read_row", lamQ "read_row"), (tbA K "read_mark", lamQ "read_mark")]
structure Tb (K : PySem.W.Frag) (mg : Str → Option Value) (base : Heap) : Prop where
  row : LamX.TabB base mg (cdA K "read_row") (tbA K "read_row")
  mark : LamX.TabB base mg (cdA K "read_mark") (tbA K "read_mark")
  ne : tbA K "read_row" ≠ tbA K "read_mark"
theorem tt_row {K : PySem.W.Frag} (h : tbA K "read_row" ≠ tbA K "read_mark") : ∀ p ∈ TT K, p.1 = tbA K "read_row" → p.2 = lamQ "read_row" := by
  intro p hp e
  simp only [TT, List.mem_cons, List.not_mem_nil, or_false] at hp
  rcases hp with z | z
  · rw [z]
  · rw [z] at e
    exact absurd e.symm h
theorem tt_mark {K : PySem.W.Frag} (h : tbA K "read_row" ≠ tbA K "read_mark") : ∀ p ∈ TT K, p.1 = tbA K "read_mark" → p.2 = lamQ "read_mark" := by
  intro p hp e
  simp only [TT, List.mem_cons, List.not_mem_nil, or_false] at hp
  rcases hp with z | z
  · rw [z] at e
    exact absurd e h
  · rw [z]
section
variable {P : Program} {w : World} {K : PySem.W.Frag} {mg : Str → Option Value} {base : Heap} {x : Str} {ps : List Str} {sp : Sp} {st : Stmt} {N : List Str} {k : Nat}
/-- the rule of a def, its code object told -/
theorem Cal.ofT (D : DefAt K mg x st) (b : BindsOk x st ps) (S : FnScope N ps (defScope st)) (len : ∀ vs H Q E, sp vs H Q E → vs.length = ps.length)
    (hbody : ∀ (cdv : Value) (A : Around) (outer : List Env) (s : Shared) (H : Hp) (vs : List V) (Q : VK) (E : XK), cdv = .ref (cdA K x) → Room k (A.deeper (envOfC x (defScope st) s.heap.objs.size (He.ga K x) cdv)) → sp vs H Q E →
      ∃ t, PSs (cxOf CX0 P w K mg base N x (defScope st) (He.ga K x) cdv A outer s H E).nox (defBody st) t ∧ t { nx := fun _ H' => Q .non H', rt := Q } (L2.start N vs) H) : Cal P w K mg base x (k + 1) ps sp := by
  obtain ⟨g, fd, F⟩ := D
  have hB := F.bindsN b
  have hkp := F.kp
  obtain ⟨oc, od, dV, kV, doc, pm, an, cdv, ct, osl, rfl, lk, hcd, _, _⟩ := F.ex
  obtain ⟨c, rfl⟩ := He.codeIn_ref hcd
  have ec : cdA K x = c := He.codeOf_eq (p := (x, none)) lk rfl
  refine ⟨_, g, hkp, hB, fn_of lk hcd S len fun A outer s H vs Q E hr hsp => ?_⟩
  obtain ⟨t, h, q⟩ := hbody (.ref c) A outer s H vs Q E (by rw [ec]) hr hsp
  exact ⟨t, h.nox, q⟩
end
/-! ### what stays, but the tables -/
structure Kn (M : List Addr) (H H' : Hp) : Prop where
  at_ : ∀ b o, H b = some o → b ∉ M → (∀ ps, o ≠ .tbl ps) → H' b = some o
  nn : ∀ b, H' b = none → H b = none
section
variable {M M' : List Addr} {H H1 H2 : Hp} {a p : Addr} {o : HO} {K : PySem.W.Frag} {xs ys : List V} {v : V} {ds : List PyData}
theorem Kn.refl (M : List Addr) (H : Hp) : Kn M H H := ⟨fun _ _ h _ _ => h, fun _ h => h⟩
theorem Kn.of (k : Kp M H H1) (h : ∀ m ∈ M, H1 m ≠ none) : Kn M H H1 := ⟨fun b o e n _ => k b o e n, fun b e => by
  cases q : H b with
  | none => rfl
  | some u =>
    exfalso
    by_cases hb : b ∈ M
    · exact h b hb e
    · rw [k b u q hb] at e
      cases e⟩
theorem Kn.of1 {u : HO} (k : Kp [a] H H1) (h : H1 a = some u) : Kn [a] H H1 := Kn.of k fun m hm => by rw [List.mem_singleton.mp hm, h]; exact fun z => by cases z
theorem Kn.ofS (k : Same H H1) : Kn M H H1 := ⟨fun b o h _ _ => k b o h, fun b h => k.free h⟩
theorem Kn.ext (k : ExtN H H1) (nn : ∀ b, H1 b = none → H b = none) : Kn M H H1 := ⟨fun b o h _ n => k b o h n, nn⟩
theorem Kn.trans (a : Kn M H H1) (b : Kn M H1 H2) : Kn M H H2 := ⟨fun c o h n t => b.at_ c o (a.at_ c o h n t) n t, fun c h => a.nn c (b.nn c h)⟩
theorem Kn.mono (k : Kn M H H1) (h : ∀ b ∈ M, b ∈ M') : Kn M' H H1 := ⟨fun c o e n t => k.at_ c o e (fun z => n (h c z)) t, k.nn⟩
theorem Kn.put (k : Kn M H H1) (h : p ∈ M) : Kn M H (upd H1 p o) := ⟨fun b x e n t => by
  rw [upd_ne (fun z => n (by rw [z]; exact h))]; exact k.at_ b x e n t, fun b e => by
  by_cases hb : b = p
  · rw [hb, upd_same] at e; cases e
  · rw [upd_ne hb] at e; exact k.nn b e⟩
theorem Kn.new (k : Kn M H H1) (h : H p = none) : Kn M H (upd H1 p o) := ⟨fun b x e n t => by rw [upd_ne (ne_of_none e h)]; exact k.at_ b x e n t, fun b e => by
  by_cases hb : b = p
  · rw [hb]; exact h
  · rw [upd_ne hb] at e; exact k.nn b e⟩
theorem Kn.fresh (k : Kn M H H1) (h : H1 p = none) : H p = none := k.nn p h
theorem Kn.lst (k : Kn M H H1) (n : a ∉ M) (h : H a = some (.lst xs)) : H1 a = some (.lst xs) := k.at_ a _ h n fun ps z => by cases z
theorem Kn.dK {kvs : List (L2.Key × V)} (k : Kn M H H1) (n : a ∉ M) (h : H a = some (.dK kvs)) : H1 a = some (.dK kvs) := k.at_ a _ h n fun ps z => by cases z
theorem Kn.tup (k : Kn M H H1) (f : TF H M) (h : SqT K H a xs) : SqT K H1 a xs := by
  rcases h with h | h
  · rcases h with h | ⟨ob, h⟩
    · exact .inl (.inl (k.at_ _ _ h (fun z => (f _ z _ h).1 _ rfl) (fun ps z => by cases z)))
    · exact .inl (.inr ⟨ob, k.at_ _ _ h (fun z => (f _ z _ h).2 _ _ rfl) (fun ps z => by cases z)⟩)
  · exact .inr h
mutual
theorem Td.kn (k : Kn M H H1) (f : TF H M) : ∀ {v : V} (d : PyData), Td K H v d → Td K H1 v d
  | _, .none, h => by rw [Td] at h ⊢; exact h
  | _, .bool _, h => by rw [Td] at h ⊢; exact h
  | _, .int _, h => by rw [Td] at h ⊢; exact h
  | _, .str _, h => by rw [Td] at h ⊢; exact h
  | _, .tuple ds, h => by
    rw [Td] at h ⊢
    obtain ⟨a, xs, e, t, q⟩ := h
    exact ⟨a, xs, e, k.tup f t, TdA.kn k f ds q⟩
  | _, .list _, h => by rw [Td] at h; exact h.elim
  | _, .dict _, h => by rw [Td] at h; exact h.elim
theorem TdA.kn (k : Kn M H H1) (f : TF H M) : ∀ {vs : List V} (ds : List PyData), TdA K H vs ds → TdA K H1 vs ds
  | _, [], h => by rw [TdA] at h ⊢; exact h
  | _, d :: ds, h => by
    rw [TdA] at h ⊢
    obtain ⟨v, r, e, h1, h2⟩ := h
    exact ⟨v, r, e, Td.kn k f d h1, TdA.kn k f ds h2⟩
end
/-- nothing that was tracked is gone -/
theorem tabs_same {T : List (Addr × Str)} (t : Tabs T H) (s : Same H H1) : Tabs T H1 := t.ext s
/-- the tables stay where nothing but other things is changed -/
theorem codeO_kn {c : Addr} {q : Str} (k : Kn M H H1) (n : c ∉ M) (h : H c = some (CodeO c q)) : H1 c = some (CodeO c q) := k.at_ _ _ h n fun ps z => codeO_ne ps z
theorem tabs_kp {T : List (Addr × Str)} (t : Tabs T H) (k : Kp M H H1) (hM : ∀ m ∈ M, ∀ u, H m = some u → (∀ ps, u ≠ .tbl ps) ∧ ∀ c q, u ≠ CodeO c q) : Tabs T H1 := fun p hp => by
  obtain ⟨ps, h1, h2, h3⟩ := t p hp
  refine ⟨ps, k _ _ h1 fun z => (hM _ z _ h1).1 _ rfl, h2, fun pos cv hc => ?_⟩
  obtain ⟨c, e1, e2⟩ := h3 pos cv hc
  exact ⟨c, e1, k _ _ e2 fun z => (hM _ z _ e2).2 _ _ rfl⟩
theorem tabs_put {T : List (Addr × Str)} {u : HO} (t : Tabs T H) (h : H a = some u) (h1 : ∀ ps, u ≠ .tbl ps) (h2 : ∀ c q, u ≠ CodeO c q) : Tabs T (upd H a o) :=
  tabs_kp (M := [a]) t Kp.at fun m hm v hv => by
    rw [List.mem_singleton.mp hm, h] at hv
    cases hv
    exact ⟨h1, h2⟩
theorem codeO_lst {c : Addr} {q : Str} : HO.lst xs ≠ CodeO c q := fun z => by unfold CodeO at z; cases z
theorem codeO_dK {c : Addr} {q : Str} {kvs : List (L2.Key × V)} : HO.dK kvs ≠ CodeO c q := fun z => by unfold CodeO at z; cases z
theorem codeO_ins {c : Addr} {q : Str} {C dx : Addr} {fs : List (Str × V)} : HO.ins C dx fs ≠ CodeO c q := fun z => by unfold CodeO at z; cases z
end
end Tw
set_option Elab.async false
set_option linter.all false
set_option maxRecDepth 100000
set_option maxHeartbeats 4000000
namespace Tw
open PySem PySem.Spec PyProof.Rows L2 LamX NdefX
/-! ### a row just read: its own lists, its blocks still empty -/
def ShellAt (K : PySem.W.Frag) (H0 H : Hp) (p : Addr) : Row → Prop
  | .lt op x e => ∃ u, H p = some (.lst [.str (ltw op), .str x, u]) ∧ Td K H u e.d
  | .ask x h k => H p = some (.lst [.str "ask", .str x, .str h, .bl k])
  | .say h e => ∃ u, H p = some (.lst [.str "say", .str h, u]) ∧ Td K H u e.d
  | .iff e _ _ => ∃ u b1 b2, H p = some (.lst [.str "if", u, .ref b1, .ref b2]) ∧ Td K H u e.d ∧ H b1 = some (.lst []) ∧ H b2 = some (.lst []) ∧ b1 ≠ b2 ∧ H0 b1 = none ∧ H0 b2 = none ∧ p ≠ b1 ∧ p ≠ b2
  | .whl e _ => ∃ u b1, H p = some (.lst [.str "while", u, .ref b1]) ∧ Td K H u e.d ∧ H b1 = some (.lst []) ∧ H0 b1 = none ∧ p ≠ b1
theorem word_head (r : Row) : r.words[0]? = some r.hd := by cases r <;> rfl
def good1 : List (Option V) → Str → Hp → Prop := fun _ x _ => x = "="
def good2 : List (Option V) → Str → Hp → Prop := fun ws x H => ∃ (d : Addr) (kvs : List (L2.Key × V)) (nm : Str), ws = [some (.ref d), some (.str nm)] ∧ isHouse x = true ∧ H d = some (.dK kvs) ∧ (valV kvs (Sum.inr nm) = none ∨ valV kvs (Sum.inr nm) = some (.str x))
section
variable {P : Program} {w : World} {K : PySem.W.Frag} {mg : Str → Option Value} {base : Heap}
def sp_read_row (K : PySem.W.Frag) : Sp := fun vs H Q _ => ∃ (a dx : Addr) (line : Nat) (lw d : Addr) (r : Row) (hm : Str → Str) (kvs : List (L2.Key × V)), vs = [.ref a, .ref d] ∧ RdAt K H a dx line lw 1 ∧ H lw = some (.lst (r.words.map V.str)) ∧ r.ok hm ∧ HsOk hm ∧ H d = some (.dK kvs) ∧ Homes hm kvs ∧ kvs.length ≤ 1000 ∧ Tabs (TT K) H ∧
  ∀ H' p kvs', Kn [a, d] H H' → Tabs (TT K) H' → H' d = some (.dK kvs') → Homes hm kvs' → kvs'.length ≤ kvs.length + 1 → H p = none → ShellAt K H H' p r → Q (.ref p) H'
theorem ok_read_row (T : Txt K mg) (B : Tb K mg base) : Cal P w K mg base "read_row" 5 ["reading", "homes"] (sp_read_row K) := by
  have C_Rd_take := (ok_Rd_take (P := P) (w := w) (base := base) T)
  have C_Rd_take_expr := (ok_Rd_take_expr (P := P) (w := w) (base := base) T)
  have C_Rd_end := (ok_Rd_end (P := P) (w := w) (base := base) T)
  have C_is_house := ok_is_house (P := P) (w := w) (base := base) T
  refine Cal.ofT T.d_read_row b_read_row sc_read_row (fun vs H Q E h => ?_) (fun cdv A outer s H vs Q E hcd hr h => ?_)
  · obtain ⟨_, _, _, _, _, _, _, _, rfl, _⟩ := h; rfl
  obtain ⟨a, dx, line, lw, d, r, hm, kvs, rfl, ha, hlw, hok, hhs, hd, hho, hkl, hT, q⟩ := h
  subst hcd
  have hu := hu_of hr
  refine ⟨_, (pss_cons (ps_set (i := 2) sc_read_row.nd rfl (Or.inl rfl) (pe_ix ix_list (pe_fld (pv 0) rfl) pe_int (fun _ _ => rfl)))
  (pss_cons (ps_if (pt_cmpR op_in_seq (pv 2) (pe_tup (pa_cons pe_str (pa_cons pe_str pa_nil))) (by rfl)) (pss_cons (ps_set (i := 3) sc_read_row.nd rfl (Or.inr rfl) (pe_methC C_Rd_take T.Rd_cl T.Rd_m_take (hr.mono (by decide)) (pv 0) (pa_cons (pe_ctup (T.d_is_name).1 rfl) pa_nil)))
  (pss_cons (ps_expr (pe_takelam (Tt := T) (T := TT K) (N := ["sign"]) (fr := []) (js := []) (good := good1) (k := 1) (prm := "sign") (pv 0) B.row rfl (List.mem_cons_self ..) (tt_row B.ne) (hr.mono (by decide)) (by show ndefB (defScope s_read_row) _ _ = true; decide +kernel) (by decide +kernel) rfl rfl (fun _ _ _ _ _ us hl => match us, hl with | [_], _ => rfl)
      (fun cl c' f A outer s H ws x Q E hr2 hl hg hq2 => ⟨_, pe_cmpR op_eq (pv 0) pe_str (nomark _), by cases hg; exact ⟨_, rfl, rfl, hq2 H (Same.refl H)⟩⟩)))
  (pss_one (ps_set (i := 4) sc_read_row.nd rfl (Or.inl rfl) (pe_lst (pa_cons (pv 2) (pa_cons (pv 3) (pa_cons (pe_methC0 C_Rd_take_expr T.Rd_cl T.Rd_m_take_expr (hr.mono (by decide)) (pv 0)) pa_nil)))))))) (pss_one (ps_if (pt_cmpR op_eq (pv 2) pe_str (nomark _)) (pss_cons (ps_set (i := 3) sc_read_row.nd rfl (Or.inr rfl) (pe_methC C_Rd_take T.Rd_cl T.Rd_m_take (hr.mono (by decide)) (pv 0) (pa_cons (pe_ctup (T.d_is_name).1 rfl) pa_nil)))
  (pss_cons (ps_set (i := 5) sc_read_row.nd rfl (Or.inl rfl) (pe_takelam (Tt := T) (T := TT K) (N := ["sign", "homes", "name"]) (fr := ["homes", "name"]) (js := [1, 3]) (good := good2) (k := 2) (prm := "sign") (pv 0) B.row rfl (List.mem_cons_self ..) (tt_row B.ne) (hr.mono (by decide)) (by show ndefB (defScope s_read_row) _ _ = true; decide +kernel) (by decide +kernel) rfl rfl (fun _ _ _ _ _ us hl => match us, hl with | [_], _ => rfl)
      (fun cl c' f A outer s H ws x Q E hr2 hl hg hq2 => ⟨_, pe_and (pe_callC C_is_house (hr2.mono (by decide)) rfl (pa_cons (pv 0) pa_nil)) (pe_one (pe_cmpR op_eq (pe_dget2 (hu_of hr2) (pv 1) (pv 2) (pv 0) ⟨rfl, rfl, rfl, rfl⟩) (pv 0) (nomark _))), by
        obtain ⟨d, kvs, nm, rfl, hx, hd, hv⟩ := hg
        refine ⟨_, rfl, x, rfl, ?_⟩
        rw [hx]
        refine ⟨_, rfl, ?_⟩
        refine iteT ?_
        refine ⟨_, rfl, d, rfl, .inl ⟨_, .of hd⟩, _, rfl, _, rfl, _, DGet.k (k := Sum.inr nm) hd, _, rfl, ?_⟩
        have e1 : (valV kvs (Sum.inr nm)).getD (V.str x) = V.str x := by
          rcases hv with z | z
          · rw [z] <;> rfl
          · rw [z] <;> rfl
        rw [e1]
        refine ⟨rfl, ?_⟩
        rw [decide_eq_true rfl]
        exact hq2 H (Same.refl H)⟩)))
  (pss_cons (ps_set (i := 6) sc_read_row.nd rfl (Or.inl rfl) (pe_and (pe_cmpR op_lt (pe_fld (pv 0) rfl) (pe_callB call_len_seq (by rfl) T.len bb_len (pa_cons (pe_fld (pv 0) rfl) pa_nil)) (nomark _)) (pe_one (pe_cmpR op_eq (pe_ix ix_list (pe_fld (pv 0) rfl) (pe_fld (pv 0) rfl) (fun _ _ => rfl)) pe_str (nomark _)))))
  (pss_cons (ps_fldaug (pv 0) (pe_callTy call_int1 (by rfl) T.int bb_int (pa_cons (pv 6) pa_nil)) in_add)
  (pss_cons (ps_dput hu (pv 1) (pv 3) (pv 5) rfl)
  (pss_one (ps_set (i := 4) sc_read_row.nd rfl (Or.inl rfl) (pe_lst (pa_cons (pv 2) (pa_cons (pv 3) (pa_cons (pv 5) (pa_cons (pv 6) pa_nil)))))))))))) (pss_one (ps_if (pt_cmpR op_eq (pv 2) pe_str (nomark _)) (pss_cons (ps_set (i := 5) sc_read_row.nd rfl (Or.inl rfl) (pe_methC C_Rd_take T.Rd_cl T.Rd_m_take (hr.mono (by decide)) (pv 0) (pa_cons (pe_ctup (T.d_is_house).1 rfl) pa_nil)))
  (pss_one (ps_set (i := 4) sc_read_row.nd rfl (Or.inl rfl) (pe_lst (pa_cons (pv 2) (pa_cons (pv 5) (pa_cons (pe_methC0 C_Rd_take_expr T.Rd_cl T.Rd_m_take_expr (hr.mono (by decide)) (pv 0)) pa_nil))))))) (pss_one (ps_if (pt_cmpR op_in_seq (pv 2) (pe_tup (pa_cons pe_str (pa_cons pe_str pa_nil))) (by rfl)) (pss_one (ps_set (i := 4) sc_read_row.nd rfl (Or.inl rfl) (pe_op op_cat (pe_lst (pa_cons (pv 2) (pa_cons (pe_methC0 C_Rd_take_expr T.Rd_cl T.Rd_m_take_expr (hr.mono (by decide)) (pv 0)) (pa_cons (pe_lst pa_nil) pa_nil)))) (pe_ifExp (pt_cmpR op_eq (pv 2) pe_str (nomark _)) (pe_lst (pa_cons (pe_lst pa_nil) pa_nil)) (pe_lst pa_nil))))) pss_never)))))))
  (pss_cons (ps_expr (pe_methC0 C_Rd_end T.Rd_cl T.Rd_m_end (hr.mono (by decide)) (pv 0)))
  (pss_one (ps_ret (pv 4)))))), ?_⟩
  have hal : lw ≠ a := fun z => by rw [z, ha] at hlw; cases hlw
  have hdl : lw ≠ d := fun z => by rw [z, hd] at hlw; cases hlw
  have had : d ≠ a := fun z => by rw [z, ha] at hd; cases hd
  have hwl := r.words_len hok
  refine ⟨_, rfl, a, _, dx, _, _, rfl, ha, T.Rd_cl, T.Rd_n_words, rd_words, _, _, _, _, rfl, rfl, .of hlw, (atI_nat (j := 0) (by rw [List.getElem?_map, word_head]; rfl)), ?_⟩
  refine ⟨_, rfl, (by show 2 ≤ sizeLine; decide), fun p0 hp0 => ?_⟩
  have s1 := same_new hp0 (o := .tup [V.str "let", V.str "open"])
  refine ⟨_, _, rfl, .inr (SqT.of upd_same), rfl, rfl, _, rfl, ?_⟩
  show if inV (V.str r.hd) [V.str "let", V.str "open"] = true then _ else _
  rw [hd_let2]
  have k1 : Kn [a, d] H (upd H p0 (.tup [V.str "let", V.str "open"])) := .ofS s1
  have ha1 := ha.same s1
  have hlw1 := s1 _ _ hlw
  have hd1 := s1 _ _ hd
  have T1 := hT.ext s1
  generalize upd H p0 (.tup [V.str "let", V.str "open"]) = H1 at k1 ha1 hlw1 hd1 T1 ⊢
  clear s1 hp0 hT hlw ha
  have nad : lw ∉ [a] := by simp [hal]
  have ndd : d ∉ [a] := by simp [had]
  have kna : ∀ {H H' : Hp}, Kn [a] H H' → Kn [a, d] H H' := fun k => k.mono fun b hb => by rw [List.mem_singleton.mp hb]; simp
  have insT : ∀ {H H' : Hp} {kk : Nat}, Tabs (TT K) H → RdAt K H a dx line lw kk → Kp [a] H H' → Tabs (TT K) H' := fun t h k => tabs_kp t k fun m hm' u hu' => by
    rw [List.mem_singleton.mp hm', h] at hu'
    cases hu'
    exact ⟨fun _ z => (by cases z), fun _ _ => codeO_ins⟩
  cases r with
  | lt op x e =>
    refine iteT ?_
    obtain ⟨h1, h2⟩ : isName x = true ∧ e.ok := hok
    refine ⟨_, rfl, a, dx, _, rfl, ha1, rd_noM (by decide +kernel), a, dx, line, lw, 1, _, He.ga K "is_name", x, rfl, ha1, .of hlw1, rfl, by have := name_len h1; omega, .inl ⟨rfl, h1⟩, fun H2 k2 hr2 => ?_⟩
    have T2 := insT T1 ha1 k2
    have hlw2 := k2 _ _ hlw1 nad
    have hd2 := k2 _ _ hd1 ndd
    have n2 := k1.trans (kna (Kn.of1 k2 hr2))
    refine ⟨_, rfl, a, dx, line, lw, 2, _, "=", rfl, hr2, T2, rfl, fun H3 e3 nn3 T3 => ⟨.of (e3 _ _ hlw2 fun _ z => by cases z), rfl, fun H4 k4 hr4 => ?_⟩⟩
    have hr3 : RdAt K H3 a dx line lw 2 := e3 _ _ hr2 fun _ z => by cases z
    have T4 := insT T3 hr3 k4
    have hlw4 := k4 _ _ (e3 _ _ hlw2 fun _ z => by cases z) nad
    have hd4 := k4 _ _ (e3 _ _ hd2 fun _ z => by cases z) ndd
    have n4 := (n2.trans (Kn.ext e3 nn3)).trans (kna (Kn.of1 k4 hr4))
    have hel := e.words_len
    refine ⟨_, rfl, _, rfl, _, rfl, a, dx, _, rfl, hr4, rd_noM (by decide +kernel), a, dx, line, lw, 3, _, e, rfl, hr4, .of hlw4, h2, by omega, fun j hj => ?_, fun H5 u k5 hr5 hu5 => ?_⟩
    · show (ltw op :: x :: "=" :: e.words)[3 + j]? = _
      rw [show 3 + j = j + 1 + 1 + 1 by omega]
      simp only [List.getElem?_cons_succ]
    have T5 := insT T4 hr4 k5
    have hlw5 := k5 _ _ hlw4 nad
    have hd5 := k5 _ _ hd4 ndd
    have n5 := n4.trans (kna (Kn.of1 k5 hr5))
    refine ⟨(by show 3 ≤ sizeLine; decide), fun p6 np6 => ?_⟩
    have s6 := same_new np6 (o := .lst [V.str (ltw op), .str x, u])
    refine ⟨_, rfl, a, dx, _, rfl, hr5.same s6, rd_noM (by decide +kernel), a, dx, line, lw, 3 + e.parts, _, rfl, hr5.same s6, .of (s6 _ _ hlw5), by show (ltw op :: x :: "=" :: e.words).length ≤ _; simp only [List.length_cons]; omega, ?_⟩
    refine ⟨_, rfl, ?_⟩
    exact q _ p6 kvs (n5.trans (.ofS s6)) (T5.ext s6) (s6 _ _ hd5) hho (by omega) (n5.fresh np6) ⟨u, upd_same, hu5.same s6⟩
  | ask x h k =>
    refine iteF ?_
    obtain ⟨h1, h2⟩ : isName x = true ∧ h = hm x := hok
    refine ⟨_, rfl, rfl, _, rfl, ?_⟩
    refine iteT' (by show decide (V.str "ask" = V.str "ask") = true; decide +kernel) ?_
    refine ⟨_, rfl, a, dx, _, rfl, ha1, rd_noM (by decide +kernel), a, dx, line, lw, 1, _, He.ga K "is_name", x, rfl, ha1, .of hlw1, rfl, by have := name_len h1; omega, .inl ⟨rfl, h1⟩, fun H2 k2 hr2 => ?_⟩
    have T2 := insT T1 ha1 k2
    have hlw2 := k2 _ _ hlw1 nad
    have hd2 := k2 _ _ hd1 ndd
    have n2 := k1.trans (kna (Kn.of1 k2 hr2))
    have hhx : isHouse h = true := by rw [h2]; exact hhs x
    refine ⟨_, rfl, a, dx, line, lw, 2, _, h, rfl, hr2, T2, rfl, fun H3 e3 nn3 T3 => ⟨.of (e3 _ _ hlw2 fun _ z => by cases z), ⟨d, kvs, x, rfl, hhx, e3 _ _ hd2 (fun _ z => by cases z), ?_⟩, fun H4 k4 hr4 => ?_⟩⟩
    · rw [h2]; exact hho x
    have hr3 : RdAt K H3 a dx line lw 2 := e3 _ _ hr2 fun _ z => by cases z
    have T4 := insT T3 hr3 k4
    have hlw4 := k4 _ _ (e3 _ _ hlw2 fun _ z => by cases z) nad
    have hd4 := k4 _ _ (e3 _ _ hd2 fun _ z => by cases z) ndd
    have n4 := (n2.trans (Kn.ext e3 nn3)).trans (kna (Kn.of1 k4 hr4))
    refine ⟨_, rfl, a, _, dx, _, _, rfl, hr4, T.Rd_cl, T.Rd_n_at, rd_at, _, rfl, a, _, dx, _, _, rfl, hr4, T.Rd_cl, T.Rd_n_words, rd_words, _, _, rfl, .inl (.of hlw4), _, _, rfl, rfl, _, rfl, ?_⟩
    -- behind the look for «kept»
    have fin : ∀ H5 : Hp, H5 = upd H4 a (.ins (rdC K) dx (rdF line lw (if k then 4 else 3))) → (tSeq (sDPut (tVar 1) (tVar 3) (tVar 5)) (tSeq (tAsg (tLst (tCons (tVar 2) (tCons (tVar 3) (tCons (tVar 5) (tCons (tVar 6) tNil))))) (gName 4)) (tSeq (tDrop (tMeth (rdC K) "end" (sp_Rd_end K) [] E0 (tVar 0) tNil)) (tRet (tVar 4))))) { nx := fun _ H' => Q .non H', rt := Q } [some (.ref a), some (.ref d), some (.str "ask"), some (.str x), none, some (.str h), some (.bl k)] H5 := by
      intro H5 e5
      have k5 : Kp [a] H4 H5 := by rw [e5]; exact Kp.at
      have hr5 : RdAt K H5 a dx line lw (if k then 4 else 3) := by rw [e5]; exact upd_same
      have T5 := insT T4 hr4 k5
      have hlw5 := k5 _ _ hlw4 nad
      have hd5 := k5 _ _ hd4 ndd
      have n5 := n4.trans (kna (Kn.of1 k5 hr5))
      refine ⟨_, rfl, _, rfl, _, rfl, d, _, rfl, DPut.k (k := Sum.inr x) hd5 (by rw [sizeLine_eq]; omega), ?_⟩
      have hlp := length_putK kvs (Sum.inr x) (V.str h)
      have T6 : Tabs (TT K) (upd H5 d (.dK (putK kvs (Sum.inr x) (.str h)))) := tabs_put T5 hd5 (fun _ z => by cases z) (fun _ _ => codeO_dK)
      have n6 : Kn [a, d] H (upd H5 d (.dK (putK kvs (Sum.inr x) (.str h)))) := n5.put (by simp)
      have hr6 : RdAt K (upd H5 d (.dK (putK kvs (Sum.inr x) (.str h)))) a dx line lw (if k then 4 else 3) := by show upd H5 d _ a = _; rw [upd_ne (Ne.symm had)]; exact hr5
      have hlw6 : upd H5 d (.dK (putK kvs (Sum.inr x) (.str h))) lw = _ := (upd_ne hdl).trans hlw5
      have hd6 : upd H5 d (.dK (putK kvs (Sum.inr x) (.str h))) d = some (.dK (putK kvs (Sum.inr x) (.str h))) := upd_same
      generalize upd H5 d (.dK (putK kvs (Sum.inr x) (.str h))) = H6 at T6 n6 hr6 hlw6 hd6 ⊢
      refine ⟨_, rfl, _, rfl, _, rfl, _, rfl, (by show 4 ≤ sizeLine; decide), fun p7 n7 => ?_⟩
      have s7 := same_new n7 (o := .lst [V.str "ask", .str x, .str h, .bl k])
      refine ⟨_, rfl, a, dx, _, rfl, hr6.same s7, rd_noM (by decide +kernel), a, dx, line, lw, _, _, rfl, hr6.same s7, .of (s7 _ _ hlw6), by cases k <;> exact Nat.le_refl _, ?_⟩
      refine ⟨_, rfl, ?_⟩
      exact q _ p7 _ (n6.trans (.ofS s7)) (T6.ext s7) (s7 _ _ hd6) (by rw [h2]; exact hho.put x) (by omega) (n6.fresh n7) upd_same
    cases k with
    | true =>
      refine iteT' (by rfl) ?_
      refine ⟨_, rfl, a, _, dx, _, _, rfl, hr4, T.Rd_cl, T.Rd_n_words, rd_words, _, rfl, a, _, dx, _, _, rfl, hr4, T.Rd_cl, T.Rd_n_at, rd_at, _, _, _, _, rfl, rfl, .of hlw4, (atI_nat (j := 3) rfl), rfl, ?_⟩
      refine ⟨_, rfl, a, _, dx, _, _, rfl, hr4, T.Rd_cl, T.Rd_n_at, rd_at, _, rfl, .inr ⟨_, rfl, _, _, rfl, rfl, dx, _, hr4, rd_len, ?_⟩⟩
      have ek : decide (V.str "kept" = V.str "kept") = true := by decide +kernel
      rw [ek]
      refine fin _ ?_
      show upd H4 a (.ins (rdC K) dx (putF "at" (.int ((4 : Nat) : Int)) (rdF line lw 3))) = _
      rw [rd_put] <;> rfl
    | false =>
      refine iteF' (by rfl) ?_
      refine ⟨_, rfl, a, _, dx, _, _, rfl, hr4, T.Rd_cl, T.Rd_n_at, rd_at, _, rfl, .inr ⟨_, rfl, _, _, rfl, rfl, dx, _, hr4, rd_len, ?_⟩⟩
      refine fin _ ?_
      show upd H4 a (.ins (rdC K) dx (putF "at" (.int ((3 : Nat) : Int)) (rdF line lw 3))) = _
      rw [rd_put] <;> rfl
  | say h e =>
    refine iteF ?_
    obtain ⟨h1, h2⟩ : isHouse h = true ∧ e.ok := hok
    refine ⟨_, rfl, rfl, _, rfl, ?_⟩
    refine iteF' (by show decide (V.str "say" = V.str "ask") = false; decide +kernel) ?_
    refine ⟨_, rfl, rfl, _, rfl, ?_⟩
    refine iteT' (by show decide (V.str "say" = V.str "say") = true; decide +kernel) ?_
    refine ⟨_, rfl, a, dx, _, rfl, ha1, rd_noM (by decide +kernel), a, dx, line, lw, 1, _, He.ga K "is_house", h, rfl, ha1, .of hlw1, rfl, by have := (wd_house h1).len; omega, .inr ⟨rfl, h1⟩, fun H4 k4 hr4 => ?_⟩
    have T4 := insT T1 ha1 k4
    have hlw4 := k4 _ _ hlw1 nad
    have hd4 := k4 _ _ hd1 ndd
    have n4 := k1.trans (kna (Kn.of1 k4 hr4))
    have hel := e.words_len
    refine ⟨_, rfl, _, rfl, _, rfl, a, dx, _, rfl, hr4, rd_noM (by decide +kernel), a, dx, line, lw, 2, _, e, rfl, hr4, .of hlw4, h2, by omega, fun j hj => ?_, fun H5 u k5 hr5 hu5 => ?_⟩
    · show (("say" : Str) :: h :: e.words)[2 + j]? = _
      rw [show 2 + j = j + 1 + 1 by omega]
      simp only [List.getElem?_cons_succ]
    have T5 := insT T4 hr4 k5
    have hlw5 := k5 _ _ hlw4 nad
    have hd5 := k5 _ _ hd4 ndd
    have n5 := n4.trans (kna (Kn.of1 k5 hr5))
    refine ⟨(by show 3 ≤ sizeLine; decide), fun p6 np6 => ?_⟩
    have s6 := same_new np6 (o := .lst [V.str "say", .str h, u])
    refine ⟨_, rfl, a, dx, _, rfl, hr5.same s6, rd_noM (by decide +kernel), a, dx, line, lw, 2 + e.parts, _, rfl, hr5.same s6, .of (s6 _ _ hlw5), by show (("say" : Str) :: h :: e.words).length ≤ _; simp only [List.length_cons]; omega, ?_⟩
    refine ⟨_, rfl, ?_⟩
    exact q _ p6 kvs (n5.trans (.ofS s6)) (T5.ext s6) (s6 _ _ hd5) hho (by omega) (n5.fresh np6) ⟨u, upd_same, hu5.same s6⟩
  | iff e ba bb =>
    refine iteF ?_
    have h2 : e.ok := hok.1
    refine ⟨_, rfl, rfl, _, rfl, ?_⟩
    refine iteF' (by show decide (V.str "if" = V.str "ask") = false; decide +kernel) ?_
    refine ⟨_, rfl, rfl, _, rfl, ?_⟩
    refine iteF' (by show decide (V.str "if" = V.str "say") = false; decide +kernel) ?_
    refine ⟨_, rfl, (by show 2 ≤ sizeLine; decide), fun p3 np3 => ?_⟩
    have s3 := same_new np3 (o := .tup [V.str "if", V.str "while"])
    refine ⟨_, _, rfl, .inr (SqT.of upd_same), rfl, rfl, _, rfl, ?_⟩
    refine iteT' (by show inV (.str "if") [.str "if", .str "while"] = true; decide +kernel) ?_
    have k4 : Kn [a, d] H (upd H1 p3 (.tup [V.str "if", V.str "while"])) := k1.trans (.ofS s3)
    have hr4 := ha1.same s3
    have hlw4 := s3 _ _ hlw1
    have hd4 := s3 _ _ hd1
    have T4 := T1.ext s3
    generalize upd H1 p3 (.tup [V.str "if", V.str "while"]) = H4 at k4 hr4 hlw4 hd4 T4 ⊢
    have hel := e.words_len
    refine ⟨_, rfl, _, rfl, a, dx, _, rfl, hr4, rd_noM (by decide +kernel), a, dx, line, lw, 1, _, e, rfl, hr4, .of hlw4, h2, by omega, fun j hj => ?_, fun H5 u k5 hr5 hu5 => ?_⟩
    · show (("if" : Str) :: e.words)[1 + j]? = _
      rw [show 1 + j = j + 1 by omega]
      simp only [List.getElem?_cons_succ]
    have T5 := insT T4 hr4 k5
    have hlw5 := k5 _ _ hlw4 nad
    have hd5 := k5 _ _ hd4 ndd
    have n5 := k4.trans (kna (Kn.of1 k5 hr5))
    refine ⟨(by show 0 ≤ sizeLine; decide), fun b1 nb1 => ?_⟩
    have s6 := same_new nb1 (o := .lst [])
    refine ⟨(by show 3 ≤ sizeLine; decide), fun l7 nl7 => ?_⟩
    have s7 := same_new nl7 (o := .lst [V.str (Row.iff e ba bb).hd, u, .ref b1])
    have n1l : b1 ≠ l7 := fun z => by rw [← z, upd_same] at nl7; cases nl7
    have hb1 : upd (upd H5 b1 (.lst [])) l7 (.lst [V.str (Row.iff e ba bb).hd, u, .ref b1]) b1 = some (.lst []) := upd2_same n1l
    have hl7 : upd (upd H5 b1 (.lst [])) l7 (.lst [V.str (Row.iff e ba bb).hd, u, .ref b1]) l7 = _ := upd_same
    have n7 := n5.trans (.ofS (s6.trans s7))
    have f1 := n5.fresh nb1
    have hu7 := hu5.same (s6.trans s7)
    have hr7 := hr5.same (s6.trans s7)
    have hlw7 := (s6.trans s7) _ _ hlw5
    have hd7 := (s6.trans s7) _ _ hd5
    have T7 := T5.ext (s6.trans s7)
    generalize upd (upd H5 b1 (.lst [])) l7 (.lst [V.str (Row.iff e ba bb).hd, u, .ref b1]) = H7 at hb1 hl7 n7 hu7 hr7 hlw7 hd7 T7 ⊢
    refine ⟨_, rfl, rfl, _, rfl, ?_⟩
    refine iteT' (by show decide (V.str "if" = V.str "if") = true; decide +kernel) ?_
    refine ⟨(by show 0 ≤ sizeLine; decide), fun b2 nb2 => ?_⟩
    have s8 := same_new nb2 (o := .lst [])
    have n12 : b1 ≠ b2 := fun z => by rw [← z, hb1] at nb2; cases nb2
    have f2 := n7.fresh nb2
    refine ⟨(by show 1 ≤ sizeLine; decide), fun l9 nl9 => ?_⟩
    have s9 := s8.trans (same_new nl9 (o := .lst [V.ref b2]))
    have n2l : b2 ≠ l9 := fun z => by rw [← z, upd_same] at nl9; cases nl9
    have hb2 : upd (upd H7 b2 (.lst [])) l9 (.lst [V.ref b2]) b2 = some (.lst []) := upd2_same n2l
    have hl9 : upd (upd H7 b2 (.lst [])) l9 (.lst [V.ref b2]) l9 = _ := upd_same
    refine ⟨l7, l9, _, _, rfl, rfl, s9 _ _ hl7, hl9, (by show 4 ≤ sizeLine; decide), fun p6 np6 => ?_⟩
    have s6' := s9.trans (same_new np6 (o := .lst ([V.str "if", u, .ref b1] ++ [V.ref b2])))
    have hb1' := s6' _ _ hb1
    have hb2' := (same_new np6 (o := .lst ([V.str "if", u, .ref b1] ++ [V.ref b2]))) _ _ hb2
    refine ⟨_, rfl, a, dx, _, rfl, hr7.same s6', rd_noM (by decide +kernel), a, dx, line, lw, 1 + e.parts, _, rfl, hr7.same s6', .of (s6' _ _ hlw7), by show (("if" : Str) :: e.words).length ≤ _; simp only [List.length_cons]; omega, ?_⟩
    refine ⟨_, rfl, ?_⟩
    exact q _ p6 kvs (n7.trans (.ofS s6')) (T7.ext s6') (s6' _ _ hd7) hho (by omega) (n7.fresh (s9.free np6)) ⟨u, b1, b2, upd_same, hu7.same s6', hb1', hb2', n12, f1, f2, fun z => (by rw [z, s9 _ _ hb1] at np6; cases np6), fun z => (by rw [z, hb2] at np6; cases np6)⟩
  | whl e ba =>
    refine iteF ?_
    have h2 : e.ok := hok.1
    refine ⟨_, rfl, rfl, _, rfl, ?_⟩
    refine iteF' (by show decide (V.str "while" = V.str "ask") = false; decide +kernel) ?_
    refine ⟨_, rfl, rfl, _, rfl, ?_⟩
    refine iteF' (by show decide (V.str "while" = V.str "say") = false; decide +kernel) ?_
    refine ⟨_, rfl, (by show 2 ≤ sizeLine; decide), fun p3 np3 => ?_⟩
    have s3 := same_new np3 (o := .tup [V.str "if", V.str "while"])
    refine ⟨_, _, rfl, .inr (SqT.of upd_same), rfl, rfl, _, rfl, ?_⟩
    refine iteT' (by show inV (.str "while") [.str "if", .str "while"] = true; decide +kernel) ?_
    have k4 : Kn [a, d] H (upd H1 p3 (.tup [V.str "if", V.str "while"])) := k1.trans (.ofS s3)
    have hr4 := ha1.same s3
    have hlw4 := s3 _ _ hlw1
    have hd4 := s3 _ _ hd1
    have T4 := T1.ext s3
    generalize upd H1 p3 (.tup [V.str "if", V.str "while"]) = H4 at k4 hr4 hlw4 hd4 T4 ⊢
    have hel := e.words_len
    refine ⟨_, rfl, _, rfl, a, dx, _, rfl, hr4, rd_noM (by decide +kernel), a, dx, line, lw, 1, _, e, rfl, hr4, .of hlw4, h2, by omega, fun j hj => ?_, fun H5 u k5 hr5 hu5 => ?_⟩
    · show (("while" : Str) :: e.words)[1 + j]? = _
      rw [show 1 + j = j + 1 by omega]
      simp only [List.getElem?_cons_succ]
    have T5 := insT T4 hr4 k5
    have hlw5 := k5 _ _ hlw4 nad
    have hd5 := k5 _ _ hd4 ndd
    have n5 := k4.trans (kna (Kn.of1 k5 hr5))
    refine ⟨(by show 0 ≤ sizeLine; decide), fun b1 nb1 => ?_⟩
    have s6 := same_new nb1 (o := .lst [])
    refine ⟨(by show 3 ≤ sizeLine; decide), fun l7 nl7 => ?_⟩
    have s7 := same_new nl7 (o := .lst [V.str (Row.whl e ba).hd, u, .ref b1])
    have n1l : b1 ≠ l7 := fun z => by rw [← z, upd_same] at nl7; cases nl7
    have hb1 : upd (upd H5 b1 (.lst [])) l7 (.lst [V.str (Row.whl e ba).hd, u, .ref b1]) b1 = some (.lst []) := upd2_same n1l
    have hl7 : upd (upd H5 b1 (.lst [])) l7 (.lst [V.str (Row.whl e ba).hd, u, .ref b1]) l7 = _ := upd_same
    have n7 := n5.trans (.ofS (s6.trans s7))
    have f1 := n5.fresh nb1
    have hu7 := hu5.same (s6.trans s7)
    have hr7 := hr5.same (s6.trans s7)
    have hlw7 := (s6.trans s7) _ _ hlw5
    have hd7 := (s6.trans s7) _ _ hd5
    have T7 := T5.ext (s6.trans s7)
    generalize upd (upd H5 b1 (.lst [])) l7 (.lst [V.str (Row.whl e ba).hd, u, .ref b1]) = H7 at hb1 hl7 n7 hu7 hr7 hlw7 hd7 T7 ⊢
    refine ⟨_, rfl, rfl, _, rfl, ?_⟩
    refine iteF' (by show decide (V.str "while" = V.str "if") = false; decide +kernel) ?_
    refine ⟨(by show 0 ≤ sizeLine; decide), fun l9 nl9 => ?_⟩
    have s9 := same_new nl9 (o := .lst [])
    refine ⟨l7, l9, _, _, rfl, rfl, s9 _ _ hl7, upd_same, (by show 3 ≤ sizeLine; decide), fun p6 np6 => ?_⟩
    have s6' := s9.trans (same_new np6 (o := .lst ([V.str "while", u, .ref b1] ++ [])))
    have hb1' := s6' _ _ hb1
    refine ⟨_, rfl, a, dx, _, rfl, hr7.same s6', rd_noM (by decide +kernel), a, dx, line, lw, 1 + e.parts, _, rfl, hr7.same s6', .of (s6' _ _ hlw7), by show (("while" : Str) :: e.words).length ≤ _; simp only [List.length_cons]; omega, ?_⟩
    refine ⟨_, rfl, ?_⟩
    exact q _ p6 kvs (n7.trans (.ofS s6')) (T7.ext s6') (s6' _ _ hd7) hho (by omega) (n7.fresh (s9.free np6)) ⟨u, b1, upd_same, hu7.same s6', hb1', f1, fun z => (by rw [z, s9 _ _ hb1] at np6; cases np6)⟩
end
end Tw
set_option Elab.async false
set_option linter.all false
set_option maxRecDepth 100000
set_option maxHeartbeats 4000000
namespace Tw
open PySem PySem.Spec PyProof.Rows L2 LamX NdefX TL
/-! ### blanks ahead -/
theorem lstrip_len {d : Nat} {s : Str} (h : ∀ c r, tl s = c :: r → c ≠ 32) : (Txt.lstripChars (ahead d ++ s) " ").length = s.length := by
  unfold Txt.lstripChars
  rw [stripBy_eq]
  have e0 : stripLo (" " : Str).cps.contains true (ahead d ++ s) = 2 * d := by
    show ((tl (ahead d ++ s)).takeWhile (" " : Str).cps.contains).length = 2 * d
    rw [tl_append, tl_ahead]
    have h32 : (" " : Str).cps.contains 32 = true := by decide +kernel
    have hs : (tl s).takeWhile (" " : Str).cps.contains = [] := by
      cases e : tl s with
      | nil => rfl
      | cons c r =>
        rw [List.takeWhile_cons]
        have : (" " : Str).cps.contains c = false := by
          have hc := h c r e
          have e1 : (" " : Str).cps = #[32] := by decide +kernel
          rw [e1]
          simp
          exact hc
        rw [this] <;> rfl
    generalize 2 * d = n
    induction n with
    | zero => rw [List.replicate_zero, List.nil_append, hs] <;> rfl
    | succ n ih => rw [List.replicate_succ, List.cons_append, List.takeWhile_cons, h32, if_pos rfl, List.length_cons, ih]
  rw [e0]
  have e1 : stripHi (" " : Str).cps.contains false (ahead d ++ s) (2 * d) = (ahead d ++ s).length := rfl
  rw [e1, len_tl, tl_strSub_end, tl_append, List.length_drop, List.length_append, tl_ahead, List.length_replicate, len_tl]
  omega
def good3 (K : PySem.W.Frag) : List (Option V) → Str → Hp → Prop := fun ws x H => ∃ (lm : Addr) (xs : List V) (ms : List (Str × Str)), ws = [some (.ref lm)] ∧ isName x = true ∧ H lm = some (.lst xs) ∧ TdA K H xs (ms.map markD) ∧ ∀ m ∈ ms, slt m.1 x
section
variable {P : Program} {w : World} {K : PySem.W.Frag} {mg : Str → Option Value} {base : Heap}
def sp_blanks_of : Sp := fun vs H Q _ => ∃ (d : Nat) (s : Str), vs = [.str (ahead d ++ s)] ∧ (∀ c r, tl s = c :: r → c ≠ 32) ∧ (ahead d ++ s).length ≤ 100000 ∧ Q (.int ((2 * d : Nat) : Int)) H
theorem ok_blanks_of (T : Txt K mg) : Cal P w K mg base "blanks_of" 1 ["line"] sp_blanks_of := by
  refine Cal.of T.d_blanks_of b_blanks_of sc_blanks_of (fun vs H Q E h => ?_) (fun cdv A outer s H vs Q E hr h => ?_)
  · obtain ⟨_, _, rfl, _⟩ := h; rfl
  obtain ⟨d, s, rfl, hs, hl, q⟩ := h
  have hl' : (ahead d ++ s).length ≤ sizeLine := by rw [sizeLine_eq]; omega
  refine ⟨_, (pss_one (ps_ret (pe_op op_sub (pe_callB call_len_str (by rfl) T.len bb_len (pa_cons (pv 0) pa_nil)) (pe_callB call_len_str (by rfl) T.len bb_len (pa_cons (pe_lstripC (pv 0) pe_str) pa_nil))))), ?_⟩
  have e1 := lstrip_len (d := d) hs
  have e2 : (ahead d ++ s).length = 2 * d + s.length := by rw [len_tl, tl_append, List.length_append, tl_ahead, List.length_replicate, ← len_tl]
  refine ⟨_, rfl, _, rfl, hl', _, rfl, ⟨_, rfl⟩, _, _, rfl, rfl, hl', _, rfl, (by rw [e1]; omega), _, _, rfl, rfl, ?_⟩
  rw [e1, e2]
  have e3 : ((2 * d + s.length : Nat) : Int) - ((s.length : Nat) : Int) = ((2 * d : Nat) : Int) := by omega
  show Q (.int (((2 * d + s.length : Nat) : Int) - ((s.length : Nat) : Int))) H
  rw [e3]
  exact q
def sp_read_else (K : PySem.W.Frag) : Sp := fun vs H Q _ => ∃ (a dx : Addr) (line : Nat) (lw lb p b1 b2 : Addr) (zs : List V) (u : V), vs = [.ref a, .ref lb] ∧ RdAt K H a dx line lw 1 ∧ H lw = some (.lst [.str "else"]) ∧ H lb = some (.lst (zs ++ [.ref p])) ∧ H p = some (.lst [.str "if", u, .ref b1, .ref b2]) ∧
  ∀ H', Kp [p] H H' → H' p = some (.lst [.str "if", u, .ref b1, .ref b2, .str "else"]) → Q (.ref b2) H'
theorem ok_read_else (T : Txt K mg) : Cal P w K mg base "read_else" 2 ["reading", "block"] (sp_read_else K) := by
  have C_Rd_end := (ok_Rd_end (P := P) (w := w) (base := base) T)
  refine Cal.of T.d_read_else b_read_else sc_read_else (fun vs H Q E h => ?_) (fun cdv A outer s H vs Q E hr h => ?_)
  · obtain ⟨_, _, _, _, _, _, _, _, _, _, rfl, _⟩ := h; rfl
  obtain ⟨a, dx, line, lw, lb, p, b1, b2, zs, u, rfl, ha, hlw, hlb, hp, q⟩ := h
  refine ⟨_, (pss_cons (ps_set (i := 2) sc_read_else.nd rfl (Or.inl rfl) (pe_ifExp (pt_cmpR (op_neE hr.units0) (pv 1) (pe_lst pa_nil) (nomark _)) (pe_ix ix_list (pv 1) (pe_un un_neg pe_int) (fun _ _ => rfl)) pe_non))
  (pss_cons (ps_if (PW.pt (pw_or (pt_cmpR op_isN (pv 2) pe_non (nomark _)) (pw_or (pt_cmpR op_ne (pe_ix ix_list (pv 2) pe_int (fun _ _ => rfl)) pe_str (nomark _)) (pw_or1 (pt_cmpR op_ne (pe_callB call_len_seq (by rfl) T.len bb_len (pa_cons (pv 2) pa_nil)) pe_int (nomark _)))))) pss_never pss_nil)
  (pss_cons (ps_expr (pe_methC0 C_Rd_end T.Rd_cl T.Rd_m_end (hr.mono (by decide)) (pv 0)))
  (pss_cons (ps_expr (pe_bm PySem.F.plainAttrs_list PySem.F.slot_list_append PySem.F.type_list_append mt_append (pv 2) (pa_cons pe_str pa_nil)))
  (pss_one (ps_ret (pe_ix ix_list (pv 2) pe_int (fun _ _ => rfl)))))))), ?_⟩
  refine ⟨_, rfl, (by show 0 ≤ sizeLine; decide), fun p0 hp0 => ?_⟩
  have s1 := same_new hp0 (o := .lst [])
  refine ⟨lb, p0, _, rfl, rfl, .inl ⟨.of (s1 _ _ hlb), .of upd_same⟩, _, rfl, ?_⟩
  refine iteT' (by simp) ?_
  have hp1 := s1 _ _ hp
  refine ⟨_, rfl, 1, rfl, _, _, _, _, rfl, rfl, .of (s1 _ _ hlb), atI_last _ _, ?_⟩
  refine ⟨_, rfl, rfl, _, rfl, ?_⟩
  refine iteF' (by rfl) ?_
  refine ⟨_, rfl, _, _, _, _, rfl, rfl, .of hp1, rfl, rfl, _, rfl, ?_⟩
  refine iteF' (by decide +kernel) ?_
  refine ⟨_, rfl, _, _, rfl, .inl (.of hp1), rfl, _, rfl, ?_⟩
  refine iteF' (by rfl) ?_
  refine ⟨_, rfl, a, dx, _, rfl, ha.same s1, rd_noM (by decide +kernel), a, dx, line, lw, 1, ["else"], rfl, ha.same s1, .of (s1 _ _ hlw), Nat.le_refl _, ?_⟩
  refine ⟨_, rfl, Or.inl ⟨rfl, _, SqL.of hp1⟩, p, _, _, rfl, rfl, hp1, (by show 4 < sizeLine; decide), ?_⟩
  refine ⟨_, rfl, _, _, _, _, rfl, rfl, .of upd_same, rfl, ?_⟩
  exact q _ ((Kp.of s1).put (by simp)) upd_same
def sp_read_mark (K : PySem.W.Frag) : Sp := fun vs H Q _ => ∃ (a dx : Addr) (line : Nat) (lw lm : Addr) (xs : List V) (ms : List (Str × Str)) (x h : Str), vs = [.ref a, .ref lm] ∧ RdAt K H a dx line lw 1 ∧ H lw = some (.lst [.str "mark", .str x, .str h]) ∧ H lm = some (.lst xs) ∧ TdA K H xs (ms.map markD) ∧
  (∀ m ∈ ms, slt m.1 x) ∧ isName x = true ∧ isHouse h = true ∧ Tabs (TT K) H ∧ ∀ H' p, Kn [a] H H' → Tabs (TT K) H' → H p = none → H' p = some (.tup [.str x, .str h]) → Q (.ref p) H'
theorem ok_read_mark (T : Txt K mg) (B : Tb K mg base) : Cal P w K mg base "read_mark" 5 ["reading", "marks"] (sp_read_mark K) := by
  have C_Rd_take := (ok_Rd_take (P := P) (w := w) (base := base) T)
  have C_Rd_end := (ok_Rd_end (P := P) (w := w) (base := base) T)
  have C_is_name := ok_is_name (P := P) (w := w) (base := base) T
  refine Cal.ofT T.d_read_mark b_read_mark sc_read_mark (fun vs H Q E h => ?_) (fun cdv A outer s H vs Q E hcd hr h => ?_)
  · obtain ⟨_, _, _, _, _, _, _, _, _, rfl, _⟩ := h; rfl
  obtain ⟨a, dx, line, lw, lm, xs, ms, x, h, rfl, ha, hlw, hlm, hxs, hlt, hx, hh, hT, q⟩ := h
  subst hcd
  refine ⟨_, (pss_cons (ps_set (i := 2) sc_read_mark.nd rfl (Or.inl rfl) (pe_takelam (Tt := T) (T := TT K) (N := ["sign", "marks"]) (fr := ["marks"]) (js := [1]) (good := good3 K) (k := 2) (prm := "sign") (pv 0) B.mark rfl (List.mem_cons_of_mem _ (List.mem_cons_self ..)) (tt_mark B.ne) (hr.mono (by decide)) (by show ndefB (defScope s_read_mark) _ _ = true; decide +kernel) (by decide +kernel) rfl rfl (fun _ _ _ _ _ us hl => match us, hl with | [_], _ => rfl)
      (fun cl c' f A outer s H ws x Q E hr2 hl hg hq2 => ⟨_, pe_and (pe_callC C_is_name (hr2.mono (by decide)) rfl (pa_cons (pv 0) pa_nil)) (pe_one (pe_or (pe_cmpR (op_eqE hr2.units0) (pv 1) (pe_lst pa_nil) (nomark _)) (pe_one (pe_cmpR op_lt_str (pe_ix ix_tup (pe_ix ix_list (pv 1) (pe_un un_neg pe_int) (fun _ _ => rfl)) pe_int (fun _ _ => rfl)) (pv 0) (nomark _))))), by
        obtain ⟨lm, xs, ms, rfl, hx, hm, hxs, hlt⟩ := hg
        refine ⟨_, rfl, x, rfl, by have := name_len hx; omega, fun H1 s1 => ?_⟩
        rw [hx]
        refine ⟨_, rfl, ?_⟩
        refine iteT ?_
        refine ⟨_, rfl, (by show 0 ≤ sizeLine; decide), fun p0 hp0 => ?_⟩
        have s2 := s1.trans (same_new hp0 (o := .lst []))
        refine ⟨lm, p0, xs, rfl, rfl, .inl ⟨.of (s2 _ _ hm), .of upd_same⟩, _, rfl, ?_⟩
        rcases ms.eq_nil_or_concat with e | ⟨ms', m, e⟩
        · rw [e] at hxs
          rw [hxs.nil_of]
          refine iteT' (by rfl) ?_
          exact hq2 _ s2
        · rw [e, List.concat_eq_append, List.map_append] at hxs
          have h1 : TdA K H xs.reverse (markD m :: (ms'.map markD).reverse) := by
            have := hxs.reverse
            simpa using this
          obtain ⟨v, vs', e1, h2, h3⟩ := TdA.cons_of h1
          have e2 : xs = vs'.reverse ++ [v] := by
            have := congrArg List.reverse e1
            rw [List.reverse_reverse] at this
            rw [this, List.reverse_cons]
          subst e2
          obtain ⟨b, y1, y2, rfl, hb, g1, g2⟩ := Td.t2 h2
          obtain rfl := td_str.mp g1
          refine iteF' (by simp) ?_
          refine ⟨_, rfl, 1, rfl, _, _, _, _, rfl, rfl, .of (s2 _ _ hm), atI_last _ _, _, _, _, _, rfl, rfl, same_tup s2 hb, rfl, _, rfl, _, _, rfl, rfl, ?_⟩
          have hlt' : slt m.1 x := hlt m (by rw [e, List.concat_eq_append]; simp)
          rw [decide_eq_true (show m.1.cps.toList < x.cps.toList from hlt')]
          exact hq2 _ s2⟩)))
  (pss_cons (ps_set (i := 3) sc_read_mark.nd rfl (Or.inl rfl) (pe_methC C_Rd_take T.Rd_cl T.Rd_m_take (hr.mono (by decide)) (pv 0) (pa_cons (pe_ctup (T.d_is_house).1 rfl) pa_nil)))
  (pss_cons (ps_expr (pe_methC0 C_Rd_end T.Rd_cl T.Rd_m_end (hr.mono (by decide)) (pv 0)))
  (pss_one (ps_ret (pe_tup (pa_cons (pv 2) (pa_cons (pv 3) pa_nil)))))))), ?_⟩
  have hal : lw ≠ a := fun z => by rw [z, ha] at hlw; cases hlw
  have nad : lw ∉ [a] := by simp [hal]
  have insT : ∀ {H H' : Hp} {kk : Nat}, Tabs (TT K) H → RdAt K H a dx line lw kk → Kp [a] H H' → Tabs (TT K) H' := fun t h k => tabs_kp t k fun m hm' u hu' => by
    rw [List.mem_singleton.mp hm', h] at hu'
    cases hu'
    exact ⟨fun _ z => (by cases z), fun _ _ => codeO_ins⟩
  refine ⟨_, rfl, a, dx, line, lw, 1, ["mark", x, h], x, rfl, ha, hT, rfl, fun H2 e2 nn2 T2 => ⟨.of (e2 _ _ hlw fun _ z => by cases z), ⟨lm, xs, ms, rfl, hx, e2 _ _ hlm (fun _ z => by cases z), TdA.kn (Kn.ext (M := []) e2 nn2) .nil _ hxs, hlt⟩, fun H3 k3 hr3 => ?_⟩⟩
  have hr2 : RdAt K H2 a dx line lw 1 := e2 _ _ ha fun _ z => by cases z
  have T3 := insT T2 hr2 k3
  have hlw3 := k3 _ _ (e2 _ _ hlw fun _ z => by cases z) nad
  have n3 : Kn [a] H H3 := (Kn.ext e2 nn2).trans (Kn.of1 k3 hr3)
  refine ⟨_, rfl, a, dx, _, rfl, hr3, rd_noM (by decide +kernel), a, dx, line, lw, 2, ["mark", x, h], He.ga K "is_house", h, rfl, hr3, .of hlw3, rfl, by have := (wd_house hh).len; omega, .inr ⟨rfl, hh⟩, fun H4 k4 hr4 => ?_⟩
  have T4 := insT T3 hr3 k4
  have hlw4 := k4 _ _ hlw3 nad
  have n4 := n3.trans (Kn.of1 k4 hr4)
  refine ⟨_, rfl, a, dx, _, rfl, hr4, rd_noM (by decide +kernel), a, dx, line, lw, 3, ["mark", x, h], rfl, hr4, .of hlw4, Nat.le_refl _, ?_⟩
  refine ⟨_, rfl, _, rfl, (by show 2 ≤ sizeLine; decide), fun p5 n5 => ?_⟩
  have s5 := same_new n5 (o := .tup [V.str x, .str h])
  exact q _ p5 (n4.trans (.ofS s5)) (T4.ext s5) (n4.fresh n5) upd_same
end
end Tw
set_option Elab.async false
set_option linter.all false
set_option maxRecDepth 100000
set_option maxHeartbeats 4000000
namespace Tw
open PySem PySem.Spec PyProof.Rows L2 LamX NdefX TL
/-! ### rows as the lists that the reader builds; m: the mark behind an else may stand; F: where the lists stand -/
def ifTl (m : Bool) (tl : List V) : Prop := tl = [] ∨ (m = true ∧ tl = [.str "else"])
mutual
def RowAt (K : PySem.W.Frag) (m : Bool) (F : Addr → Prop) (H : Hp) : V → Row → Prop
  | v, .lt op x e => ∃ p u, v = .ref p ∧ F p ∧ H p = some (.lst [.str (ltw op), .str x, u]) ∧ Td K H u e.d
  | v, .ask x h k => ∃ p, v = .ref p ∧ F p ∧ H p = some (.lst [.str "ask", .str x, .str h, .bl k])
  | v, .say h e => ∃ p u, v = .ref p ∧ F p ∧ H p = some (.lst [.str "say", .str h, u]) ∧ Td K H u e.d
  | v, .iff e a b => ∃ p u b1 b2 tl vs1 vs2, v = .ref p ∧ F p ∧ H p = some (.lst ([.str "if", u, .ref b1, .ref b2] ++ tl)) ∧ ifTl m tl ∧ Td K H u e.d ∧ F b1 ∧ H b1 = some (.lst vs1) ∧ RowsAt K m F H vs1 a ∧ F b2 ∧ H b2 = some (.lst vs2) ∧ RowsAt K m F H vs2 b
  | v, .whl e a => ∃ p u b1 vs1, v = .ref p ∧ F p ∧ H p = some (.lst [.str "while", u, .ref b1]) ∧ Td K H u e.d ∧ F b1 ∧ H b1 = some (.lst vs1) ∧ RowsAt K m F H vs1 a
def RowsAt (K : PySem.W.Frag) (m : Bool) (F : Addr → Prop) (H : Hp) : List V → List Row → Prop
  | vs, [] => vs = []
  | vs, r :: rs => ∃ v vs', vs = v :: vs' ∧ RowAt K m F H v r ∧ RowsAt K m F H vs' rs
end
section
variable {K : PySem.W.Frag} {m : Bool} {F F' : Addr → Prop} {H H' : Hp}
mutual
theorem RowAt.gen (hl : ∀ p l, F p → H p = some (.lst l) → F' p ∧ H' p = some (.lst l)) (ht : ∀ v d, Td K H v d → Td K H' v d) : ∀ {v : V} (r : Row), RowAt K m F H v r → RowAt K m F' H' v r
  | v, .lt op x e, h => by
    rw [RowAt] at h ⊢
    obtain ⟨p, u, e1, f, hp, hu⟩ := h
    obtain ⟨f', hp'⟩ := hl _ _ f hp
    exact ⟨p, u, e1, f', hp', ht _ _ hu⟩
  | v, .ask x h0 k, h => by
    rw [RowAt] at h ⊢
    obtain ⟨p, e1, f, hp⟩ := h
    obtain ⟨f', hp'⟩ := hl _ _ f hp
    exact ⟨p, e1, f', hp'⟩
  | v, .say h0 e, h => by
    rw [RowAt] at h ⊢
    obtain ⟨p, u, e1, f, hp, hu⟩ := h
    obtain ⟨f', hp'⟩ := hl _ _ f hp
    exact ⟨p, u, e1, f', hp', ht _ _ hu⟩
  | v, .iff e a b, h => by
    rw [RowAt] at h ⊢
    obtain ⟨p, u, b1, b2, tl, vs1, vs2, e1, f, hp, i, hu, f1, h1, r1, f2, h2, r2⟩ := h
    obtain ⟨f', hp'⟩ := hl _ _ f hp
    obtain ⟨f1', h1'⟩ := hl _ _ f1 h1
    obtain ⟨f2', h2'⟩ := hl _ _ f2 h2
    exact ⟨p, u, b1, b2, tl, vs1, vs2, e1, f', hp', i, ht _ _ hu, f1', h1', RowsAt.gen hl ht a r1, f2', h2', RowsAt.gen hl ht b r2⟩
  | v, .whl e a, h => by
    rw [RowAt] at h ⊢
    obtain ⟨p, u, b1, vs1, e1, f, hp, hu, f1, h1, r1⟩ := h
    obtain ⟨f', hp'⟩ := hl _ _ f hp
    obtain ⟨f1', h1'⟩ := hl _ _ f1 h1
    exact ⟨p, u, b1, vs1, e1, f', hp', ht _ _ hu, f1', h1', RowsAt.gen hl ht a r1⟩
theorem RowsAt.gen (hl : ∀ p l, F p → H p = some (.lst l) → F' p ∧ H' p = some (.lst l)) (ht : ∀ v d, Td K H v d → Td K H' v d) : ∀ {vs : List V} (rs : List Row), RowsAt K m F H vs rs → RowsAt K m F' H' vs rs
  | vs, [], h => by rw [RowsAt] at h ⊢; exact h
  | vs, r :: rs, h => by
    rw [RowsAt] at h ⊢
    obtain ⟨v, vs', e, h1, h2⟩ := h
    exact ⟨v, vs', e, RowAt.gen hl ht r h1, RowsAt.gen hl ht rs h2⟩
end
theorem RowsAt.same (s : Same H H') {vs : List V} {rs : List Row} (h : RowsAt K m F H vs rs) : RowsAt K m F H' vs rs := RowsAt.gen (fun p l f e => ⟨f, s _ _ e⟩) (fun _ _ t => t.same s) rs h
theorem RowAt.same (s : Same H H') {v : V} {r : Row} (h : RowAt K m F H v r) : RowAt K m F H' v r := RowAt.gen (fun p l f e => ⟨f, s _ _ e⟩) (fun _ _ t => t.same s) r h
theorem RowsAt.kp {M : List Addr} (k : Kp M H H') (f : TF H M) (n : ∀ p, F p → p ∉ M) {vs : List V} {rs : List Row} (h : RowsAt K m F H vs rs) : RowsAt K m F H' vs rs := RowsAt.gen (fun p l g e => ⟨g, k _ _ e (n p g)⟩) (fun _ d t => Td.kp k f d t) rs h
theorem RowAt.kp {M : List Addr} (k : Kp M H H') (f : TF H M) (n : ∀ p, F p → p ∉ M) {v : V} {r : Row} (h : RowAt K m F H v r) : RowAt K m F H' v r := RowAt.gen (fun p l g e => ⟨g, k _ _ e (n p g)⟩) (fun _ d t => Td.kp k f d t) r h
theorem RowsAt.kn {M : List Addr} (k : Kn M H H') (f : TF H M) (n : ∀ p, F p → p ∉ M) {vs : List V} {rs : List Row} (h : RowsAt K m F H vs rs) : RowsAt K m F H' vs rs := RowsAt.gen (fun p l g e => ⟨g, k.lst (n p g) e⟩) (fun _ d t => Td.kn k f d t) rs h
theorem RowAt.kn {M : List Addr} (k : Kn M H H') (f : TF H M) (n : ∀ p, F p → p ∉ M) {v : V} {r : Row} (h : RowAt K m F H v r) : RowAt K m F H' v r := RowAt.gen (fun p l g e => ⟨g, k.lst (n p g) e⟩) (fun _ d t => Td.kn k f d t) r h
theorem RowsAt.wk (n : ∀ p, F p → F' p) {vs : List V} {rs : List Row} (h : RowsAt K m F H vs rs) : RowsAt K m F' H vs rs := RowsAt.gen (fun p l g e => ⟨n p g, e⟩) (fun _ _ t => t) rs h
theorem RowAt.wk (n : ∀ p, F p → F' p) {v : V} {r : Row} (h : RowAt K m F H v r) : RowAt K m F' H v r := RowAt.gen (fun p l g e => ⟨n p g, e⟩) (fun _ _ t => t) r h
theorem RowsAt.len : ∀ {vs : List V} {rs : List Row}, RowsAt K m F H vs rs → vs.length = rs.length
  | vs, [], h => by rw [RowsAt] at h; rw [h]; rfl
  | vs, r :: rs, h => by
    rw [RowsAt] at h
    obtain ⟨v, vs', rfl, _, h2⟩ := h
    rw [List.length_cons, List.length_cons, RowsAt.len h2]
theorem RowsAt.get : ∀ {vs : List V} {rs : List Row} {i : Nat} {v : V}, RowsAt K m F H vs rs → vs[i]? = some v → ∃ r, rs[i]? = some r ∧ RowAt K m F H v r
  | vs, [], i, v, h, e => by rw [RowsAt] at h; rw [h] at e; simp at e
  | vs, r :: rs, 0, v, h, e => by
    rw [RowsAt] at h
    obtain ⟨v', vs', rfl, h1, h2⟩ := h
    have : v' = v := by simpa using e
    rw [← this]
    exact ⟨r, rfl, h1⟩
  | vs, r :: rs, i + 1, v, h, e => by
    rw [RowsAt] at h
    obtain ⟨v', vs', rfl, h1, h2⟩ := h
    exact RowsAt.get (i := i) h2 (by simpa using e)
theorem RowsAt.append : ∀ {vs ws : List V} {rs qs : List Row}, RowsAt K m F H vs rs → RowsAt K m F H ws qs → RowsAt K m F H (vs ++ ws) (rs ++ qs)
  | vs, ws, [], qs, h, h2 => by rw [RowsAt] at h; rw [h]; exact h2
  | vs, ws, r :: rs, qs, h, h2 => by
    rw [RowsAt] at h
    obtain ⟨v', vs', rfl, h1, h3⟩ := h
    rw [List.cons_append, List.cons_append, RowsAt]
    exact ⟨v', vs' ++ ws, rfl, h1, RowsAt.append h3 h2⟩
theorem RowsAt.nil : RowsAt K m F H [] [] := by rw [RowsAt]
theorem RowsAt.one {v : V} {r : Row} (h : RowAt K m F H v r) : RowsAt K m F H [v] [r] := by
  rw [RowsAt]
  exact ⟨v, [], rfl, h, RowsAt.nil⟩
end
/-! ### a row's parts -/
inductive Pt | sc (d : PyData) | bl (b : List Row)
def Pt.d : Pt → PyData | .sc d => d | .bl b => .tuple (rowsD b)
def Row.pts : Row → List Pt
  | .lt op x e => [.sc (.str (ltw op)), .sc (.str x), .sc e.d] | .ask x h k => [.sc (.str "ask"), .sc (.str x), .sc (.str h), .sc (.bool k)] | .say h e => [.sc (.str "say"), .sc (.str h), .sc e.d]
  | .iff e a b => [.sc (.str "if"), .sc e.d, .bl a, .bl b] | .whl e a => [.sc (.str "while"), .sc e.d, .bl a]
theorem Row.d_pts (r : Row) : r.d = .tuple (r.pts.map Pt.d) := by cases r <;> rw [Row.d] <;> rfl
def PtAt (K : PySem.W.Frag) (m : Bool) (F : Addr → Prop) (H : Hp) (v : V) : Pt → Prop
  | .sc d => Td K H v d
  | .bl b => ∃ p vs, v = .ref p ∧ F p ∧ H p = some (.lst vs) ∧ RowsAt K m F H vs b
theorem pts_blk {r : Row} {b : List Row} (h : Pt.bl b ∈ r.pts) : dps b < r.dp ∧ cnts b < r.cnt := by
  cases r with
  | lt op x e => simp [Row.pts] at h
  | ask x h0 k => simp [Row.pts] at h
  | say h0 e => simp [Row.pts] at h
  | iff e a c =>
    simp only [Row.pts, List.mem_cons, Pt.bl.injEq, List.not_mem_nil, or_false] at h
    have h : b = a ∨ b = c := by simpa using h
    rw [Row.dp, Row.cnt]
    rcases h with e | e <;> subst e <;> constructor <;> omega
  | whl e a =>
    have h : b = a := by simpa [Row.pts] using h
    rw [Row.dp, Row.cnt]
    subst h
    constructor <;> omega
section
variable {K : PySem.W.Frag} {m : Bool} {F : Addr → Prop} {H : Hp}
theorem row_parts {v : V} {r : Row} (h : RowAt K m F H v r) : ∃ p L tl, v = .ref p ∧ F p ∧ H p = some (.lst (L ++ tl)) ∧ (r.hd = "if" ∧ L.length = 4 ∧ ifTl m tl ∨ r.hd ≠ "if" ∧ tl = []) ∧ L.length = r.pts.length ∧ L.length ≤ 4 ∧ L[0]? = some (.str r.hd) ∧ ∀ (i : Nat) u, L[i]? = some u → ∃ t, r.pts[i]? = some t ∧ PtAt K m F H u t := by
  cases r with
  | lt op x e =>
    rw [RowAt] at h
    obtain ⟨p, u, e1, f, hp, hu⟩ := h
    refine ⟨p, _, [], e1, f, by rw [List.append_nil]; exact hp, .inr ⟨by show ¬ ltw op = "if"; cases op <;> decide +kernel, rfl⟩, rfl, by show 3 ≤ 4; decide, rfl, fun i y hy => ?_⟩
    match i, hy with
    | 0, hy => cases hy; exact ⟨.sc (.str _), rfl, (td_str.mpr rfl : Td K H _ _)⟩
    | 1, hy => cases hy; exact ⟨.sc (.str _), rfl, (td_str.mpr rfl : Td K H _ _)⟩
    | 2, hy => cases hy; exact ⟨.sc _, rfl, (hu : Td K H _ _)⟩
  | ask x h0 k =>
    rw [RowAt] at h
    obtain ⟨p, e1, f, hp⟩ := h
    refine ⟨p, _, [], e1, f, by rw [List.append_nil]; exact hp, .inr ⟨by show ¬ ("ask" : Str) = "if"; decide +kernel, rfl⟩, rfl, by show 4 ≤ 4; decide, rfl, fun i y hy => ?_⟩
    match i, hy with
    | 0, hy => cases hy; exact ⟨.sc (.str _), rfl, (td_str.mpr rfl : Td K H _ _)⟩
    | 1, hy => cases hy; exact ⟨.sc (.str _), rfl, (td_str.mpr rfl : Td K H _ _)⟩
    | 2, hy => cases hy; exact ⟨.sc (.str _), rfl, (td_str.mpr rfl : Td K H _ _)⟩
    | 3, hy => cases hy; exact ⟨.sc (.bool _), rfl, (td_bool.mpr rfl : Td K H _ _)⟩
  | say h0 e =>
    rw [RowAt] at h
    obtain ⟨p, u, e1, f, hp, hu⟩ := h
    refine ⟨p, _, [], e1, f, by rw [List.append_nil]; exact hp, .inr ⟨by show ¬ ("say" : Str) = "if"; decide +kernel, rfl⟩, rfl, by show 3 ≤ 4; decide, rfl, fun i y hy => ?_⟩
    match i, hy with
    | 0, hy => cases hy; exact ⟨.sc (.str _), rfl, (td_str.mpr rfl : Td K H _ _)⟩
    | 1, hy => cases hy; exact ⟨.sc (.str _), rfl, (td_str.mpr rfl : Td K H _ _)⟩
    | 2, hy => cases hy; exact ⟨.sc _, rfl, (hu : Td K H _ _)⟩
  | iff e a b =>
    rw [RowAt] at h
    obtain ⟨p, u, b1, b2, tl, vs1, vs2, e1, f, hp, i, hu, f1, h1, r1, f2, h2, r2⟩ := h
    refine ⟨p, _, tl, e1, f, hp, .inl ⟨rfl, rfl, i⟩, rfl, by show 4 ≤ 4; decide, rfl, fun i y hy => ?_⟩
    match i, hy with
    | 0, hy => cases hy; exact ⟨.sc (.str _), rfl, (td_str.mpr rfl : Td K H _ _)⟩
    | 1, hy => cases hy; exact ⟨.sc _, rfl, (hu : Td K H _ _)⟩
    | 2, hy => cases hy; exact ⟨.bl _, rfl, b1, vs1, rfl, f1, h1, r1⟩
    | 3, hy => cases hy; exact ⟨.bl _, rfl, b2, vs2, rfl, f2, h2, r2⟩
  | whl e a =>
    rw [RowAt] at h
    obtain ⟨p, u, b1, vs1, e1, f, hp, hu, f1, h1, r1⟩ := h
    refine ⟨p, _, [], e1, f, by rw [List.append_nil]; exact hp, .inr ⟨by show ¬ ("while" : Str) = "if"; decide +kernel, rfl⟩, rfl, by show 3 ≤ 4; decide, rfl, fun i y hy => ?_⟩
    match i, hy with
    | 0, hy => cases hy; exact ⟨.sc (.str _), rfl, (td_str.mpr rfl : Td K H _ _)⟩
    | 1, hy => cases hy; exact ⟨.sc _, rfl, (hu : Td K H _ _)⟩
    | 2, hy => cases hy; exact ⟨.bl _, rfl, b1, vs1, rfl, f1, h1, r1⟩
theorem len3 {α : Type} {l : List α} (h : l.length = 3) : ∃ a b c, l = [a, b, c] := by
  match l, h with
  | [a, b, c], _ => exact ⟨a, b, c, rfl⟩
theorem len4 {α : Type} {l : List α} (h : l.length = 4) : ∃ a b c d, l = [a, b, c, d] := by
  match l, h with
  | [a, b, c, d], _ => exact ⟨a, b, c, d, rfl⟩
theorem row_of_parts {p : Addr} {r : Row} {zs : List V} (f : F p) (hp : H p = some (.lst zs)) (hl : zs.length = r.pts.length) (h : ∀ (i : Nat) u, zs[i]? = some u → ∃ t, r.pts[i]? = some t ∧ PtAt K m F H u t) : RowAt K m F H (.ref p) r := by
  have at_ : ∀ (i : Nat) u t, zs[i]? = some u → r.pts[i]? = some t → PtAt K m F H u t := fun i u t h1 h2 => by
    obtain ⟨t', e1, e2⟩ := h i u h1
    rw [h2] at e1
    cases e1
    exact e2
  cases r with
  | lt op x e =>
    obtain ⟨a, b, c, rfl⟩ := len3 (show zs.length = 3 from hl)
    have h0 := td_str.mp (show Td K H a _ from at_ 0 _ _ rfl rfl)
    have h1 := td_str.mp (show Td K H b _ from at_ 1 _ _ rfl rfl)
    subst h0 h1
    rw [RowAt]
    exact ⟨p, c, rfl, f, hp, at_ 2 _ _ rfl rfl⟩
  | ask x h0 k =>
    obtain ⟨a, b, c, d, rfl⟩ := len4 (show zs.length = 4 from hl)
    have h0 := td_str.mp (show Td K H a _ from at_ 0 _ _ rfl rfl)
    have h1 := td_str.mp (show Td K H b _ from at_ 1 _ _ rfl rfl)
    have h2 := td_str.mp (show Td K H c _ from at_ 2 _ _ rfl rfl)
    have h3 := td_bool.mp (show Td K H d _ from at_ 3 _ _ rfl rfl)
    subst h0 h1 h2 h3
    rw [RowAt]
    exact ⟨p, rfl, f, hp⟩
  | say h0 e =>
    obtain ⟨a, b, c, rfl⟩ := len3 (show zs.length = 3 from hl)
    have h0 := td_str.mp (show Td K H a _ from at_ 0 _ _ rfl rfl)
    have h1 := td_str.mp (show Td K H b _ from at_ 1 _ _ rfl rfl)
    subst h0 h1
    rw [RowAt]
    exact ⟨p, c, rfl, f, hp, at_ 2 _ _ rfl rfl⟩
  | iff e ba bb =>
    obtain ⟨a, b, c, d, rfl⟩ := len4 (show zs.length = 4 from hl)
    have h0 := td_str.mp (show Td K H a _ from at_ 0 _ _ rfl rfl)
    subst h0
    obtain ⟨p1, vs1, e1, f1, h1, r1⟩ : PtAt K m F H c (.bl ba) := at_ 2 _ _ rfl rfl
    obtain ⟨p2, vs2, e2, f2, h2, r2⟩ : PtAt K m F H d (.bl bb) := at_ 3 _ _ rfl rfl
    subst e1 e2
    rw [RowAt]
    exact ⟨p, b, p1, p2, [], vs1, vs2, rfl, f, by rw [List.append_nil]; exact hp, .inl rfl, at_ 1 _ _ rfl rfl, f1, h1, r1, f2, h2, r2⟩
  | whl e ba =>
    obtain ⟨a, b, c, rfl⟩ := len3 (show zs.length = 3 from hl)
    have h0 := td_str.mp (show Td K H a _ from at_ 0 _ _ rfl rfl)
    subst h0
    obtain ⟨p1, vs1, e1, f1, h1, r1⟩ : PtAt K m F H c (.bl ba) := at_ 2 _ _ rfl rfl
    subst e1
    rw [RowAt]
    exact ⟨p, b, p1, vs1, rfl, f, hp, at_ 1 _ _ rfl rfl, f1, h1, r1⟩
/-- what is no list -/
theorem sc_ty {v : V} {d : PyData} {r : Row} (h : Pt.sc d ∈ r.pts) (ht : Td K H v d) : ∃ ty : String, TyX K H v (.type ty) ∧ PySem.W.kitOne K (.type ty) (.type "list") = some false := by
  have str : ∀ s, d = .str s → ∃ ty : String, TyX K H v (.type ty) ∧ PySem.W.kitOne K (.type ty) (.type "list") = some false := fun s e => by
    subst e
    rw [td_str.mp ht]
    exact ⟨"str", .base (.str _), kt_str_list⟩
  have bool : ∀ b, d = .bool b → ∃ ty : String, TyX K H v (.type ty) ∧ PySem.W.kitOne K (.type ty) (.type "list") = some false := fun s e => by
    subst e
    rw [td_bool.mp ht]
    exact ⟨"bool", .base (.bl _), kt_bool_list⟩
  have tup : ∀ e : E, d = e.d → ∃ ty : String, TyX K H v (.type ty) ∧ PySem.W.kitOne K (.type ty) (.type "list") = some false := fun e e1 => by
    subst e1
    have : ∃ a xs, v = .ref a ∧ SqT K H a xs := by
      cases e with
      | num n => obtain ⟨a, e, h⟩ := td_num ht; exact ⟨a, _, e, h⟩
      | nam n => obtain ⟨a, e, h⟩ := td_nam ht; exact ⟨a, _, e, h⟩
      | bin o a b => obtain ⟨a, _, _, e, h, _⟩ := td_bin ht; exact ⟨a, _, e, h⟩
    obtain ⟨a, xs, rfl, hs⟩ := this
    exact ⟨"tuple", tyx_seqT hs, kt_tuple_list⟩
  cases r <;> simp only [Row.pts, List.mem_cons, Pt.sc.injEq, List.not_mem_nil, or_false, reduceCtorEq] at h
  · rcases h with e | e | e
    · exact str _ e
    · exact str _ e
    · exact tup _ e
  · rcases h with e | e | e | e
    · exact str _ e
    · exact str _ e
    · exact str _ e
    · exact bool _ e
  · rcases h with e | e | e
    · exact str _ e
    · exact str _ e
    · exact tup _ e
  · rcases h with e | e
    · exact str _ e
    · exact tup _ e
  · rcases h with e | e
    · exact str _ e
    · exact tup _ e
end
end Tw
set_option Elab.async false
set_option linter.all false
set_option maxRecDepth 100000
set_option maxHeartbeats 4000000
namespace Tw
open PySem PySem.Spec PyProof.Rows L2 LamX NdefX TL
theorem ite_two {b : Bool} {t1 t2 : TE} {σ : L2.St} {H : Hp} {Q : VK} (C : V → Hp → Prop) (h1 : b = true → ∀ Q : VK, (∀ v H', C v H' → Q v H') → t1 σ H Q) (h2 : b = false → ∀ Q : VK, (∀ v H', C v H' → Q v H') → t2 σ H Q) (h : ∀ v H', C v H' → Q v H') : if b = true then t1 σ H Q else t2 σ H Q := by
  cases b with
  | true => exact iteT' rfl (h1 rfl Q h)
  | false => exact iteF' rfl (h2 rfl Q h)
section
variable {K : PySem.W.Frag} {m : Bool} {F F' : Addr → Prop} {H H' : Hp}
theorem PtAt.kp {M : List Addr} (k : Kp M H H') (f : TF H M) (n : ∀ p, F p → p ∉ M) {v : V} : ∀ {t : Pt}, PtAt K m F H v t → PtAt K m F H' v t
  | .sc d, h => Td.kp k f d h
  | .bl b, ⟨p, vs, e, f1, h1, r⟩ => ⟨p, vs, e, f1, k _ _ h1 (n p f1), r.kp k f n⟩
theorem PtAt.same (s : Same H H') {v : V} : ∀ {t : Pt}, PtAt K m F H v t → PtAt K m F H' v t
  | .sc d, h => Td.same s h
  | .bl b, ⟨p, vs, e, f1, h1, r⟩ => ⟨p, vs, e, f1, s _ _ h1, r.same s⟩
theorem PtAt.wk (n : ∀ p, F p → F' p) {v : V} : ∀ {t : Pt}, PtAt K m F H v t → PtAt K m F' H v t
  | .sc d, h => h
  | .bl b, ⟨p, vs, e, f1, h1, r⟩ => ⟨p, vs, e, n _ f1, h1, r.wk n⟩
end
theorem pts_len (r : Row) : r.pts.length ≤ 4 := by cases r <;> first | (show 3 ≤ 4; decide) | (show 4 ≤ 4; decide)
section
variable {P : Program} {w : World} {K : PySem.W.Frag} {mg : Str → Option Value} {base : Heap}
def sp_unmarked (K : PySem.W.Frag) (n : Nat) : Sp := fun vs H Q _ => ∃ (b : Addr) (xs : List V) (rs : List Row), vs = [.ref b] ∧ H b = some (.lst xs) ∧ RowsAt K true (fun _ => True) H xs rs ∧ dps rs < n ∧ cnts rs ≤ 60 ∧
  ∀ H' p ws, Same H H' → H p = none → H' p = some (.lst ws) → RowsAt K false (fun q => H q = none ∧ q ≠ p) H' ws rs → Q (.ref p) H'
theorem ok_unmarked (T : Txt K mg) : ∀ n, Cal P w K mg base "unmarked" (n + 1) ["rows"] (sp_unmarked K n)
  | 0 => Cal.vac T.d_unmarked b_unmarked fun vs H Q E h => by
    obtain ⟨_, _, _, _, _, _, h, _⟩ := h
    omega
  | n + 1 => by
    have C_unmarked := ok_unmarked T n
    refine Cal.of T.d_unmarked b_unmarked sc_unmarked (fun vs H Q E h => ?_) (fun cdv A outer s H vs Q E hr h => ?_)
    · obtain ⟨_, _, _, rfl, _⟩ := h; rfl
    obtain ⟨b, xs, rs, rfl, hb, hrs, hdn, hcn, q⟩ := h
    refine ⟨_, (pss_cons (ps_set (i := 1) sc_unmarked.nd rfl (Or.inl rfl) (pe_lst pa_nil))
  (pss_cons (ps_for PassesOwn.never rfl (pi_list (pv 0)) (pg_name (i := 2) sc_unmarked.nd rfl (Or.inl rfl))
   (pss_cons (ps_set (i := 3) sc_unmarked.nd rfl (Or.inl rfl) (pe_ifExp (pt_cmpR op_eq (pe_ix ix_list (pv 2) pe_int (fun _ _ => rfl)) pe_str (nomark _)) (pe_slice sl_list (pv 2) po_none (po_some pe_int)) (pv 2)))
  (pss_one (ps_expr (pe_bm PySem.F.plainAttrs_list PySem.F.slot_list_append PySem.F.type_list_append mt_append (pv 1) (pa_cons (pe_lc (own := [("part", 4)]) (by rfl) sc_unmarked.nd (pi_list (pv 3)) (blkOk_by (own := [("part", 4)]) (N := N_unmarked) (sc := defScope s_unmarked) (by decide +kernel)) (fun _ _ _ _ _ => (pg_name (i := 4) sc_unmarked.nd rfl (Or.inl rfl))) (fun _ _ _ _ _ => pts_nil) (fun _ _ _ _ _ => (pe_ifExp (pt_val (pe_callB (call_isiB K) (by rfl) T.isinstance bb_isinstance (pa_cons (pv 4) (pa_cons (pe_bty T.list bb_list rfl) pa_nil)))) (pe_callC C_unmarked (hr.mono (by omega)) rfl (pa_cons (pv 4) pa_nil)) (pv 4)))) pa_nil))))))
  (pss_one (ps_ret (pv 1))))), ?_⟩
    have hxl := hrs.len
    have hrl := rows_len_le rs
    refine ⟨by show 0 ≤ sizeLine; decide, fun lf nlf => ?_⟩
    have s0 := same_new nlf (o := .lst [])
    refine ⟨_, rfl, b, rfl, ⟨_, same_lst s0 (.of hb)⟩, for_it (walk_list (xs := xs)) (fun i σ H' => ∃ (x2 x3 : Option V) (ws : List V), σ = [some (.ref b), some (.ref lf), x2, x3, none] ∧ Same H H' ∧ H' lf = some (.lst ws) ∧ ws.length = i ∧ RowsAt K false (fun q => H q = none ∧ q ≠ lf) H' ws (rs.take i))
      ⟨none, none, [], rfl, s0, upd_same, rfl, by rw [List.take_zero]; exact .nil⟩ (fun i σ H' _ h => by obtain ⟨_, _, _, _, s, _⟩ := h; exact same_lst s (.of hb)) ?_ ?_⟩
    · rintro i x σ H2 H1 hi ⟨x2, x3, ws, rfl, s1, h1, hwl, hws⟩ ⟨rfl, hx⟩
      obtain ⟨r, hr', hrow⟩ := (hrs.same s1).get hx
      have hrm := List.mem_of_getElem? hr'
      have hrd := (dps_mem.mp (Nat.le_refl (dps rs))) r hrm
      have hrc := cnts_mem hrm
      obtain ⟨p, L, tl, rfl, _, hp, hif, hLp, hL4, hL0, hLs⟩ := row_parts hrow
      have hp4 := pts_len r
      have hL0' : (L ++ tl)[0]? = some (.str r.hd) := by
        rw [List.getElem?_append_left (by cases L with | nil => simp at hL0 | cons _ _ => simp)]
        exact hL0
      refine ⟨_, rfl, _, _, _, _, rfl, rfl, .of hp, (atI_nat (j := 0) hL0'), rfl, _, rfl, ?_⟩
      refine ite_two (fun v H' => ∃ pk, v = .ref pk ∧ Same H1 H' ∧ SqL K H' pk L) ?_ ?_ ?_
      · intro e Q hQ
        rcases hif with ⟨_, hl, _⟩ | ⟨hn, _⟩
        · refine ⟨_, rfl, np ⟨_, rfl, p, _, rfl, .of hp, fun pk npk => hQ _ _ ⟨pk, rfl, same_new npk, .of ?_⟩⟩⟩
          rw [upd_same, show ((4 : Int)) = ((4 : Nat) : Int) from rfl, cut_to, List.take_left' hl]
        · exact absurd (by simpa using e) hn
      · intro e Q hQ
        rcases hif with ⟨hn, _, _⟩ | ⟨_, htl⟩
        · rw [hn] at e
          exact absurd e (by decide +kernel)
        · rw [htl, List.append_nil] at hp
          exact ⟨_, rfl, hQ _ _ ⟨p, rfl, Same.refl _, .of hp⟩⟩
      rintro _ H3 ⟨pk, rfl, s3, hpk⟩
      have s13 := s1.trans s3
      have h3 := s3 _ _ h1
      have hws3 := hws.same s3
      refine ⟨_, rfl, Or.inl ⟨rfl, _, SqL.of h3⟩, _, rfl, pk, rfl, ⟨_, hpk⟩, fun D nD => ?_⟩
      have nlD : lf ≠ D := fun z => by rw [z, nD] at h3; cases h3
      refine lc_pu (walk_list (xs := L)) (by omega) nD (fun H' s' => same_lst s' hpk) (fun i y H' => ∃ t, r.pts[i]? = some t ∧ PtAt K false (fun q => (H q = none ∧ q ≠ lf) ∧ q ≠ D) H' y t) (fun i y H' H'' ⟨l, hl⟩ k ⟨t, g1, g2⟩ => ⟨t, g1, g2.kp k (.lst hl) (fun q hq => by simp [hq.2])⟩) ?_ ?_
      · rintro i' x' H6 H5 Qc hi' s5 ⟨l5, hD5⟩ ⟨rfl, hx'⟩ hq
        obtain ⟨t, ht, hpt⟩ := hLs i' x' hx'
        have hpt5 := (hpt.same s3).same s5
        have htm := List.mem_of_getElem? ht
        have s15 := s13.trans s5
        have h5 := s5 _ _ h3
        cases t with
        | sc d =>
          have hd5 : Td K H5 x' d := hpt5
          obtain ⟨ty, hty, hk⟩ := sc_ty htm hd5
          refine ⟨rfl, _, rfl, _, _, _, _, _, rfl, .ty _, hty, hk, _, rfl, ?_⟩
          refine iteF ?_
          exact ⟨_, rfl, hq _ _ (Same.refl _) ⟨.sc d, ht, hd5⟩⟩
        | bl bk =>
          obtain ⟨pb, vs, rfl, _, hpb, hbk⟩ := hpt5
          have hb2 := pts_blk htm
          refine ⟨rfl, _, rfl, _, _, _, _, _, rfl, .ty _, .base (.lst hpb), kt_list_list, _, rfl, ?_⟩
          refine iteT ?_
          refine ⟨_, rfl, pb, vs, bk, rfl, hpb, hbk, by omega, by omega, fun H7 p7 ws7 s7 n7 h7 r7 => ?_⟩
          have s17 := s15.trans s7
          have hD7 := s7 _ _ hD5
          have h7l := s7 _ _ h5
          refine hq _ _ s7 ⟨.bl bk, ht, p7, ws7, rfl, ⟨⟨s15.free n7, fun z => by rw [z, h5] at n7; cases n7⟩, fun z => by rw [z, hD5] at n7; cases n7⟩, h7, r7.wk fun q hq' => ⟨⟨s15.free hq'.1, fun z => by rw [z, h5] at hq'; cases hq'.1⟩, fun z => by rw [z, hD5] at hq'; cases hq'.1⟩⟩
      · intro ys H5 s5 hD5 hyl hys
        have hrow5 : RowAt K false (fun q => H q = none ∧ q ≠ lf) H5 (.ref D) r := row_of_parts (F := fun q => H q = none ∧ q ≠ lf) ⟨s13.free nD, fun z => nlD z.symm⟩ hD5 (by rw [hyl, hLp]) fun i' u hu => by
          obtain ⟨t, g1, g2⟩ := hys i' u hu
          exact ⟨t, g1, g2.wk fun q hq => hq.1⟩
        have h5 := s5 _ _ h3
        have hws5 := hws3.same s5
        have s15 := s13.trans s5
        refine ⟨lf, _, _, rfl, rfl, h5, by rw [sizeLine_eq]; omega, ?_⟩
        refine ⟨_, _, _, rfl, same_put s15 nlf, upd_same, by rw [List.length_append, hwl] <;> rfl, ?_⟩
        rw [show rs.take (i + 1) = rs.take i ++ [r] by rw [List.take_succ, hr'] <;> rfl]
        have nl : ∀ q, (H q = none ∧ q ≠ lf) → q ∉ [lf] := fun q hq => by simp [hq.2]
        exact (hws5.kp Kp.at (.lst h5) nl).append (.one (hrow5.kp Kp.at (.lst h5) nl))
    · rintro σ H1 ⟨x2, x3, ws, rfl, s1, h1, hwl, hws⟩
      rw [hxl, List.take_length] at hws
      exact ⟨_, rfl, q H1 lf ws s1 nlf h1 hws⟩
def sp_settled (K : PySem.W.Frag) (n : Nat) : Sp := fun vs H Q _ => ∃ (b : Addr) (xs : List V) (rs : List Row), vs = [.ref b] ∧ H b = some (.lst xs) ∧ RowsAt K false (fun _ => True) H xs rs ∧ dps rs < n ∧ cnts rs ≤ 60 ∧
  ∀ H' v, Same H H' → Td K H' v (.tuple (rowsD rs)) → Q v H'
theorem ok_settled (T : Txt K mg) : ∀ n, Cal P w K mg base "settled" (n + 1) ["rows"] (sp_settled K n)
  | 0 => Cal.vac T.d_settled b_settled fun vs H Q E h => by
    obtain ⟨_, _, _, _, _, _, h, _⟩ := h
    omega
  | n + 1 => by
    have C_settled := ok_settled T n
    refine Cal.of T.d_settled b_settled sc_settled (fun vs H Q E h => ?_) (fun cdv A outer s H vs Q E hr h => ?_)
    · obtain ⟨_, _, _, rfl, _⟩ := h; rfl
    obtain ⟨b, xs, rs, rfl, hb, hrs, hdn, hcn, q⟩ := h
    refine ⟨_, (pss_cons (ps_set (i := 1) sc_settled.nd rfl (Or.inl rfl) (pe_lst pa_nil))
  (pss_cons (ps_for PassesOwn.never rfl (pi_list (pv 0)) (pg_name (i := 2) sc_settled.nd rfl (Or.inl rfl))
   (pss_one (ps_expr (pe_bm PySem.F.plainAttrs_list PySem.F.slot_list_append PySem.F.type_list_append mt_append (pv 1) (pa_cons (pe_callTy call_tuple_of (by rfl) T.tuple bb_tuple (pa_cons (pe_lc (own := [("part", 3)]) (by rfl) sc_settled.nd (pi_list (pv 2)) (blkOk_by (own := [("part", 3)]) (N := N_settled) (sc := defScope s_settled) (by decide +kernel)) (fun _ _ _ _ _ => (pg_name (i := 3) sc_settled.nd rfl (Or.inl rfl))) (fun _ _ _ _ _ => pts_nil) (fun _ _ _ _ _ => (pe_ifExp (pt_val (pe_callB (call_isiB K) (by rfl) T.isinstance bb_isinstance (pa_cons (pv 3) (pa_cons (pe_bty T.list bb_list rfl) pa_nil)))) (pe_callC C_settled (hr.mono (by omega)) rfl (pa_cons (pv 3) pa_nil)) (pv 3)))) pa_nil)) pa_nil)))))
  (pss_one (ps_ret (pe_callTy call_tuple_of (by rfl) T.tuple bb_tuple (pa_cons (pv 1) pa_nil)))))), ?_⟩
    have hxl := hrs.len
    have hrl := rows_len_le rs
    refine ⟨by show 0 ≤ sizeLine; decide, fun lf nlf => ?_⟩
    have s0 := same_new nlf (o := .lst [])
    refine ⟨_, rfl, b, rfl, ⟨_, same_lst s0 (.of hb)⟩, for_it (walk_list (xs := xs)) (fun i σ H' => ∃ (x2 : Option V) (ws : List V), σ = [some (.ref b), some (.ref lf), x2, none] ∧ Same H H' ∧ H' lf = some (.lst ws) ∧ ws.length = i ∧ TdA K H' ws (rowsD (rs.take i)))
      ⟨none, [], rfl, s0, upd_same, rfl, by rw [List.take_zero]; exact tda_nil⟩ (fun i σ H' _ h => by obtain ⟨_, _, _, s, _⟩ := h; exact same_lst s (.of hb)) ?_ ?_⟩
    · rintro i x σ H2 H1 hi ⟨x2, ws, rfl, s1, h1, hwl, hws⟩ ⟨rfl, hx⟩
      obtain ⟨r, hr', hrow⟩ := (hrs.same s1).get hx
      have hrm := List.mem_of_getElem? hr'
      have hrd := (dps_mem.mp (Nat.le_refl (dps rs))) r hrm
      have hrc := cnts_mem hrm
      obtain ⟨p, L, tl, rfl, _, hp, hif, hLp, hL4, hL0, hLs⟩ := row_parts hrow
      have htl : tl = [] := by
        rcases hif with ⟨_, _, h | ⟨h, _⟩⟩ | ⟨_, h⟩
        · exact h
        · cases h
        · exact h
      rw [htl, List.append_nil] at hp
      refine ⟨_, rfl, Or.inl ⟨rfl, _, SqL.of h1⟩, _, rfl, _, rfl, ⟨_, .of hp⟩, fun D nD => ?_⟩
      have nlD : lf ≠ D := fun z => by rw [z, nD] at h1; cases h1
      refine lc_pu (walk_list (xs := L)) (by omega) nD (fun H' s' => same_lst s' (.of hp)) (fun i y H' => ∃ t, r.pts[i]? = some t ∧ Td K H' y t.d) (fun i y H' H'' ⟨l, hl⟩ k ⟨t, g1, g2⟩ => ⟨t, g1, Td.kp k (.lst hl) _ g2⟩) ?_ ?_
      · rintro i' x' H6 H5 Qc hi' s5 ⟨l5, hD5⟩ ⟨rfl, hx'⟩ hq
        obtain ⟨t, ht, hpt⟩ := hLs i' x' hx'
        have hpt5 := hpt.same s5
        have htm := List.mem_of_getElem? ht
        cases t with
        | sc d =>
          have hd5 : Td K H5 x' d := hpt5
          obtain ⟨ty, hty, hk⟩ := sc_ty htm hd5
          refine ⟨rfl, _, rfl, _, _, _, _, _, rfl, .ty _, hty, hk, _, rfl, ?_⟩
          refine iteF ?_
          exact ⟨_, rfl, hq _ _ (Same.refl _) ⟨.sc d, ht, hd5⟩⟩
        | bl bk =>
          obtain ⟨pb, vs, rfl, _, hpb, hbk⟩ := hpt5
          have hb2 := pts_blk htm
          refine ⟨rfl, _, rfl, _, _, _, _, _, rfl, .ty _, .base (.lst hpb), kt_list_list, _, rfl, ?_⟩
          refine iteT ?_
          refine ⟨_, rfl, pb, vs, bk, rfl, hpb, hbk, by omega, by omega, fun H7 v7 s7 t7 => ?_⟩
          exact hq _ _ s7 ⟨.bl bk, ht, t7⟩
      · intro ys H5 s5 hD5 hyl hys
        have htd : TdA K H5 ys (r.pts.map Pt.d) := TdA.of_get (by rw [List.length_map, hyl, hLp]) fun i' u d hu hd => by
          obtain ⟨t, g1, g2⟩ := hys i' u hu
          rw [List.getElem?_map, g1] at hd
          cases hd
          exact g2
        have h5 := s5 _ _ h1
        have s15 := s1.trans s5
        refine ⟨_, _, rfl, .inl ⟨.of hD5, fun pt npt => ?_⟩⟩
        have hrow5 : Td K (upd H5 pt (.tup ys)) (.ref pt) r.d := by rw [r.d_pts]; exact Td.new npt htd
        have s5' := same_new npt (o := .tup ys)
        have s16 := s15.trans s5'
        have h6 := s5' _ _ h5
        have hws6 := (hws.same s5).same s5'
        generalize upd H5 pt (.tup ys) = H6 at hrow5 s5' s16 h6 hws6 ⊢
        refine ⟨lf, _, _, rfl, rfl, h6, by rw [sizeLine_eq]; omega, ?_⟩
        refine ⟨_, _, rfl, same_put s16 nlf, upd_same, by rw [List.length_append, hwl] <;> rfl, ?_⟩
        rw [show rs.take (i + 1) = rs.take i ++ [r] by rw [List.take_succ, hr'] <;> rfl, rowsD_map, List.map_append, ← rowsD_map]
        exact (TdA.put h6 hws6).append (tda_cons.mpr ⟨Td.put h6 hrow5, tda_nil⟩)
    · rintro σ H1 ⟨x2, ws, rfl, s1, h1, hwl, hws⟩
      rw [hxl, List.take_length] at hws
      refine ⟨_, rfl, _, _, rfl, .inl ⟨.of h1, fun pt npt => ?_⟩⟩
      exact q _ _ (s1.trans (same_new npt)) (Td.new npt hws)
end
end Tw
set_option Elab.async false
set_option linter.all false
set_option maxRecDepth 100000
set_option maxHeartbeats 4000000
namespace Tw
open PySem PySem.Spec PyProof.Rows L2 LamX NdefX TL
/-! ### read_program: what stands between two lines -/
theorem Kn.comp {M M' : List Addr} {H H1 H2 : Hp} (a : Kn M H H1) (b : Kn M' H1 H2) (h : ∀ m ∈ M', m ∈ M ∨ H m = none) : Kn M H H2 :=
  ⟨fun c o e n t => b.at_ c o (a.at_ c o e n t) (fun z => (h c z).elim n fun q => by rw [e] at q; cases q) t, fun c e => a.nn c (b.nn c e)⟩
structure Fx where
  txt : Str
  lm : Addr
  lr : Addr
  dh : Addr
  ll : Addr
  L : List Str
abbrev Fx.st (f : Fx) (bk : Addr) (c : Nat) (x7 x8 x9 x10 x11 x12 x13 : Option V) : L2.St :=
  [some (.str f.txt), some (.ref f.lm), some (.ref f.lr), some (.ref bk), some (.ref f.dh), some (.int (c : Nat)), some (.ref f.ll), x7, x8, x9, x10, x11, x12, x13]
structure Wk (K : PySem.W.Frag) (hm : Str → Str) (f : Fx) (bs : List Addr) (kb : Nat) (bk : Addr) (H : Hp) : Prop where
  dh : ∃ kvs, H f.dh = some (.dK kvs) ∧ Homes hm kvs ∧ kvs.length ≤ kb
  bk : H bk = some (.lst (bs.map V.ref))
  tb : Tabs (TT K) H
  ll : H f.ll = some (.lst (f.L.map V.str))
def Sta (K : PySem.W.Frag) (hm : Str → Str) (f : Fx) (bs : List Addr) (c kb : Nat) (σ : L2.St) (H : Hp) : Prop := ∃ bk x7 x8 x9 x10 x11 x12 x13, σ = f.st bk c x7 x8 x9 x10 x11 x12 x13 ∧ Wk K hm f bs kb bk H
def StaB (K : PySem.W.Frag) (hm : Str → Str) (f : Fx) (bs : List Addr) (c kb : Nat) (bk : Addr) (σ : L2.St) (H : Hp) : Prop := ∃ x7 x8 x9 x10 x11 x12 x13, σ = f.st bk c x7 x8 x9 x10 x11 x12 x13 ∧ Wk K hm f bs kb bk H
theorem StaB.sta {K : PySem.W.Frag} {hm : Str → Str} {f : Fx} {bs : List Addr} {c kb : Nat} {bk : Addr} {σ : L2.St} {H : Hp} (h : StaB K hm f bs c kb bk σ H) : Sta K hm f bs c kb σ H := ⟨bk, h⟩
def Shell2 (K : PySem.W.Frag) (H0 H : Hp) (p : Addr) (bl : List Addr) : Row → Prop
  | .lt op x e => bl = [] ∧ ∃ u, H p = some (.lst [.str (ltw op), .str x, u]) ∧ Td K H u e.d
  | .ask x h k => bl = [] ∧ H p = some (.lst [.str "ask", .str x, .str h, .bl k])
  | .say h e => bl = [] ∧ ∃ u, H p = some (.lst [.str "say", .str h, u]) ∧ Td K H u e.d
  | .iff e _ _ => ∃ u b1 b2, bl = [b1] ∧ H p = some (.lst [.str "if", u, .ref b1, .ref b2]) ∧ Td K H u e.d ∧ H b1 = some (.lst []) ∧ H b2 = some (.lst []) ∧ b1 ≠ b2 ∧ H0 b1 = none ∧ H0 b2 = none ∧ p ≠ b1 ∧ p ≠ b2
  | .whl e _ => ∃ u b1, bl = [b1] ∧ H p = some (.lst [.str "while", u, .ref b1]) ∧ Td K H u e.d ∧ H b1 = some (.lst []) ∧ H0 b1 = none ∧ p ≠ b1
theorem ShellAt.put {K : PySem.W.Frag} {H0 H : Hp} {p b : Addr} {xs : List V} {o : HO} {r : Row} (hn : H0 p = none) (n : H0 b ≠ none) (hb : H b = some (.lst xs)) (h : ShellAt K H0 H p r) : ShellAt K H0 (upd H b o) p r := by
  have ne : ∀ {q : Addr}, H0 q = none → q ≠ b := fun hq z => n (by rw [← z]; exact hq)
  cases r with
  | lt op x e =>
    obtain ⟨u, h1, h2⟩ := h
    exact ⟨u, by rw [upd_ne (ne hn)]; exact h1, Td.put hb h2⟩
  | ask x h0 k => exact (by show upd H b o p = _; rw [upd_ne (ne hn)]; exact h)
  | say h0 e =>
    obtain ⟨u, h1, h2⟩ := h
    exact ⟨u, by rw [upd_ne (ne hn)]; exact h1, Td.put hb h2⟩
  | iff e a c =>
    obtain ⟨u, b1, b2, h1, h2, h3, h4, h5, h6, h7, h8⟩ := h
    exact ⟨u, b1, b2, by rw [upd_ne (ne hn)]; exact h1, Td.put hb h2, by rw [upd_ne (ne h6)]; exact h3, by rw [upd_ne (ne h7)]; exact h4, h5, h6, h7, h8⟩
  | whl e a =>
    obtain ⟨u, b1, h1, h2, h3, h4, h5⟩ := h
    exact ⟨u, b1, by rw [upd_ne (ne hn)]; exact h1, Td.put hb h2, by rw [upd_ne (ne h4)]; exact h3, h4, h5⟩
theorem ShellAt.at0 {K : PySem.W.Frag} {H0 H : Hp} {p : Addr} {r : Row} (h : ShellAt K H0 H p r) : ∃ xs, H p = some (.lst (.str r.hd :: xs)) := by
  cases r with
  | lt op x e => obtain ⟨u, h1, _⟩ := h; exact ⟨_, h1⟩
  | ask x h0 k => exact ⟨_, h⟩
  | say h0 e => obtain ⟨u, h1, _⟩ := h; exact ⟨_, h1⟩
  | iff e a c => obtain ⟨u, b1, b2, h1, _⟩ := h; exact ⟨_, h1⟩
  | whl e a => obtain ⟨u, b1, h1, _⟩ := h; exact ⟨_, h1⟩
theorem hd_mark (r : Row) : decide (V.str r.hd = V.str "mark") = false := by
  cases r with
  | lt op _ _ => exact (by intro op; cases op <;> decide +kernel : ∀ op, decide (V.str (ltw op) = V.str "mark") = false) op
  | ask _ _ _ => exact (by decide +kernel : decide (V.str "ask" = V.str "mark") = false)
  | say _ _ => exact (by decide +kernel : decide (V.str "say" = V.str "mark") = false)
  | iff _ _ _ => exact (by decide +kernel : decide (V.str "if" = V.str "mark") = false)
  | whl _ _ => exact (by decide +kernel : decide (V.str "while" = V.str "mark") = false)
theorem hd_else (r : Row) : decide (V.str r.hd = V.str "else") = false := by
  cases r with
  | lt op _ _ => exact (by intro op; cases op <;> decide +kernel : ∀ op, decide (V.str (ltw op) = V.str "else") = false) op
  | ask _ _ _ => exact (by decide +kernel : decide (V.str "ask" = V.str "else") = false)
  | say _ _ => exact (by decide +kernel : decide (V.str "say" = V.str "else") = false)
  | iff _ _ _ => exact (by decide +kernel : decide (V.str "if" = V.str "else") = false)
  | whl _ _ => exact (by decide +kernel : decide (V.str "while" = V.str "else") = false)
/-- what a line does, its words read -/
structure Lines2 (K : PySem.W.Frag) (hm : Str → Str) (f : Fx) (t : TS) : Prop where
  row : ∀ (D : Ends) (H : Hp) (bk a dx lw b : Addr) (vs0 : List V) (r : Row) (d c kb line : Nat) (bs : List Addr) (x7 x8 x13 : Option V), Wk K hm f bs kb bk H → kb ≤ 900 → RdAt K H a dx line lw 1 → H lw = some (.lst (r.words.map V.str)) → r.ok hm → HsOk hm → d < 5 → c < 60 →
    bs[d]? = some b → bs.length ≤ 100 → H b = some (.lst vs0) → vs0.length ≤ 100 → b ≠ f.ll →
    (∀ σ' H' p bl, Sta K hm f (bs.take (d + 1) ++ bl) (c + 1) (kb + 1) σ' H' → Kn [a, b, f.dh] H H' → H p = none → H' b = some (.lst (vs0 ++ [.ref p])) → Shell2 K H H' p bl r → D.nx σ' H') →
    t D (f.st bk c x7 x8 (some (.int (2 * d : Nat))) (some (.ref lw)) (some (.ref a)) (some (.int (d : Nat))) x13) H
  els : ∀ (D : Ends) (H : Hp) (bk a dx lw b p b1 b2 : Addr) (zs : List V) (u : V) (d c kb line : Nat) (bs : List Addr) (x7 x8 x13 : Option V), Wk K hm f bs kb bk H → RdAt K H a dx line lw 1 → H lw = some (.lst [.str "else"]) →
    bs[d]? = some b → bs.length ≤ 100 → H b = some (.lst (zs ++ [.ref p])) → H p = some (.lst [.str "if", u, .ref b1, .ref b2]) → p ≠ f.ll →
    (∀ σ' H', Sta K hm f (bs.take (d + 1) ++ [b2]) c kb σ' H' → Kn [p] H H' → H' p = some (.lst [.str "if", u, .ref b1, .ref b2, .str "else"]) → D.ct σ' H') →
    t D (f.st bk c x7 x8 (some (.int (2 * d : Nat))) (some (.ref lw)) (some (.ref a)) (some (.int (d : Nat))) x13) H
  mrk : ∀ (D : Ends) (H : Hp) (bk a dx lw : Addr) (xs : List V) (ms : List (Str × Str)) (x h : Str) (kb line : Nat) (bs : List Addr) (x7 x8 x13 : Option V), Wk K hm f bs kb bk H → kb ≤ 900 → RdAt K H a dx line lw 1 → H lw = some (.lst [.str "mark", .str x, .str h]) →
    H f.lm = some (.lst xs) → TdA K H xs (ms.map markD) → ms.length ≤ 900 → (∀ m ∈ ms, slt m.1 x) → isName x = true → h = hm x → isHouse h = true → f.lm ≠ f.ll → f.lm ≠ bk →
    (∀ σ' H' xs', StaB K hm f bs 0 (kb + 1) bk σ' H' → Kn [a, f.lm, f.dh] H H' → H' f.lm = some (.lst xs') → TdA K H' xs' ((ms ++ [(x, h)]).map markD) → D.ct σ' H') →
    t D (f.st bk 0 x7 x8 (some (.int (0 : Nat))) (some (.ref lw)) (some (.ref a)) (some (.int (0 : Nat))) x13) H
def loopB : List Stmt := match (defBody s_read_program).getD 7 (.Pass ⟨0, 0, 0, 0⟩) with
  | .For _ _ b _ _ => b
  | _ => []
section
variable {P : Program} {w : World} {K : PySem.W.Frag} {mg : Str → Option Value} {base : Heap}
theorem lines2 (T : Txt K mg) (B : Tb K mg base) {cdv : Value} {A : Around} {outer : List Env} {s : Shared} {H0 : Hp} {E : XK}
    (hr : Room 20 (A.deeper (envOfC "read_program" (defScope s_read_program) s.heap.objs.size (He.ga K "read_program") cdv))) :
    ∃ t, PSs (cxOf CX0 P w K mg base N_read_program "read_program" (defScope s_read_program) (He.ga K "read_program") cdv A outer s H0 E).nox (loopB.drop 5) t ∧ ∀ (hm : Str → Str) (f : Fx), Lines2 K hm f t := by
  have C_read_row := ok_read_row (P := P) (w := w) T B
  have C_read_mark := ok_read_mark (P := P) (w := w) T B
  have C_read_else := ok_read_else (P := P) (w := w) (base := base) T
  have hu := hu_of hr
  refine ⟨_, (pss_cons (ps_if (pt_cmpR op_eq (pe_ix ix_list (pv 10) pe_int (fun _ _ => rfl)) pe_str (nomark _)) (pss_cons (ps_if (PW.pt (pw_or (pt_cmpR op_gt (pv 5) pe_int (nomark _)) (pw_or1 (pt_cmpR op_gt (pv 12) pe_int (nomark _))))) pss_never pss_nil)
  (pss_cons (ps_expr (pe_bm PySem.F.plainAttrs_list PySem.F.slot_list_append PySem.F.type_list_append mt_append (pv 1) (pa_cons (pe_callC C_read_mark (hr.mono (by decide)) rfl (pa_cons (pv 11) (pa_cons (pv 1) pa_nil))) pa_nil)))
  (pss_cons (ps_dput hu (pv 4) (pe_ix ix_tup (pe_ix ix_list (pv 1) (pe_un un_neg pe_int) (fun _ _ => rfl)) pe_int (fun _ _ => rfl)) (pe_ix ix_tup (pe_ix ix_list (pv 1) (pe_un un_neg pe_int) (fun _ _ => rfl)) pe_int (fun _ _ => rfl)) rfl)
  (pss_one ps_continue)))) pss_nil)
  (pss_cons (ps_set (i := 3) sc_read_program.nd rfl (Or.inl rfl) (pe_slice sl_list (pv 3) po_none (po_some (pe_op op_add (pv 12) pe_int))))
  (pss_cons (ps_if (pt_cmpR op_eq (pe_ix ix_list (pv 10) pe_int (fun _ _ => rfl)) pe_str (nomark _)) (pss_cons (ps_expr (pe_bm PySem.F.plainAttrs_list PySem.F.slot_list_append PySem.F.type_list_append mt_append (pv 3) (pa_cons (pe_callC C_read_else (hr.mono (by decide)) rfl (pa_cons (pv 11) (pa_cons (pe_ix ix_list (pv 3) (pe_un un_neg pe_int) (fun _ _ => rfl)) pa_nil))) pa_nil)))
  (pss_one ps_continue)) pss_nil)
  (pss_cons (ps_if (PW.pt (pw_or (pt_cmpR op_eq (pv 5) (pe_cint T.i_MOST_ROWS rfl) (nomark _)) (pw_or1 (pt_cmpR op_eq (pv 12) (pe_cint T.i_MOST_BLOCKS rfl) (nomark _))))) pss_never pss_nil)
  (pss_cons (ps_set (i := 13) sc_read_program.nd rfl (Or.inl rfl) (pe_callC C_read_row (hr.mono (by decide)) rfl (pa_cons (pv 11) (pa_cons (pv 4) pa_nil))))
  (pss_cons (ps_aug (i := 5) sc_read_program.nd rfl (Or.inl rfl) pe_int ip_add)
  (pss_cons (ps_expr (pe_bm PySem.F.plainAttrs_list PySem.F.slot_list_append PySem.F.type_list_append mt_append (pe_ix ix_list (pv 3) (pe_un un_neg pe_int) (fun _ _ => rfl)) (pa_cons (pv 13) pa_nil)))
  (pss_one (ps_if (pt_cmpR op_in_seq (pe_ix ix_list (pv 13) pe_int (fun _ _ => rfl)) (pe_tup (pa_cons pe_str (pa_cons pe_str pa_nil))) (by rfl)) (pss_one (ps_expr (pe_bm PySem.F.plainAttrs_list PySem.F.slot_list_append PySem.F.type_list_append mt_append (pv 3) (pa_cons (pe_ix ix_list (pv 13) pe_int (fun _ _ => rfl)) pa_nil)))) pss_nil))))))))), ?_⟩
  intro hm f
  refine ⟨?_, ?_, ?_⟩
  · rintro D H bk a dx lw b vs0 r d c kb line bs x7 x8 x13 hW hkb hRd hlw hok hhs hd5 hc60 hb hbl hvs hvl hbn q
    obtain ⟨⟨kvs, hdh, hho, hkl⟩, hbk, hT, hll⟩ := hW
    refine ⟨_, rfl, _, _, _, _, rfl, rfl, .of hlw, (atI_nat (j := 0) (by rw [List.getElem?_map, word_head]; rfl)), rfl, _, rfl, ?_⟩
    refine iteF' (hd_mark r) ?_
    refine ⟨_, rfl, np ⟨_, rfl, _, _, rfl, rfl, _, rfl, bk, _, rfl, .of hbk, fun pk npk => ?_⟩⟩
    have ebs : bs.take (d + 1) = bs.take d ++ [b] := by rw [List.take_succ, hb] <;> rfl
    have ecut : cutV (bs.map V.ref) none (some ((d : Int) + 1)) = (bs.take d).map V.ref ++ [V.ref b] := by
      rw [show ((d : Int) + 1) = ((d + 1 : Nat) : Int) by omega, cut_to, ← List.map_take, ebs, List.map_append] <;> rfl
    rw [ecut]
    have s1 := same_new npk (o := .lst ((bs.take d).map V.ref ++ [V.ref b]))
    have k1 : Kn [a, b, f.dh] H (upd H pk (.lst ((bs.take d).map V.ref ++ [V.ref b]))) := .ofS s1
    have hpk1 : upd H pk (.lst ((bs.take d).map V.ref ++ [V.ref b])) pk = some _ := upd_same
    have hRd1 := hRd.same s1
    have hlw1 := s1 _ _ hlw
    have hdh1 := s1 _ _ hdh
    have hvs1 := s1 _ _ hvs
    have hT1 := hT.ext s1
    have hab : a ≠ b := fun z => by rw [z, RdAt, hvs] at hRd; cases hRd
    have hdb : f.dh ≠ b := fun z => by rw [z, hvs] at hdh; cases hdh
    have hpb : pk ≠ b := fun z => by rw [z, hvs] at npk; cases npk
    have hpa : pk ≠ a := fun z => by rw [z, hRd] at npk; cases npk
    have hpd : pk ≠ f.dh := fun z => by rw [z, hdh] at npk; cases npk
    have hla : f.ll ≠ a := fun z => by rw [← z, RdAt, hll] at hRd; cases hRd
    have hld : f.ll ≠ f.dh := fun z => by rw [← z, hll] at hdh; cases hdh
    generalize upd H pk (.lst ((bs.take d).map V.ref ++ [V.ref b])) = H1 at s1 k1 hpk1 hRd1 hlw1 hdh1 hvs1 hT1 ⊢
    refine ⟨_, rfl, _, _, _, _, rfl, rfl, .of hlw1, (atI_nat (j := 0) (by rw [List.getElem?_map, word_head]; rfl)), rfl, _, rfl, ?_⟩
    refine iteF' (hd_else r) ?_
    refine ⟨_, rfl, rfl, _, rfl, ?_⟩
    refine iteF' (decide_eq_false (by intro z; injection z with z; omega)) ?_
    refine ⟨_, rfl, rfl, _, rfl, ?_⟩
    refine iteF' (decide_eq_false (by intro z; injection z with z; omega)) ?_
    refine ⟨_, rfl, _, rfl, a, dx, line, lw, f.dh, r, hm, kvs, rfl, hRd1, hlw1, hok, hhs, hdh1, hho, by omega, hT1, fun H2 p kvs2 k2 hT2 hdh2 hho2 hkl2 np2 sh2 => ?_⟩
    have np1 : H p = none := k1.nn p np2
    have hvs2 := k2.lst (a := b) (by simp [hab.symm, hdb.symm]) hvs1
    have hpk2 := k2.lst (a := pk) (by simp [hpa, hpd]) hpk1
    have k12 : Kn [a, b, f.dh] H H2 := k1.comp k2 fun m hm' => by
      simp only [List.mem_cons, List.not_mem_nil, or_false] at hm' ⊢
      rcases hm' with e | e <;> simp [e]
    refine ⟨_, rfl, _, _, rfl, rfl, ?_⟩
    refine ⟨_, rfl, 1, rfl, _, _, _, _, rfl, rfl, .of hpk2, atI_last _ _, Or.inl ⟨rfl, _, SqL.of hvs2⟩, _, rfl, b, _, _, rfl, rfl, hvs2, by rw [sizeLine_eq]; omega, ?_⟩
    have nb1 : H1 b ≠ none := by rw [hvs1]; exact fun z => by cases z
    have npk1 : H1 pk ≠ none := by rw [hpk1]; exact fun z => by cases z
    have sh3 := sh2.put np2 nb1 hvs2 (o := .lst (vs0 ++ [V.ref p]))
    have k3 : Kn [a, b, f.dh] H (upd H2 b (.lst (vs0 ++ [V.ref p]))) := k12.put (by simp)
    have hvs3 : upd H2 b (.lst (vs0 ++ [V.ref p])) b = some _ := upd_same
    have hpk3 : upd H2 b (.lst (vs0 ++ [V.ref p])) pk = some (.lst ((bs.take d).map V.ref ++ [V.ref b])) := by rw [upd_ne hpb]; exact hpk2
    have hdh3 : upd H2 b (.lst (vs0 ++ [V.ref p])) f.dh = some (.dK kvs2) := by rw [upd_ne hdb]; exact hdh2
    have hT3 := tabs_put (o := .lst (vs0 ++ [V.ref p])) hT2 hvs2 (fun ps z => by cases z) (fun c q z => codeO_lst z)
    generalize upd H2 b (.lst (vs0 ++ [V.ref p])) = H3 at sh3 k3 hvs3 hpk3 hdh3 hT3 ⊢
    clear k12 hvs2 hpk2 hT2 hdh2 sh2 k2 H2
    obtain ⟨rest, hp3⟩ := sh3.at0
    refine ⟨_, rfl, _, _, _, _, rfl, rfl, .of hp3, at0, (by show 2 ≤ sizeLine; decide), fun p5 n5 => ?_⟩
    have s4 := same_new n5 (o := .tup [V.str "if", V.str "while"])
    refine ⟨_, _, rfl, .inr (SqT.of upd_same), rfl, rfl, _, rfl, ?_⟩
    show if inV (V.str r.hd) [V.str "if", V.str "while"] = true then _ else _
    rw [hd_two]
    have hT4 := hT3.ext s4
    have hvs4 := s4 _ _ hvs3
    have hpk4 := s4 _ _ hpk3
    have hdh4 := s4 _ _ hdh3
    have k4 := k3.trans (.ofS s4)
    have hll4 := k4.lst (a := f.ll) (by simp [hla, hld, hbn.symm]) hll
    have hp4 := fun o h => s4 p o h
    have td4 := fun u d (h : Td K H3 u d) => Td.same s4 h
    have q4 := fun (b1 : Addr) o h => s4 b1 o h
    generalize upd H3 p5 (.tup [V.str "if", V.str "while"]) = H4 at hT4 hvs4 hpk4 hdh4 k4 hll4 hp4 td4 q4 ⊢
    have hbs : (bs.take (d + 1)).length ≤ 100 := by rw [List.length_take]; omega
    have hbs' : (bs.take d).length ≤ 100 := by rw [List.length_take]; omega
    have fin0 : ∀ x7 x8 x9 x10 x11 x12 x13, Shell2 K H H4 p [] r → D.nx (f.st pk (c + 1) x7 x8 x9 x10 x11 x12 x13) H4 := fun x7 x8 x9 x10 x11 x12 x13 h =>
      q _ _ p [] ⟨pk, _, _, _, _, _, _, _, rfl, ⟨kvs2, hdh4, hho2, by omega⟩, by rw [List.append_nil, ebs, List.map_append]; exact hpk4, hT4, hll4⟩ k4 np1 hvs4 h
    have fin1 : ∀ (b1 : Addr) x7 x8 x9 x10 x11 x12 x13, Shell2 K H (upd H4 pk (.lst ((bs.take d).map V.ref ++ [V.ref b] ++ [V.ref b1]))) p [b1] r → D.nx (f.st pk (c + 1) x7 x8 x9 x10 x11 x12 x13) (upd H4 pk (.lst ((bs.take d).map V.ref ++ [V.ref b] ++ [V.ref b1]))) := fun b1 x7 x8 x9 x10 x11 x12 x13 h =>
      q _ _ p [b1] ⟨pk, _, _, _, _, _, _, _, rfl, ⟨kvs2, by rw [upd_ne hpd.symm]; exact hdh4, hho2, by omega⟩, by rw [upd_same, ebs, List.map_append, List.map_append] <;> rfl, tabs_put hT4 hpk4 (fun ps z => by cases z) (fun c q z => codeO_lst z), by rw [upd_ne (fun z => by rw [← z, hll] at npk; cases npk)]; exact hll4⟩ (k4.new npk) np1 (by rw [upd_ne hpb.symm]; exact hvs4) h
    have ppk : p ≠ pk := fun z => npk1 (by rw [← z]; exact np2)
    cases r with
    | lt op x e =>
      refine iteF ?_
      obtain ⟨u, h1, h2⟩ := sh3
      exact fin0 _ _ _ _ _ _ _ ⟨rfl, u, hp4 _ h1, td4 _ _ h2⟩
    | ask x h0 k =>
      refine iteF ?_
      exact fin0 _ _ _ _ _ _ _ ⟨rfl, hp4 _ sh3⟩
    | say h0 e =>
      refine iteF ?_
      obtain ⟨u, h1, h2⟩ := sh3
      exact fin0 _ _ _ _ _ _ _ ⟨rfl, u, hp4 _ h1, td4 _ _ h2⟩
    | iff e ba bb =>
      refine iteT ?_
      obtain ⟨u, b1, b2, h1, h2, h3, h4, h5, h6, h7, h8, h9⟩ := sh3
      have e1 : b1 ≠ pk := fun z => npk1 (by rw [← z]; exact h6)
      have e2 : b2 ≠ pk := fun z => npk1 (by rw [← z]; exact h7)
      refine ⟨_, rfl, Or.inl ⟨rfl, _, SqL.of hpk4⟩, _, rfl, _, _, _, _, rfl, rfl, .of (hp4 _ h1), rfl, pk, _, _, rfl, rfl, hpk4, by rw [sizeLine_eq, List.length_append, List.length_map, List.length_singleton]; omega, ?_⟩
      exact fin1 b1 _ _ _ _ _ _ _ ⟨u, b1, b2, rfl, by rw [upd_ne ppk]; exact hp4 _ h1, Td.put hpk4 (td4 _ _ h2), by rw [upd_ne e1]; exact q4 _ _ h3, by rw [upd_ne e2]; exact q4 _ _ h4, h5, k1.nn _ h6, k1.nn _ h7, h8, h9⟩
    | whl e ba =>
      refine iteT ?_
      obtain ⟨u, b1, h1, h2, h3, h6, h8⟩ := sh3
      have e1 : b1 ≠ pk := fun z => npk1 (by rw [← z]; exact h6)
      refine ⟨_, rfl, Or.inl ⟨rfl, _, SqL.of hpk4⟩, _, rfl, _, _, _, _, rfl, rfl, .of (hp4 _ h1), rfl, pk, _, _, rfl, rfl, hpk4, by rw [sizeLine_eq, List.length_append, List.length_map, List.length_singleton]; omega, ?_⟩
      exact fin1 b1 _ _ _ _ _ _ _ ⟨u, b1, rfl, by rw [upd_ne ppk]; exact hp4 _ h1, Td.put hpk4 (td4 _ _ h2), by rw [upd_ne e1]; exact q4 _ _ h3, k1.nn _ h6, h8⟩
  · rintro D H bk a dx lw b p b1 b2 zs u d c kb line bs x7 x8 x13 hW hRd hlw hb hbl hvs hp hpl q
    obtain ⟨⟨kvs, hdh, hho, hkl⟩, hbk, hT, hll⟩ := hW
    refine ⟨_, rfl, _, _, _, _, rfl, rfl, .of hlw, at0, rfl, _, rfl, ?_⟩
    refine iteF' (by decide +kernel) ?_
    refine ⟨_, rfl, np ⟨_, rfl, _, _, rfl, rfl, _, rfl, bk, _, rfl, .of hbk, fun pk npk => ?_⟩⟩
    have ebs : bs.take (d + 1) = bs.take d ++ [b] := by rw [List.take_succ, hb] <;> rfl
    have ecut : cutV (bs.map V.ref) none (some ((d : Int) + 1)) = (bs.take d).map V.ref ++ [V.ref b] := by
      rw [show ((d : Int) + 1) = ((d + 1 : Nat) : Int) by omega, cut_to, ← List.map_take, ebs, List.map_append] <;> rfl
    rw [ecut]
    have s1 := same_new npk (o := .lst ((bs.take d).map V.ref ++ [V.ref b]))
    have hpk1 : upd H pk (.lst ((bs.take d).map V.ref ++ [V.ref b])) pk = some _ := upd_same
    have hRd1 := hRd.same s1
    have hlw1 := s1 _ _ hlw
    have hdh1 := s1 _ _ hdh
    have hvs1 := s1 _ _ hvs
    have hll1 := s1 _ _ hll
    have hp1 := s1 _ _ hp
    have hT1 := hT.ext s1
    have hpp : pk ≠ p := fun z => by rw [z, hp] at npk; cases npk
    have hpd : f.dh ≠ p := fun z => by rw [z, hp] at hdh; cases hdh
    have hdk : f.dh ≠ pk := fun z => by rw [← z, hdh] at npk; cases npk
    have hlk : f.ll ≠ pk := fun z => by rw [← z, hll] at npk; cases npk
    generalize upd H pk (.lst ((bs.take d).map V.ref ++ [V.ref b])) = H1 at s1 hpk1 hRd1 hlw1 hdh1 hvs1 hT1 hll1 hp1 ⊢
    refine ⟨_, rfl, _, _, _, _, rfl, rfl, .of hlw1, at0, rfl, _, rfl, ?_⟩
    refine iteT' (by decide +kernel) ?_
    refine ⟨_, rfl, Or.inl ⟨rfl, _, SqL.of hpk1⟩, _, rfl, _, rfl, 1, rfl, _, _, _, _, rfl, rfl, .of hpk1, atI_last _ _, a, dx, line, lw, b, p, b1, b2, zs, u, rfl, hRd1, hlw1, hvs1, hp1, fun H2 k2 hp2 => ?_⟩
    have hpk2 := k2 _ _ hpk1 (by simp [hpp])
    have hbs' : (bs.take d).length ≤ 100 := by rw [List.length_take]; omega
    refine ⟨pk, _, _, rfl, rfl, hpk2, by rw [sizeLine_eq, List.length_append, List.length_map, List.length_singleton]; omega, ?_⟩
    have hT2 := tabs_kp hT1 k2 fun m hm' v hv => by
      rw [List.mem_singleton.mp hm', hp1] at hv
      cases hv
      exact ⟨fun ps z => (by cases z), fun c q z => codeO_lst z⟩
    refine q _ _ ⟨pk, _, _, _, _, _, _, _, rfl, ⟨kvs, by rw [upd_ne hdk]; exact k2 _ _ hdh1 (by simp [hpd]), hho, hkl⟩, by rw [upd_same, ebs, List.map_append, List.map_append] <;> rfl, tabs_put hT2 hpk2 (fun ps z => by cases z) (fun c q z => codeO_lst z), by rw [upd_ne hlk]; exact k2 _ _ hll1 (by simp [hpl.symm])⟩ (((Kn.ofS s1).trans (Kn.of1 k2 hp2)).new npk) (by rw [upd_ne hpp.symm]; exact hp2)
  · rintro D H bk a dx lw xs ms x h kb line bs x7 x8 x13 hW hkb hRd hlw hlm hxs hml hlt hx hxh hh hml2 hmb q
    obtain ⟨⟨kvs, hdh, hho, hkl⟩, hbk, hT, hll⟩ := hW
    refine ⟨_, rfl, _, _, _, _, rfl, rfl, .of hlw, at0, rfl, _, rfl, ?_⟩
    refine iteT' (by decide +kernel) ?_
    refine ⟨_, rfl, _, _, rfl, rfl, _, rfl, ?_⟩
    refine iteF' (by decide +kernel) ?_
    refine ⟨_, rfl, _, _, rfl, rfl, _, rfl, ?_⟩
    refine iteF' (by decide +kernel) ?_
    have hla : f.lm ≠ a := fun z => by rw [← z, RdAt, hlm] at hRd; cases hRd
    have hld : f.lm ≠ f.dh := fun z => by rw [← z, hlm] at hdh; cases hdh
    have hlda : f.dh ≠ a := fun z => by rw [← z, RdAt, hdh] at hRd; cases hRd
    have hlla : f.ll ≠ a := fun z => by rw [← z, RdAt, hll] at hRd; cases hRd
    have hlld : f.ll ≠ f.dh := fun z => by rw [← z, hll] at hdh; cases hdh
    have hba : bk ≠ a := fun z => by rw [← z, RdAt, hbk] at hRd; cases hRd
    have hbd : bk ≠ f.dh := fun z => by rw [← z, hbk] at hdh; cases hdh
    have hxl := hxs.length
    rw [List.length_map] at hxl
    refine ⟨_, rfl, Or.inl ⟨rfl, _, SqL.of hlm⟩, _, rfl, _, rfl, a, dx, line, lw, f.lm, xs, ms, x, h, rfl, hRd, hlw, hlm, hxs, hlt, hx, hh, hT, fun H2 p k2 hT2 np2 hp2 => ?_⟩
    have hlm2 := k2.lst (a := f.lm) (by simp [hla]) hlm
    have hpl : p ≠ f.lm := fun z => by rw [z, hlm] at np2; cases np2
    have hpd : p ≠ f.dh := fun z => by rw [z, hdh] at np2; cases np2
    refine ⟨f.lm, _, _, rfl, rfl, hlm2, by rw [sizeLine_eq]; omega, ?_⟩
    have hxs2 := TdA.kn k2 hRd.tf _ hxs
    have k3 : Kn [a, f.lm, f.dh] H (upd H2 f.lm (.lst (xs ++ [V.ref p]))) := (k2.mono (by simp)).put (by simp)
    have hlm3 : upd H2 f.lm (.lst (xs ++ [V.ref p])) f.lm = some _ := upd_same
    have hp3 : upd H2 f.lm (.lst (xs ++ [V.ref p])) p = some (.tup [.str x, .str h]) := by rw [upd_ne hpl]; exact hp2
    have hdh3 : upd H2 f.lm (.lst (xs ++ [V.ref p])) f.dh = some (.dK kvs) := by rw [upd_ne hld.symm]; exact k2.dK (by simp [hlda]) hdh
    have hbk3 : upd H2 f.lm (.lst (xs ++ [V.ref p])) bk = some (.lst (bs.map V.ref)) := by rw [upd_ne hmb.symm]; exact k2.lst (by simp [hba]) hbk
    have hll3 : upd H2 f.lm (.lst (xs ++ [V.ref p])) f.ll = some (.lst (f.L.map V.str)) := by rw [upd_ne hml2.symm]; exact k2.lst (by simp [hlla]) hll
    have hxs3 : TdA K (upd H2 f.lm (.lst (xs ++ [V.ref p]))) xs (ms.map markD) := TdA.put hlm2 hxs2
    have hT3 := tabs_put (o := .lst (xs ++ [V.ref p])) hT2 hlm2 (fun ps z => by cases z) (fun c q z => codeO_lst z)
    generalize upd H2 f.lm (.lst (xs ++ [V.ref p])) = H3 at k3 hlm3 hp3 hdh3 hbk3 hll3 hxs3 hT3 ⊢
    refine ⟨_, rfl, 1, rfl, _, _, _, _, rfl, rfl, .of hlm3, atI_last _ _, _, _, _, _, rfl, rfl, .of hp3, rfl, _, rfl, _, rfl, 1, rfl, _, _, _, _, rfl, rfl, .of hlm3, atI_last _ _, _, _, _, _, rfl, rfl, .of hp3, rfl, f.dh, _, rfl, DPut.k (k := Sum.inr x) hdh3 (by rw [sizeLine_eq]; omega), ?_⟩
    have hlp := length_putK kvs (Sum.inr x) (V.str h)
    have hho' : Homes hm (putK kvs (Sum.inr x) (.str h)) := by rw [hxh]; exact hho.put x
    have f4 : TF H3 [f.dh] := TF.one hdh3 (fun _ e => by cases e) (fun _ _ e => by cases e) .nil
    have hxs4 : TdA K (upd H3 f.dh (.dK (putK kvs (Sum.inr x) (.str h)))) (xs ++ [V.ref p]) ((ms ++ [(x, h)]).map markD) := by
      refine TdA.kp Kp.at f4 _ ?_
      rw [List.map_append]
      exact hxs3.append (tda_cons.mpr ⟨td_tup.mpr ⟨p, _, rfl, .of hp3, tda_cons.mpr ⟨td_str.mpr rfl, tda_cons.mpr ⟨td_str.mpr rfl, tda_nil⟩⟩⟩, tda_nil⟩)
    refine q _ _ _ ⟨_, _, _, _, _, _, _, rfl, ⟨_, upd_same, hho', by omega⟩, by rw [upd_ne hbd]; exact hbk3, tabs_put hT3 hdh3 (fun ps z => by cases z) (fun c q z => codeO_dK z), by rw [upd_ne hlld]; exact hll3⟩ (k3.put (by simp)) (by rw [upd_ne hld]; exact hlm3) hxs4
end
end Tw
set_option Elab.async false
set_option linter.all false
set_option maxRecDepth 100000
set_option maxHeartbeats 4000000
namespace Tw
open PySem PySem.Spec PyProof.Rows L2 LamX NdefX TL
/-! ### read_program: a line's words -/
theorem Wd.wordy {x : Str} (h : Wd x) : wordy x := ⟨h.ne, h.no32⟩
theorem tl_join_head {ws : List Str} (hw : ∀ x ∈ ws, Wd x) : ∀ c r, tl (Str.join sp ws) = c :: r → c ≠ 32 := by
  intro c r e
  cases ws with
  | nil => rw [tl_join] at e; simp [joinL] at e
  | cons x ws =>
    have hx := hw x List.mem_cons_self
    obtain ⟨c0, r0, e0⟩ : ∃ c0 r0, tl x = c0 :: r0 := by
      cases h : tl x with
      | nil => exact absurd h hx.ne
      | cons c0 r0 => exact ⟨c0, r0, rfl⟩
    have hc : c = c0 := by
      rw [tl_join, List.map_cons] at e
      cases ws with
      | nil => rw [show joinL (tl sp) (tl x :: List.map tl []) = tl x from rfl, e0] at e; cases e; rfl
      | cons y ws =>
        have e1 : joinL (tl sp) (tl x :: List.map tl (y :: ws)) = tl x ++ tl sp ++ joinL (tl sp) (List.map tl (y :: ws)) := by first | rfl | simp [joinL]
        rw [e1, e0] at e
        cases e
        rfl
    rw [hc]
    intro z
    exact hx.no32 (by rw [e0, z]; simp)
theorem cut_ahead (d : Nat) (s : Str) : cutS (ahead d ++ s) (some ((2 * d : Nat) : Int)) none = s := by
  have e1 : (ahead d ++ s).length = 2 * d + s.length := by rw [len_tl, tl_append, List.length_append, tl_ahead, List.length_replicate, ← len_tl]
  refine ext_tl ?_
  unfold cutS
  rw [HT.sIx_nat, HT.sIx_none, e1, Nat.min_eq_left (by omega)]
  show (((tl (ahead d ++ s)).drop (2 * d)).take (2 * d + s.length - 2 * d)) = tl s
  rw [tl_append, tl_ahead, List.drop_left' (by rw [List.length_replicate]), List.take_of_length_le (by rw [← len_tl]; omega)]
structure Line1 (K : PySem.W.Frag) (hm : Str → Str) (f : Fx) (t t2 : TS) : Prop where
  head : ∀ (D : Ends) (H : Hp) (bk : Addr) (ws : List Str) (d c kb i : Nat) (bs : List Addr) (x9 x10 x11 x12 x13 : Option V), Wk K hm f bs kb bk H → ws ≠ [] → (∀ x ∈ ws, Wd x) → ws.length ≤ 50 → d < bs.length → d ≤ 10 →
    (∀ H1 a dx lw, Same H H1 → H a = none → RdAt K H1 a dx (i + 1) lw 1 → H1 lw = some (.lst (ws.map V.str)) →
      t2 D (f.st bk c (some (.int (i : Nat))) (some (.str (ahead d ++ Str.join sp ws))) (some (.int (2 * d : Nat))) (some (.ref lw)) (some (.ref a)) (some (.int (d : Nat))) x13) H1) →
    t D (f.st bk c (some (.int (i : Nat))) (some (.str (ahead d ++ Str.join sp ws))) x9 x10 x11 x12 x13) H
section
variable {P : Program} {w : World} {K : PySem.W.Frag} {mg : Str → Option Value} {base : Heap}
theorem lines1 (T : Txt K mg) {cdv : Value} {A : Around} {outer : List Env} {s : Shared} {H0 : Hp} {E : XK} {t2 : TS}
    (hr : Room 20 (A.deeper (envOfC "read_program" (defScope s_read_program) s.heap.objs.size (He.ga K "read_program") cdv)))
    (h2 : PSs (cxOf CX0 P w K mg base N_read_program "read_program" (defScope s_read_program) (He.ga K "read_program") cdv A outer s H0 E).nox (loopB.drop 5) t2) :
    ∃ t, PSs (cxOf CX0 P w K mg base N_read_program "read_program" (defScope s_read_program) (He.ga K "read_program") cdv A outer s H0 E).nox loopB t ∧ ∀ (hm : Str → Str) (f : Fx), Line1 K hm f t t2 := by
  have C_blanks_of := ok_blanks_of (P := P) (w := w) (base := base) T
  have C_words_of := ok_words_of (P := P) (w := w) (base := base) T
  obtain ⟨fdI, bI, FI⟩ := (ok_Rd_init (P := P) (w := w) (base := base) T).ex
  refine ⟨_, (pss_cons (ps_set (i := 9) sc_read_program.nd rfl (Or.inl rfl) (pe_callC C_blanks_of (hr.mono (by decide)) rfl (pa_cons (pv 8) pa_nil)))
  (pss_cons (ps_set (i := 10) sc_read_program.nd rfl (Or.inl rfl) (pe_callC C_words_of (hr.mono (by decide)) rfl (pa_cons (pe_slice sl_str (pv 8) (po_some (pv 9)) po_none) pa_nil)))
  (pss_cons (ps_if (PW.pt (pw_or (pt_cmpR op_isN (pv 10) pe_non (nomark _)) (pw_or (pt_cmpR op_eq (pe_op op_mod (pv 9) pe_int) pe_int (nomark _)) (pw_or1 (pt_cmpR op_ge (pe_op op_fdiv (pv 9) pe_int) (pe_callB call_len_seq (by rfl) T.len bb_len (pa_cons (pv 3) pa_nil)) (nomark _)))))) pss_never pss_nil)
  (pss_cons (ps_set (i := 11) sc_read_program.nd rfl (Or.inl rfl) (pe_make T.Rd_mk FI (hr.mono (by decide)) (by rfl) T.Rd_g bI .nil pass0 (pa_cons (pe_op op_add (pv 7) pe_int) (pa_cons (pv 10) pa_nil))))
  (pss_cons (ps_set (i := 12) sc_read_program.nd rfl (Or.inl rfl) (pe_op op_fdiv (pv 9) pe_int))
  h2))))), ?_⟩
  intro hm f
  refine ⟨?_⟩
  rintro D H bk ws d c kb i bs x9 x10 x11 x12 x13 hW hne hwd hwl hdb hd10 q
  have hsl : (Str.join sp ws).length ≤ 600 := by
    have h1 := join_len sp ws
    have h2 := sum_le fun x hx => (hwd x hx).len
    rw [sp_len] at h1
    omega
  have e1 : (ahead d ++ Str.join sp ws).length = 2 * d + (Str.join sp ws).length := by rw [len_tl, tl_append, List.length_append, tl_ahead, List.length_replicate, ← len_tl]
  refine ⟨_, rfl, d, Str.join sp ws, rfl, tl_join_head hwd, by omega, ?_⟩
  refine ⟨_, rfl, _, rfl, _, rfl, np ⟨_, rfl, by rw [sizeLine_eq]; omega, ?_⟩⟩
  rw [cut_ahead]
  refine ⟨ws, rfl, hne, fun x hx => (hwd x hx).wordy, by omega, fun H1 lw s1 n1 h1 => ?_⟩
  refine ⟨_, rfl, rfl, _, rfl, ?_⟩
  refine iteF' (by rfl) ?_
  refine ⟨_, rfl, _, _, rfl, rfl, (by show (0 : Int) < 2; decide), rfl, _, rfl, ?_⟩
  refine iteF' (decide_eq_false (by intro z; injection z with z; omega)) ?_
  obtain ⟨⟨kvs, hdh, hho, hkl⟩, hbk, hT, hll⟩ := hW
  refine ⟨_, rfl, _, _, rfl, rfl, (by show (0 : Int) < 2 ∧ (2 : Int) < 1073741824; decide), _, rfl, _, _, rfl, .inl (.of (s1 _ _ hbk)), _, _, rfl, rfl, _, rfl, ?_⟩
  refine iteF' (decide_eq_false (by rw [List.length_map]; omega)) ?_
  refine ⟨_, rfl, _, _, rfl, rfl, _, rfl, fun a dx na nd nad => ?_⟩
  refine ⟨a, dx, i + 1, lw, rfl, upd_same, fun H2 k2 hR2 => ⟨rfl, ?_⟩⟩
  refine ⟨_, rfl, _, _, rfl, rfl, (by show (0 : Int) < 2 ∧ (2 : Int) < 1073741824; decide), ?_⟩
  have nla : lw ≠ a := fun z => by rw [z, na] at h1; cases h1
  have nld : lw ≠ dx := fun z => by rw [z, nd] at h1; cases h1
  have s2 : Same H H2 := fun b o e => by
    have e1 := s1 _ _ e
    refine k2 _ _ ?_ (by
      intro z
      rw [List.mem_singleton.mp z, na] at e1
      cases e1)
    rw [upd_ne (fun z => by rw [z, na] at e1; cases e1), upd_ne (fun z => by rw [z, nd] at e1; cases e1)]
    exact e1
  have h2l : H2 lw = some (.lst (ws.map V.str)) := k2 _ _ (by rw [upd_ne nla, upd_ne nld]; exact h1) (by simp [nla])
  have e2 : ((2 * d : Nat) : Int) / 2 = (d : Nat) := by omega
  have key : ∀ z : Int, z = (d : Nat) → t2 D (f.st bk c (some (.int (i : Nat))) (some (.str (ahead d ++ Str.join sp ws))) (some (.int (2 * d : Nat))) (some (.ref lw)) (some (.ref a)) (some (.int z)) x13) H2 := fun z hz => hz ▸ q H2 a dx lw s2 (s1.free na) hR2 h2l
  exact key _ e2
end
end Tw
set_option Elab.async false
set_option linter.all false
set_option maxRecDepth 100000
set_option maxHeartbeats 4000000
namespace Tw
open PySem PySem.Spec PyProof.Rows L2 LamX NdefX TL
/-! ### read_program: the lines of a tree -/
def Rest (f : Fx) (g : TG) (t : TS) (D : Ends) : Nat → L2.St → Hp → Prop
  | 0, σ, H => H f.ll = some (.lst (f.L.map V.str)) ∧ D.nx σ H
  | k + 1, σ, H => H f.ll = some (.lst (f.L.map V.str)) ∧ ∀ x H', YPair (fun i => some (.int (i : Nat))) (fun i => (f.L.map V.str)[i]?) (f.L.length - (k + 1)) H x H' →
      g x σ H' fun σ2 H2 => t { D with nx := Rest f g t D k, ct := Rest f g t D k, bk := D.nx } σ2 H2
def GOk (f : Fx) (g : TG) : Prop := ∀ (p : Addr) (i : Nat) (s : Str) (bk : Addr) (c : Nat) (x7 x8 x9 x10 x11 x12 x13 : Option V) (H : Hp) (Q : L2.St → Hp → Prop), H p = some (.tup [.int i, .str s]) →
  Q (f.st bk c (some (.int i)) (some (.str s)) x9 x10 x11 x12 x13) H → g (.ref p) (f.st bk c x7 x8 x9 x10 x11 x12 x13) H Q
theorem Wk.same {K : PySem.W.Frag} {hm : Str → Str} {f : Fx} {bs : List Addr} {kb : Nat} {bk : Addr} {H H' : Hp} (s : Same H H') (h : Wk K hm f bs kb bk H) : Wk K hm f bs kb bk H' := by
  obtain ⟨⟨kvs, h1, h2, h3⟩, h4, h5, h6⟩ := h
  exact ⟨⟨kvs, s _ _ h1, h2, h3⟩, s _ _ h4, h5.ext s, s _ _ h6⟩
section
variable {K : PySem.W.Frag} {hm : Str → Str} {f : Fx} {g : TG} {t t2 : TS} {D : Ends}
theorem rest_lineB (hd : Line1 K hm f t t2) (hg : GOk f g) {k i d c kb : Nat} {ws : List Str} {bs : List Addr} {bk : Addr} {σ : L2.St} {H : Hp} (hi : i + (k + 1) = f.L.length) (hL : f.L[i]? = some (ahead d ++ Str.join sp ws)) (hS : StaB K hm f bs c kb bk σ H)
    (hne : ws ≠ []) (hwd : ∀ x ∈ ws, Wd x) (hwl : ws.length ≤ 50) (hdb : d < bs.length) (hd10 : d ≤ 10)
    (h : ∀ H1 a dx lw x7 x8 x13, Same H H1 → H a = none → RdAt K H1 a dx (i + 1) lw 1 → H1 lw = some (.lst (ws.map V.str)) → Wk K hm f bs kb bk H1 →
      t2 { D with nx := Rest f g t D k, ct := Rest f g t D k, bk := D.nx } (f.st bk c x7 x8 (some (.int (2 * d : Nat))) (some (.ref lw)) (some (.ref a)) (some (.int (d : Nat))) x13) H1) : Rest f g t D (k + 1) σ H := by
  obtain ⟨x7, x8, x9, x10, x11, x12, x13, rfl, hW⟩ := hS
  refine ⟨hW.ll, ?_⟩
  rintro x H' ⟨T, y, z, rfl, nT, rfl, e1, e2⟩
  have e0 : f.L.length - (k + 1) = i := by omega
  have e1 : some (V.int ((f.L.length - (k + 1) : Nat) : Int)) = some y := e1
  have e2 : (f.L.map V.str)[f.L.length - (k + 1)]? = some z := e2
  rw [e0] at e1 e2
  rw [List.getElem?_map, hL] at e2
  cases e1
  cases e2
  have s1 := same_new nT (o := .tup [V.int (i : Nat), V.str (ahead d ++ Str.join sp ws)])
  refine hg T i _ bk c x7 x8 x9 x10 x11 x12 x13 _ _ upd_same ?_
  refine hd.head _ _ bk ws d c kb i bs x9 x10 x11 x12 x13 (hW.same s1) hne hwd hwl hdb hd10 fun H1 a dx lw s2 na hR hlw => ?_
  exact h H1 a dx lw _ _ _ (s1.trans s2) (s1.free na) hR hlw ((hW.same s1).same s2)
theorem rest_line (hd : Line1 K hm f t t2) (hg : GOk f g) {k i d c kb : Nat} {ws : List Str} {bs : List Addr} {σ : L2.St} {H : Hp} (hi : i + (k + 1) = f.L.length) (hL : f.L[i]? = some (ahead d ++ Str.join sp ws)) (hS : Sta K hm f bs c kb σ H)
    (hne : ws ≠ []) (hwd : ∀ x ∈ ws, Wd x) (hwl : ws.length ≤ 50) (hdb : d < bs.length) (hd10 : d ≤ 10)
    (h : ∀ bk H1 a dx lw x7 x8 x13, Same H H1 → H a = none → RdAt K H1 a dx (i + 1) lw 1 → H1 lw = some (.lst (ws.map V.str)) → Wk K hm f bs kb bk H1 →
      t2 { D with nx := Rest f g t D k, ct := Rest f g t D k, bk := D.nx } (f.st bk c x7 x8 (some (.int (2 * d : Nat))) (some (.ref lw)) (some (.ref a)) (some (.int (d : Nat))) x13) H1) : Rest f g t D (k + 1) σ H := by
  obtain ⟨bk, hB⟩ := hS
  exact rest_lineB hd hg hi hL hB hne hwd hwl hdb hd10 (h bk)
/-- what is left when one row's (or one block's) lines are read -/
structure Left (K : PySem.W.Frag) (hm : Str → Str) (f : Fx) (bs : List Addr) (d c kb : Nat) (b : Addr) (H : Hp) (bs' : List Addr) (σ' : L2.St) (H' : Hp) : Prop where
  sta : Sta K hm f bs' c kb σ' H'
  kn : Kn [b, f.dh] H H'
  tk : bs'.take (d + 1) = bs.take (d + 1)
  len : bs'.length ≤ 10
def RowsP (K : PySem.W.Frag) (hm : Str → Str) (f : Fx) (R : Nat → L2.St → Hp → Prop) (rs : List Row) : Prop :=
  ∀ (d i m c kb : Nat) (bs : List Addr) (b : Addr) (vs0 : List V) (σ : L2.St) (H : Hp) (more : List Str), oks hm rs → d + dps rs ≤ 5 → c + cnts rs ≤ 60 → kb + cnts rs ≤ 900 → f.L.drop i = liness d rs ++ more → more.length = m → Sta K hm f bs c kb σ H →
    bs[d]? = some b → bs.length ≤ 10 → H b = some (.lst vs0) → vs0.length + cnts rs ≤ 60 → b ≠ f.ll →
    (∀ σ' H' bs' vs, Left K hm f bs d (c + cnts rs) (kb + cnts rs) b H bs' σ' H' → H' b = some (.lst (vs0 ++ vs)) → RowsAt K true (fun p => H p = none) H' vs rs → R m σ' H') → R ((liness d rs).length + m) σ H
def RowP (K : PySem.W.Frag) (hm : Str → Str) (f : Fx) (R : Nat → L2.St → Hp → Prop) (r : Row) : Prop :=
  ∀ (d i m c kb : Nat) (bs : List Addr) (b : Addr) (vs0 : List V) (σ : L2.St) (H : Hp) (more : List Str), r.ok hm → d + r.dp ≤ 5 → c + r.cnt ≤ 60 → kb + r.cnt ≤ 900 → f.L.drop i = r.lines d ++ more → more.length = m → Sta K hm f bs c kb σ H →
    bs[d]? = some b → bs.length ≤ 10 → H b = some (.lst vs0) → vs0.length + r.cnt ≤ 60 → b ≠ f.ll →
    (∀ σ' H' bs' v, Left K hm f bs d (c + r.cnt) (kb + r.cnt) b H bs' σ' H' → H' b = some (.lst (vs0 ++ [v])) → RowAt K true (fun p => H p = none) H' v r → R m σ' H') → R ((r.lines d).length + m) σ H
theorem drop_get {α : Type} {l : List α} {i : Nat} {x : α} {r : List α} (h : l.drop i = x :: r) : l[i]? = some x ∧ l.drop (i + 1) = r ∧ l.length = i + 1 + r.length := by
  have h1 := congrArg (·[0]?) h
  have h2 := congrArg List.tail h
  have h3 := congrArg List.length h
  rw [List.tail_drop] at h2
  rw [List.length_drop, List.length_cons] at h3
  refine ⟨by simpa using h1, by simpa using h2, by omega⟩
theorem drop_app {α : Type} {l : List α} {i : Nat} {a b : List α} (h : l.drop i = a ++ b) : l.drop (i + a.length) = b := by
  rw [← List.drop_drop, h, List.drop_left]
theorem take_get {α : Type} {l l' : List α} {d : Nat} (h : l'.take (d + 1) = l.take (d + 1)) : l'[d]? = l[d]? := by
  have := congrArg (·[d]?) h
  simpa using this
/-- a row's own line -/
theorem row_one (hd : Line1 K hm f t t2) (hg : GOk f g) (h2 : Lines2 K hm f t2) (hhs : HsOk hm) {r : Row} {d i m c kb : Nat} {bs : List Addr} {b : Addr} {vs0 : List V} {σ : L2.St} {H : Hp} {more : List Str} (hok : r.ok hm) (hdp : d + 1 ≤ 5) (hc : c + 1 ≤ 60) (hkb : kb + 1 ≤ 900) (hL : f.L.drop i = Row.line d r :: more) (hm' : more.length = m) (hS : Sta K hm f bs c kb σ H)
    (hb : bs[d]? = some b) (hbl : bs.length ≤ 10) (hvs : H b = some (.lst vs0)) (hvl : vs0.length ≤ 60) (hbn : b ≠ f.ll)
    (h : ∀ σ' H' p bl, Left K hm f bs d (c + 1) (kb + 1) b H (bs.take (d + 1) ++ bl) σ' H' → H p = none → H' b = some (.lst (vs0 ++ [.ref p])) → Shell2 K H H' p bl r → Rest f g t D m σ' H') : Rest f g t D (m + 1) σ H := by
  obtain ⟨g1, g2, g3⟩ := drop_get hL
  have hdl : d < bs.length := by
    by_cases h : d < bs.length
    · exact h
    · rw [List.getElem?_eq_none (by omega)] at hb; cases hb
  refine rest_line hd hg (i := i) (d := d) (ws := r.words) (by omega) g1 hS r.words_ne (r.words_wd hhs hok) (by have := r.words_len hok; omega) hdl (by omega) fun bk H1 a dx lw x7 x8 x13 s1 na hR hlw hW => ?_
  refine h2.row _ H1 bk a dx lw b vs0 r d c kb (i + 1) bs x7 x8 x13 hW (by omega) hR hlw hok hhs (by omega) (by omega) hb (by omega) (s1 _ _ hvs) (by omega) hbn fun σ' H' p bl hS' k' np' hb' sh => ?_
  have np0 := s1.free np'
  refine h σ' H' p bl ⟨hS', (Kn.ofS (M := [b, f.dh]) s1).comp k' fun q hq => ?_, ?_, ?_⟩ np0 hb' ?_
  · simp only [List.mem_cons, List.not_mem_nil, or_false] at hq ⊢
    rcases hq with e | e | e
    · exact .inr (by rw [e]; exact na)
    · exact .inl (.inl e)
    · exact .inl (.inr e)
  · rw [List.take_append_of_le_length (by rw [List.length_take]; omega), List.take_take, Nat.min_self]
  · have : bl.length ≤ 1 := by
      cases r with
      | lt _ _ _ => rw [sh.1]; simp
      | ask _ _ _ => rw [sh.1]; simp
      | say _ _ => rw [sh.1]; simp
      | iff _ _ _ => obtain ⟨_, _, _, e, _⟩ := sh; rw [e]; simp
      | whl _ _ => obtain ⟨_, _, e, _⟩ := sh; rw [e]; simp
    rw [List.length_append, List.length_take]
    omega
  · cases r with
    | lt _ _ _ => exact sh
    | ask _ _ _ => exact sh
    | say _ _ => exact sh
    | iff _ _ _ =>
      obtain ⟨u, b1, b2, h0, h1, h2, h3, h4, h5, h6, h7, h8⟩ := sh
      exact ⟨u, b1, b2, h0, h1, h2, h3, h4, h5, s1.free h6, s1.free h7, h8⟩
    | whl _ _ =>
      obtain ⟨u, b1, h0, h1, h2, h3, h4, h5⟩ := sh
      exact ⟨u, b1, h0, h1, h2, h3, s1.free h4, h5⟩
/-- one 'else' -/
theorem else_one (hd : Line1 K hm f t t2) (hg : GOk f g) (h2 : Lines2 K hm f t2) {d i m c kb : Nat} {bs : List Addr} {b p b1 b2 : Addr} {zs : List V} {u : V} {σ : L2.St} {H : Hp} {more : List Str} (hdp : d ≤ 5) (hL : f.L.drop i = (ahead d ++ "else") :: more) (hm' : more.length = m) (hS : Sta K hm f bs c kb σ H)
    (hb : bs[d]? = some b) (hbl : bs.length ≤ 10) (hvs : H b = some (.lst (zs ++ [.ref p]))) (hp : H p = some (.lst [.str "if", u, .ref b1, .ref b2])) (hpn : p ≠ f.ll)
    (h : ∀ σ' H', Sta K hm f (bs.take (d + 1) ++ [b2]) c kb σ' H' → Kn [p] H H' → H' p = some (.lst [.str "if", u, .ref b1, .ref b2, .str "else"]) → Rest f g t D m σ' H') : Rest f g t D (m + 1) σ H := by
  obtain ⟨g1, g2, g3⟩ := drop_get hL
  have hdl : d < bs.length := by
    by_cases h : d < bs.length
    · exact h
    · rw [List.getElem?_eq_none (by omega)] at hb; cases hb
  have e1 : ("else" : Str) = Str.join sp ["else"] := ext_tl (by rw [tl_join]; rfl)
  rw [e1] at g1
  refine rest_line hd hg (i := i) (d := d) (ws := ["else"]) (by omega) g1 hS (by simp) (fun x hx => by rw [List.mem_singleton.mp hx]; exact wd_lit (by decide +kernel)) (by simp) hdl (by omega) fun bk H1 a dx lw x7 x8 x13 s1 na hR hlw hW => ?_
  refine h2.els _ H1 bk a dx lw b p b1 b2 zs u d c kb (i + 1) bs x7 x8 x13 hW hR hlw hb (by omega) (s1 _ _ hvs) (s1 _ _ hp) hpn fun σ' H' hS' k' hp' => ?_
  exact h σ' H' hS' ((Kn.ofS (M := [p]) s1).trans k') hp'
theorem rows_nil {R : Nat → L2.St → Hp → Prop} : RowsP K hm f R [] := by
  intro d i m c kb bs b vs0 σ H more hok hdp hc hkb hL hm' hS hb hbl hvs hvl hbn h
  rw [show (liness d []).length + m = m by simp [liness]]
  exact h σ H bs [] ⟨hS, Kn.refl _ _, rfl, hbl⟩ (by rw [List.append_nil]; exact hvs) .nil
theorem Sta.dK {bs : List Addr} {c kb : Nat} {σ : L2.St} {H : Hp} (h : Sta K hm f bs c kb σ H) : ∃ kvs, H f.dh = some (.dK kvs) := by
  obtain ⟨_, _, _, _, _, _, _, _, _, h⟩ := h
  obtain ⟨kvs, h, _⟩ := h.dh
  exact ⟨kvs, h⟩
theorem Sta.ll {bs : List Addr} {c kb : Nat} {σ : L2.St} {H : Hp} (h : Sta K hm f bs c kb σ H) : H f.ll = some (.lst (f.L.map V.str)) := by
  obtain ⟨_, _, _, _, _, _, _, _, _, h⟩ := h
  exact h.ll
theorem rows_cons {r : Row} {rs : List Row} (h1 : RowP K hm f (Rest f g t D) r) (h2 : RowsP K hm f (Rest f g t D) rs) : RowsP K hm f (Rest f g t D) (r :: rs) := by
  intro d i m c kb bs b vs0 σ H more hok hdp hc hkb hL hm' hS hb hbl hvs hvl hbn h
  obtain ⟨o1, o2⟩ : r.ok hm ∧ oks hm rs := id hok
  have hdp' : d + max r.dp (dps rs) ≤ 5 := hdp
  have ec : cnts (r :: rs) = r.cnt + cnts rs := rfl
  rw [ec] at hc hkb hvl h
  have hrc := r.cnt_pos
  rw [liness, List.append_assoc] at hL
  rw [liness, List.length_append, Nat.add_assoc]
  refine h1 d i _ c kb bs b vs0 σ H _ o1 (by omega) (by omega) (by omega) hL (by rw [List.length_append, hm']) hS hb hbl hvs (by omega) hbn fun σ1 H1 bs1 v l1 e1 r1 => ?_
  refine h2 d _ m _ _ bs1 b _ σ1 H1 more o2 (by omega) (by omega) (by omega) (drop_app hL) hm' l1.sta (by rw [take_get l1.tk]; exact hb) l1.len e1 (by rw [List.length_append, List.length_singleton]; omega) hbn fun σ2 H2 bs2 vs l2 e2 r2 => ?_
  obtain ⟨kvs, hdh⟩ := hS.dK
  obtain ⟨kvs1, hdh1⟩ := l1.sta.dK
  refine h σ2 H2 bs2 (v :: vs) ⟨by rw [← Nat.add_assoc, ← Nat.add_assoc]; exact l2.sta, l1.kn.trans l2.kn, l2.tk.trans l1.tk, l2.len⟩ (by rw [e2, List.append_assoc] <;> rfl) ?_
  rw [RowsAt]
  refine ⟨v, vs, rfl, r1.kn l2.kn (TF.one e1 (fun _ e => by cases e) (fun _ _ e => by cases e) (TF.one hdh1 (fun _ e => by cases e) (fun _ _ e => by cases e) .nil)) fun q hq => ?_, r2.wk fun q hq => l1.kn.nn q hq⟩
  simp only [List.mem_cons, List.not_mem_nil, or_false]
  rintro (z | z)
  · rw [z, hvs] at hq; cases hq
  · rw [z, hdh] at hq; cases hq
theorem row_plain (hd : Line1 K hm f t t2) (hg : GOk f g) (h2 : Lines2 K hm f t2) (hhs : HsOk hm) {r : Row} (hl : ∀ d, r.lines d = [Row.line d r]) (hcn : r.cnt = 1) (hdn : r.dp = 1) (hs : ∀ (H H' : Hp) p bl, Shell2 K H H' p bl r → H p = none → RowAt K true (fun p => H p = none) H' (.ref p) r) : RowP K hm f (Rest f g t D) r := by
  intro d i m c kb bs b vs0 σ H more hok hdp hc hkb hL hm' hS hb hbl hvs hvl hbn h
  rw [hl] at hL
  rw [hl, List.length_singleton, Nat.add_comm]
  rw [hcn] at hc hkb hvl h
  rw [hdn] at hdp
  refine row_one hd hg h2 hhs hok hdp hc hkb hL hm' hS hb hbl hvs (by omega) hbn fun σ' H' p bl l np e sh => ?_
  exact h σ' H' _ _ l e (hs H H' p bl sh np)
theorem row_whl (hd : Line1 K hm f t t2) (hg : GOk f g) (h2 : Lines2 K hm f t2) (hhs : HsOk hm) {e : E} {a : List Row} (ha : RowsP K hm f (Rest f g t D) a) : RowP K hm f (Rest f g t D) (.whl e a) := by
  intro d i m c kb bs b vs0 σ H more hok hdp hc hkb hL hm' hS hb hbl hvs hvl hbn h
  have ec : (Row.whl e a).cnt = 1 + cnts a := rfl
  have hdp' : d + (1 + dps a) ≤ 5 := hdp
  rw [ec] at hc hkb hvl h
  rw [Row.lines, List.cons_append] at hL
  rw [Row.lines, List.length_cons, show (liness (d + 1) a).length + 1 + m = ((liness (d + 1) a).length + m) + 1 by omega]
  obtain ⟨g1, g2, g3⟩ := drop_get hL
  refine row_one hd hg h2 hhs hok (by omega) (by omega) (by omega) hL (by rw [List.length_append, hm']) hS hb hbl hvs (by omega) hbn fun σ1 H1 p bl l1 np e1 sh => ?_
  obtain ⟨u, b1, rfl, hp, hu, hb1, nb1, npb⟩ := sh
  obtain ⟨kvs, hdh⟩ := hS.dK
  obtain ⟨kvs1, hdh1⟩ := l1.sta.dK
  have hll := hS.ll
  have hbt : (bs.take (d + 1) ++ [b1])[d + 1]? = some b1 := by
    have hdl : d < bs.length := by
      by_cases h : d < bs.length
      · exact h
      · rw [List.getElem?_eq_none (by omega)] at hb; cases hb
    rw [List.getElem?_append_right (by rw [List.length_take]; omega), List.length_take, Nat.min_eq_left (by omega), Nat.sub_self]
    rfl
  have hbb1 : b ≠ b1 := fun z => by rw [z, nb1] at hvs; cases hvs
  have hbd : b ≠ f.dh := fun z => by rw [z, hdh] at hvs; cases hvs
  have hpd : p ≠ f.dh := fun z => by rw [z, hdh] at np; cases np
  refine ha (d + 1) (i + 1) m _ _ _ b1 [] σ1 H1 more hok.2 (by omega) (by omega) (by omega) g2 hm' l1.sta hbt l1.len hb1 (by simp; omega) (fun z => by rw [z, hll] at nb1; cases nb1) fun σ2 H2 bs2 vs l2 e2 r2 => ?_
  rw [List.nil_append] at e2
  have tf : TF H1 [b1, f.dh] := TF.one hb1 (fun _ e => by cases e) (fun _ _ e => by cases e) (TF.one hdh1 (fun _ e => by cases e) (fun _ _ e => by cases e) .nil)
  refine h σ2 H2 bs2 (.ref p) ⟨by rw [← Nat.add_assoc, ← Nat.add_assoc]; exact l2.sta, l1.kn.comp l2.kn fun q hq => ?_, ?_, l2.len⟩ (l2.kn.lst (by simp [hbb1, hbd]) e1) ?_
  · simp only [List.mem_cons, List.not_mem_nil, or_false] at hq ⊢
    rcases hq with z | z
    · exact .inr (by rw [z]; exact nb1)
    · exact .inl (.inr z)
  · have h3 := congrArg (List.take (d + 1)) l2.tk
    rw [List.take_take, List.take_take, Nat.min_eq_left (by omega)] at h3
    rw [h3, l1.tk]
  · rw [RowAt]
    exact ⟨p, u, b1, vs, rfl, np, l2.kn.lst (by simp [npb, hpd]) hp, Td.kn l2.kn tf _ hu, nb1, e2, r2.wk fun q hq => l1.kn.nn q hq⟩
theorem row_iff (hd : Line1 K hm f t t2) (hg : GOk f g) (h2 : Lines2 K hm f t2) (hhs : HsOk hm) {e : E} {a c0 : List Row} (ha : RowsP K hm f (Rest f g t D) a) (hb0 : RowsP K hm f (Rest f g t D) c0) : RowP K hm f (Rest f g t D) (.iff e a c0) := by
  intro d i m c kb bs b vs0 σ H more hok hdp hc hkb hL hm' hS hb hbl hvs hvl hbn h
  have ec : (Row.iff e a c0).cnt = 1 + cnts a + cnts c0 := rfl
  have hdp' : d + (1 + max (dps a) (dps c0)) ≤ 5 := hdp
  rw [ec] at hc hkb hvl h
  obtain ⟨o0, o1, o2⟩ : e.ok ∧ oks hm a ∧ oks hm c0 := id hok
  have eln : ∃ tail, (Row.iff e a c0).lines d = Row.line d (.iff e a c0) :: (liness (d + 1) a ++ tail) ∧ (c0 = [] ∧ tail = [] ∨ tail = (ahead d ++ "else") :: liness (d + 1) c0) := by
    cases c0 with
    | nil => exact ⟨[], by rw [Row.lines], .inl ⟨rfl, rfl⟩⟩
    | cons r rs => exact ⟨_, by rw [Row.lines], .inr (by rw [liness])⟩
  obtain ⟨tail, el, ht⟩ := eln
  rw [el, List.cons_append, List.append_assoc] at hL
  rw [el, List.length_cons, List.length_append, show (liness (d + 1) a).length + tail.length + 1 + m = ((liness (d + 1) a).length + (tail.length + m)) + 1 by omega]
  obtain ⟨g1, g2, g3⟩ := drop_get hL
  refine row_one hd hg h2 hhs hok (by omega) (by omega) (by omega) hL (by rw [List.length_append, List.length_append, hm']) hS hb hbl hvs (by omega) hbn fun σ1 H1 p bl l1 np e1 sh => ?_
  obtain ⟨u, b1, b2, rfl, hp, hu, hb1, hb2, nb12, nb1, nb2, npb, npb2⟩ := sh
  obtain ⟨kvs, hdh⟩ := hS.dK
  obtain ⟨kvs1, hdh1⟩ := l1.sta.dK
  have hll := hS.ll
  have hdl : d < bs.length := by
    by_cases h : d < bs.length
    · exact h
    · rw [List.getElem?_eq_none (by omega)] at hb; cases hb
  have hbt : ∀ {l : List Addr} (x : Addr), d < l.length → (l.take (d + 1) ++ [x])[d + 1]? = some x := fun {l} x hl => by
    rw [List.getElem?_append_right (by rw [List.length_take]; omega), List.length_take, Nat.min_eq_left (by omega), Nat.sub_self]
    rfl
  have hbb1 : b ≠ b1 := fun z => by rw [z, nb1] at hvs; cases hvs
  have hbb2 : b ≠ b2 := fun z => by rw [z, nb2] at hvs; cases hvs
  have hbd : b ≠ f.dh := fun z => by rw [z, hdh] at hvs; cases hvs
  have hpd : p ≠ f.dh := fun z => by rw [z, hdh] at np; cases np
  have hpl : p ≠ f.ll := fun z => by rw [z, hll] at np; cases np
  have hb2d : b2 ≠ f.dh := fun z => by rw [z, hdh] at nb2; cases nb2
  have hb1d : b1 ≠ f.dh := fun z => by rw [z, hdh] at nb1; cases nb1
  have hbp : b ≠ p := fun z => by rw [z, np] at hvs; cases hvs
  refine ha (d + 1) (i + 1) (tail.length + m) _ _ _ b1 [] σ1 H1 (tail ++ more) o1 (by omega) (by omega) (by omega) g2 (by rw [List.length_append, hm']) l1.sta (hbt b1 hdl) l1.len hb1 (by simp; omega) (fun z => by rw [z, hll] at nb1; cases nb1) fun σ2 H2 bs2 vs1 l2 e2 r2 => ?_
  rw [List.nil_append] at e2
  have tf : TF H1 [b1, f.dh] := TF.one hb1 (fun _ e => by cases e) (fun _ _ e => by cases e) (TF.one hdh1 (fun _ e => by cases e) (fun _ _ e => by cases e) .nil)
  have k2 : Kn [b, f.dh] H H2 := l1.kn.comp l2.kn fun q hq => by
    simp only [List.mem_cons, List.not_mem_nil, or_false] at hq ⊢
    rcases hq with z | z
    · exact .inr (by rw [z]; exact nb1)
    · exact .inl (.inr z)
  have tk2 : bs2.take (d + 1) = bs.take (d + 1) := by
    have h3 := congrArg (List.take (d + 1)) l2.tk
    rw [List.take_take, List.take_take, Nat.min_eq_left (by omega)] at h3
    rw [h3, l1.tk]
  have hp2 := l2.kn.lst (a := p) (by simp [npb, hpd]) hp
  have hbv2 := l2.kn.lst (a := b) (by simp [hbb1, hbd]) e1
  have hb22 := l2.kn.lst (a := b2) (by simp [nb12.symm, hb2d]) hb2
  have hu2 := Td.kn l2.kn tf _ hu
  have r2' : RowsAt K true (fun p => H p = none) H2 vs1 a := r2.wk fun q hq => l1.kn.nn q hq
  rcases ht with ⟨rfl, rfl⟩ | ht
  · rw [List.length_nil, Nat.zero_add]
    refine h σ2 H2 bs2 (.ref p) ⟨?_, k2, tk2, l2.len⟩ hbv2 ?_
    · have : cnts [] = 0 := rfl
      rw [this, Nat.add_zero, ← Nat.add_assoc, ← Nat.add_assoc]
      exact l2.sta
    · rw [RowAt]
      exact ⟨p, u, b1, b2, [], vs1, [], rfl, np, hp2, .inl rfl, hu2, nb1, e2, r2', nb2, hb22, .nil⟩
  · rw [ht, List.length_cons, show (liness (d + 1) c0).length + 1 + m = ((liness (d + 1) c0).length + m) + 1 by omega]
    have hL2 := drop_app g2
    rw [ht, List.cons_append] at hL2
    obtain ⟨j1, j2, j3⟩ := drop_get hL2
    obtain ⟨kvs2, hdh2⟩ := l2.sta.dK
    refine else_one hd hg h2 (by omega) hL2 (by rw [List.length_append, hm']) l2.sta (by rw [take_get tk2]; exact hb) l2.len hbv2 hp2 hpl fun σ3 H3 s3 k3 hp3 => ?_
    have hd2 : d < bs2.length := by
      have := congrArg List.length tk2
      rw [List.length_take, List.length_take] at this
      omega
    have hb23 := k3.lst (a := b2) (by simp [npb2.symm]) hb22
    have hb13 := k3.lst (a := b1) (by simp [npb.symm]) e2
    have hbv3 := k3.lst (a := b) (by simp [hbp]) hbv2
    obtain ⟨kvs3, hdh3⟩ := s3.dK
    have tf2 : TF H2 [p] := .lst hp2
    have hu3 := Td.kn k3 tf2 _ hu2
    have np1 : H1 p ≠ none := by rw [hp]; exact fun z => by cases z
    have r3 : RowsAt K true (fun p => H1 p = none) H3 vs1 a := r2.kn k3 tf2 fun q hq => by
      rw [List.mem_singleton]
      exact fun z => np1 (by rw [← z]; exact hq)
    have tf3 : TF H3 [b2, f.dh] := TF.one hb23 (fun _ e => by cases e) (fun _ _ e => by cases e) (TF.one hdh3 (fun _ e => by cases e) (fun _ _ e => by cases e) .nil)
    have hlen3 : (bs2.take (d + 1) ++ [b2]).length ≤ 10 := by rw [List.length_append, List.length_take, List.length_singleton]; omega
    refine hb0 (d + 1) _ m _ _ _ b2 [] σ3 H3 more o2 (by omega) (by omega) (by omega) j2 hm' s3 (hbt b2 hd2) hlen3 hb23 (by simp; omega) (fun z => by rw [z, hll] at nb2; cases nb2) fun σ4 H4 bs4 vs2 l4 e4 r4 => ?_
    rw [List.nil_append] at e4
    have k4 : Kn [b, f.dh] H H4 := (k2.comp k3 fun q hq => by rw [List.mem_singleton.mp hq]; exact .inr np).comp l4.kn fun q hq => by
      simp only [List.mem_cons, List.not_mem_nil, or_false] at hq ⊢
      rcases hq with z | z
      · exact .inr (by rw [z]; exact nb2)
      · exact .inl (.inr z)
    refine h σ4 H4 bs4 (.ref p) ⟨?_, k4, ?_, l4.len⟩ (l4.kn.lst (by simp [hbb2, hbd]) hbv3) ?_
    · rw [show c + (1 + cnts a + cnts c0) = c + 1 + cnts a + cnts c0 by omega, show kb + (1 + cnts a + cnts c0) = kb + 1 + cnts a + cnts c0 by omega]
      exact l4.sta
    · have h3 := congrArg (List.take (d + 1)) l4.tk
      rw [List.take_take, List.take_take, Nat.min_eq_left (by omega), List.take_append_of_le_length (by rw [List.length_take]; omega), List.take_take, Nat.min_self] at h3
      rw [h3, tk2]
    · rw [RowAt]
      have nb2H1 : H1 b2 ≠ none := by rw [hb2]; exact fun z => by cases z
      have ndH1 : H1 f.dh ≠ none := by rw [hdh1]; exact fun z => by cases z
      refine ⟨p, u, b1, b2, [.str "else"], vs1, vs2, rfl, np, l4.kn.lst (by simp [npb2, hpd]) hp3, .inr ⟨rfl, rfl⟩, Td.kn l4.kn tf3 _ hu3, nb1, l4.kn.lst (by simp [nb12, hb1d]) hb13, (r3.kn l4.kn tf3 fun q hq => ?_).wk fun q hq => l1.kn.nn q hq, nb2, e4, r4.wk fun q hq => k2.nn q (k3.nn q hq)⟩
      simp only [List.mem_cons, List.not_mem_nil, or_false]
      rintro (z | z)
      · exact nb2H1 (by rw [← z]; exact hq)
      · exact ndH1 (by rw [← z]; exact hq)
mutual
theorem row_read (hd : Line1 K hm f t t2) (hg : GOk f g) (h2 : Lines2 K hm f t2) (hhs : HsOk hm) : ∀ r : Row, RowP K hm f (Rest f g t D) r
  | .lt op x e => row_plain hd hg h2 hhs (fun d => by rw [Row.lines]) rfl rfl fun H H' p bl sh np => by
    obtain ⟨_, u, h1, h2⟩ := sh
    rw [RowAt]
    exact ⟨p, u, rfl, np, h1, h2⟩
  | .ask x h k => row_plain hd hg h2 hhs (fun d => by rw [Row.lines]) rfl rfl fun H H' p bl sh np => by
    obtain ⟨_, h1⟩ := sh
    rw [RowAt]
    exact ⟨p, rfl, np, h1⟩
  | .say h e => row_plain hd hg h2 hhs (fun d => by rw [Row.lines]) rfl rfl fun H H' p bl sh np => by
    obtain ⟨_, u, h1, h2⟩ := sh
    rw [RowAt]
    exact ⟨p, u, rfl, np, h1, h2⟩
  | .iff e a b => row_iff hd hg h2 hhs (rows_read hd hg h2 hhs a) (rows_read hd hg h2 hhs b)
  | .whl e a => row_whl hd hg h2 hhs (rows_read hd hg h2 hhs a)
theorem rows_read (hd : Line1 K hm f t t2) (hg : GOk f g) (h2 : Lines2 K hm f t2) (hhs : HsOk hm) : ∀ rs : List Row, RowsP K hm f (Rest f g t D) rs
  | [] => rows_nil
  | r :: rs => rows_cons (row_read hd hg h2 hhs r) (rows_read hd hg h2 hhs rs)
end
end
end Tw
set_option Elab.async false
set_option linter.all false
set_option maxRecDepth 100000
set_option maxHeartbeats 4000000
namespace Tw
open PySem PySem.Spec PyProof.Rows L2 LamX NdefX TL
/-! ### read_program -/
theorem ahead0 (s : Str) : ahead 0 ++ s = s := ext_tl (by rw [tl_append, tl_ahead]; rfl)
theorem Wd.mark : Wd "mark" := wd_lit (by decide +kernel)
theorem joinL_mem {c : Nat} (S : List Nat) : ∀ ps : List (List Nat), c ∈ joinL S ps → c ∈ S ∨ ∃ p ∈ ps, c ∈ p
  | [], h => by simp [joinL] at h
  | [p], h => .inr ⟨p, by simp, by simpa [joinL] using h⟩
  | p :: q :: ps, h => by
    have e : joinL S (p :: q :: ps) = p ++ S ++ joinL S (q :: ps) := by first | rfl | simp [joinL]
    rw [e] at h
    rcases List.mem_append.mp h with h | h
    · rcases List.mem_append.mp h with h | h
      · exact .inr ⟨p, by simp, h⟩
      · exact .inl h
    · rcases joinL_mem S (q :: ps) h with h | ⟨r, hr, h⟩
      · exact .inl h
      · exact .inr ⟨r, List.mem_cons_of_mem _ hr, h⟩
theorem join_no10 {ws : List Str} (h : ∀ x ∈ ws, Wd x) : 10 ∉ tl (Str.join sp ws) := fun z => by
  rw [tl_join] at z
  rcases joinL_mem _ _ z with z | ⟨p, hp, z⟩
  · rw [tl_sp] at z; exact absurd z (by decide)
  · obtain ⟨x, hx, rfl⟩ := List.mem_map.mp hp
    exact (h x hx).no10 z
theorem rline_no10 {hm : Str → Str} (hh : HsOk hm) (d : Nat) (r : Row) (h : r.ok hm) : 10 ∉ tl (Row.line d r) := fun z => by
  unfold Row.line at z
  rw [tl_append, tl_ahead] at z
  rcases List.mem_append.mp z with z | z
  · rw [List.mem_replicate] at z; exact absurd z.2 (by decide)
  · exact join_no10 (r.words_wd hh h) z
mutual
theorem rlines_no10 {hm : Str → Str} (hh : HsOk hm) (d : Nat) : ∀ r : Row, r.ok hm → ∀ x ∈ r.lines d, 10 ∉ tl x
  | .iff e a b, h, x, hx => by
    obtain ⟨o1, o2, o3⟩ : e.ok ∧ oks hm a ∧ oks hm b := id h
    cases b with
    | nil =>
      rw [Row.lines] at hx
      rcases List.mem_cons.mp hx with e1 | hx
      · rw [e1]; exact rline_no10 hh d _ h
      · rw [List.append_nil] at hx
        exact liness_no10 hh (d + 1) a o2 x hx
    | cons r rs =>
      rw [Row.lines] at hx
      rcases List.mem_cons.mp hx with e1 | hx
      · rw [e1]; exact rline_no10 hh d _ h
      · rcases List.mem_append.mp hx with hx | hx
        · exact liness_no10 hh (d + 1) a o2 x hx
        · rcases List.mem_cons.mp hx with e1 | hx
          · rw [e1, tl_append, tl_ahead]
            intro z
            rcases List.mem_append.mp z with z | z
            · rw [List.mem_replicate] at z; exact absurd z.2 (by decide)
            · exact absurd z (by decide +kernel)
          · rcases List.mem_append.mp hx with hx | hx
            · exact rlines_no10 hh (d + 1) r o3.1 x hx
            · exact liness_no10 hh (d + 1) rs o3.2 x hx
  | .whl e a, h, x, hx => by
    rw [Row.lines] at hx
    rcases List.mem_cons.mp hx with e1 | hx
    · rw [e1]; exact rline_no10 hh d _ h
    · exact liness_no10 hh (d + 1) a h.2 x hx
  | .lt op y e, h, x, hx => by rw [Row.lines, List.mem_singleton] at hx; rw [hx]; exact rline_no10 hh d _ h
  | .ask y h0 k, h, x, hx => by rw [Row.lines, List.mem_singleton] at hx; rw [hx]; exact rline_no10 hh d _ h
  | .say h0 e, h, x, hx => by rw [Row.lines, List.mem_singleton] at hx; rw [hx]; exact rline_no10 hh d _ h
theorem liness_no10 {hm : Str → Str} (hh : HsOk hm) (d : Nat) : ∀ rs : List Row, oks hm rs → ∀ x ∈ liness d rs, 10 ∉ tl x
  | [], _, x, hx => by simp [liness] at hx
  | r :: rs, h, x, hx => by
    rw [liness] at hx
    rcases List.mem_append.mp hx with hx | hx
    · exact rlines_no10 hh d r h.1 x hx
    · exact liness_no10 hh d rs h.2 x hx
end
theorem mark_wds {x h : Str} (hx : isName x = true) (hh : isHouse h = true) : ∀ y ∈ [("mark" : Str), x, h], Wd y := fun y hy => by
  simp only [List.mem_cons, List.not_mem_nil, or_false] at hy
  rcases hy with e | e | e
  · rw [e]; exact Wd.mark
  · rw [e]; exact wd_name hx
  · rw [e]; exact wd_house hh
theorem plines_no10 {hm : Str → Str} {p : Pg} (h : p.ok hm) : ∀ x ∈ p.lines, 10 ∉ tl x := by
  intro x hx
  unfold Pg.lines at hx
  rcases List.mem_append.mp hx with hx | hx
  · obtain ⟨m, hm', rfl⟩ := List.mem_map.mp hx
    obtain ⟨h1, h2⟩ := h.mks m hm'
    exact join_no10 (mark_wds h1 (by have := h.hs m.1; rw [← h2] at this; exact this))
  · exact liness_no10 h.hs 0 p.rs h.rk x hx
theorem liness_ne {rs : List Row} (h : rs ≠ []) (d : Nat) : liness d rs ≠ [] := by
  cases rs with
  | nil => exact absurd rfl h
  | cons r rs =>
    have := r.lines_len d
    rw [liness]
    intro z
    have z1 := (List.append_eq_nil_iff.mp z).1
    cases r with
    | iff e a b => cases b <;> rw [Row.lines] at z1 <;> simp at z1
    | _ => rw [Row.lines] at z1; simp at z1
theorem Pg.lines_ne {hm : Str → Str} {p : Pg} (h : p.ok hm) : p.lines ≠ [] := fun z => liness_ne h.ne 0 (List.append_eq_nil_iff.mp z).2
theorem Pg.split {hm : Str → Str} {p : Pg} (h : p.ok hm) : Txt.split p.text "\n" = p.lines := by
  unfold Pg.text
  rw [← join_eq]
  exact split_join (y := "\n") (s := 10) (S := []) (by decide +kernel) (by decide +kernel) (Pg.lines_ne h) (plines_no10 h)
section
variable {K : PySem.W.Frag} {hm : Str → Str} {f : Fx} {g : TG} {t t2 : TS} {D : Ends}
theorem marks_read (hd : Line1 K hm f t t2) (hg : GOk f g) (h2 : Lines2 K hm f t2) (hml : f.lm ≠ f.ll) {bs : List Addr} {bk : Addr} (hbs : 0 < bs.length) (hmb : f.lm ≠ bk) : ∀ (ms2 ms1 : List (Str × Str)) (i kb m : Nat) (σ : L2.St) (H : Hp) (xs : List V) (more : List Str),
    (∀ m ∈ ms2, isName m.1 = true ∧ m.2 = hm m.1 ∧ isHouse m.2 = true) → rising ((ms1 ++ ms2).map (·.1)) → ms1.length + ms2.length ≤ 60 → kb + ms2.length ≤ 800 → f.L.drop i = ms2.map markL ++ more → more.length = m → StaB K hm f bs 0 kb bk σ H → H f.lm = some (.lst xs) → TdA K H xs (ms1.map markD) →
    (∀ σ' H' xs', StaB K hm f bs 0 (kb + ms2.length) bk σ' H' → Kn [f.lm, f.dh] H H' → H' f.lm = some (.lst xs') → TdA K H' xs' ((ms1 ++ ms2).map markD) → Rest f g t D m σ' H') → Rest f g t D (ms2.length + m) σ H
  | [], ms1, i, kb, m, σ, H, xs, more, _, _, _, _, hL, hm', hS, hlm, hxs, q => by
    rw [List.length_nil, Nat.zero_add]
    exact q σ H xs hS (Kn.refl _ _) hlm (by rw [List.append_nil]; exact hxs)
  | (x, h) :: ms2, ms1, i, kb, m, σ, H, xs, more, hok, hup, hln, hkb, hL, hm', hS, hlm, hxs, q => by
    obtain ⟨h1, h2', h3⟩ := hok (x, h) List.mem_cons_self
    rw [List.map_cons, List.cons_append] at hL
    obtain ⟨g1, g2, g3⟩ := drop_get hL
    rw [List.length_cons] at hln hkb q
    rw [List.length_cons, show ms2.length + 1 + m = (ms2.length + m) + 1 by omega]
    have e1 : markL (x, h) = ahead 0 ++ Str.join sp ["mark", x, h] := (ahead0 _).symm
    rw [e1] at g1
    refine rest_lineB hd hg (i := i) (d := 0) (ws := ["mark", x, h]) (by rw [g3, List.length_append, List.length_map, hm']; omega) g1 hS (by simp) (mark_wds h1 h3) (by simp) hbs (by omega) fun H1 a dx lw x7 x8 x13 s1 na hR hlw hW => ?_
    have hlt : ∀ m ∈ ms1, slt m.1 x := fun m hm' => by
      rw [List.map_append, rising, List.pairwise_append] at hup
      exact hup.2.2 m.1 (List.mem_map_of_mem hm') x (by simp)
    refine h2.mrk _ H1 bk a dx lw xs ms1 x h kb (i + 1) bs x7 x8 x13 hW (by omega) hR hlw (s1 _ _ hlm) (hxs.same s1) (by omega) hlt h1 h2' h3 hml hmb fun σ2 H2 xs2 hS2 k2 hl2 hx2 => ?_
    have k2' : Kn [f.lm, f.dh] H H2 := (Kn.ofS (M := [f.lm, f.dh]) s1).comp k2 fun q hq => by
      simp only [List.mem_cons, List.not_mem_nil, or_false] at hq ⊢
      rcases hq with e | e | e
      · exact .inr (by rw [e]; exact na)
      · exact .inl (.inl e)
      · exact .inl (.inr e)
    refine marks_read hd hg h2 hml hbs hmb ms2 (ms1 ++ [(x, h)]) (i + 1) (kb + 1) m σ2 H2 xs2 more (fun m hm' => hok m (List.mem_cons_of_mem _ hm')) (by rw [List.append_assoc]; exact hup) (by rw [List.length_append, List.length_singleton]; omega) (by omega) g2 hm' hS2 hl2 hx2 fun σ3 H3 xs3 hS3 k3 hl3 hx3 => ?_
    rw [List.append_assoc] at hx3
    rw [show kb + 1 + ms2.length = kb + (ms2.length + 1) by omega] at hS3
    exact q σ3 H3 xs3 hS3 (k2'.trans k3) hl3 hx3
theorem Rest.ll {k : Nat} {σ : L2.St} {H : Hp} (h : Rest f g t D k σ H) : H f.ll = some (.lst (f.L.map V.str)) := by
  cases k with
  | zero => exact h.1
  | succ k => exact h.1
theorem for_rest {σ : L2.St} {H : Hp} (h : Rest f g t D f.L.length σ H) : ∃ W : Nat → Nat → L2.St → Hp → Prop, (∃ m, W 0 m σ H) ∧ ∀ i m σ H, W i m σ H →
      ((Ite K f.ll).stop i H ∧ D.nx σ H) ∨ ((Ite K f.ll).go i H ∧ ∃ N : L2.St → Hp → Prop, (∀ σ' H', N σ' H' → ∃ m', m' < m ∧ W (i + 1) m' σ' H') ∧ ∀ x H', (Ite K f.ll).yld i H x H' → g x σ H' fun σ2 H2 => t { D with nx := N, ct := N, bk := D.nx } σ2 H2) := by
  have el : (f.L.map V.str).length = f.L.length := List.length_map ..
  refine for_it (walk_enum (xs := f.L.map V.str)) (fun i σ H' => Rest f g t D (f.L.length - i) σ H') h (fun i σ H' _ h => .of h.ll) ?_ ?_
  · intro i x σ H1 H2 hi h hy
    rw [el] at hi
    rw [show f.L.length - i = (f.L.length - (i + 1)) + 1 by omega] at h
    have h3 := h.2 x H2 (by
      rw [show f.L.length - ((f.L.length - (i + 1)) + 1) = i by omega]
      exact hy)
    exact h3
  · intro σ H1 h
    rw [el, Nat.sub_self] at h
    exact h.2
end
end Tw
set_option Elab.async false
set_option linter.all false
set_option maxRecDepth 100000
set_option maxHeartbeats 4000000
namespace Tw
open PySem PySem.Spec PyProof.Rows L2 LamX NdefX TL
section
variable {P : Program} {w : World} {K : PySem.W.Frag} {mg : Str → Option Value} {base : Heap}
def sp_read_program (K : PySem.W.Frag) : Sp := fun vs H Q _ => ∃ (p : Pg) (hm : Str → Str), vs = [.str p.text] ∧ p.ok hm ∧ Tabs (TT K) H ∧ ∀ H' q, Kn [] H H' → Tabs (TT K) H' → Td K H' (.ref q) p.d → Q (.ref q) H'
theorem ok_read_program (T : Txt K mg) (B : Tb K mg base) : Cal P w K mg base "read_program" 21 ["text"] (sp_read_program K) := by
  have C_unmarked := ok_unmarked (P := P) (w := w) (base := base) T 6
  have C_settled := ok_settled (P := P) (w := w) (base := base) T 6
  refine Cal.of T.d_read_program b_read_program sc_read_program (fun vs H Q E h => ?_) (fun cdv A outer s H vs Q E hr h => ?_)
  · obtain ⟨_, _, rfl, _⟩ := h; rfl
  obtain ⟨p, hm, rfl, hok, hT, q⟩ := h
  obtain ⟨t2, hb2, H2⟩ := lines2 (P := P) (w := w) (outer := outer) (H0 := H) (E := E) T B hr
  obtain ⟨t, hb, H1⟩ := lines1 (P := P) (w := w) (outer := outer) (H0 := H) (E := E) T hr hb2
  refine ⟨_, (pss_cons (ps_if (pt_not (pt_val (pe_callB call_isi (by rfl) T.isinstance bb_isinstance (pa_cons (pv 0) (pa_cons (pe_bty T.str bb_str rfl) pa_nil))))) pss_never pss_nil)
  (pss_cons (ps_set (i := 1) sc_read_program.nd rfl (Or.inl rfl) (pe_lst pa_nil))
  (pss_cons (ps_set (i := 2) sc_read_program.nd rfl (Or.inl rfl) (pe_lst pa_nil))
  (pss_cons (ps_set (i := 3) sc_read_program.nd rfl (Or.inl rfl) (pe_lst (pa_cons (pv 2) pa_nil)))
  (pss_cons (ps_set (i := 4) sc_read_program.nd rfl (Or.inl rfl) pe_dnewK)
  (pss_cons (ps_set (i := 5) sc_read_program.nd rfl (Or.inl rfl) pe_int)
  (pss_cons (ps_set (i := 6) sc_read_program.nd rfl (Or.inl rfl) (pe_split (pv 0) pe_str))
  (pss_cons (ps_for PassesOwn.never rfl (pi_enum (by rfl) T.enumerate (pa_cons (pv 6) pa_nil)) (pg_tup (by rfl) (pgs_cons (pg_name (i := 7) sc_read_program.nd rfl (Or.inl rfl)) (pgs_cons (pg_name (i := 8) sc_read_program.nd rfl (Or.inl rfl)) pgs_nil)))
   hb)
  (pss_cons (ps_if (pt_cmpR op_eq (pv 5) pe_int (nomark _)) pss_never pss_nil)
  (pss_one (ps_ret (pe_tup (pa_cons (pe_callTy call_tuple_of (by rfl) T.tuple bb_tuple (pa_cons (pv 1) pa_nil)) (pa_cons (pe_callC C_settled (hr.mono (by decide)) rfl (pa_cons (pe_callC C_unmarked (hr.mono (by decide)) rfl (pa_cons (pv 2) pa_nil)) pa_nil)) pa_nil)))))))))))))), ?_⟩
  refine ⟨_, rfl, _, _, _, _, _, rfl, .ty _, .base (.str _), kt_str_str, _, rfl, ?_⟩
  refine iteF ?_
  refine ⟨by show 0 ≤ sizeLine; decide, fun lm nlm => ?_⟩
  refine ⟨by show 0 ≤ sizeLine; decide, fun lr nlr => ?_⟩
  refine ⟨_, rfl, by show 1 ≤ sizeLine; decide, fun bk nbk => ?_⟩
  refine fun dh ndh => ?_
  have htl := Pg.text_len hok
  refine ⟨_, rfl, ⟨_, rfl⟩, _, _, rfl, rfl, by decide +kernel, by rw [sizeLine_eq]; omega, fun ll nll => ?_⟩
  have s1 := same_new nlm (o := .lst [])
  have s2 := same_new nlr (o := .lst [])
  have s3 := same_new nbk (o := .lst [.ref lr])
  have s4 := same_new ndh (o := .dK [])
  have s5 := same_new nll (o := .lst ((Txt.split p.text "\n").map V.str))
  have hs := (((s1.trans s2).trans s3).trans s4).trans s5
  have hlm := s5 _ _ (s4 _ _ (s3 _ _ (s2 _ _ (upd_same (H := H) (a := lm) (o := .lst [])))))
  have hlr := s5 _ _ (s4 _ _ (s3 _ _ (upd_same (H := upd H lm (.lst [])) (a := lr) (o := .lst []))))
  have hbk := s5 _ _ (s4 _ _ (upd_same (H := upd (upd H lm (.lst [])) lr (.lst [])) (a := bk) (o := .lst [.ref lr])))
  have hdh := s5 _ _ (upd_same (H := upd (upd (upd H lm (.lst [])) lr (.lst [])) bk (.lst [.ref lr])) (a := dh) (o := .dK []))
  have hll : upd (upd (upd (upd (upd H lm (.lst [])) lr (.lst [])) bk (.lst [.ref lr])) dh (.dK [])) ll (.lst ((Txt.split p.text "\n").map V.str)) ll = some _ := upd_same
  have hT5 := hT.ext hs
  rw [Pg.split hok] at hll hlm hlr hbk hdh hT5 hs s5 ⊢
  have n1 := s1.free nlr
  have n2 := (s1.trans s2).free nbk
  have n3 := ((s1.trans s2).trans s3).free ndh
  have n4 := (((s1.trans s2).trans s3).trans s4).free nll
  generalize upd (upd (upd (upd (upd H lm (.lst [])) lr (.lst [])) bk (.lst [.ref lr])) dh (.dK [])) ll (.lst (p.lines.map V.str)) = H5 at hs hlm hlr hbk hdh hll hT5 ⊢
  have hne1 : lm ≠ ll := fun z => by
    rw [z, hll] at hlm
    have := Pg.lines_ne hok
    cases hp : p.lines with
    | nil => exact this hp
    | cons _ _ => rw [hp] at hlm; cases hlm
  have hne2 : lr ≠ ll := fun z => by
    rw [z, hll] at hlr
    have := Pg.lines_ne hok
    cases hp : p.lines with
    | nil => exact this hp
    | cons _ _ => rw [hp] at hlr; cases hlr
  have hne3 : lm ≠ bk := fun z => by rw [z, hbk] at hlm; cases hlm
  have hne4 : lm ≠ lr := fun z => by rw [z, upd_same] at nlr; cases nlr
  have hne5 : lm ≠ dh := fun z => by rw [z, hdh] at hlm; cases hlm
  have hne6 : lr ≠ dh := fun z => by rw [z, hdh] at hlr; cases hlr
  have hcn := hok.cn
  have hfw := hok.few
  have hdp := hok.dp
  refine ⟨_, rfl, ll, _, rfl, .of hll, ?_⟩
  refine for_rest (f := ⟨p.text, lm, lr, dh, ll, p.lines⟩) ?_
  have en : p.lines.length = p.ms.length + ((liness 0 p.rs).length + 0) := by
    unfold Pg.lines
    rw [List.length_append, List.length_map, Nat.add_zero]
  show Rest _ _ _ _ p.lines.length _ _
  rw [en]
  refine marks_read (hm := hm) (t2 := t2) (H1 hm _) (fun p i s bk c x7 x8 x9 x10 x11 x12 x13 H Q hp h => ⟨p, _, rfl, .of hp, rfl, _, _, rfl, _, _, rfl, rfl, h⟩) (H2 hm _) hne1 (bs := [lr]) (bk := bk) (by simp) hne3 p.ms [] 0 0 _ _ H5 [] (liness 0 p.rs) (fun m hm' => ⟨(hok.mks m hm').1, (hok.mks m hm').2, by rw [(hok.mks m hm').2]; exact hok.hs _⟩) hok.up (by simp; omega) (by omega) rfl rfl ⟨none, none, none, none, none, none, none, rfl, ⟨[], hdh, homes_nil, by simp⟩, hbk, hT5, hll⟩ hlm tda_nil fun σ6 H6 xs6 hS6 k6 hlm6 hx6 => ?_
  rw [List.nil_append] at hx6
  have hlr6 := k6.lst (a := lr) (by simp [hne4.symm, hne6]) hlr
  refine rows_read (hm := hm) (t2 := t2) (H1 hm _) (fun p i s bk c x7 x8 x9 x10 x11 x12 x13 H Q hp h => ⟨p, _, rfl, .of hp, rfl, _, _, rfl, _, _, rfl, rfl, h⟩) (H2 hm _) hok.hs p.rs 0 p.ms.length 0 0 _ [lr] lr [] σ6 H6 [] hok.rk (by omega) (by omega) (by omega) ?_ rfl hS6.sta rfl (by simp) hlr6 (by simp; omega) hne2 fun σ7 H7 bs7 vs7 l7 hlr7 r7 => ?_
  · show p.lines.drop p.ms.length = liness 0 p.rs ++ []
    unfold Pg.lines
    rw [List.drop_left' (by rw [List.length_map]), List.append_nil]
  obtain ⟨⟨bk7, x7, x8, x9, x10, x11, x12, x13, rfl, hW7⟩, k7, _, _⟩ := l7
  rw [List.nil_append] at hlr7
  have hlm7 := k7.lst (a := lm) (by simp [hne4, hne5]) hlm6
  obtain ⟨kvs6, hdh6⟩ := hS6.sta.dK
  have tf6 : TF H6 [lr, dh] := TF.one hlr6 (fun _ e => by cases e) (fun _ _ e => by cases e) (TF.one hdh6 (fun _ e => by cases e) (fun _ _ e => by cases e) .nil)
  have hx7 := TdA.kn k7 tf6 _ hx6
  have k07 : Kn [] H H7 := ((Kn.ofS (M := []) hs).comp k6 fun q hq => by
    simp only [List.mem_cons, List.not_mem_nil, or_false] at hq
    rcases hq with e | e <;> rw [e]
    · exact .inr nlm
    · exact .inr n3).comp k7 fun q hq => by
    simp only [List.mem_cons, List.not_mem_nil, or_false] at hq
    rcases hq with e | e <;> rw [e]
    · exact .inr n1
    · exact .inr n3
  refine ⟨hW7.ll, ?_⟩
  have hT7 := hW7.tb
  refine ⟨_, rfl, rfl, _, rfl, ?_⟩
  have hcp : 0 < cnts p.rs := by
    cases h : p.rs with
    | nil => exact absurd h hok.ne
    | cons r rs => have := r.cnt_pos; rw [cnts]; omega
  refine iteF' (decide_eq_false (by intro z; injection z with z; omega)) ?_
  refine ⟨_, rfl, _, _, rfl, .inl ⟨.of hlm7, fun tm ntm => ?_⟩⟩
  have st := same_new ntm (o := .tup xs6)
  have htm : Td K (upd H7 tm (.tup xs6)) (.ref tm) (.tuple (p.ms.map markD)) := Td.new ntm hx7
  have k08 : Kn [] H (upd H7 tm (.tup xs6)) := k07.trans (.ofS st)
  have hT8 := hT7.ext st
  have hlr8 := st _ _ hlr7
  have r8 : RowsAt K true (fun p => H6 p = none) _ vs7 p.rs := r7.same st
  generalize upd H7 tm (.tup xs6) = H8 at st htm k08 hT8 hlr8 r8 ⊢
  refine ⟨_, rfl, lr, vs7, p.rs, rfl, hlr8, r8.wk fun _ _ => True.intro, by omega, by omega, fun H9 q9 ws9 s9 n9 h9 r9 => ?_⟩
  refine ⟨q9, ws9, p.rs, rfl, h9, r9.wk fun _ _ => True.intro, by omega, by omega, fun H10 v10 s10 t10 => ?_⟩
  refine ⟨by show 2 ≤ sizeLine; decide, fun tp ntp => ?_⟩
  have s8 := (s9.trans s10).trans (same_new ntp (o := .tup [.ref tm, v10]))
  refine q _ tp (k08.trans (.ofS s8)) (hT8.ext s8) ?_
  exact Td.new ntp (tda_cons.mpr ⟨htm.same (s9.trans s10), tda_cons.mpr ⟨t10, tda_nil⟩⟩)
end
end Tw
set_option Elab.async false
set_option linter.all false
set_option maxRecDepth 100000
set_option maxHeartbeats 4000000
namespace Tw
open PySem PySem.Spec PyProof.Rows L2
/-! ### the law's digits: only that they lie below their bound is told -/
def stK (l s : Int) (t : Nat) (ro : Option Nat) : List (L2.Key × V) := (Sum.inr "left", .int l) :: (Sum.inr "seed", .int s) :: (Sum.inr "turns", .int t) :: (match ro with | none => [] | some r => [(Sum.inr "rows", .int r)])
theorem kne {x y : Str} (h : decide (x = y) = false) : ¬ (Sum.inr x : L2.Key) = Sum.inr y := fun z => by
  injection z with z
  exact of_decide_eq_false h z
section
variable {l s l' s' : Int} {t t' : Nat} {ro : Option Nat} {r r' : Nat}
theorem st_left : valV (stK l s t ro) (Sum.inr "left") = some (.int l) := valV_pos rfl
theorem st_seed : valV (stK l s t ro) (Sum.inr "seed") = some (.int s) := by
  unfold stK
  rw [valV_neg (kne (by decide +kernel))]
  exact valV_pos rfl
theorem st_turns : valV (stK l s t ro) (Sum.inr "turns") = some (.int t) := by
  unfold stK
  rw [valV_neg (kne (by decide +kernel)), valV_neg (kne (by decide +kernel))]
  exact valV_pos rfl
theorem st_rows : valV (stK l s t (some r)) (Sum.inr "rows") = some (.int r) := by
  unfold stK
  rw [valV_neg (kne (by decide +kernel)), valV_neg (kne (by decide +kernel)), valV_neg (kne (by decide +kernel))]
  exact valV_pos rfl
theorem kneL : ("left" : Str) ≠ "seed" ∧ ("left" : Str) ≠ "turns" ∧ ("left" : Str) ≠ "rows" ∧ ("seed" : Str) ≠ "turns" ∧ ("seed" : Str) ≠ "rows" ∧ ("turns" : Str) ≠ "rows" := by decide +kernel
theorem put_left : putK (stK l s t ro) (Sum.inr "left") (.int l') = stK l' s t ro := by
  obtain ⟨h1, h2, h3, h4, h5, h6⟩ := kneL
  unfold putK stK
  cases ro <;> simp [h1.symm, h2.symm, h3.symm]
theorem put_turns : putK (stK l s t ro) (Sum.inr "turns") (.int t') = stK l s t' ro := by
  obtain ⟨h1, h2, h3, h4, h5, h6⟩ := kneL
  unfold putK stK
  cases ro <;> simp [h2, h4, h6.symm]
theorem put_rows : putK (stK l s t ro) (Sum.inr "rows") (.int r') = stK l s t (some r') := by
  obtain ⟨h1, h2, h3, h4, h5, h6⟩ := kneL
  unfold putK stK
  cases ro <;> simp [h3, h5, h6]
theorem st_len : (stK l s t ro).length ≤ 4 := by cases ro <;> simp [stK]
end
theorem dget_eq {H : Hp} {a : Addr} {kvs : List (L2.Key × V)} {x : Str} {v : V} (h : H a = some (.dK kvs)) (e : valV kvs (Sum.inr x) = some v) : DGet H a (.str x) (some v) := e ▸ DGet.k (k := Sum.inr x) h
theorem dput_eq {H : Hp} {a : Addr} {kvs kvs' : List (L2.Key × V)} {x : Str} {v : V} (h : H a = some (.dK kvs)) (hl : kvs.length ≤ 1000) (e : putK kvs (Sum.inr x) v = kvs') : DPut H a (.str x) v (upd H a (.dK kvs')) := e ▸ DPut.k (k := Sum.inr x) h (by rw [sizeLine_eq]; omega)
section
variable {P : Program} {w : World} {K : PySem.W.Frag} {mg : Str → Option Value} {base : Heap}
def sp_law_mixed : Sp := fun vs H Q _ => ∃ (c : Int) (k : Nat), vs = [.int c, .int k] ∧ k ≤ 1000000000000 ∧ ∀ m : Int, Q (.int m) H
theorem ok_law_mixed (T : Txt K mg) : Cal P w K mg base "_law_mixed" 1 ["_law_cell", "_law_k"] sp_law_mixed := by
  refine Cal.of T.d_law_mixed b_law_mixed sc_law_mixed (fun vs H Q E h => ?_) (fun cdv A outer s H vs Q E hr h => ?_)
  · obtain ⟨_, _, rfl, _⟩ := h; rfl
  obtain ⟨c, k, rfl, hk, q⟩ := h
  refine ⟨_, (pss_cons (ps_set (i := 0) sc_law_mixed.nd rfl (Or.inl rfl) (pe_op op_add (pe_op op_add (pe_op op_mod (pv 0) pe_int) (pe_op op_mul pe_int (pv 1))) pe_int))
  (pss_one (ps_ret (pe_op op_mod (pe_op op_mul (pe_op op_mod (pe_op op_mul (pv 0) (pv 0)) pe_int) pe_int) pe_int)))), ?_⟩
  have h1 : 0 ≤ c % 1000000007 ∧ c % 1000000007 < 1000000007 := ⟨Int.emod_nonneg _ (by decide), Int.emod_lt_of_pos _ (by decide)⟩
  refine ⟨_, rfl, _, _, rfl, rfl, (by show (0 : Int) < 1000000007; decide), _, rfl, _, _, rfl, rfl, .inl (by omega), _, _, rfl, rfl, _, _, rfl, rfl, ?_⟩
  generalize c % 1000000007 = c1 at h1 ⊢
  refine ⟨_, rfl, _, rfl, _, _, rfl, rfl, .inl (by omega), _, _, rfl, rfl, (by show (0 : Int) < 1000000007; decide), _, _, rfl, rfl, .inr (by omega), _, _, rfl, rfl, (by show (0 : Int) < 2147483647; decide), ?_⟩
  exact q _
def sp_law_draw : Sp := fun vs H Q _ => ∃ (c : Int) (k : Nat), vs = [.int c, .int k] ∧ k ≤ 1000 ∧ ∀ H' p (l s : Int), Same H H' → H p = none → H' p = some (.dK (stK l s k none)) → Q (.ref p) H'
theorem ok_law_draw (T : Txt K mg) : Cal P w K mg base "_law_draw" 2 ["_law_cell", "_law_k"] sp_law_draw := by
  have C_law_mixed := ok_law_mixed (P := P) (w := w) (base := base) T
  refine Cal.of T.d_law_draw b_law_draw sc_law_draw (fun vs H Q E h => ?_) (fun cdv A outer s H vs Q E hr h => ?_)
  · obtain ⟨_, _, rfl, _⟩ := h; rfl
  obtain ⟨c, k, rfl, hk, q⟩ := h
  refine ⟨_, (pss_one (ps_ret (pe_disp (pps_cons pe_str (pe_ifExp (pt_cmpR op_ge (pv 0) (pe_op op_pow pe_int pe_int) (nomark _)) (pv 0) pe_int) (pps_cons pe_str (pe_callC C_law_mixed (hr.mono (by decide)) rfl (pa_cons (pv 0) (pa_cons (pv 1) pa_nil))) (pps_cons pe_str (pv 1) pps_nil))) (by rfl) (by rfl) (fun z => by cases z) (by decide)))), ?_⟩
  intro p hp
  refine ⟨_, rfl, _, _, rfl, rfl, (by show (0 : Int) ≤ 18 ∧ (18 : Int) ≤ 1000000 ∧ (10 : Int).natAbs < 2 ^ 64; decide), _, _, rfl, rfl, _, rfl, ?_⟩
  refine ite_two (fun v H' => ∃ l : Int, v = .int l ∧ H' = upd H p (.dK [])) ?_ ?_ ?_
  · intro _ Q hQ
    exact ⟨_, rfl, hQ _ _ ⟨_, rfl, rfl⟩⟩
  · intro _ Q hQ
    exact hQ _ _ ⟨_, rfl, rfl⟩
  rintro _ _ ⟨l, rfl, rfl⟩
  refine ⟨_, rfl, _, rfl, c, k, rfl, by omega, fun m => ?_⟩
  refine ⟨_, rfl, upd_same, [(Sum.inr "left", .int l), (Sum.inr "seed", .int m), (Sum.inr "turns", .int k)], rfl, (by show 3 ≤ 15; decide), ?_⟩
  rw [upd_upd]
  exact q _ p l m (same_new hp) hp (by rw [upd_same]; exact congrArg (fun x => some (HO.dK x)) rfl)
def sp_law_digit : Sp := fun vs H Q _ => ∃ (d : Addr) (many : Nat) (l s : Int) (t : Nat) (ro : Option Nat), vs = [.ref d, .int many] ∧ H d = some (.dK (stK l s t ro)) ∧ 0 < many ∧ many ≤ 1000 ∧ t ≤ 1000000000 ∧ ∀ (n t' : Nat) (l' : Int), n < many → t' ≤ t + 1 → Q (.int n) (upd H d (.dK (stK l' s t' ro)))
theorem ok_law_digit (T : Txt K mg) : Cal P w K mg base "_law_digit" 2 ["_law_state", "_law_many"] sp_law_digit := by
  have C_law_mixed := ok_law_mixed (P := P) (w := w) (base := base) T
  refine Cal.of T.d_law_digit b_law_digit sc_law_digit (fun vs H Q E h => ?_) (fun cdv A outer s H vs Q E hr h => ?_)
  · obtain ⟨_, _, _, _, _, _, rfl, _⟩ := h; rfl
  obtain ⟨d, many, l, s0, t, ro, rfl, hd, hm0, hm, ht, q⟩ := h
  have hu := hu_of hr
  refine ⟨_, (pss_cons (ps_if (pt_cmpR op_eq (pe_dget hu (pv 0) pe_str (fun _ _ => rfl)) pe_int (nomark _)) (pss_cons (ps_dput hu (pv 0) pe_str (pe_op op_add (pe_dget hu (pv 0) pe_str (fun _ _ => rfl)) pe_int) rfl)
  (pss_one (ps_for PassesOwn.never rfl (pi_range1 (by rfl) T.range (pa_cons pe_int pa_nil)) (pg_name (i := 2) sc_law_digit.nd rfl (Or.inl rfl))
   (pss_one (ps_dput hu (pv 0) pe_str (pe_op op_add (pe_op op_mul (pe_dget hu (pv 0) pe_str (fun _ _ => rfl)) pe_int) (pe_callC C_law_mixed (hr.mono (by decide)) rfl (pa_cons (pe_dget hu (pv 0) pe_str (fun _ _ => rfl)) (pa_cons (pe_op op_add (pe_op op_mul pe_int (pe_dget hu (pv 0) pe_str (fun _ _ => rfl))) (pv 2)) pa_nil)))) rfl))))) pss_nil)
  (pss_cons (ps_set (i := 3) sc_law_digit.nd rfl (Or.inl rfl) (pe_op op_mod (pe_dget hu (pv 0) pe_str (fun _ _ => rfl)) (pv 1)))
  (pss_cons (ps_dput hu (pv 0) pe_str (pe_op op_fdivN (pe_dget hu (pv 0) pe_str (fun _ _ => rfl)) (pv 1)) rfl)
  (pss_one (ps_ret (pv 3)))))), ?_⟩
  refine ⟨_, rfl, d, _, rfl, dget_eq hd st_left, rfl, _, rfl, ?_⟩
  have dig : ∀ l1 : Int, ∃ n : Nat, n < many ∧ V.int (l1 % (many : Int)) = V.int (n : Int) := fun l1 => by
    have h1 := Int.emod_nonneg l1 (show (many : Int) ≠ 0 by omega)
    have h2 := Int.emod_lt_of_pos l1 (show (0 : Int) < many by omega)
    exact ⟨(l1 % (many : Int)).toNat, by omega, by rw [Int.toNat_of_nonneg h1]⟩
  by_cases hl : l = 0
  · refine iteT' (decide_eq_true (by rw [hl])) ?_
    have hl4 := st_len (l := l) (s := s0) (t := t) (ro := ro)
    refine ⟨_, rfl, d, _, rfl, dget_eq hd st_turns, _, _, rfl, rfl, _, rfl, d, _, rfl, dput_eq hd (by omega) (put_turns (t' := t + 1)), ?_⟩
    refine ⟨4, rfl, by decide, by decide, for_it walk_range (fun i σ H' => ∃ (x2 : Option V) (l1 : Int), σ = [some (.ref d), some (.int (many : Nat)), x2, none] ∧ H' = upd H d (.dK (stK l1 s0 (t + 1) ro))) ⟨none, l, rfl, rfl⟩ (fun _ _ _ _ _ => trivial) ?_ ?_⟩
    · rintro i x σ H1 H2 hi ⟨x2, l1, rfl, rfl⟩ ⟨rfl, rfl⟩
      have hd1 : upd H d (.dK (stK l1 s0 (t + 1) ro)) d = some _ := upd_same
      have hi4 : i < 4 := hi
      have hl5 := st_len (l := l1) (s := s0) (t := t + 1) (ro := ro)
      refine ⟨_, rfl, d, _, rfl, dget_eq hd1 st_left, _, _, rfl, rfl, .inr (by omega), _, rfl, d, _, rfl, dget_eq hd1 st_seed, _, rfl, d, _, rfl, dget_eq hd1 st_turns, _, _, rfl, rfl, .inl (by omega), _, rfl, _, _, rfl, rfl, s0, 4 * (t + 1) + i, ?_, by omega, fun m => ?_⟩
      · have : (4 * ((t + 1 : Nat) : Int) + (0 + (i : Int))) = ((4 * (t + 1) + i : Nat) : Int) := by omega
        exact congrArg (fun z => [V.int s0, V.int z]) this
      refine ⟨_, _, rfl, rfl, _, rfl, d, _, rfl, dput_eq hd1 (by omega) put_left, ?_⟩
      exact ⟨_, _, rfl, by rw [upd_upd]⟩
    · rintro σ H1 ⟨x2, l1, rfl, rfl⟩
      have hd1 : upd H d (.dK (stK l1 s0 (t + 1) ro)) d = some _ := upd_same
      refine ⟨_, rfl, d, _, rfl, dget_eq hd1 st_left, _, rfl, _, _, rfl, rfl, (by show (0 : Int) < many; omega), ?_⟩
      refine ⟨_, rfl, d, _, rfl, dget_eq hd1 st_left, _, rfl, _, _, rfl, rfl, (by show (many : Int) ≠ 0 ∧ (many : Int).natAbs < 1073741824; omega), _, rfl, d, _, rfl, dput_eq hd1 (by have := st_len (l := l1) (s := s0) (t := t + 1) (ro := ro); omega) put_left, ?_⟩
      refine ⟨_, rfl, ?_⟩
      obtain ⟨n, hn, en⟩ := dig l1
      show Q (.int (l1 % (many : Int))) _
      rw [en]
      rw [upd_upd]
      exact q n (t + 1) _ hn (Nat.le_refl _)
  · refine iteF' (decide_eq_false (by intro z; injection z with z; exact hl z)) ?_
    refine ⟨_, rfl, d, _, rfl, dget_eq hd st_left, _, rfl, _, _, rfl, rfl, (by show (0 : Int) < many; omega), ?_⟩
    refine ⟨_, rfl, d, _, rfl, dget_eq hd st_left, _, rfl, _, _, rfl, rfl, (by show (many : Int) ≠ 0 ∧ (many : Int).natAbs < 1073741824; omega), _, rfl, d, _, rfl, dput_eq hd (by have := st_len (l := l) (s := s0) (t := t) (ro := ro); omega) put_left, ?_⟩
    refine ⟨_, rfl, ?_⟩
    obtain ⟨n, hn, en⟩ := dig l
    show Q (.int (l % (many : Int))) _
    rw [en]
    exact q n t _ hn (by omega)
end
end Tw
set_option Elab.async false
set_option linter.all false
set_option maxRecDepth 100000
set_option maxHeartbeats 4000000
namespace Tw
open PySem PySem.Spec PyProof.Rows L2
/-! ### drawing: only the state's dict changes -/
def StA (H : Hp) (d : Addr) (t : Nat) (ro : Option Nat) : Prop := ∃ (l s : Int) (t1 : Nat), t1 ≤ t ∧ H d = some (.dK (stK l s t1 ro))
structure Dr (d : Addr) (H H' : Hp) : Prop where
  kp : Kp [d] H H'
  nn : ∀ b, H' b = none → H b = none
section
variable {d a p : Addr} {H H1 H2 : Hp} {K : PySem.W.Frag} {xs : List V} {v : V} {dd : PyData} {ds : List PyData} {t t' : Nat} {ro : Option Nat} {o : HO}
theorem Dr.refl : Dr d H H := ⟨Kp.refl _ _, fun _ h => h⟩
theorem Dr.trans (a : Dr d H H1) (b : Dr d H1 H2) : Dr d H H2 := ⟨a.kp.trans b.kp, fun c h => a.nn c (b.nn c h)⟩
theorem Dr.ofS (s : Same H H1) : Dr d H H1 := ⟨Kp.of s, fun b h => s.free h⟩
theorem Dr.new (h : Dr d H H1) (n : H1 p = none) : Dr d H (upd H1 p o) := h.trans (.ofS (same_new n))
theorem Dr.put (h : Dr d H H1) : Dr d H (upd H1 d o) := ⟨h.kp.put (by simp), fun b e => by
  by_cases hb : b = d
  · rw [hb, upd_same] at e; cases e
  · rw [upd_ne hb] at e; exact h.nn b e⟩
theorem StA.mono (h : StA H d t ro) (le : t ≤ t') : StA H d t' ro := by
  obtain ⟨l, s, t1, h1, h2⟩ := h
  exact ⟨l, s, t1, by omega, h2⟩
theorem StA.same (s : Same H H1) (h : StA H d t ro) : StA H1 d t ro := by
  obtain ⟨l, s0, t1, h1, h2⟩ := h
  exact ⟨l, s0, t1, h1, s _ _ h2⟩
theorem StA.tf (h : StA H d t ro) : TF H [d] := by
  obtain ⟨l, s0, t1, h1, h2⟩ := h
  exact TF.one h2 (fun _ e => by cases e) (fun _ _ e => by cases e) .nil
theorem StA.ne_lst (h : StA H d t ro) (e : H a = some (.lst xs)) : a ≠ d := fun z => by
  obtain ⟨l, s0, t1, h1, h2⟩ := h
  rw [z, h2] at e; cases e
theorem StA.some (h : StA H d t ro) : H d ≠ none := fun z => by
  obtain ⟨l, s0, t1, h1, h2⟩ := h
  rw [z] at h2; cases h2
theorem Dr.lst (k : Dr d H H1) (h : StA H d t ro) (e : H a = some (.lst xs)) : H1 a = some (.lst xs) := k.kp _ _ e (by simp [h.ne_lst e])
theorem Dr.td (k : Dr d H H1) (h : StA H d t ro) (q : Td K H v dd) : Td K H1 v dd := Td.kp k.kp h.tf _ q
theorem Dr.tda (k : Dr d H H1) (h : StA H d t ro) (q : TdA K H xs ds) : TdA K H1 xs ds := TdA.kp k.kp h.tf _ q
theorem Dr.dK {kvs : List (L2.Key × V)} (k : Dr d H H1) (n : a ≠ d) (e : H a = Option.some (.dK kvs)) : H1 a = Option.some (.dK kvs) := k.kp _ _ e (by simp [n])
theorem Dr.ins {C dx : Addr} {fs : List (Str × V)} (k : Dr d H H1) (h : StA H d t ro) (e : H a = Option.some (.ins C dx fs)) : H1 a = Option.some (.ins C dx fs) := k.kp _ _ e (by
  intro z
  obtain ⟨l, s0, t1, h1, h2⟩ := h
  rw [List.mem_singleton.mp z, h2] at e; cases e)
theorem Dr.free (k : Dr d H H1) (h : H1 p = none) : H p = none := k.nn p h
end
section
variable {P : Program} {w : World} {K : PySem.W.Frag} {mg : Str → Option Value} {base : Heap}
def sp_digit : Sp := fun vs H Q _ => ∃ (d : Addr) (many t : Nat) (ro : Option Nat), vs = [.ref d, .int many] ∧ StA H d t ro ∧ 0 < many ∧ many ≤ 1000 ∧ t ≤ 1000000000 ∧ ∀ H' (n : Nat), Dr d H H' → StA H' d (t + 1) ro → n < many → Q (.int n) H'
theorem Cal.weak {x : Str} {k : Nat} {ps : List Str} {sp sp' : Sp} (C : Cal P w K mg base x k ps sp) (h : ∀ vs H Q E, sp' vs H Q E → sp vs H Q E) : Cal P w K mg base x k ps sp' := by
  obtain ⟨fd, g, kp, b, F⟩ := C
  exact ⟨fd, g, kp, b, ⟨fun vs H Q E q => F.len vs H Q E (h _ _ _ _ q), fun A outer s H args us vs Q E h1 h2 h3 h4 q => F.run A outer s H args us vs Q E h1 h2 h3 h4 (h _ _ _ _ q)⟩⟩
theorem ok_digit (T : Txt K mg) : Cal P w K mg base "_law_digit" 2 ["_law_state", "_law_many"] sp_digit := by
  refine (ok_law_digit T).weak ?_
  rintro vs H Q E ⟨d, many, t, ro, rfl, ⟨l, s, t1, h1, h2⟩, h3, h4, h5, q⟩
  exact ⟨d, many, l, s, t1, ro, rfl, h2, h3, h4, by omega, fun n t' l' hn ht => q _ n (Dr.refl.put) ⟨l', s, t', by omega, upd_same⟩ hn⟩
theorem pick5 {n : Nat} (h : n < 5) (a b c d e : V) : ∃ x, atI [a, b, c, d, e] (n : Int) = some x ∧ (x = a ∨ x = b ∨ x = c ∨ x = d ∨ x = e) := by
  match n, h with
  | 0, _ => exact ⟨a, rfl, by simp⟩
  | 1, _ => exact ⟨b, rfl, by simp⟩
  | 2, _ => exact ⟨c, rfl, by simp⟩
  | 3, _ => exact ⟨d, rfl, by simp⟩
  | 4, _ => exact ⟨e, rfl, by simp⟩
def sp_law_expr (K : PySem.W.Frag) (n : Nat) : Sp := fun vs H Q _ => ∃ (d nl : Addr) (k t : Nat) (ro : Option Nat) (nms : List Str), vs = [.ref d, .ref nl, .int (k : Nat)] ∧ k < n ∧ StA H d t ro ∧ t + 20 * 2 ^ k ≤ 1000000000 ∧ H nl = some (.lst (nms.map V.str)) ∧ nms ≠ [] ∧ nms.length ≤ 100 ∧ (∀ x ∈ nms, isName x = true) ∧
  ∀ H' v (e : E), Dr d H H' → StA H' d (t + 7 * 2 ^ k - 3) ro → Td K H' v e.d → e.wf = true → e.deep ≤ k + 1 → e.parts + 1 ≤ 2 ^ (k + 1) → (∀ x ∈ e.vars, x ∈ nms) → Q v H'
theorem ok_law_expr (T : Txt K mg) : ∀ n, Cal P w K mg base "_law_expr" (n + 2) ["_law_state", "_law_names", "_law_deep"] (sp_law_expr K n)
  | 0 => Cal.vac T.d_law_expr b_law_expr fun vs H Q E h => by
    obtain ⟨_, _, _, _, _, _, _, h, _⟩ := h
    omega
  | n + 1 => by
    have C_law_expr := ok_law_expr T n
    have C_law_digit := ok_digit (P := P) (w := w) (base := base) T
    refine Cal.of T.d_law_expr b_law_expr sc_law_expr (fun vs H Q E h => ?_) (fun cdv A outer s H vs Q E hr h => ?_)
    · obtain ⟨_, _, _, _, _, _, rfl, _⟩ := h; rfl
    obtain ⟨d, nl, k, t, ro, nms, rfl, hkn, hS, ht, hnl, hne, hnn, hnm, q⟩ := h
    refine ⟨_, (pss_cons (ps_set (i := 3) sc_law_expr.nd rfl (Or.inl rfl) (pe_callC C_law_digit (hr.mono (by omega)) rfl (pa_cons (pv 0) (pa_cons (pe_ix ix_list (pe_lst (pa_cons pe_int (pa_cons pe_int pa_nil))) (pe_callTy call_int1 (by rfl) T.int bb_int (pa_cons (pe_cmpR op_gt (pv 2) pe_int (nomark _)) pa_nil)) (fun _ _ => rfl)) pa_nil))))
  (pss_cons (ps_if (pt_cmpR op_eq (pv 3) pe_int (nomark _)) (pss_one (ps_ret (pe_tup (pa_cons pe_str (pa_cons (pe_ix ix_list (pe_lst (pa_cons pe_int (pa_cons pe_int (pa_cons pe_int (pa_cons (pe_callC C_law_digit (hr.mono (by omega)) rfl (pa_cons (pv 0) (pa_cons pe_int pa_nil))) (pa_cons (pe_callC C_law_digit (hr.mono (by omega)) rfl (pa_cons (pv 0) (pa_cons pe_int pa_nil))) pa_nil)))))) (pe_callC C_law_digit (hr.mono (by omega)) rfl (pa_cons (pv 0) (pa_cons pe_int pa_nil))) (fun _ _ => rfl)) pa_nil))))) pss_nil)
  (pss_cons (ps_if (pt_cmpR op_eq (pv 3) pe_int (nomark _)) (pss_one (ps_ret (pe_tup (pa_cons pe_str (pa_cons (pe_ix ix_list (pv 1) (pe_callC C_law_digit (hr.mono (by omega)) rfl (pa_cons (pv 0) (pa_cons (pe_callB call_len_seq (by rfl) T.len bb_len (pa_cons (pv 1) pa_nil)) pa_nil))) (fun _ _ => rfl)) pa_nil))))) pss_nil)
  (pss_cons (ps_set (i := 4) sc_law_expr.nd rfl (Or.inl rfl) (pe_ix ix_list (pe_lst (pa_cons pe_str (pa_cons pe_str (pa_cons pe_str (pa_cons pe_str (pa_cons pe_str pa_nil)))))) (pe_callC C_law_digit (hr.mono (by omega)) rfl (pa_cons (pv 0) (pa_cons pe_int pa_nil))) (fun _ _ => rfl)))
  (pss_cons (ps_set (i := 5) sc_law_expr.nd rfl (Or.inl rfl) (pe_callC C_law_expr (hr.mono (by omega)) rfl (pa_cons (pv 0) (pa_cons (pv 1) (pa_cons (pe_op op_sub (pv 2) pe_int) pa_nil)))))
  (pss_one (ps_ret (pe_tup (pa_cons (pv 4) (pa_cons (pv 5) (pa_cons (pe_ix ix_list (pe_lst (pa_cons (pe_callC C_law_expr (hr.mono (by omega)) rfl (pa_cons (pv 0) (pa_cons (pv 1) (pa_cons (pe_op op_sub (pv 2) pe_int) pa_nil)))) (pa_cons (pv 5) pa_nil))) (pe_callTy call_int1 (by rfl) T.int bb_int (pa_cons (pe_cmpR op_eq (pe_callC C_law_digit (hr.mono (by omega)) rfl (pa_cons (pv 0) (pa_cons pe_int pa_nil))) pe_int (nomark _)) pa_nil)) (fun _ _ => rfl)) pa_nil))))))))))), ?_⟩
    have hp1 : 1 ≤ 2 ^ k := Nat.one_le_two_pow
    refine ⟨_, rfl, by show 2 ≤ sizeLine; decide, fun p1 np1 => ?_⟩
    have hat : atI [V.int 2, V.int 6] (if decide ((0 : Int) < (k : Nat)) = true then 1 else 0) = some (.int ((if 0 < k then 6 else 2 : Nat) : Int)) := by
      by_cases hk : 0 < k
      · rw [if_pos (decide_eq_true (by omega)), if_pos hk]; rfl
      · rw [if_neg (by rw [decide_eq_false (by omega)]; decide), if_neg hk]; rfl
    have d1 : Dr d H (upd H p1 (.lst [.int 2, .int 6])) := Dr.refl.new np1
    refine ⟨_, rfl, _, _, rfl, rfl, .inr ⟨_, rfl, p1, _, _, _, rfl, rfl, .of upd_same, hat, d, _, t, ro, rfl, hS.same (same_new np1), by split <;> omega, by split <;> omega, by omega, fun H2 n1 d2 hS2 hn1 => ?_⟩⟩
    have d12 := d1.trans d2
    refine ⟨_, rfl, rfl, _, rfl, ?_⟩
    by_cases h0 : n1 = 0
    · refine iteT' (decide_eq_true (by rw [h0] <;> rfl)) ?_
      refine ⟨_, rfl, d, 997, t + 1, ro, rfl, hS2, by decide, by decide, by omega, fun H3 n3 d3 hS3 hn3 => ?_⟩
      refine ⟨_, rfl, d, 10, t + 1 + 1, ro, rfl, hS3, by decide, by decide, by omega, fun H4 n4 d4 hS4 hn4 => ?_⟩
      refine ⟨by show 5 ≤ sizeLine; decide, fun p5 np5 => ?_⟩
      refine ⟨_, rfl, d, 5, t + 1 + 1 + 1, ro, rfl, hS4.same (same_new np5), by decide, by decide, by omega, fun H6 n6 d6 hS6 hn6 => ?_⟩
      obtain ⟨x, hx, hxs⟩ := pick5 hn6 (.int 0) (.int 1) (.int 996) (.int (n3 : Nat)) (.int (n4 : Nat))
      have hl6 := d6.lst (hS4.same (same_new np5)) (upd_same (H := H4) (a := p5))
      refine ⟨p5, _, _, _, rfl, rfl, .of hl6, hx, by show 2 ≤ sizeLine; decide, fun p7 np7 => ?_⟩
      obtain ⟨m, hm, rfl⟩ : ∃ m : Nat, m ≤ 996 ∧ x = .int (m : Int) := by
        rcases hxs with e | e | e | e | e
        · exact ⟨0, by omega, e⟩
        · exact ⟨1, by omega, e⟩
        · exact ⟨996, by omega, e⟩
        · exact ⟨n3, by omega, e⟩
        · exact ⟨n4, by omega, e⟩
      have dd : Dr d H H6 := ((d12.trans d3).trans d4).trans ((Dr.refl.new np5).trans d6)
      refine q _ _ (.num m) (dd.new np7) ((hS6.same (same_new np7)).mono (by omega)) (Td.new np7 (tda_cons.mpr ⟨td_str.mpr rfl, tda_cons.mpr ⟨td_int.mpr rfl, tda_nil⟩⟩)) (decide_eq_true hm) ?_ ?_ (fun x hx => by simp [Tw.E.vars] at hx)
      · show 1 ≤ k + 1; omega
      · show 1 + 1 ≤ 2 ^ (k + 1); rw [Nat.pow_succ]; omega
    · refine iteF' (decide_eq_false (by intro z; injection z with z; omega)) ?_
      refine ⟨_, rfl, rfl, _, rfl, ?_⟩
      by_cases h1 : n1 = 1
      · refine iteT' (decide_eq_true (by rw [h1] <;> rfl)) ?_
        have hnl2 := d12.lst hS hnl
        refine ⟨_, rfl, _, rfl, _, rfl, _, _, rfl, .inl (.of hnl2), d, nms.length, t + 1, ro, by rw [List.length_map] <;> rfl, hS2, by cases nms with | nil => exact absurd rfl hne | cons _ _ => simp, by omega, by omega, fun H3 n3 d3 hS3 hn3 => ?_⟩
        have hnl3 := (d12.trans d3).lst hS hnl
        refine ⟨nl, _, _, _, rfl, rfl, .of hnl3, atI_nat (j := n3) (by rw [List.getElem?_map, List.getElem?_eq_getElem hn3]; rfl), by show 2 ≤ sizeLine; decide, fun p4 np4 => ?_⟩
        have hmem := List.getElem_mem hn3
        refine q _ _ (.nam nms[n3]) ((d12.trans d3).new np4) ((hS3.same (same_new np4)).mono (by omega)) (Td.new np4 (tda_cons.mpr ⟨td_str.mpr rfl, tda_cons.mpr ⟨td_str.mpr rfl, tda_nil⟩⟩)) (hnm _ hmem) ?_ ?_ (fun x hx => by simp [Tw.E.vars] at hx; rw [hx]; exact hmem)
        · show 1 ≤ k + 1; omega
        · show 1 + 1 ≤ 2 ^ (k + 1); rw [Nat.pow_succ]; omega
      · refine iteF' (decide_eq_false (by intro z; injection z with z; omega)) ?_
        have hk0 : 0 < k := by
          by_cases hk : 0 < k
          · exact hk
          · rw [if_neg hk] at hn1; omega
        obtain ⟨j, rfl⟩ : ∃ j, k = j + 1 := ⟨k - 1, by omega⟩
        have ep : 2 ^ (j + 1) = 2 * 2 ^ j := by rw [Nat.pow_succ]; omega
        have ep2 : 2 ^ (j + 1 + 1) = 2 * 2 ^ (j + 1) := by rw [Nat.pow_succ]; omega
        have hj1 : 1 ≤ 2 ^ j := Nat.one_le_two_pow
        rw [ep] at ht q
        refine ⟨by show 5 ≤ sizeLine; decide, fun p3 np3 => ?_⟩
        refine ⟨_, rfl, d, 5, t + 1, ro, rfl, hS2.same (same_new np3), by decide, by decide, by omega, fun H4 n4 d4 hS4 hn4 => ?_⟩
        obtain ⟨x, hx, hxs⟩ := pick5 hn4 (.str "plus") (.str "less") (.str "times") (.str "under") (.str "same")
        have hl4 := d4.lst (hS2.same (same_new np3)) (upd_same (H := H2) (a := p3))
        have d14 : Dr d H H4 := (d12.new np3).trans d4
        obtain ⟨o, rfl⟩ : ∃ o : Op, x = .str o.w := by
          rcases hxs with e | e | e | e | e
          · exact ⟨.plus, e⟩
          · exact ⟨.less, e⟩
          · exact ⟨.times, e⟩
          · exact ⟨.under, e⟩
          · exact ⟨.same, e⟩
        refine ⟨p3, _, _, _, rfl, rfl, .of hl4, hx, ?_⟩
        have ej : (((j + 1 : Nat) : Int) - 1) = (j : Nat) := by omega
        refine ⟨_, rfl, _, rfl, _, rfl, _, _, rfl, rfl, d, nl, j, t + 1 + 1, ro, nms, congrArg (fun z => [V.ref d, V.ref nl, V.int z]) ej, by omega, hS4, by omega, d14.lst hS hnl, hne, hnn, hnm, fun H5 v5 e5 d5 hS5 ht5 w5 de5 pa5 va5 => ?_⟩
        have d15 := d14.trans d5
        refine ⟨_, rfl, _, rfl, _, rfl, _, rfl, _, rfl, _, _, rfl, rfl, d, nl, j, t + 1 + 1 + 7 * 2 ^ j - 3, ro, nms, congrArg (fun z => [V.ref d, V.ref nl, V.int z]) ej, by omega, hS5, by omega, d15.lst hS hnl, hne, hnn, hnm, fun H6 v6 e6 d6 hS6 ht6 w6 de6 pa6 va6 => ?_⟩
        have ht56 := d6.td hS5 ht5
        have d16 := d15.trans d6
        refine ⟨_, rfl, by show 2 ≤ sizeLine; decide, fun p7 np7 => ?_⟩
        refine ⟨_, rfl, d, 8, _, ro, rfl, hS6.same (same_new np7), by decide, by decide, by omega, fun H8 n8 d8 hS8 hn8 => ?_⟩
        have hl8 := d8.lst (hS6.same (same_new np7)) (upd_same (H := H6) (a := p7))
        have d68 : Dr d H6 H8 := (Dr.refl.new np7).trans d8
        have t5 := d68.td hS6 ht56
        have t6 := d68.td hS6 ht6
        have fin : ∀ (v7 : V) (e7 : Tw.E), Td K H8 v7 e7.d → e7.wf = true → e7.deep ≤ j + 1 → e7.parts + 1 ≤ 2 ^ (j + 1) → (∀ x ∈ e7.vars, x ∈ nms) → ∀ p9, H8 p9 = none → Q (.ref p9) (upd H8 p9 (.tup [.str o.w, v5, v7])) := fun v7 e7 t7 w7 de7 pa7 va7 p9 np9 => by
          refine q _ _ (.bin o e5 e7) ((d16.trans d68).new np9) ((hS8.same (same_new np9)).mono (by omega)) (Td.new np9 (tda_cons.mpr ⟨td_str.mpr rfl, tda_cons.mpr ⟨t5, tda_cons.mpr ⟨t7, tda_nil⟩⟩⟩)) (by show (e5.wf && e7.wf) = true; rw [w5, w7]; rfl) ?_ ?_ (fun x hx => ?_)
          · show 1 + max e5.deep e7.deep ≤ j + 1 + 1; omega
          · show 1 + e5.parts + e7.parts + 1 ≤ 2 ^ (j + 1 + 1); omega
          · rcases List.mem_append.mp (show x ∈ e5.vars ++ e7.vars from hx) with h | h
            · exact va5 x h
            · exact va7 x h
        refine ⟨rfl, .inr ⟨_, rfl, p7, [v6, v5], _, if n8 = 0 then v5 else v6, rfl, rfl, .of hl8, ?_, by show 3 ≤ sizeLine; decide, fun p9 np9 => ?_⟩⟩
        · by_cases h8 : n8 = 0
          · rw [h8]; rfl
          · rw [decide_eq_false (by intro z; injection z with z; omega), if_neg h8]; rfl
        · by_cases h8 : n8 = 0
          · rw [if_pos h8]
            exact fin v5 e5 t5 w5 de5 pa5 va5 p9 np9
          · rw [if_neg h8]
            exact fin v6 e6 t6 w6 de6 pa6 va6 p9 np9
end
end Tw
set_option Elab.async false
set_option linter.all false
set_option maxRecDepth 100000
set_option maxHeartbeats 4000000
namespace Tw
open PySem PySem.Spec PyProof.Rows L2
/-! ### drawn rows -/
mutual
def Row.inn (p : Str → Prop) : Row → Prop
  | .lt _ x e => p x ∧ ∀ y ∈ e.vars, p y
  | .ask x _ _ => p x
  | .say _ e => ∀ y ∈ e.vars, p y
  | .iff e a b => (∀ y ∈ e.vars, p y) ∧ inns p a ∧ inns p b
  | .whl e a => (∀ y ∈ e.vars, p y) ∧ inns p a
def inns (p : Str → Prop) : List Row → Prop
  | [] => True
  | r :: rs => r.inn p ∧ inns p rs
end
theorem inns_append (p : Str → Prop) : ∀ (a b : List Row), inns p (a ++ b) ↔ inns p a ∧ inns p b
  | [], b => by rw [List.nil_append, inns, true_and]
  | r :: a, b => by rw [List.cons_append, inns, inns, inns_append p a b, and_assoc]
theorem Dr.putN {d p : Addr} {H H1 : Hp} {o : HO} (k : Dr d H H1) (h : H p = none) : Dr d H (upd H1 p o) := ⟨fun b u e n => by
  rw [upd_ne (ne_of_none e h)]
  exact k.kp b u e n, fun b e => by
  by_cases hb : b = p
  · rw [hb]; exact h
  · rw [upd_ne hb] at e; exact k.nn b e⟩
theorem StA.put {d p : Addr} {H : Hp} {o : HO} {t : Nat} {ro : Option Nat} (h : StA H d t ro) (n : p ≠ d) : StA (upd H p o) d t ro := by
  obtain ⟨l, s0, t1, h1, h2⟩ := h
  exact ⟨l, s0, t1, h1, by rw [upd_ne (Ne.symm n)]; exact h2⟩
structure DrawW (hm : Str → Str) (nms : List Str) (H : Hp) (d nl hd : Addr) : Prop where
  fnl : H nl = some (.lst (nms.map V.str))
  ne : nms ≠ []
  few : nms.length ≤ 100
  nm : ∀ x ∈ nms, isName x = true
  fhd : ∃ kvs, H hd = some (.dK kvs) ∧ ∀ x ∈ nms, valV kvs (Sum.inr x) = some (.str (hm x))
  hne : hd ≠ d
  hs : HsOk hm
theorem DrawW.dr {hm : Str → Str} {nms : List Str} {H H' : Hp} {d nl hd : Addr} {t : Nat} {ro : Option Nat} (W : DrawW hm nms H d nl hd) (k : Dr d H H') (h : StA H d t ro) : DrawW hm nms H' d nl hd := by
  obtain ⟨a, b, c, e, ⟨kvs, h1, h2⟩, g, i⟩ := W
  exact ⟨k.lst h a, b, c, e, ⟨kvs, k.dK g h1, h2⟩, g, i⟩
section
variable {P : Program} {w : World} {K : PySem.W.Frag} {mg : Str → Option Value} {base : Heap}
def sp_law_row (K : PySem.W.Frag) (n : Nat) : Sp := fun vs H Q _ => ∃ (d nl hd : Addr) (deep t r : Nat) (hm : Str → Str) (nms : List Str), vs = [.ref d, .ref nl, .ref hd, .int (deep : Nat)] ∧ deep + n = 5 ∧ 0 < n ∧ StA H d t (some r) ∧ r ≤ 24 ∧ t + 70 * (26 - r) + 1000 ≤ 1000000000 ∧ DrawW hm nms H d nl hd ∧
  ∀ H' v (rw : Row) (r' : Nat), Dr d H H' → StA H' d (t + 70 * rw.cnt) (some r') → r' ≤ 24 → r' + 1 = r + rw.cnt → Td K H' v rw.d → rw.ok hm → rw.dp ≤ n → rw.inn (· ∈ nms) → Q v H'
def sp_law_block (K : PySem.W.Frag) (n : Nat) : Sp := fun vs H Q _ => ∃ (d nl hd : Addr) (deep many t r : Nat) (hm : Str → Str) (nms : List Str), vs = [.ref d, .ref nl, .ref hd, .int (deep : Nat), .int (many : Nat)] ∧ deep + n = 5 ∧ 0 < n ∧ many ≤ 10 ∧ StA H d t (some r) ∧ r ≤ 24 ∧ t + 70 * (25 - r) + 1000 ≤ 1000000000 ∧ DrawW hm nms H d nl hd ∧
  ∀ H' v (rs : List Row) (r' : Nat), Dr d H H' → StA H' d (t + 70 * cnts rs) (some r') → r' ≤ 24 → r' = r + cnts rs → Td K H' v (.tuple (rowsD rs)) → oks hm rs → dps rs ≤ n → inns (· ∈ nms) rs → (0 < many → r < 24 → rs ≠ []) → Q v H'
theorem block_of (T : Txt K mg) {n : Nat} (C_law_row : Cal P w K mg base "_law_row" (8 + 2 * n) ["_law_state", "_law_names", "_law_homes", "_law_deep"] (sp_law_row K n)) :
    Cal P w K mg base "_law_block" (9 + 2 * n) ["_law_state", "_law_names", "_law_homes", "_law_deep", "_law_many"] (sp_law_block K n) := by
  rw [show 9 + 2 * n = 8 + 2 * n + 1 by omega]
  refine Cal.of T.d_law_block b_law_block sc_law_block (fun vs H Q E h => ?_) (fun cdv A outer s H vs Q E hr h => ?_)
  · obtain ⟨_, _, _, _, _, _, _, _, _, rfl, _⟩ := h; rfl
  obtain ⟨d, nl, hd, deep, many, t, r, hm, nms, rfl, hdn, hn0, hmany, hS, hr24, ht, hW, q⟩ := h
  have hu := hu_of hr
  refine ⟨_, (pss_cons (ps_set (i := 5) sc_law_block.nd rfl (Or.inl rfl) (pe_lst pa_nil))
  (pss_cons (ps_for PassesOwn.never rfl (pi_range1 (by rfl) T.range (pa_cons (pv 4) pa_nil)) (pg_name (i := 6) sc_law_block.nd rfl (Or.inl rfl))
   (pss_one (ps_if (pt_cmpR op_lt (pe_dget hu (pv 0) pe_str (fun _ _ => rfl)) pe_int (nomark _)) (pss_cons (ps_dput hu (pv 0) pe_str (pe_op op_add (pe_dget hu (pv 0) pe_str (fun _ _ => rfl)) pe_int) rfl)
  (pss_one (ps_expr (pe_bm PySem.F.plainAttrs_list PySem.F.slot_list_append PySem.F.type_list_append mt_append (pv 5) (pa_cons (pe_callC C_law_row (hr.mono (by omega)) rfl (pa_cons (pv 0) (pa_cons (pv 1) (pa_cons (pv 2) (pa_cons (pv 3) pa_nil))))) pa_nil))))) pss_nil)))
  (pss_one (ps_ret (pe_callTy call_tuple_of (by rfl) T.tuple bb_tuple (pa_cons (pv 5) pa_nil)))))), ?_⟩
  refine ⟨by show 0 ≤ sizeLine; decide, fun lf nlf => ?_⟩
  have hlfd : lf ≠ d := fun z => hS.some (by rw [← z]; exact nlf)
  refine ⟨_, rfl, _, rfl, by omega, by omega, for_it walk_range (fun i σ H' => ∃ (x6 : Option V) (ws : List V) (rs : List Row) (r' : Nat), σ = [some (.ref d), some (.ref nl), some (.ref hd), some (.int (deep : Nat)), some (.int (many : Nat)), some (.ref lf), x6] ∧ Dr d H H' ∧ StA H' d (t + 70 * cnts rs) (some r') ∧ r' ≤ 24 ∧ r' = r + cnts rs ∧
    H' lf = some (.lst ws) ∧ TdA K H' ws (rowsD rs) ∧ ws.length ≤ i ∧ oks hm rs ∧ dps rs ≤ n ∧ inns (· ∈ nms) rs ∧ (0 < i → r < 24 → rs ≠ []))
    ⟨none, [], [], r, rfl, Dr.refl.putN nlf, hS.put hlfd, hr24, rfl, upd_same, tda_nil, Nat.le_refl _, trivial, Nat.zero_le _, trivial, fun h => absurd h (by omega)⟩ (fun _ _ _ _ _ => trivial) ?_ ?_⟩
  · rintro i x σ H1 H2 hi ⟨x6, ws, rs, r', rfl, k1, hS1, hr', er, hlf, hws, hwl, hok, hdp, hin, hne⟩ ⟨rfl, rfl⟩
    obtain ⟨l, s0, t1, ht1, hd1⟩ := id hS1
    refine ⟨_, rfl, d, _, rfl, dget_eq hd1 st_rows, _, _, rfl, rfl, _, rfl, ?_⟩
    by_cases hlt : r' < 24
    · refine iteT' (decide_eq_true (by omega)) ?_
      have hl4 := st_len (l := l) (s := s0) (t := t1) (ro := some r')
      refine ⟨_, rfl, d, _, rfl, dget_eq hd1 st_rows, _, _, rfl, rfl, _, rfl, d, _, rfl, dput_eq hd1 (by omega) (put_rows (r' := r' + 1)), ?_⟩
      have k2 : Dr d H2 (upd H2 d (.dK (stK l s0 t1 (some (r' + 1))))) := Dr.refl.put
      have hS2 : StA (upd H2 d (.dK (stK l s0 t1 (some (r' + 1))))) d (t + 70 * cnts rs) (some (r' + 1)) := ⟨l, s0, t1, ht1, upd_same⟩
      have hlf2 := k2.lst hS1 hlf
      refine ⟨_, rfl, Or.inl ⟨rfl, _, SqL.of hlf2⟩, _, rfl, _, rfl, _, rfl, _, rfl, d, nl, hd, deep, t + 70 * cnts rs, r' + 1, hm, nms, rfl, hdn, hn0, hS2, by omega, by omega, (hW.dr k1 hS).dr k2 hS1, fun H3 v rw0 r3 k3 hS3 hr3 er3 hv hok3 hdp3 hin3 => ?_⟩
      have hlf3 := k3.lst hS2 hlf2
      have hws3 := k3.tda hS2 (k2.tda hS1 hws)
      refine ⟨lf, _, _, rfl, rfl, hlf3, by rw [sizeLine_eq]; omega, ?_⟩
      have ec : cnts (rs ++ [rw0]) = cnts rs + rw0.cnt := by rw [cnts_append]; rfl
      refine ⟨_, ws ++ [v], rs ++ [rw0], r3, rfl, (((k1.trans k2).trans k3).putN nlf), (hS3.put hlfd).mono (by rw [ec]; omega), hr3, by rw [ec]; omega, upd_same, ?_, by rw [List.length_append, List.length_singleton]; omega, (oks_append hm _ _).mpr ⟨hok, hok3, trivial⟩, by rw [dps_append]; show max (dps rs) (max rw0.dp 0) ≤ n; omega, (inns_append _ _ _).mpr ⟨hin, hin3, trivial⟩, fun _ _ z => by simp at z⟩
      rw [rowsD_map, List.map_append, ← rowsD_map]
      exact (TdA.put hlf3 hws3).append (tda_cons.mpr ⟨Td.put hlf3 hv, tda_nil⟩)
    · refine iteF' (decide_eq_false (by omega)) ?_
      exact ⟨_, ws, rs, r', rfl, k1, hS1, hr', er, hlf, hws, by omega, hok, hdp, hin, fun _ h24 z => by rw [z] at er; have : cnts [] = 0 := rfl; omega⟩
  · rintro σ H1 ⟨x6, ws, rs, r', rfl, k1, hS1, hr', er, hlf, hws, hwl, hok, hdp, hin, hne⟩
    refine ⟨_, rfl, _, _, rfl, .inl ⟨.of hlf, fun pt npt => ?_⟩⟩
    refine q _ _ rs r' (k1.new npt) (hS1.same (same_new npt)) hr' er (Td.new npt hws) hok hdp hin fun hm0 => hne (by simpa using hm0)
theorem row_of (T : Txt K mg) {n : Nat} (C_law_block : Cal P w K mg base "_law_block" (9 + 2 * n) ["_law_state", "_law_names", "_law_homes", "_law_deep", "_law_many"] (sp_law_block K n)) :
    Cal P w K mg base "_law_row" (8 + 2 * (n + 1)) ["_law_state", "_law_names", "_law_homes", "_law_deep"] (sp_law_row K (n + 1)) := by
  have C_law_digit := ok_digit (P := P) (w := w) (base := base) T
  have C_law_expr := ok_law_expr (P := P) (w := w) (base := base) T 4
  rw [show 8 + 2 * (n + 1) = 9 + 2 * n + 1 by omega]
  refine Cal.of T.d_law_row b_law_row sc_law_row (fun vs H Q E h => ?_) (fun cdv A outer s H vs Q E hr h => ?_)
  · obtain ⟨_, _, _, _, _, _, _, _, rfl, _⟩ := h; rfl
  obtain ⟨d, nl, hd, deep, t, r, hm, nms, rfl, hdn, hn0, hS, hr24, ht, hW, q⟩ := h
  have hu := hu_of hr
  refine ⟨_, (pss_cons (ps_set (i := 4) sc_law_row.nd rfl (Or.inl rfl) (pe_callC C_law_digit (hr.mono (by omega)) rfl (pa_cons (pv 0) (pa_cons (pe_ix ix_list (pe_lst (pa_cons pe_int (pa_cons pe_int pa_nil))) (pe_callTy call_int1 (by rfl) T.int bb_int (pa_cons (pe_cmpR op_gt (pv 3) pe_int (nomark _)) pa_nil)) (fun _ _ => rfl)) pa_nil))))
  (pss_cons (ps_set (i := 5) sc_law_row.nd rfl (Or.inl rfl) (pe_ix ix_list (pv 1) (pe_callC C_law_digit (hr.mono (by omega)) rfl (pa_cons (pv 0) (pa_cons (pe_callB call_len_seq (by rfl) T.len bb_len (pa_cons (pv 1) pa_nil)) pa_nil))) (fun _ _ => rfl)))
  (pss_cons (ps_set (i := 6) sc_law_row.nd rfl (Or.inl rfl) (pe_callC C_law_expr (hr.mono (by omega)) rfl (pa_cons (pv 0) (pa_cons (pv 1) (pa_cons (pe_callC C_law_digit (hr.mono (by omega)) rfl (pa_cons (pv 0) (pa_cons pe_int pa_nil))) pa_nil)))))
  (pss_cons (ps_if (pt_cmpR op_lt (pv 4) pe_int (nomark _)) (pss_one (ps_ret (pe_tup (pa_cons (pe_ix ix_list (pe_lst (pa_cons pe_str (pa_cons pe_str (pa_cons pe_str pa_nil)))) (pv 4) (fun _ _ => rfl)) (pa_cons (pv 5) (pa_cons (pv 6) pa_nil)))))) pss_nil)
  (pss_cons (ps_if (pt_cmpR op_eq (pv 4) pe_int (nomark _)) (pss_one (ps_ret (pe_tup (pa_cons pe_str (pa_cons (pv 5) (pa_cons (pe_dget hu (pv 2) (pv 5) (fun _ _ => rfl)) (pa_cons (pe_cmpR op_eq (pe_callC C_law_digit (hr.mono (by omega)) rfl (pa_cons (pv 0) (pa_cons pe_int pa_nil))) pe_int (nomark _)) pa_nil))))))) pss_nil)
  (pss_cons (ps_if (pt_cmpR op_lt (pv 4) pe_int (nomark _)) (pss_one (ps_ret (pe_tup (pa_cons pe_str (pa_cons (pe_ix ix_list (pe_lst (pa_cons pe_str (pa_cons pe_str pa_nil))) (pe_callC C_law_digit (hr.mono (by omega)) rfl (pa_cons (pv 0) (pa_cons pe_int pa_nil))) (fun _ _ => rfl)) (pa_cons (pv 6) pa_nil)))))) pss_nil)
  (pss_cons (ps_set (i := 7) sc_law_row.nd rfl (Or.inl rfl) (pe_callC C_law_block (hr.mono (by omega)) rfl (pa_cons (pv 0) (pa_cons (pv 1) (pa_cons (pv 2) (pa_cons (pe_op op_add (pv 3) pe_int) (pa_cons (pe_callC C_law_digit (hr.mono (by omega)) rfl (pa_cons (pv 0) (pa_cons pe_int pa_nil))) pa_nil)))))))
  (pss_cons (ps_if (pt_cmpR op_eq (pv 4) pe_int (nomark _)) (pss_one (ps_ret (pe_tup (pa_cons pe_str (pa_cons (pv 6) (pa_cons (pv 7) (pa_cons (pe_callC C_law_block (hr.mono (by omega)) rfl (pa_cons (pv 0) (pa_cons (pv 1) (pa_cons (pv 2) (pa_cons (pe_op op_add (pv 3) pe_int) (pa_cons (pe_callC C_law_digit (hr.mono (by omega)) rfl (pa_cons (pv 0) (pa_cons pe_int pa_nil))) pa_nil)))))) pa_nil))))))) pss_nil)
  (pss_one (ps_ret (pe_tup (pa_cons pe_str (pa_cons (pv 6) (pa_cons (pv 7) pa_nil)))))))))))))), ?_⟩
  refine ⟨_, rfl, by show 2 ≤ sizeLine; decide, fun p1 np1 => ?_⟩
  have hat : atI [V.int 8, V.int 6] (if decide ((3 : Int) < (deep : Nat)) = true then 1 else 0) = some (.int ((if 3 < deep then 6 else 8 : Nat) : Int)) := by
    by_cases hk : 3 < deep
    · rw [if_pos (decide_eq_true (by omega)), if_pos hk]; rfl
    · rw [if_neg (by rw [decide_eq_false (by omega)]; decide), if_neg hk]; rfl
  have d1 : Dr d H (upd H p1 (.lst [.int 8, .int 6])) := Dr.refl.new np1
  refine ⟨_, rfl, _, _, rfl, rfl, .inr ⟨_, rfl, p1, _, _, _, rfl, rfl, .of upd_same, hat, d, _, t, some r, rfl, hS.same (same_new np1), by split <;> omega, by split <;> omega, by omega, fun H2 way d2 hS2 hway => ?_⟩⟩
  have d12 := d1.trans d2
  have hW2 := hW.dr d12 hS
  have hfew := hW.few
  refine ⟨_, rfl, _, rfl, _, rfl, _, _, rfl, .inl (.of hW2.fnl), d, nms.length, t + 1, some r, by rw [List.length_map] <;> rfl, hS2, List.length_pos_iff.mpr hW.ne, by omega, by omega, fun H3 n3 d3 hS3 hn3 => ?_⟩
  have hW3 := hW2.dr d3 hS2
  refine ⟨nl, _, _, _, rfl, rfl, .of hW3.fnl, atI_nat (j := n3) (by rw [List.getElem?_map, List.getElem?_eq_getElem hn3]; rfl), ?_⟩
  have hmem := List.getElem_mem hn3
  generalize nms[n3] = x at hmem ⊢
  have hx := hW.nm x hmem
  refine ⟨_, rfl, _, rfl, _, rfl, d, 4, t + 1 + 1, some r, rfl, hS3, by decide, by decide, by omega, fun H4 n4 d4 hS4 hn4 => ?_⟩
  have hW4 := hW3.dr d4 hS3
  have hp8 : 2 ^ n4 ≤ 2 ^ 3 := Nat.pow_le_pow_right (by decide) (by omega)
  have hp16 : 2 ^ (n4 + 1) ≤ 2 ^ 4 := Nat.pow_le_pow_right (by decide) (by omega)
  refine ⟨d, nl, n4, t + 1 + 1 + 1, some r, nms, rfl, hn4, hS4, by omega, hW4.fnl, hW.ne, hW.few, hW.nm, fun H5 v e d5 hS5 hv hwf hde hpa hva => ?_⟩
  have hS5' : StA H5 d (t + 60) (some r) := hS5.mono (by omega)
  have hW5 := hW4.dr d5 hS4
  have d15 := ((d12.trans d3).trans d4).trans d5
  have heo : e.ok := ⟨hwf, by omega, by omega⟩
  clear hS5 hS4 hS3 hS2 hp8 hp16 hat
  refine ⟨_, rfl, _, _, rfl, rfl, _, rfl, ?_⟩
  by_cases w3 : way < 3
  · refine iteT' (decide_eq_true (by omega)) ?_
    refine ⟨by show 3 ≤ sizeLine; decide, fun p6 np6 => ?_⟩
    obtain ⟨op, hop⟩ : ∃ op : Bool, atI [V.str "let", V.str "let", V.str "open"] (way : Int) = some (.str (ltw op)) := by
      match way, w3 with
      | 0, _ => exact ⟨false, rfl⟩
      | 1, _ => exact ⟨false, rfl⟩
      | 2, _ => exact ⟨true, rfl⟩
    refine ⟨_, rfl, p6, _, _, _, rfl, rfl, .of upd_same, hop, _, rfl, _, rfl, by show 3 ≤ sizeLine; decide, fun p7 np7 => ?_⟩
    have s67 := (same_new np6 (o := .lst [V.str "let", V.str "let", V.str "open"])).trans (same_new np7 (o := .tup [V.str (ltw op), V.str x, v]))
    exact q _ _ (.lt op x e) r (d15.trans (.ofS s67)) ((hS5'.same s67).mono (by show t + 60 ≤ t + 70 * 1; omega)) hr24 rfl (by rw [Row.d]; exact Td.new np7 (tda_cons.mpr ⟨td_str.mpr rfl, tda_cons.mpr ⟨td_str.mpr rfl, tda_cons.mpr ⟨hv.same (same_new np6), tda_nil⟩⟩⟩)) ⟨hx, heo⟩ (by show 1 ≤ n + 1; omega) ⟨hmem, hva⟩
  refine iteF' (decide_eq_false (by omega)) ?_
  refine ⟨_, rfl, rfl, _, rfl, ?_⟩
  by_cases w4 : way = 3
  · refine iteT' (decide_eq_true (by rw [w4] <;> rfl)) ?_
    obtain ⟨kvs, hk1, hk2⟩ := hW5.fhd
    refine ⟨_, rfl, _, rfl, _, rfl, hd, _, rfl, dget_eq hk1 (hk2 x hmem), _, rfl, d, 3, _, some r, rfl, hS5', by decide, by decide, by omega, fun H6 n6 d6 hS6 hn6 => ?_⟩
    refine ⟨rfl, by show 4 ≤ sizeLine; decide, fun p7 np7 => ?_⟩
    exact q _ _ (.ask x (hm x) (decide (V.int (n6 : Nat) = V.int 0))) r ((d15.trans d6).new np7) ((hS6.same (same_new np7)).mono (by show t + 60 + 1 ≤ t + 70 * 1; omega)) hr24 rfl (by rw [Row.d]; exact Td.new np7 (tda_cons.mpr ⟨td_str.mpr rfl, tda_cons.mpr ⟨td_str.mpr rfl, tda_cons.mpr ⟨td_str.mpr rfl, tda_cons.mpr ⟨td_bool.mpr rfl, tda_nil⟩⟩⟩⟩)) ⟨hx, rfl⟩ (by show 1 ≤ n + 1; omega) hmem
  refine iteF' (decide_eq_false (by intro z; injection z with z; omega)) ?_
  refine ⟨_, rfl, _, _, rfl, rfl, _, rfl, ?_⟩
  by_cases w6 : way < 6
  · refine iteT' (decide_eq_true (by omega)) ?_
    refine ⟨by show 2 ≤ sizeLine; decide, fun p6 np6 => ?_⟩
    have s6 := same_new np6 (o := .lst [V.str "east", V.str "west"])
    refine ⟨_, rfl, d, 2, _, some r, rfl, hS5'.same s6, by decide, by decide, by omega, fun H7 n7 d7 hS7 hn7 => ?_⟩
    obtain ⟨h0, hh0, hat0⟩ : ∃ h0, isHouse h0 = true ∧ atI [V.str "east", V.str "west"] (n7 : Int) = some (.str h0) := by
      match n7, hn7 with
      | 0, _ => exact ⟨"east", by decide +kernel, rfl⟩
      | 1, _ => exact ⟨"west", by decide +kernel, rfl⟩
    have hl7 := d7.lst (hS5'.same s6) (upd_same (H := H5) (a := p6))
    refine ⟨p6, _, _, _, rfl, rfl, .of hl7, hat0, _, rfl, by show 3 ≤ sizeLine; decide, fun p8 np8 => ?_⟩
    exact q _ _ (.say h0 e) r (((d15.new np6).trans d7).new np8) ((hS7.same (same_new np8)).mono (by show t + 60 + 1 ≤ t + 70 * 1; omega)) hr24 rfl (by rw [Row.d]; exact Td.new np8 (tda_cons.mpr ⟨td_str.mpr rfl, tda_cons.mpr ⟨td_str.mpr rfl, tda_cons.mpr ⟨d7.td (hS5'.same s6) (hv.same s6), tda_nil⟩⟩⟩)) ⟨hh0, heo⟩ (by show 1 ≤ n + 1; omega) hva
  refine iteF' (decide_eq_false (by omega)) ?_
  have hdeep : ¬ 3 < deep := fun z => by rw [if_pos z] at hway; omega
  have hw8 : way < 8 := by rw [if_neg hdeep] at hway; exact hway
  have edp : ((deep : Nat) : Int) + 1 = ((deep + 1 : Nat) : Int) := by omega
  refine ⟨_, rfl, _, rfl, _, rfl, _, rfl, _, _, rfl, rfl, _, rfl, d, 4, _, some r, rfl, hS5', by decide, by decide, by omega, fun H6 n6 d6 hS6 hn6 => ?_⟩
  have hW6 := hW5.dr d6 hS5'
  refine ⟨d, nl, hd, deep + 1, n6, _, r, hm, nms, congrArg (fun z => [V.ref d, V.ref nl, V.ref hd, V.int z, V.int (n6 : Nat)]) edp, by omega, by omega, by omega, hS6, hr24, by omega, hW6, fun H7 v7 rs7 r7 d7 hS7 hr7 er7 hv7 ok7 dp7 in7 _ => ?_⟩
  have hW7 := hW6.dr d7 hS6
  have d17 := (d15.trans d6).trans d7
  have hve7 := d7.td hS6 (d6.td hS5' hv)
  refine ⟨_, rfl, rfl, _, rfl, ?_⟩
  by_cases w7 : way = 6
  · refine iteT' (decide_eq_true (by rw [w7] <;> rfl)) ?_
    refine ⟨_, rfl, _, rfl, _, rfl, _, rfl, _, rfl, _, rfl, _, _, rfl, rfl, _, rfl, d, 3, _, some r7, rfl, hS7, by decide, by decide, by omega, fun H8 n8 d8 hS8 hn8 => ?_⟩
    have hW8 := hW7.dr d8 hS7
    refine ⟨d, nl, hd, deep + 1, n8, _, r7, hm, nms, congrArg (fun z => [V.ref d, V.ref nl, V.ref hd, V.int z, V.int (n8 : Nat)]) edp, by omega, by omega, by omega, hS8, hr7, by omega, hW8, fun H9 v9 rs9 r9 d9 hS9 hr9 er9 hv9 ok9 dp9 in9 _ => ?_⟩
    refine ⟨by show 4 ≤ sizeLine; decide, fun pa npa => ?_⟩
    have hve9 := d9.td hS8 (d8.td hS7 hve7)
    have hv79 := d9.td hS8 (d8.td hS7 hv7)
    exact q _ _ (.iff e rs7 rs9) r9 (((d17.trans d8).trans d9).new npa) ((hS9.same (same_new npa)).mono (by show _ ≤ t + 70 * (1 + cnts rs7 + cnts rs9); omega)) hr9 (by show r9 + 1 = r + (1 + cnts rs7 + cnts rs9); omega) (by rw [Row.d]; exact Td.new npa (tda_cons.mpr ⟨td_str.mpr rfl, tda_cons.mpr ⟨hve9, tda_cons.mpr ⟨hv79, tda_cons.mpr ⟨hv9, tda_nil⟩⟩⟩⟩)) ⟨heo, ok7, ok9⟩ (by show 1 + max (dps rs7) (dps rs9) ≤ n + 1; omega) ⟨hva, in7, in9⟩
  · refine iteF' (decide_eq_false (by intro z; injection z with z; omega)) ?_
    refine ⟨_, rfl, _, rfl, by show 3 ≤ sizeLine; decide, fun pa npa => ?_⟩
    exact q _ _ (.whl e rs7) r7 (d17.new npa) ((hS7.same (same_new npa)).mono (by show _ ≤ t + 70 * (1 + cnts rs7); omega)) hr7 (by show r7 + 1 = r + (1 + cnts rs7); omega) (by rw [Row.d]; exact Td.new npa (tda_cons.mpr ⟨td_str.mpr rfl, tda_cons.mpr ⟨hve7, tda_cons.mpr ⟨hv7, tda_nil⟩⟩⟩)) ⟨heo, ok7⟩ (by show 1 + dps rs7 ≤ n + 1; omega) ⟨hva, in7⟩
theorem ok_rb (T : Txt K mg) : ∀ n, Cal P w K mg base "_law_block" (9 + 2 * n) ["_law_state", "_law_names", "_law_homes", "_law_deep", "_law_many"] (sp_law_block K n)
  | 0 => Cal.vac T.d_law_block b_law_block fun vs H Q E h => by
    obtain ⟨_, _, _, _, _, _, _, _, _, _, _, h, _⟩ := h
    omega
  | n + 1 => block_of T (row_of T (ok_rb T n))
end
end Tw
set_option Elab.async false
set_option linter.all false
set_option maxRecDepth 100000
set_option maxHeartbeats 4000000
namespace Tw
open PySem PySem.Spec PyProof.Rows L2 TL
/-! ### a comprehension whose elements draw -/
section
variable {J : It} {n : Nat} {G : Hp → Prop} {Y : Nat → Hp → V → Hp → Prop}
theorem lc_dr (w : Walk J n G Y) {g : TG} {te : TE} {vs : List Nat} {σ : L2.St} {H1 : Hp} {D d : Addr} {t : Nat} {ro : Option Nat} {Qd : Hp → Prop} (hn : n ≤ 100000) (hD : H1 D = none) (hS : StA H1 d t ro) (hG : ∀ H', Dr d H1 H' → G H')
    (Rel : Nat → V → Hp → Prop) (mono : ∀ i y H H', (∃ l, H D = some (.lst l)) → Kp [D] H H' → Rel i y H → Rel i y H') (monod : ∀ i y H H' t', StA H d t' ro → Dr d H H' → Rel i y H → Rel i y H')
    (hs : ∀ i x H2 H' (Qc : VK), i < n → Dr d H1 H2 → StA H2 d (t + i) ro → Y i H2 x H' → (∀ y H4, Dr d H2 H4 → StA H4 d (t + (i + 1)) ro → Rel i y H4 → Qc y H4) → g x (wipe σ vs) H' fun σ2 H3 => wipe σ2 vs = wipe σ vs ∧ te σ2 H3 Qc)
    (hd : ∀ ys H', Dr d H1 H' → StA H' d (t + n) ro → H' D = some (.lst ys) → ys.length = n → (∀ i y, ys[i]? = some y → Rel i y H') → Qd H') :
    ∃ W : Nat → Nat → Hp → Prop, (∃ m, W 0 m (upd H1 D (.lst []))) ∧ ∀ i m H, W i m H →
      (J.stop i H ∧ Qd H) ∨ (J.go i H ∧ ∃ Nx : Hp → Prop, (∀ H', Nx H' → ∃ m', m' < m ∧ W (i + 1) m' H') ∧ ∀ x H', J.yld i H x H' → g x (wipe σ vs) H' fun σ2 H2 => wipe σ2 vs = wipe σ vs ∧ tYes σ2 H2 fun b H3 =>
        if b = true then te σ2 H3 fun y H4 => ∃ acc, H4 D = some (.lst acc) ∧ acc.length < sizeLine ∧ Nx (upd H4 D (.lst (acc ++ [y]))) else Nx H3) := by
  have hDd : D ≠ d := fun z => hS.some (by rw [← z]; exact hD)
  refine lc_it w (tt := tYes) (fun i H => ∃ ys, Dr d H1 H ∧ StA H d (t + i) ro ∧ H D = some (.lst ys) ∧ ys.length = i ∧ ∀ j y, ys[j]? = some y → Rel j y H)
    ⟨[], Dr.refl.new hD, hS.put hDd, upd_same, rfl, fun j y e => by simp at e⟩ (fun i H _ ⟨_, s, _⟩ => hG H s) ?_ ?_
  · rintro i x H H' hi ⟨ys, k, st, hl, rfl, hr⟩ y
    have key := hs ys.length x H H' (fun y H4 => ∃ acc, H4 D = some (.lst acc) ∧ acc.length < sizeLine ∧ ∃ zs, Dr d H1 (upd H4 D (.lst (acc ++ [y]))) ∧ StA (upd H4 D (.lst (acc ++ [y]))) d (t + (ys.length + 1)) ro ∧ upd H4 D (.lst (acc ++ [y])) D = some (.lst zs) ∧ zs.length = ys.length + 1 ∧ ∀ j z, zs[j]? = some z → Rel j z (upd H4 D (.lst (acc ++ [y])))) hi k st y ?_
    · exact key
    · intro z H4 k4 st4 r4
      have hl4 := k4.lst st hl
      have kd : Kp [D] H4 (upd H4 D (.lst (ys ++ [z]))) := fun b u e nb => by rw [upd_ne (fun q => nb (by rw [q]; simp))]; exact e
      refine ⟨ys, hl4, Nat.lt_of_lt_of_le (show ys.length < 100001 by omega) (by rw [sizeLine_eq]; decide), ys ++ [z], (k.trans k4).putN hD, st4.put hDd, upd_same, by simp, fun j u e => ?_⟩
      by_cases hj : j < ys.length
      · rw [List.getElem?_append_left hj] at e
        exact mono _ _ _ _ ⟨_, hl4⟩ kd (monod _ _ _ _ _ st k4 (hr j u e))
      · rw [List.getElem?_append_right (by omega)] at e
        have hj0 : j - ys.length = 0 := by
          by_cases h : j - ys.length = 0
          · exact h
          · rw [List.getElem?_eq_none (by simp; omega)] at e; cases e
        rw [hj0] at e
        cases e
        have : j = ys.length := by omega
        rw [this]
        exact mono _ _ _ _ ⟨_, hl4⟩ kd r4
  · rintro H ⟨ys, k, st, hl, hn', hr⟩
    exact hd ys H k st hl hn' hr
end
/-! ### the names drawn -/
def someL : List Str := ["ab", "a", "x", "xyz", "b", "ba", "weast", "q", "lets", "zeb"]
def badL : List Str := c_KEYS ++ someL ++ ([("name" : Str), "number"] : List Str)
theorem bad_j : badL.all (fun x => (tl x).getLast? != some 106) = true := by decide +kernel
theorem tl_j : tl ("j" : Str) = [106] := by decide +kernel
theorem not_bad {x : Str} : x ++ "j" ∉ badL := fun h => by
  have := List.all_eq_true.mp bad_j _ h
  rw [tl_append, tl_j, List.getLast?_append] at this
  simp at this
theorem name_j {x : Str} (h : ∀ c ∈ tl x, c ∈ letters.cps.toList) (hl : x.length ≤ 5) : isName (x ++ "j") = true := by
  unfold isName
  have e : (x ++ "j").length = x.length + 1 := by rw [len_tl, tl_append, List.length_append, tl_j, ← len_tl]; rfl
  have hk : x ++ "j" ∉ c_KEYS := fun z => not_bad (List.mem_append_left _ (List.mem_append_left _ z))
  rw [decide_eq_true (by omega : 1 ≤ (x ++ "j").length), decide_eq_true (by omega : (x ++ "j").length ≤ 6), decide_eq_false hk]
  show (true && true && true && _) = true
  repeat rw [Bool.true_and]
  rw [List.all_eq_true]
  intro c hc
  have hc : c ∈ tl (x ++ "j") := hc
  rw [tl_append, tl_j] at hc
  refine decide_eq_true ?_
  rcases List.mem_append.mp hc with hc | hc
  · exact h c hc
  · rw [List.mem_singleton.mp hc]; decide +kernel
theorem some_ok : ∀ x ∈ someL, isName x = true := by
  have : someL.all isName = true := by decide +kernel
  exact List.all_eq_true.mp this
theorem some_nd : someL.Nodup := by decide +kernel
theorem some_nn : ∀ x ∈ someL, x ≠ "name" ∧ x ≠ "number" := by
  have : someL.all (fun x => x != "name" && x != "number") = true := by decide +kernel
  intro x hx
  have := List.all_eq_true.mp this x hx
  rw [Bool.and_eq_true, bne_iff_ne, bne_iff_ne] at this
  exact this
/-- the names of a drawn program -/
structure Nms (nms : List Str) : Prop where
  nd : nms.Nodup
  few : nms.length ≤ 5
  ne : nms ≠ []
  ok : ∀ x ∈ nms, isName x = true ∧ x ≠ "name" ∧ x ≠ "number"
theorem nms_of {a b : Nat} (hb : b ≤ 4) {x : Str} (h : ∀ c ∈ tl x, c ∈ letters.cps.toList) (hl : x.length ≤ 5) : Nms ((someL.drop a).take b ++ [x ++ "j"]) := by
  have hsub : ∀ y ∈ (someL.drop a).take b, y ∈ someL := fun y hy => List.mem_of_mem_drop (List.mem_of_mem_take hy)
  refine ⟨?_, ?_, by simp, fun y hy => ?_⟩
  · rw [List.nodup_append]
    refine ⟨(some_nd.sublist ((List.take_sublist _ _).trans (List.drop_sublist _ _))), by simp, fun y hy z hz e => ?_⟩
    rw [List.mem_singleton] at hz
    rw [e, hz] at hy
    exact not_bad (List.mem_append_left _ (List.mem_append_right _ (hsub _ hy)))
  · rw [List.length_append, List.length_take, List.length_singleton]; omega
  · rcases List.mem_append.mp hy with hy | hy
    · exact ⟨some_ok y (hsub y hy), some_nn y (hsub y hy)⟩
    · rw [List.mem_singleton.mp hy]
      refine ⟨name_j h hl, fun z => ?_, fun z => ?_⟩
      · exact not_bad (by rw [z]; exact List.mem_append_right _ (by simp))
      · exact not_bad (by rw [z]; exact List.mem_append_right _ (by simp))
end Tw
set_option Elab.async false
set_option linter.all false
set_option maxRecDepth 100000
set_option maxHeartbeats 4000000
namespace Tw
open PySem PySem.Spec PyProof.Rows L2 TL
def GoodH (kvs : List (L2.Key × V)) : Prop := ∀ x v, valV kvs (Sum.inr x) = some v → ∃ h, v = .str h ∧ isHouse h = true
theorem good_merge : ∀ {hs : List (Str × Str)} {kvs : List (L2.Key × V)}, GoodH kvs → (∀ q ∈ hs, isHouse q.2 = true) → GoodH (mergeK kvs (hs.map fun n => ((Sum.inr n.1 : L2.Key), V.str n.2))) ∧ ∀ x, (x ∈ hs.map (·.1) ∨ (valV kvs (Sum.inr x)).isSome = true) → (valV (mergeK kvs (hs.map fun n => ((Sum.inr n.1 : L2.Key), V.str n.2))) (Sum.inr x)).isSome = true
  | [], kvs, g, _ => ⟨g, fun x h => by
    rcases h with h | h
    · simp at h
    · exact h⟩
  | q :: hs, kvs, g, hq => by
    have g1 : GoodH (putK kvs (Sum.inr q.1) (.str q.2)) := fun x v e => by
      rw [valV_put] at e
      by_cases h : (Sum.inr x : L2.Key) = Sum.inr q.1
      · rw [if_pos h] at e
        cases e
        exact ⟨q.2, rfl, hq q List.mem_cons_self⟩
      · rw [if_neg h] at e
        exact g x v e
    obtain ⟨h1, h2⟩ := good_merge (hs := hs) g1 fun r hr => hq r (List.mem_cons_of_mem _ hr)
    refine ⟨h1, fun x hx => h2 x ?_⟩
    rw [valV_put]
    by_cases h : (Sum.inr x : L2.Key) = Sum.inr q.1
    · rw [if_pos h]; exact .inr rfl
    · rw [if_neg h]
      rcases hx with hx | hx
      · rcases List.mem_cons.mp hx with e | hx
        · exact absurd (congrArg Sum.inr e) h
        · exact .inl hx
      · exact .inr hx
structure Drawn (hm : Str → Str) (nms : List Str) (p : Pg) : Prop where
  ok : p.ok hm
  nm : Nms nms
  cn : cnts p.rs ≤ 24
  mks : ∀ m ∈ p.ms, m.1 ∈ nms
  inn : inns (· ∈ nms) p.rs
section
variable {P : Program} {w : World} {K : PySem.W.Frag} {mg : Str → Option Value} {base : Heap}
def sp_law_program (K : PySem.W.Frag) : Sp := fun vs H Q _ => ∃ (d : Addr) (t : Nat), vs = [.ref d] ∧ StA H d t none ∧ t ≤ 1000 ∧ ∀ H' v (p : Pg) hm nms ro, Dr d H H' → StA H' d (t + 5000) ro → PgT K H' v p → Drawn hm nms p → Q v H'
theorem ok_law_program (T : Txt K mg) : Cal P w K mg base "_law_program" 20 ["_law_state"] (sp_law_program K) := by
  have C_law_digit := ok_digit (P := P) (w := w) (base := base) T
  have C_law_block := ok_rb (P := P) (w := w) (base := base) T 5
  refine Cal.of T.d_law_program b_law_program sc_law_program (fun vs H Q E h => ?_) (fun cdv A outer s H vs Q E hr h => ?_)
  · obtain ⟨_, _, rfl, _⟩ := h; rfl
  obtain ⟨d, t, rfl, hS, ht, q⟩ := h
  have hu := hu_of hr
  refine ⟨_, (pss_cons (ps_set (i := 1) sc_law_program.nd rfl (Or.inl rfl) (pe_lst (pa_cons pe_str (pa_cons pe_str (pa_cons pe_str (pa_cons pe_str (pa_cons pe_str (pa_cons pe_str (pa_cons pe_str (pa_cons pe_str (pa_cons pe_str (pa_cons pe_str pa_nil))))))))))))
  (pss_cons (ps_set (i := 2) sc_law_program.nd rfl (Or.inl rfl) (pe_callC C_law_digit (hr.mono (by decide)) rfl (pa_cons (pv 0) (pa_cons pe_int pa_nil))))
  (pss_cons (ps_setLc (i := 3) (own := [("_law_k", 4)]) (by rfl) sc_law_program.nd rfl rfl (sw_true rfl rfl rfl (by decide +kernel)) (pi_range1 (by rfl) T.range (pa_cons (pe_op op_add pe_int (pe_callC C_law_digit (hr.mono (by decide)) rfl (pa_cons (pv 0) (pa_cons pe_int pa_nil)))) pa_nil)) (blkOk_by (own := [("_law_k", 4)]) (N := N_law_program) (sc := defScope s_law_program) (by decide +kernel)) (fun _ _ _ _ _ => (pg_name (i := 4) sc_law_program.nd rfl (Or.inl rfl))) (fun _ _ _ _ _ => pts_nil) (fun _ _ _ _ _ => (pe_ix ix_str pe_str (pe_callC C_law_digit (hr.mono (by decide)) rfl (pa_cons (pv 0) (pa_cons pe_int pa_nil))) (fun _ _ => rfl))))
  (pss_cons (ps_set (i := 5) sc_law_program.nd rfl (Or.inl rfl) (pe_op op_cat (pe_slice sl_list (pv 1) (po_some (pv 2)) (po_some (pe_op op_add (pe_op op_add (pv 2) pe_int) (pe_callC C_law_digit (hr.mono (by decide)) rfl (pa_cons (pv 0) (pa_cons pe_int pa_nil)))))) (pe_lst (pa_cons (pe_op op_add_str (pe_join pe_str (pv 3)) pe_str) pa_nil))))
  (pss_cons (ps_set (i := 6) sc_law_program.nd rfl (Or.inr rfl) (pe_callTy (call_dictP rfl) (by rfl) T.dict bb_dict (pa_cons (pe_lc (own := [("_law_name", 7)]) (by rfl) sc_law_program.nd (pi_list (pv 5)) (blkOk_by (own := [("_law_name", 7)]) (N := N_law_program) (sc := defScope s_law_program) (by decide +kernel)) (fun _ _ _ _ _ => (pg_name (i := 7) sc_law_program.nd rfl (Or.inl rfl))) (fun _ _ _ _ _ => pts_nil) (fun _ _ _ _ _ => (pe_tup (pa_cons (pv 7) (pa_cons (pe_ix (ix_listB K) (pe_lst (pa_cons pe_str (pa_cons pe_str pa_nil))) (pe_callC C_law_digit (hr.mono (by decide)) rfl (pa_cons (pv 0) (pa_cons pe_int pa_nil))) (fun _ _ => rfl)) pa_nil))))) pa_nil)))
  (pss_cons (ps_set (i := 8) sc_law_program.nd rfl (Or.inl rfl) (pe_callTy (call_tupleF K) (by rfl) T.tuple bb_tuple (pa_cons (pe_lc (own := [("_law_name", 7)]) (by rfl) sc_law_program.nd (pi_list (pe_callB cr_sortedS (by rfl) T.sorted bb_sorted (pa_cons (pv 5) pa_nil))) (blkOk_by (own := [("_law_name", 7)]) (N := N_law_program) (sc := defScope s_law_program) (by decide +kernel)) (fun _ _ _ _ _ => (pg_name (i := 7) sc_law_program.nd rfl (Or.inl rfl))) (fun _ _ _ _ _ => (pts_one (pt_cmpR op_eq (pe_callC C_law_digit (hr.mono (by decide)) rfl (pa_cons (pv 0) (pa_cons pe_int pa_nil))) pe_int (nomark _)))) (fun _ _ _ _ _ => (pe_tup (pa_cons (pv 7) (pa_cons (pe_dget hu (pv 6) (pv 7) (fun _ _ => rfl)) pa_nil))))) pa_nil)))
  (pss_cons (ps_dput hu (pv 0) pe_str pe_int rfl)
  (pss_one (ps_ret (pe_tup (pa_cons (pv 8) (pa_cons (pe_callC C_law_block (hr.mono (by decide)) rfl (pa_cons (pv 0) (pa_cons (pv 5) (pa_cons (pv 6) (pa_cons pe_int (pa_cons (pe_op op_add pe_int (pe_callC C_law_digit (hr.mono (by decide)) rfl (pa_cons (pv 0) (pa_cons pe_int pa_nil)))) pa_nil)))))) pa_nil)))))))))))), ?_⟩
  refine ⟨by show 10 ≤ sizeLine; decide, fun ls nls => ?_⟩
  have d1 : Dr d H (upd H ls (.lst (someL.map V.str))) := Dr.refl.new nls
  have hS1 := hS.same (same_new nls (o := .lst (someL.map V.str)))
  have hls1 : upd H ls (.lst (someL.map V.str)) ls = some (.lst (someL.map V.str)) := upd_same
  refine ⟨_, rfl, d, 6, t, none, rfl, (show StA (upd H ls (.lst (someL.map V.str))) d t none from hS1), by decide, by decide, by omega, fun H2 first d2 hS2 hfirst => ?_⟩
  have d12 := d1.trans d2
  have hls2 := d2.lst hS1 hls1
  refine ⟨_, rfl, d, 5, t + 1, none, rfl, hS2, by decide, by decide, by omega, fun H3 n3 d3 hS3 hn3 => ?_⟩
  have d13 := d12.trans d3
  have hls3 := d3.lst hS2 hls2
  refine ⟨_, _, rfl, rfl, _, rfl, by omega, by omega, fun D nD => ?_⟩
  refine lc_dr (n := (1 + (n3 : Int)).toNat) walk_range (by omega) nD hS3 (fun _ _ => trivial) (fun i y H' => ∃ c ∈ letters.cps.toList, y = .str ⟨#[c]⟩) (fun i y H' H'' _ _ h => h) (fun i y H' H'' _ _ _ h => h) ?_ ?_
  · rintro i x H4 H5 Qc hi d4 hS4 ⟨rfl, rfl⟩ hq
    refine ⟨rfl, _, rfl, d, 26, _, none, rfl, hS4, by decide, by decide, by omega, fun H6 n6 d6 hS6 hn6 => ?_⟩
    have hlt : n6 < letters.cps.toList.length := by have : letters.cps.toList.length = 26 := by decide +kernel
                                                    omega
    refine ⟨_, _, _, rfl, rfl, by rw [sizeLine_eq]; decide +kernel, atI_nat (j := n6) (List.getElem?_eq_getElem hlt), ?_⟩
    exact hq _ _ d6 (hS6.mono (by omega)) ⟨_, List.getElem_mem hlt, rfl⟩
  intro ys H4 d34 hS4 hD4 hyl hys
  have d14 := d13.trans d34
  have hls4 := d34.lst hS3 hls3
  -- the letters drawn
  obtain ⟨zs, ezs, hzc, hzl⟩ : ∃ zs : List Str, ys = zs.map V.str ∧ (∀ z ∈ zs, z.length = 1 ∧ ∀ c ∈ tl z, c ∈ letters.cps.toList) ∧ zs.length = ys.length := by
    clear hyl hD4
    induction ys with
    | nil => exact ⟨[], rfl, fun z hz => by simp at hz, rfl⟩
    | cons y ys ih =>
      obtain ⟨c, hc, ey⟩ := hys 0 y rfl
      obtain ⟨zs, e1, e2, e3⟩ := ih fun i y e => by
        obtain ⟨c, h1, h2⟩ := hys (i + 1) y (by simpa using e)
        exact ⟨c, h1, h2⟩
      refine ⟨⟨#[c]⟩ :: zs, by rw [ey, e1]; rfl, fun z hz => ?_, by simp [e3]⟩
      rcases List.mem_cons.mp hz with e | hz
      · rw [e]
        exact ⟨rfl, fun c' hc' => by
          have : c' = c := by simpa [tl] using hc'
          rw [this]; exact hc⟩
      · exact e2 z hz
  have hjl : (Txt.join "" zs).length ≤ 5 := by
    rw [join_eq]
    have h1 := join_len "" zs
    have h2 := sum_le (k := 1) fun x hx => Nat.le_of_eq (hzc x hx).1
    rw [show ("" : Str).length = 0 by decide +kernel] at h1
    omega
  have hjc : ∀ c ∈ tl (Txt.join "" zs), c ∈ letters.cps.toList := fun c hc => by
    rw [join_eq, tl_join] at hc
    rcases joinL_mem _ _ hc with h | ⟨p, hp, h⟩
    · exact absurd h (by rw [show tl ("" : Str) = [] by decide +kernel]; simp)
    · obtain ⟨x, hx, rfl⟩ := List.mem_map.mp hp
      exact (hzc x hx).2 c h
  refine ⟨_, rfl, _, rfl, _, rfl, _, rfl, _, _, rfl, rfl, _, rfl, d, 4, _, none, rfl, hS4, by decide, by decide, by omega, fun H5 n5 d5 hS5 hn5 => ?_⟩
  have d15 := d14.trans d5
  have hls5 := d5.lst hS4 hls4
  have hD5 := d5.lst hS4 hD4
  rw [ezs] at hD5
  refine ⟨_, _, rfl, rfl, _, rfl, ls, _, rfl, .of hls5, fun pn npn => ?_⟩
  have ecut : cutV (someL.map V.str) (some (first : Nat)) (some ((first : Int) + 1 + (n5 : Nat))) = ((someL.drop first).take (1 + n5)).map V.str := by
    have e10 : (someL.map V.str).length = 10 := rfl
    unfold cutV
    rw [show (first : Int) + 1 + (n5 : Nat) = ((first + 1 + n5 : Nat) : Int) by omega, HT.sIx_nat, HT.sIx_nat, e10, Nat.min_eq_left (by omega), Nat.min_eq_left (by omega), show first + 1 + n5 - first = 1 + n5 by omega, ← List.map_drop, ← List.map_take]
  rw [ecut]
  have s6 := same_new npn (o := .lst (((someL.drop first).take (1 + n5)).map V.str))
  have hD6 := s6 _ _ hD5
  have hpn6 : upd H5 pn (.lst (((someL.drop first).take (1 + n5)).map V.str)) pn = some _ := upd_same
  refine ⟨⟨_, rfl⟩, _, rfl, "", D, zs, rfl, rfl, .inl (.of hD6), ?_, _, _, rfl, rfl, ?_, by show 1 ≤ sizeLine; decide, fun pl npl => ?_⟩
  · have h2 := sum_le (k := 1) fun x hx => Nat.le_of_eq (hzc x hx).1
    rw [show ("" : Str).length = 0 by decide +kernel]
    omega
  · rw [show ("j" : Str).length = 1 by decide +kernel, sizeLine_eq]; omega
  have s7 := same_new npl (o := .lst [V.str (Txt.join "" zs ++ "j")])
  refine ⟨pn, pl, _, _, rfl, rfl, s7 _ _ hpn6, upd_same, ?_, fun nl nnl => ?_⟩
  · rw [sizeLine_eq, List.length_map, List.length_take]
    simp
    omega
  obtain ⟨nms, hnms⟩ : ∃ nms, nms = (someL.drop first).take (1 + n5) ++ [Txt.join "" zs ++ "j"] := ⟨_, rfl⟩
  have hN : Nms nms := hnms ▸ nms_of (by omega) hjc hjl
  have enl : ((someL.drop first).take (1 + n5)).map V.str ++ [V.str (Txt.join "" zs ++ "j")] = nms.map V.str := by rw [hnms, List.map_append] <;> rfl
  rw [enl]
  have s8 := (s6.trans s7).trans (same_new nnl (o := .lst (nms.map V.str)))
  have d18 := d15.trans (.ofS s8)
  have hS8 := hS5.same s8
  have hnl8 : upd (upd (upd H5 pn (.lst (((someL.drop first).take (1 + n5)).map V.str))) pl (.lst [V.str (Txt.join "" zs ++ "j")])) nl (.lst (nms.map V.str)) nl = some (.lst (nms.map V.str)) := upd_same
  generalize upd (upd (upd H5 pn (.lst (((someL.drop first).take (1 + n5)).map V.str))) pl (.lst [V.str (Txt.join "" zs ++ "j")])) nl (.lst (nms.map V.str)) = H8 at d18 hS8 hnl8 ⊢
  clear s8 s7 s6 npl npn hpn6 hD6 ecut enl hnms hD5 hls5 d15 hjc hjl hzc hys hyl hD4 hls4 d14
  have hnl5 := hN.few
  refine ⟨_, rfl, nl, rfl, ⟨_, .of hnl8⟩, fun D2 nD2 => ?_⟩
  refine lc_dr (walk_list (xs := nms.map V.str)) (by rw [List.length_map]; omega) nD2 hS8 (fun H' k => .of (k.lst hS8 hnl8)) (fun i y H' => ∃ p x h, y = .ref p ∧ nms[i]? = some x ∧ SqT K H' p [.str x, .str h] ∧ isHouse h = true) (fun i y H' H'' ⟨l, hl⟩ k ⟨p, x, h, e1, e2, e3, e4⟩ => ⟨p, x, h, e1, e2, k.tup (.lst hl) e3, e4⟩) (fun i y H' H'' t' st k ⟨p, x, h, e1, e2, e3, e4⟩ => ⟨p, x, h, e1, e2, k.kp.tup st.tf e3, e4⟩) ?_ ?_
  · rintro i y H9 H10 Qc hi d9 hS9 ⟨rfl, hy⟩ hq
    rw [List.length_map] at hi
    rw [List.getElem?_map] at hy
    obtain ⟨x, hx, rfl⟩ := Option.map_eq_some_iff.mp hy
    refine ⟨rfl, _, rfl, by show 2 ≤ sizeLine; decide, fun p6 np6 => ?_⟩
    have s6 := same_new np6 (o := .lst [V.str "east", V.str "west"])
    refine ⟨_, rfl, d, 2, _, none, rfl, hS9.same s6, by decide, by decide, by omega, fun H7 n7 d7 hS7 hn7 => ?_⟩
    obtain ⟨h0, hh0, hat0⟩ : ∃ h0, isHouse h0 = true ∧ atI [V.str "east", V.str "west"] (n7 : Int) = some (.str h0) := by
      match n7, hn7 with
      | 0, _ => exact ⟨"east", by decide +kernel, rfl⟩
      | 1, _ => exact ⟨"west", by decide +kernel, rfl⟩
    have hl7 := d7.lst (hS9.same s6) upd_same
    refine ⟨p6, _, _, _, rfl, rfl, .of hl7, hat0, by show 2 ≤ sizeLine; decide, fun p8 np8 => ?_⟩
    exact hq _ _ (((Dr.ofS s6).trans d7).new np8) ((hS7.same (same_new np8)).mono (by omega)) ⟨p8, x, h0, rfl, hx, .of upd_same, hh0⟩
  intro ps2 H9 d89 hS9 hD9 hpl hps
  rw [List.length_map] at hpl hS9
  have hnl9 := d89.lst hS8 hnl8
  have d19 := d18.trans d89
  -- houses by name
  obtain ⟨hs, hsl, hshs⟩ : ∃ hs : List (Str × Str), hs.map (·.1) = nms ∧ (∀ q ∈ hs, isHouse q.2 = true) ∧ ∀ (i : Nat) z, ps2[i]? = some z → ∃ p n, z = .ref p ∧ hs[i]? = some n ∧ SqT K H9 p [.str n.1, .str n.2] := by
    clear hnl9 hnl8 hS9 hD9 hnl5 d89 hN d19 d18 hS8
    induction nms generalizing ps2 with
    | nil => exact ⟨[], rfl, fun q h => by simp at h, fun i z h => by
        cases ps2 with
        | nil => simp at h
        | cons _ _ => simp at hpl⟩
    | cons x nms ih =>
      cases ps2 with
      | nil => simp at hpl
      | cons z ps2 =>
        obtain ⟨p, x', h, e1, e2, e3, e4⟩ := hps 0 z rfl
        cases e2
        obtain ⟨hs, h1, h2, h3⟩ := ih ps2 (by simpa using hpl) fun i y hy => by
          obtain ⟨p, x', h, e1, e2, e3, e4⟩ := hps (i + 1) y (by simpa using hy)
          exact ⟨p, x', h, e1, by simpa using e2, e3, e4⟩
        refine ⟨(x, h) :: hs, by rw [List.map_cons, h1], fun q hq => ?_, fun i y hy => ?_⟩
        · rcases List.mem_cons.mp hq with e | hq
          · rw [e]; exact e4
          · exact h2 q hq
        · cases i with
          | zero => cases hy; exact ⟨p, (x, h), e1, rfl, e3⟩
          | succ i =>
            obtain ⟨p, n, g1, g2, g3⟩ := h3 i y (by simpa using hy)
            exact ⟨p, n, g1, by simpa using g2, g3⟩
  have hhl : ps2.length = hs.length := by rw [hpl, ← hsl, List.length_map]
  obtain ⟨ps, rfl, hpp⟩ := paired_of (K := K) (H := H9) (fun n : Str × Str => (Sum.inr n.1 : L2.Key)) (fun n => V.str n.2) hhl hshs.2
  refine ⟨D2, ps, _, rfl, .of hD9, hpp, fun dh ndh => ?_⟩
  obtain ⟨gk, hk⟩ := good_merge (kvs := []) (hs := hs) (fun x v e => by cases e) hshs.1
  generalize mergeK [] (hs.map fun n => ((Sum.inr n.1 : L2.Key), V.str n.2)) = kvh at gk hk ⊢
  obtain ⟨hm, ehm⟩ : ∃ hm : Str → Str, hm = fun x => match valV kvh (Sum.inr x) with | some (.str h) => if isHouse h = true then h else "east" | _ => "east" := ⟨_, rfl⟩
  have hhm : HsOk hm := fun x => by
    rw [ehm]
    dsimp only
    split
    · split
      · assumption
      · decide +kernel
    · decide +kernel
  have hkm : ∀ x ∈ nms, valV kvh (Sum.inr x) = some (.str (hm x)) := fun x hx => by
    have h1 := hk x (.inl (by rw [hsl]; exact hx))
    obtain ⟨v, hv⟩ := Option.isSome_iff_exists.mp h1
    obtain ⟨h, rfl, hh⟩ := gk x v hv
    rw [hv, ehm]
    dsimp only
    rw [hv]
    dsimp only
    rw [if_pos hh]
  clear ehm gk hk hpp hshs hhl hsl hps hpl hD9
  have hdd : dh ≠ d := fun z => hS9.some (by rw [← z]; exact ndh)
  have s10 := same_new ndh (o := .dK kvh)
  have d110 := d19.trans (.ofS s10)
  have hS10 := hS9.same s10
  have hnl10 := s10 _ _ hnl9
  have hdh10 : upd H9 dh (.dK kvh) dh = some (.dK kvh) := upd_same
  generalize upd H9 dh (.dK kvh) = H10 at d110 hS10 hnl10 hdh10 ⊢
  clear s10 ndh hnl9 d19 d89 hS9 hnl8 hS8 d18
  refine ⟨_, rfl, nl, nms, rfl, .of hnl10, by omega, fun ys2 p2 perm srt np2 => ?_⟩
  have hup : rising ys2 := rising_of srt (perm.nodup_iff.mpr hN.nd)
  have hyl2 : ys2.length = nms.length := perm.length_eq
  refine ⟨p2, rfl, ⟨_, .of upd_same⟩, fun D3 nD3 => ?_⟩
  have s11 := same_new np2 (o := .lst (ys2.map V.str))
  have hp211 : upd H10 p2 (.lst (ys2.map V.str)) p2 = some _ := upd_same
  have d111 := d110.trans (.ofS s11)
  have hS11 := hS10.same s11
  have hnl11 := s11 _ _ hnl10
  have hdh11 := s11 _ _ hdh10
  generalize upd H10 p2 (.lst (ys2.map V.str)) = H11 at d111 hS11 hnl11 hdh11 hp211 nD3 ⊢
  clear s11 np2 hdh10 hnl10 hS10 d110
  have hD3d : D3 ≠ d := fun z => hS11.some (by rw [← z]; exact nD3)
  refine lc_it (walk_list (xs := ys2.map V.str)) (fun i H' => ∃ (ms : List (Str × Str)) (xs : List V), Dr d H11 H' ∧ StA H' d (t + 100 + i) none ∧ H' D3 = some (.lst xs) ∧ TdA K H' xs (ms.map markD) ∧ (ms.map (·.1)).Sublist (ys2.take i) ∧ (∀ m ∈ ms, m.2 = hm m.1) ∧ xs.length ≤ i)
    ⟨[], [], Dr.refl.putN nD3, (hS11.put hD3d).mono (by omega), upd_same, tda_nil, List.nil_sublist _, fun m h => by simp at h, Nat.le_refl _⟩ (fun i H' _ ⟨ms, xs, k, _⟩ => .of (k.lst hS11 hp211)) ?_ ?_
  · rintro i y H12 H13 hi ⟨ms, xs, k12, hS12, hD12, hxs, hsub, hms, hxl⟩ ⟨rfl, hy⟩
    rw [List.length_map] at hi
    rw [List.getElem?_map] at hy
    obtain ⟨x, hx, rfl⟩ := Option.map_eq_some_iff.mp hy
    refine ⟨rfl, _, rfl, d, 3, _, none, rfl, hS12, by decide, by decide, by omega, fun H14 n14 d14 hS14 hn14 => ?_⟩
    have k14 := k12.trans d14
    have hD14 := d14.lst hS12 hD12
    have hxs14 := d14.tda hS12 hxs
    have etk : ys2.take (i + 1) = ys2.take i ++ [x] := by rw [List.take_succ, hx] <;> rfl
    refine ⟨rfl, _, rfl, ?_⟩
    by_cases h0 : n14 = 0
    · refine iteT' (decide_eq_true (by rw [h0] <;> rfl)) ?_
      have hxn : x ∈ nms := perm.mem_iff.mp (List.mem_of_getElem? hx)
      have hdh14 := k14.dK hdd hdh11
      refine ⟨_, rfl, _, rfl, _, rfl, dh, _, rfl, dget_eq hdh14 (hkm x hxn), by show 2 ≤ sizeLine; decide, fun p15 np15 => ?_⟩
      have s15 := same_new np15 (o := .tup [V.str x, V.str (hm x)])
      have hD15 := s15 _ _ hD14
      refine ⟨xs, hD15, by rw [sizeLine_eq]; omega, ms ++ [(x, hm x)], xs ++ [V.ref p15], (k14.trans (.ofS s15)).putN nD3, ((hS14.same s15).put hD3d).mono (by omega), upd_same, ?_, ?_, fun m hm' => ?_, by rw [List.length_append, List.length_singleton]; omega⟩
      · rw [List.map_append]
        exact TdA.put hD15 ((hxs14.same s15).append (tda_cons.mpr ⟨td_tup.mpr ⟨p15, _, rfl, .of upd_same, tda_cons.mpr ⟨td_str.mpr rfl, tda_cons.mpr ⟨td_str.mpr rfl, tda_nil⟩⟩⟩, tda_nil⟩))
      · rw [etk, List.map_append]
        exact hsub.append (List.Sublist.refl _)
      · rcases List.mem_append.mp hm' with h | h
        · exact hms m h
        · rw [List.mem_singleton.mp h]
    · refine iteF' (decide_eq_false (by intro z; injection z with z; omega)) ?_
      exact ⟨ms, xs, k14, hS14.mono (by omega), hD14, hxs14, by rw [etk]; exact hsub.trans (List.sublist_append_left _ _), hms, by omega⟩
  rintro H12 ⟨ms, xs, k12, hS12, hD12, hxs, hsub, hms, hxl⟩
  rw [List.length_map] at hS12
  rw [List.length_map, List.take_length] at hsub
  rw [List.length_map] at hxl
  have hdh12 := k12.dK hdd hdh11
  have hnl12 := k12.lst hS11 hnl11
  refine ⟨D3, xs, rfl, .of hD12, fun tm ob ntm hob => ?_⟩
  have s13 := same_new ntm (o := .frz ob (.tup xs))
  have hmk : MkT K (upd H12 tm (.frz ob (.tup xs))) (.ref tm) ms := ⟨tm, xs, ob, rfl, upd_same, hob, hxs.same s13⟩
  have d13' := (d111.trans k12).trans (.ofS s13)
  have hS13 := (hS12.same s13).mono (t' := t + 200) (by omega)
  have hdh13 := s13 _ _ hdh12
  have hnl13 := s13 _ _ hnl12
  generalize upd H12 tm (.frz ob (.tup xs)) = H13 at hmk d13' hS13 hdh13 hnl13 ⊢
  clear s13 ntm hdh12 hnl12 hxs hD12 hS12 k12 hdh11 hnl11 hS11 hp211 nD3 d111
  obtain ⟨l, s0, t1, ht1, hd13⟩ := id hS13
  have hl4 := st_len (l := l) (s := s0) (t := t1) (ro := none)
  refine ⟨_, rfl, d, _, rfl, dput_eq hd13 (by omega) (put_rows (r' := 0)), ?_⟩
  have k14 : Dr d H13 (upd H13 d (.dK (stK l s0 t1 (some 0)))) := Dr.refl.put
  have hS14 : StA (upd H13 d (.dK (stK l s0 t1 (some 0)))) d (t + 200) (some 0) := ⟨l, s0, t1, ht1, upd_same⟩
  have hmk14 := hmk.kp k14.kp hS13.tf
  have hnl14 := k14.lst hS13 hnl13
  have hdh14 := k14.dK hdd hdh13
  generalize upd H13 d (.dK (stK l s0 t1 (some 0))) = H14 at k14 hS14 hmk14 hnl14 hdh14 ⊢
  refine ⟨_, rfl, _, rfl, _, rfl, _, rfl, _, rfl, d, 6, _, _, rfl, hS14, by decide, by decide, by omega, fun H15 n15 d15 hS15 hn15 => ?_⟩
  have hmk15 := hmk14.kp d15.kp hS14.tf
  have e15 : (1 : Int) + (n15 : Nat) = ((1 + n15 : Nat) : Int) := by omega
  refine ⟨_, _, rfl, rfl, d, nl, dh, 0, 1 + n15, _, 0, hm, nms, congrArg (fun z => [V.ref d, V.ref nl, V.ref dh, V.int 0, V.int z]) e15, rfl, by decide, by omega, hS15, by decide, by omega, ⟨d15.lst hS14 hnl14, hN.ne, by omega, fun x hx => (hN.ok x hx).1, ⟨kvh, d15.dK hdd hdh14, hkm⟩, hdd, hhm⟩, fun H16 v rs r' d16 hS16 hr' er hv ok dp inn hne => ?_⟩
  have hmk16 := hmk15.kp d16.kp hS15.tf
  refine ⟨by show 2 ≤ sizeLine; decide, fun pt npt => ?_⟩
  have hne' : rs ≠ [] := hne (by omega) (by decide)
  have hcn : cnts rs ≤ 24 := by omega
  have hmsn : ∀ m ∈ ms, m.1 ∈ nms := fun m hm' => perm.mem_iff.mp (hsub.subset (List.mem_map_of_mem hm'))
  have hml : ms.length ≤ 5 := by
    have := hsub.length_le
    rw [List.length_map] at this
    omega
  refine q _ _ ⟨ms, rs⟩ hm nms (some r') (((d13'.trans k14).trans d15).trans (d16.new npt)) ((hS16.same (same_new npt)).mono (by omega)) ⟨pt, _, _, rfl, .of upd_same, hmk16.same (same_new npt), hv.same (same_new npt)⟩
    ⟨⟨hhm, fun m hm' => ⟨(hN.ok _ (hmsn m hm')).1, hms m hm'⟩, ?_, by show ms.length ≤ 60; omega, hne', by show cnts rs ≤ 60; omega, dp, ok⟩, hN, hcn, hmsn, inn⟩
  exact List.Pairwise.sublist hsub hup
end
end Tw
set_option Elab.async false
set_option linter.all false
set_option maxRecDepth 100000
set_option maxHeartbeats 4000000
namespace Tw
open PySem PySem.Spec PyProof.Rows L2 TL
/-! ### data that may be compared, renamed: its depth bounded, its tuples not wide -/
def okD : Nat → PyData → Prop
  | 0, _ => False
  | _ + 1, .none => False
  | _ + 1, .bool _ => True
  | _ + 1, .int _ => True
  | _ + 1, .str x => (PyData.str x).canLay0 = true
  | n + 1, .tuple ds => ds.length ≤ 1000 ∧ ∀ d ∈ ds, okD n d
  | n + 1, .list ds => ds.length ≤ 1000 ∧ ∀ d ∈ ds, okD n d
  | _ + 1, .dict _ => False
theorem okD.mono : ∀ {n m : Nat} {d : PyData}, okD n d → n ≤ m → okD m d
  | n + 1, m + 1, .none, h, _ => h
  | n + 1, m + 1, .bool _, _, _ => trivial
  | n + 1, m + 1, .int _, _, _ => trivial
  | n + 1, m + 1, .str x, h, _ => h
  | n + 1, m + 1, .tuple ds, h, l => ⟨h.1, fun d hd => (h.2 d hd).mono (by omega)⟩
  | n + 1, m + 1, .list ds, h, l => ⟨h.1, fun d hd => (h.2 d hd).mono (by omega)⟩
theorem okD.lay : ∀ {n : Nat} {d : PyData}, okD n d → d.canLay0 = true ∧ d.depth ≤ n
  | n + 1, .none, h => (show False from h).elim
  | n + 1, .bool _, _ => ⟨rfl, by simp [PyData.depth]⟩
  | n + 1, .int _, _ => ⟨rfl, by simp [PyData.depth]⟩
  | n + 1, .str x, h => ⟨h, by simp [PyData.depth]⟩
  | n + 1, .tuple ds, h => by
    obtain ⟨h1, h2⟩ := okD.layA (n := n) ds h.2
    exact ⟨h1, by simp only [PyData.depth]; omega⟩
  | n + 1, .list ds, h => by
    obtain ⟨h1, h2⟩ := okD.layA (n := n) ds h.2
    exact ⟨h1, by simp only [PyData.depth]; omega⟩
where okD.layA {n : Nat} : ∀ ds : List PyData, (∀ d ∈ ds, okD n d) → PyData.canLayAll0 ds = true ∧ PyData.depthAll ds ≤ n
  | [], _ => ⟨rfl, by simp [PyData.depthAll]⟩
  | d :: ds, h => by
    obtain ⟨h1, h2⟩ := okD.lay (h d List.mem_cons_self)
    obtain ⟨h3, h4⟩ := okD.layA ds fun e he => h e (List.mem_cons_of_mem _ he)
    exact ⟨by simp [PyData.canLayAll0, h1, h3], by simp only [PyData.depthAll]; omega⟩
theorem okD.shaped {n : Nat} {d : PyData} (h : okD n d) (hn : n ≤ 64) : SeqAt.shaped d = true := by
  obtain ⟨h1, h2⟩ := h.lay
  unfold SeqAt.shaped
  rw [h1, decide_eq_true (by omega)]
  rfl
theorem okD.refl : ∀ {n : Nat} {d : PyData}, okD n d → PyData.eqv d d = true
  | n + 1, .none, h => (show False from h).elim
  | n + 1, .bool _, _ => by simp [PyData.eqv]
  | n + 1, .int _, _ => by simp [PyData.eqv]
  | n + 1, .str x, h => by simp [PyData.eqv]
  | n + 1, .tuple ds, h => by simp only [PyData.eqv]; exact okD.reflA ds h.2
  | n + 1, .list ds, h => by simp only [PyData.eqv]; exact okD.reflA ds h.2
where okD.reflA {n : Nat} : ∀ ds : List PyData, (∀ d ∈ ds, okD n d) → PyData.eqvAll ds ds = true
  | [], _ => rfl
  | d :: ds, h => by
    simp only [PyData.eqvAll]
    rw [okD.refl (h d List.mem_cons_self), okD.reflA ds fun e he => h e (List.mem_cons_of_mem _ he)]
    rfl
theorem str_lay {x : Str} (h : ∀ c ∈ tl x, c < 128) : (PyData.str x).canLay0 = true := by
  show x.cps.all (fun c => decide (c < 0x110000)) = true
  rw [← Array.all_toList, List.all_eq_true]
  intro c hc
  have := h c hc
  exact decide_eq_true (by omega)
theorem Wd.lay {x : Str} (h : Wd x) : (PyData.str x).canLay0 = true := str_lay fun c hc => by
  have := h.cs c hc
  unfold okC at this
  simp at this
  omega
theorem E.okD : ∀ (e : E), e.wf = true → Tw.okD (e.deep + 1) e.d
  | .num n, h => ⟨by simp, fun d hd => by
    simp only [List.mem_cons, List.not_mem_nil, or_false] at hd
    rcases hd with e | e <;> rw [e]
    · exact (wd_lit (by decide +kernel) : Wd "number").lay
    · exact trivial⟩
  | .nam x, h => ⟨by simp, fun d hd => by
    simp only [List.mem_cons, List.not_mem_nil, or_false] at hd
    rcases hd with e | e <;> rw [e]
    · exact (wd_lit (by decide +kernel) : Wd "name").lay
    · exact (wd_name h).lay⟩
  | .bin o a b, h => ⟨by simp, fun d hd => by
    obtain ⟨w1, w2⟩ := Bool.and_eq_true_iff.mp (show (a.wf && b.wf) = true from h)
    simp only [List.mem_cons, List.not_mem_nil, or_false] at hd
    rcases hd with e | e | e <;> rw [e]
    · exact (Tw.okD.mono (n := 1) (wd_op o).lay (by show 1 ≤ 1 + max a.deep b.deep; omega))
    · exact (a.okD w1).mono (by show a.deep + 1 ≤ 1 + max a.deep b.deep; omega)
    · exact (b.okD w2).mono (by show b.deep + 1 ≤ 1 + max a.deep b.deep; omega)⟩
theorem okD_str {x : Str} {n : Nat} (h : Wd x) (hn : 1 ≤ n) : Tw.okD n (.str x) := Tw.okD.mono (n := 1) h.lay hn
mutual
theorem Row.okD {hm : Str → Str} (hh : HsOk hm) : ∀ r : Row, r.ok hm → r.cnt ≤ 500 → Tw.okD (2 * r.dp + 9) r.d
  | .lt op x e, h, _ => by
    rw [Row.d]
    refine ⟨by simp, fun d hd => ?_⟩
    simp only [List.mem_cons, List.not_mem_nil, or_false] at hd
    rcases hd with e1 | e1 | e1 <;> rw [e1]
    · exact okD_str (by cases op <;> exact wd_lit (by decide +kernel)) (by omega)
    · exact okD_str (wd_name h.1) (by omega)
    · exact (e.okD h.2.1).mono (by have := h.2.2.1; show _ ≤ 2 * 1 + 8; omega)
  | .ask x h0 k, h, _ => by
    rw [Row.d]
    refine ⟨by simp, fun d hd => ?_⟩
    simp only [List.mem_cons, List.not_mem_nil, or_false] at hd
    rcases hd with e1 | e1 | e1 | e1 <;> rw [e1]
    · exact okD_str (wd_lit (by decide +kernel)) (by omega)
    · exact okD_str (wd_name h.1) (by omega)
    · exact okD_str (by rw [h.2]; exact wd_house (hh _)) (by omega)
    · exact trivial
  | .say h0 e, h, _ => by
    rw [Row.d]
    refine ⟨by simp, fun d hd => ?_⟩
    simp only [List.mem_cons, List.not_mem_nil, or_false] at hd
    rcases hd with e1 | e1 | e1 <;> rw [e1]
    · exact okD_str (wd_lit (by decide +kernel)) (by omega)
    · exact okD_str (wd_house h.1) (by omega)
    · exact (e.okD h.2.1).mono (by have := h.2.2.1; show _ ≤ 2 * 1 + 8; omega)
  | .iff e a b, h, hc => by
    obtain ⟨oe, oa, ob⟩ : e.ok ∧ oks hm a ∧ oks hm b := id h
    have hc' : 1 + cnts a + cnts b ≤ 500 := hc
    rw [Row.d]
    refine ⟨by simp, fun d hd => ?_⟩
    simp only [List.mem_cons, List.not_mem_nil, or_false] at hd
    rcases hd with e1 | e1 | e1 | e1 <;> rw [e1]
    · exact okD_str (wd_lit (by decide +kernel)) (by omega)
    · exact (e.okD oe.1).mono (by have := oe.2.1; show _ ≤ 2 * (1 + max (dps a) (dps b)) + 8; omega)
    · exact (rowsOkD hh a oa (by omega)).mono (by show _ ≤ 2 * (1 + max (dps a) (dps b)) + 8; omega)
    · exact (rowsOkD hh b ob (by omega)).mono (by show _ ≤ 2 * (1 + max (dps a) (dps b)) + 8; omega)
  | .whl e a, h, hc => by
    obtain ⟨oe, oa⟩ : e.ok ∧ oks hm a := id h
    have hc' : 1 + cnts a ≤ 500 := hc
    rw [Row.d]
    refine ⟨by simp, fun d hd => ?_⟩
    simp only [List.mem_cons, List.not_mem_nil, or_false] at hd
    rcases hd with e1 | e1 | e1 <;> rw [e1]
    · exact okD_str (wd_lit (by decide +kernel)) (by omega)
    · exact (e.okD oe.1).mono (by have := oe.2.1; show _ ≤ 2 * (1 + dps a) + 8; omega)
    · exact (rowsOkD hh a oa (by omega)).mono (by show _ ≤ 2 * (1 + dps a) + 8; omega)
theorem rowsOkD {hm : Str → Str} (hh : HsOk hm) : ∀ rs : List Row, oks hm rs → cnts rs ≤ 500 → Tw.okD (2 * dps rs + 10) (.tuple (rowsD rs)) := fun rs h hc => by
  refine ⟨?_, rowsOkA hh rs h hc⟩
  rw [rowsD_map, List.length_map]
  have := rows_len_le rs
  omega
theorem rowsOkA {hm : Str → Str} (hh : HsOk hm) : ∀ rs : List Row, oks hm rs → cnts rs ≤ 500 → ∀ d ∈ rowsD rs, Tw.okD (2 * dps rs + 9) d
  | [], _, _, d, hd => by simp [rowsD] at hd
  | r :: rs, h, hc, d, hd => by
    have hc' : r.cnt + cnts rs ≤ 500 := hc
    rw [rowsD] at hd
    rcases List.mem_cons.mp hd with e | hd
    · rw [e]
      exact (r.okD hh h.1 (by omega)).mono (by show _ ≤ 2 * max r.dp (dps rs) + 9; omega)
    · exact (rowsOkA hh rs h.2 (by omega) d hd).mono (by show _ ≤ 2 * max r.dp (dps rs) + 9; omega)
end
theorem marksOkD {ms : List (Str × Str)} (h : ∀ m ∈ ms, isName m.1 = true ∧ isHouse m.2 = true) (hl : ms.length ≤ 1000) : Tw.okD 3 (.tuple (ms.map markD)) := ⟨by rw [List.length_map]; exact hl, fun d hd => by
  obtain ⟨m, hm, rfl⟩ := List.mem_map.mp hd
  obtain ⟨h1, h2⟩ := h m hm
  refine ⟨by simp, fun d hd => ?_⟩
  simp only [List.mem_cons, List.not_mem_nil, or_false] at hd
  rcases hd with e | e <;> rw [e]
  · exact (wd_name h1).lay
  · exact (wd_house h2).lay⟩
theorem Pg.ok.okD {hm : Str → Str} {p : Pg} (h : p.ok hm) : Tw.okD 30 p.d := by
  have hdp := h.dp
  refine ⟨by simp, fun d hd => ?_⟩
  simp only [List.mem_cons, List.not_mem_nil, or_false] at hd
  rcases hd with e | e <;> rw [e]
  · exact (marksOkD (fun m hm' => ⟨(h.mks m hm').1, by rw [(h.mks m hm').2]; exact h.hs _⟩) (by have := h.few; omega)).mono (by show 3 ≤ (29 : Nat); decide)
  · exact (rowsOkD h.hs p.rs h.rk (by have := h.cn; omega)).mono (by show 2 * dps p.rs + 10 ≤ (29 : Nat); omega)
end Tw
set_option Elab.async false
set_option linter.all false
set_option maxRecDepth 100000
set_option maxHeartbeats 4000000
namespace Tw
open PySem PySem.Spec PyProof.Rows L2 TL
/-! ### names changed -/
mutual
def ren (f : Str → Str) : PyData → PyData
  | .tuple ds => .tuple (rens f ds)
  | .str x => .str (f x)
  | .none => .none
  | .bool b => .bool b
  | .int i => .int i
  | .list ds => .list ds
  | .dict kvs => .dict kvs
def rens (f : Str → Str) : List PyData → List PyData
  | [] => []
  | d :: ds => ren f d :: rens f ds
end
theorem rens_map (f : Str → Str) : ∀ ds : List PyData, rens f ds = ds.map (ren f)
  | [] => rfl
  | d :: ds => by rw [rens, rens_map f ds]; rfl
def Oth (f : Str → Str) (kvs : List (L2.Key × V)) : Prop := ∀ x, (valV kvs (Sum.inr x)).getD (.str x) = .str (f x)
section
variable {P : Program} {w : World} {K : PySem.W.Frag} {mg : Str → Option Value} {base : Heap}
def sp_law_named (K : PySem.W.Frag) (n : Nat) : Sp := fun vs H Q _ => ∃ (v : V) (od : Addr) (d : PyData) (kvs : List (L2.Key × V)) (f : Str → Str), vs = [v, .ref od] ∧ Td K H v d ∧ okD n d ∧ H od = some (.dK kvs) ∧ Oth f kvs ∧ ∀ H' v', Same H H' → Td K H' v' (ren f d) → Q v' H'
theorem ok_law_named (T : Txt K mg) : ∀ n, Cal P w K mg base "_law_named" (n + 1) ["_law_thing", "_law_others"] (sp_law_named K n)
  | 0 => Cal.vac T.d_law_named b_law_named fun vs H Q E h => by
    obtain ⟨_, _, _, _, _, _, _, h, _⟩ := h
    exact h
  | n + 1 => by
    have C_law_named := ok_law_named T n
    refine Cal.of T.d_law_named b_law_named sc_law_named (fun vs H Q E h => ?_) (fun cdv A outer s H vs Q E hr h => ?_)
    · obtain ⟨_, _, _, _, _, rfl, _⟩ := h; rfl
    obtain ⟨v, od, d, kvs, f, rfl, hv, hok, hod, hf, q⟩ := h
    have hu := hu_of hr
    refine ⟨_, (pss_cons (ps_if (pt_val (pe_callB call_isi (by rfl) T.isinstance bb_isinstance (pa_cons (pv 0) (pa_cons (pe_bty T.tuple bb_tuple rfl) pa_nil)))) (pss_one (ps_ret (pe_callTy call_tuple_of (by rfl) T.tuple bb_tuple (pa_cons (pe_lc (own := [("_law_part", 2)]) (by rfl) sc_law_named.nd (pi_tup (pv 0)) (blkOk_by (own := [("_law_part", 2)]) (N := N_law_named) (sc := defScope s_law_named) (by decide +kernel)) (fun _ _ _ _ _ => (pg_name (i := 2) sc_law_named.nd rfl (Or.inl rfl))) (fun _ _ _ _ _ => pts_nil) (fun _ _ _ _ _ => (pe_callC C_law_named (hr.mono (by omega)) rfl (pa_cons (pv 2) (pa_cons (pv 1) pa_nil))))) pa_nil)))) pss_nil)
  (pss_one (ps_ret (pe_ifExp (pt_val (pe_callB call_isi (by rfl) T.isinstance bb_isinstance (pa_cons (pv 0) (pa_cons (pe_bty T.str bb_str rfl) pa_nil)))) (pe_dget2 hu (pv 1) (pv 0) (pv 0) ⟨rfl, rfl, rfl, rfl⟩) (pv 0))))), ?_⟩
    cases d with
    | tuple ds =>
      obtain ⟨a, xs, rfl, hs, hxs⟩ := td_tup.mp hv
      obtain ⟨hw, hds⟩ : ds.length ≤ 1000 ∧ ∀ d ∈ ds, okD n d := hok
      have hxl := hxs.length
      refine ⟨_, rfl, _, _, _, _, _, rfl, .ty _, tyx_seqT hs, kt_tuple_tuple, _, rfl, ?_⟩
      refine iteT ?_
      refine ⟨_, rfl, a, rfl, ⟨_, hs⟩, fun D nD => ?_⟩
      refine lc_pu (walk_tup (xs := xs)) (by omega) nD (fun H' s' => same_tup s' hs) (fun i y H' => ∃ d, ds[i]? = some d ∧ Td K H' y (ren f d)) (fun i y H' H'' ⟨l, hl⟩ k ⟨d, h1, h2⟩ => ⟨d, h1, Td.kp k (.lst hl) _ h2⟩) ?_ ?_
      · rintro i x H2 H1 Qc hi s1 ⟨l1, hD1⟩ ⟨rfl, hx⟩ hq
        obtain ⟨d, hd, hxd⟩ := (hxs.same s1).get hx
        refine ⟨rfl, _, rfl, _, rfl, x, od, d, kvs, f, rfl, hxd, hds d (List.mem_of_getElem? hd), s1 _ _ hod, hf, fun H3 v3 s3 t3 => ?_⟩
        exact hq _ _ s3 ⟨d, hd, t3⟩
      · intro ys H1 s1 hD1 hyl hys
        refine ⟨_, _, rfl, .inl ⟨.of hD1, fun pt npt => ?_⟩⟩
        refine q _ _ (s1.trans (same_new npt)) ?_
        rw [ren, rens_map]
        refine Td.new npt (TdA.of_get (by rw [List.length_map, hyl]; omega) fun i u e hu1 he => ?_)
        obtain ⟨d, h1, h2⟩ := hys i u hu1
        rw [List.getElem?_map, h1] at he
        cases he
        exact h2
    | str x =>
      obtain rfl := td_str.mp hv
      refine ⟨_, rfl, _, _, _, _, _, rfl, .ty _, .base (.str _), kt_str_tuple, _, rfl, ?_⟩
      refine iteF ?_
      refine ⟨_, rfl, _, _, _, _, _, rfl, .ty _, .base (.str _), kt_str_str, _, rfl, ?_⟩
      refine iteT ?_
      refine ⟨_, rfl, od, rfl, .inl ⟨_, .of hod⟩, _, rfl, _, rfl, _, DGet.k (k := Sum.inr x) hod, ?_⟩
      have e1 := hf x
      rw [e1]
      exact q H _ (Same.refl H) (td_str.mpr rfl)
    | int i =>
      obtain rfl := td_int.mp hv
      refine ⟨_, rfl, _, _, _, _, _, rfl, .ty _, .base (.int _), kt_int_tuple, _, rfl, ?_⟩
      refine iteF ?_
      refine ⟨_, rfl, _, _, _, _, _, rfl, .ty _, .base (.int _), kt_int_str, _, rfl, ?_⟩
      refine iteF ?_
      exact ⟨_, rfl, q H _ (Same.refl H) (td_int.mpr rfl)⟩
    | bool b =>
      obtain rfl := td_bool.mp hv
      refine ⟨_, rfl, _, _, _, _, _, rfl, .ty _, .base (.bl _), kt_bool_tuple, _, rfl, ?_⟩
      refine iteF ?_
      refine ⟨_, rfl, _, _, _, _, _, rfl, .ty _, .base (.bl _), kt_bool_str, _, rfl, ?_⟩
      refine iteF ?_
      exact ⟨_, rfl, q H _ (Same.refl H) (td_bool.mpr rfl)⟩
    | none => exact (show False from hok).elim
    | list ds => rw [Td] at hv; exact hv.elim
    | dict kvs => rw [Td] at hv; exact hv.elim
/-- the lines of a text, each as its words -/
def sp_law_lines (K : PySem.W.Frag) : Sp := fun vs H Q _ => ∃ (M : List (List Str)) (od : Addr) (kvs : List (L2.Key × V)) (f : Str → Str), vs = [.str (Str.join nl (M.map (Str.join sp))), .ref od] ∧ M ≠ [] ∧ M.length ≤ 1000 ∧ (Str.join nl (M.map (Str.join sp))).length ≤ 1000000 ∧
  (∀ ws ∈ M, ws ≠ [] ∧ ws.length ≤ 1000 ∧ ∀ w ∈ ws, 32 ∉ tl w ∧ 10 ∉ tl w ∧ w.length ≤ 10 ∧ (f w).length ≤ 10) ∧ H od = some (.dK kvs) ∧ Oth f kvs ∧
  ∀ H' p, Same H H' → H p = none → H' p = some (.lst (M.map fun ws => V.str (Str.join sp (ws.map f)))) → Q (.ref p) H'
theorem ok_law_lines (T : Txt K mg) : Cal P w K mg base "_law_lines" 1 ["_law_text", "_law_others"] (sp_law_lines K) := by
  refine Cal.of T.d_law_lines b_law_lines sc_law_lines (fun vs H Q E h => ?_) (fun cdv A outer s H vs Q E hr h => ?_)
  · obtain ⟨_, _, _, _, rfl, _⟩ := h; rfl
  obtain ⟨M, od, kvs, f, rfl, hne, hml, htl, hM, hod, hf, q⟩ := h
  have hu := hu_of hr
  refine ⟨_, (pss_cons (ps_set (i := 2) sc_law_lines.nd rfl (Or.inl rfl) (pe_lst pa_nil))
  (pss_cons (ps_for PassesOwn.never rfl (pi_list (pe_split (pv 0) pe_str)) (pg_name (i := 3) sc_law_lines.nd rfl (Or.inl rfl))
   (pss_one (ps_expr (pe_bm PySem.F.plainAttrs_list PySem.F.slot_list_append PySem.F.type_list_append mt_append (pv 2) (pa_cons (pe_join pe_str (pe_lc (own := [("_law_word", 4)]) (by rfl) sc_law_lines.nd (pi_list (pe_split (pv 3) pe_str)) (blkOk_by (own := [("_law_word", 4)]) (N := N_law_lines) (sc := defScope s_law_lines) (by decide +kernel)) (fun _ _ _ _ _ => (pg_name (i := 4) sc_law_lines.nd rfl (Or.inl rfl))) (fun _ _ _ _ _ => pts_nil) (fun _ _ _ _ _ => (pe_dget2 hu (pv 1) (pv 4) (pv 4) ⟨rfl, rfl, rfl, rfl⟩)))) pa_nil)))))
  (pss_one (ps_ret (pv 2))))), ?_⟩
  refine ⟨by show 0 ≤ sizeLine; decide, fun lf nlf => ?_⟩
  have s0 := same_new nlf (o := .lst [])
  have hno10 : ∀ x ∈ M.map (Str.join sp), 10 ∉ tl x := fun x hx z => by
    obtain ⟨ws, hws, rfl⟩ := List.mem_map.mp hx
    rw [tl_join] at z
    rcases joinL_mem _ _ z with z | ⟨p, hp, z⟩
    · rw [tl_sp] at z; exact absurd z (by decide)
    · obtain ⟨y, hy, rfl⟩ := List.mem_map.mp hp
      exact ((hM ws hws).2.2 y hy).2.1 z
  have esp : Txt.split (Str.join nl (M.map (Str.join sp))) "\n" = M.map (Str.join sp) := by
    rw [← join_eq]
    exact split_join (y := "\n") (s := 10) (S := []) (by decide +kernel) (by decide +kernel) (by simpa using hne) hno10
  refine ⟨_, rfl, ⟨_, rfl⟩, _, _, rfl, rfl, by decide +kernel, by rw [sizeLine_eq]; omega, fun ll nll => ?_⟩
  rw [esp]
  have s1 := same_new nll (o := .lst ((M.map (Str.join sp)).map V.str))
  have hll1 : upd (upd H lf (.lst [])) ll (.lst ((M.map (Str.join sp)).map V.str)) ll = some (.lst ((M.map (Str.join sp)).map V.str)) := upd_same
  have hlf1 := s1 _ _ (upd_same (H := H) (a := lf) (o := .lst []))
  have s01 := s0.trans s1
  have hnll := s0.free nll
  have hlfl : lf ≠ ll := fun z => by rw [← z, upd_same] at nll; cases nll
  generalize upd (upd H lf (.lst [])) ll (.lst ((M.map (Str.join sp)).map V.str)) = H1 at s01 hll1 hlf1 ⊢
  have el : ((M.map (Str.join sp)).map V.str).length = M.length := by rw [List.length_map, List.length_map]
  refine ⟨ll, rfl, ⟨_, .of hll1⟩, for_it (walk_list (xs := (M.map (Str.join sp)).map V.str)) (fun i σ H' => ∃ (x3 : Option V), σ = [some (.str (Str.join nl (M.map (Str.join sp)))), some (.ref od), some (.ref lf), x3, none] ∧ Same H H' ∧ H' ll = some (.lst ((M.map (Str.join sp)).map V.str)) ∧ H' lf = some (.lst ((M.take i).map fun ws => V.str (Str.join sp (ws.map f)))))
    ⟨none, rfl, s01, hll1, by rw [List.take_zero]; exact hlf1⟩ (fun i σ H' _ h => by obtain ⟨_, _, _, h, _⟩ := h; exact .of h) ?_ ?_⟩
  · rintro i x σ H2 H3 hi ⟨x3, rfl, s2, hl2, hf2⟩ ⟨rfl, hx⟩
    rw [List.getElem?_map, List.getElem?_map] at hx
    rw [el] at hi
    obtain ⟨ws, hws⟩ : ∃ ws, M[i]? = some ws := ⟨_, List.getElem?_eq_getElem hi⟩
    rw [hws] at hx
    cases hx
    obtain ⟨w1, w2, w3⟩ := hM ws (List.mem_of_getElem? hws)
    have hjl : (Str.join sp ws).length ≤ 20000 := by
      have h1 := join_len sp ws
      have h2 := sum_le (k := 10) fun x hx => (w3 x hx).2.2.1
      rw [sp_len] at h1
      omega
    have esp2 : Txt.split (Str.join sp ws) " " = ws := by
      rw [← join_eq]
      exact split_join (y := " ") (s := 32) (S := []) (by decide +kernel) (by decide +kernel) w1 fun y hy => (w3 y hy).1
    refine ⟨_, rfl, Or.inl ⟨rfl, _, SqL.of hf2⟩, ⟨_, rfl⟩, _, rfl, ⟨_, rfl⟩, _, _, rfl, rfl, by decide +kernel, by rw [sizeLine_eq]; omega, fun lw nlw => ?_⟩
    rw [esp2]
    have s4 := same_new nlw (o := .lst (ws.map V.str))
    have hlw4 : upd H3 lw (.lst (ws.map V.str)) lw = some _ := upd_same
    refine ⟨lw, rfl, ⟨_, .of hlw4⟩, fun D nD => ?_⟩
    refine lc_pu (walk_list (xs := ws.map V.str)) (by rw [List.length_map]; omega) nD (fun H' s' => .of (s' _ _ hlw4)) (fun i y H' => ∃ x, ws[i]? = some x ∧ y = .str (f x)) (fun i y H' H'' _ _ h => h) ?_ ?_
    · rintro j y H5 H6 Qc hj s5 _ ⟨rfl, hy⟩ hq
      rw [List.getElem?_map] at hy
      obtain ⟨x, hx, rfl⟩ := Option.map_eq_some_iff.mp hy
      refine ⟨rfl, _, rfl, od, rfl, .inl ⟨_, .of (s5 _ _ (s4 _ _ (s2 _ _ hod)))⟩, _, rfl, _, rfl, _, DGet.k (k := Sum.inr x) (s5 _ _ (s4 _ _ (s2 _ _ hod))), ?_⟩
      rw [hf x]
      exact hq _ _ (Same.refl _) ⟨x, hx, rfl⟩
    · intro ys H5 s5 hD5 hyl hys
      rw [List.length_map] at hyl
      have eys : ys = (ws.map f).map V.str := by
        apply List.ext_getElem?
        intro j
        by_cases hj : j < ys.length
        · obtain ⟨x, h1, h2⟩ := hys j _ (List.getElem?_eq_getElem hj)
          rw [List.getElem?_eq_getElem hj, h2, List.getElem?_map, List.getElem?_map, h1] <;> rfl
        · rw [List.getElem?_eq_none (by omega), List.getElem?_eq_none (by rw [List.length_map, List.length_map]; omega)]
      rw [eys] at hD5
      have h2 : ((ws.map f).map (·.length)).sum ≤ 10 * (ws.map f).length := sum_le (k := 10) fun x hx => by
        obtain ⟨y, hy, rfl⟩ := List.mem_map.mp hx
        exact (w3 y hy).2.2.2
      rw [List.length_map] at h2
      have hf5 := s5 _ _ (s4 _ _ hf2)
      refine ⟨_, D, ws.map f, rfl, rfl, .inl (.of hD5), by rw [List.length_map, show (" " : Str).length = 1 by decide +kernel]; omega, ?_⟩
      refine ⟨lf, _, _, rfl, rfl, hf5, by rw [sizeLine_eq, List.length_map, List.length_take]; omega, ?_⟩
      refine ⟨_, rfl, same_put ((s2.trans s4).trans s5) nlf, by rw [upd_ne hlfl.symm]; exact s5 _ _ (s4 _ _ hl2), ?_⟩
      rw [upd_same, show M.take (i + 1) = M.take i ++ [ws] by rw [List.take_succ, hws] <;> rfl, List.map_append, join_eq] <;> rfl
  · rintro σ H2 ⟨x3, rfl, s2, hl2, hf2⟩
    rw [el, List.take_length] at hf2
    exact ⟨_, rfl, q H2 lf s2 nlf hf2⟩
end
end Tw
set_option Elab.async false
set_option linter.all false
set_option maxRecDepth 100000
set_option maxHeartbeats 4000000
namespace Tw
open PySem PySem.Spec PyProof.Rows L2 TL
/-! ### a program's rows, put together again -/
abbrev Item := Nat × Row × List Nat
def tops (n : Nat) (ar : List Nat) : List Row → List Item
  | [] => []
  | r :: rs => (n, r, ar) :: tops (n + r.cnt) ar rs
def ownB (ar : List Nat) (t : Item) : Bool := decide (t.2.2 = ar)
def preB (ar : List Nat) (t : Item) : Bool := decide (ar <+: t.2.2)
mutual
theorem Row.flat_pre (n : Nat) (ar : List Nat) : ∀ (r : Row), ∀ t ∈ r.flat n ar, ar <+: t.2.2
  | .iff e a b, t, h => by
    rw [Row.flat] at h
    rcases List.mem_cons.mp h with e1 | h
    · rw [e1]; exact List.prefix_refl _
    · rcases List.mem_append.mp h with h | h
      · exact (List.prefix_append ar [n]).trans (flats_pre _ _ a t h)
      · exact (List.prefix_append ar [n]).trans (flats_pre _ _ b t h)
  | .whl e a, t, h => by
    rw [Row.flat] at h
    rcases List.mem_cons.mp h with e1 | h
    · rw [e1]; exact List.prefix_refl _
    · exact (List.prefix_append ar [n]).trans (flats_pre _ _ a t h)
  | .lt _ _ _, t, h => by rw [Row.flat, List.mem_singleton] at h; rw [h]; exact List.prefix_refl _
  | .ask _ _ _, t, h => by rw [Row.flat, List.mem_singleton] at h; rw [h]; exact List.prefix_refl _
  | .say _ _, t, h => by rw [Row.flat, List.mem_singleton] at h; rw [h]; exact List.prefix_refl _
theorem flats_pre (n : Nat) (ar : List Nat) : ∀ (rs : List Row), ∀ t ∈ flats n ar rs, ar <+: t.2.2
  | [], t, h => by simp [flats] at h
  | r :: rs, t, h => by
    rw [flats] at h
    rcases List.mem_append.mp h with h | h
    · exact r.flat_pre n ar t h
    · exact flats_pre _ ar rs t h
end
theorem pre_len {a b : List Nat} (h : a <+: b) : a.length ≤ b.length := h.length_le
theorem not_own {ar : List Nat} {m : Nat} {t : Item} (h : ar ++ [m] <+: t.2.2) : ownB ar t = false := by
  refine decide_eq_false fun e => ?_
  have := pre_len h
  rw [e, List.length_append, List.length_singleton] at this
  omega
theorem flats_own (ar : List Nat) : ∀ (n : Nat) (ks : List Row), (flats n ar ks).filter (ownB ar) = tops n ar ks
  | n, [] => rfl
  | n, r :: ks => by
    rw [flats, List.filter_append, flats_own ar _ ks, r.flat_kids, List.filter_cons, if_pos (show ownB ar (n, r, ar) = true from decide_eq_true rfl), List.filter_eq_nil_iff.mpr, tops]
    · rfl
    · intro t ht
      rw [not_own (flats_pre _ _ _ t ht)]
      decide
theorem pre_ne {ar : List Nat} {m n : Nat} {t : Item} (h : m ≠ n) (h1 : ar ++ [n] <+: t.2.2) : preB (ar ++ [m]) t = false := by
  refine decide_eq_false fun h2 => h ?_
  have := List.prefix_of_prefix_length_le h2 h1 (by simp)
  have e := this.eq_of_length (by simp)
  have := List.append_inj_right e rfl
  simpa using this
theorem pre_own {ar : List Nat} {m : Nat} {t : Item} (h : t.2.2 = ar) : preB (ar ++ [m]) t = false := by
  refine decide_eq_false fun h2 => ?_
  have := pre_len h2
  rw [h, List.length_append, List.length_singleton] at this
  omega
theorem flat_other {ar : List Nat} {m n : Nat} {r : Row} (h : m ≠ n) : (r.flat n ar).filter (preB (ar ++ [m])) = [] := by
  rw [List.filter_eq_nil_iff]
  intro t ht
  rw [r.flat_kids] at ht
  rcases List.mem_cons.mp ht with e | ht
  · rw [e, show preB (ar ++ [m]) (n, r, ar) = false from pre_own rfl]; decide
  · rw [pre_ne h (flats_pre _ _ _ t ht)]; decide
theorem tops_ge {ar : List Nat} : ∀ (n : Nat) (ks : List Row), ∀ t ∈ tops n ar ks, n ≤ t.1 ∧ t.2.2 = ar
  | n, [], t, h => by simp [tops] at h
  | n, r :: ks, t, h => by
    rw [tops] at h
    rcases List.mem_cons.mp h with e | h
    · rw [e]; exact ⟨Nat.le_refl _, rfl⟩
    · have := tops_ge _ ks t h
      exact ⟨by omega, this.2⟩
theorem flats_other {ar : List Nat} {m : Nat} : ∀ (n : Nat) (ks : List Row), m < n → (flats n ar ks).filter (preB (ar ++ [m])) = []
  | n, [], _ => rfl
  | n, r :: ks, h => by rw [flats, List.filter_append, flat_other (by omega), flats_other _ ks (by omega)]; rfl
theorem flats_sub {ar : List Nat} : ∀ (n : Nat) (ks : List Row), ∀ t ∈ tops n ar ks, (flats n ar ks).filter (preB (ar ++ [t.1])) = flats (t.1 + 1) (ar ++ [t.1]) t.2.1.kids
  | n, [], t, h => by simp [tops] at h
  | n, r :: ks, t, h => by
    have hc := r.cnt_pos
    rw [tops] at h
    rw [flats, List.filter_append]
    rcases List.mem_cons.mp h with e | h
    · rw [e, flats_other _ ks (by show n < n + r.cnt; omega), List.append_nil, r.flat_kids, List.filter_cons, if_neg (by rw [show preB (ar ++ [n]) (n, r, ar) = false from pre_own rfl]; decide), List.filter_eq_self.mpr]
      intro t ht
      exact decide_eq_true (flats_pre _ _ _ t ht)
    · have hg := tops_ge _ ks t h
      rw [flat_other (by omega), flats_sub _ ks t h, List.nil_append]
def Sub (F : List Item) : Nat → Nat → List Nat → List Row → Prop
  | 0, _, _, _ => True
  | k + 1, n, ar, ks => F.filter (ownB ar) = tops n ar ks ∧ ∀ t ∈ tops n ar ks, Sub F k (t.1 + 1) (ar ++ [t.1]) t.2.1.kids
theorem sub_of {F : List Item} : ∀ (k n : Nat) (ar : List Nat) (ks : List Row), F.filter (preB ar) = flats n ar ks → Sub F k n ar ks
  | 0, _, _, _, _ => trivial
  | k + 1, n, ar, ks, h => by
    refine ⟨?_, fun t ht => sub_of k _ _ _ ?_⟩
    · rw [← flats_own, ← h, List.filter_filter]
      congr 1
      funext t
      unfold ownB preB
      by_cases e : t.2.2 = ar
      · rw [decide_eq_true e, decide_eq_true (by rw [e]; exact List.prefix_refl _)]; rfl
      · rw [decide_eq_false e]; rfl
    · rw [← flats_sub n ks t ht, ← h, List.filter_filter]
      congr 1
      funext u
      unfold preB
      by_cases e : ar ++ [t.1] <+: u.2.2
      · rw [decide_eq_true e, decide_eq_true ((List.prefix_append ar [t.1]).trans e)]; rfl
      · rw [decide_eq_false e]; rfl
theorem sub_all (rs : List Row) (k : Nat) : Sub (flats 1 [] rs) k 1 [] rs := sub_of k 1 [] rs (by
  rw [List.filter_eq_self]
  intro t _
  exact decide_eq_true List.nil_prefix)
theorem tops_rows (ar : List Nat) : ∀ (n : Nat) (ks : List Row), (tops n ar ks).map (fun t => t.2.1.d) = rowsD ks
  | n, [] => rfl
  | n, r :: ks => by rw [tops, List.map_cons, tops_rows ar _ ks, rowsD]
/-! own paths are short -/
mutual
theorem Row.flat_own (n : Nat) (ar : List Nat) : ∀ (r : Row), ∀ t ∈ r.flat n ar, t.2.2.length < ar.length + r.dp
  | .iff e a b, t, h => by
    rw [Row.flat] at h
    show _ < ar.length + (1 + max (dps a) (dps b))
    rcases List.mem_cons.mp h with e1 | h
    · rw [e1]; show ar.length < _; omega
    · rcases List.mem_append.mp h with h | h
      · have := flats_own' _ _ a t h
        rw [List.length_append, List.length_singleton] at this
        omega
      · have := flats_own' _ _ b t h
        rw [List.length_append, List.length_singleton] at this
        omega
  | .whl e a, t, h => by
    rw [Row.flat] at h
    show _ < ar.length + (1 + dps a)
    rcases List.mem_cons.mp h with e1 | h
    · rw [e1]; show ar.length < _; omega
    · have := flats_own' _ _ a t h
      rw [List.length_append, List.length_singleton] at this
      omega
  | .lt _ _ _, t, h => by rw [Row.flat, List.mem_singleton] at h; rw [h]; show ar.length < ar.length + 1; omega
  | .ask _ _ _, t, h => by rw [Row.flat, List.mem_singleton] at h; rw [h]; show ar.length < ar.length + 1; omega
  | .say _ _, t, h => by rw [Row.flat, List.mem_singleton] at h; rw [h]; show ar.length < ar.length + 1; omega
theorem flats_own' (n : Nat) (ar : List Nat) : ∀ (rs : List Row), ∀ t ∈ flats n ar rs, t.2.2.length < ar.length + dps rs
  | [], t, h => by simp [flats] at h
  | r :: rs, t, h => by
    rw [flats] at h
    show _ < ar.length + max r.dp (dps rs)
    rcases List.mem_append.mp h with h | h
    · have := r.flat_own n ar t h; omega
    · have := flats_own' _ ar rs t h; omega
end
theorem eqv_ints : ∀ a b : List Nat, PyData.eqvAll (a.map fun (n : Nat) => PyData.int (n : Int)) (b.map fun (n : Nat) => PyData.int (n : Int)) = decide (a = b)
  | [], [] => rfl
  | [], b :: bs => rfl
  | a :: as, [] => rfl
  | a :: as, b :: bs => by
    rw [List.map_cons, List.map_cons, PyData.eqvAll, eqv_ints as bs, PyData.eqv]
    by_cases h : a = b
    · subst h; simp
    · have : ((a : Int) == (b : Int)) = false := by simp; omega
      rw [this, Bool.false_and]
      exact (decide_eq_false (fun z => h (by injection z))).symm
theorem okD_ints {a : List Nat} (h : a.length ≤ 1000) : okD 2 (.tuple (a.map fun (n : Nat) => PyData.int (n : Int))) := ⟨by rw [List.length_map]; exact h, fun d hd => by
  obtain ⟨n, _, rfl⟩ := List.mem_map.mp hd
  exact trivial⟩
end Tw
set_option Elab.async false
set_option linter.all false
set_option maxRecDepth 100000
set_option maxHeartbeats 4000000
namespace Tw
open PySem PySem.Spec PyProof.Rows L2 TL
theorem TdA.split {K : PySem.W.Frag} {H : Hp} : ∀ {xs : List V} {as bs : List PyData}, TdA K H xs (as ++ bs) → TdA K H (xs.take as.length) as ∧ TdA K H (xs.drop as.length) bs
  | xs, [], bs, h => ⟨tda_nil, h⟩
  | xs, a :: as, bs, h => by
    obtain ⟨v, vs, rfl, h1, h2⟩ := TdA.cons_of h
    obtain ⟨h3, h4⟩ := TdA.split h2
    exact ⟨tda_cons.mpr ⟨h1, h3⟩, h4⟩
theorem tops_mem (ar : List Nat) : ∀ (n : Nat) (ks : List Row), ∀ t ∈ tops n ar ks, t.2.1 ∈ ks
  | n, [], t, h => by simp [tops] at h
  | n, r :: ks, t, h => by
    rw [tops] at h
    rcases List.mem_cons.mp h with e | h
    · rw [e]; exact List.mem_cons_self
    · exact List.mem_cons_of_mem _ (tops_mem ar _ ks t h)
theorem hd_while (r : Row) : decide (V.str r.hd = V.str "while") = match r with | .whl _ _ => true | _ => false := by
  cases r with
  | lt op _ _ => exact (by intro op; cases op <;> decide +kernel : ∀ op, decide (V.str (ltw op) = V.str "while") = false) op
  | ask _ _ _ => exact (by decide +kernel : decide (V.str "ask" = V.str "while") = false)
  | say _ _ => exact (by decide +kernel : decide (V.str "say" = V.str "while") = false)
  | iff _ _ _ => exact (by decide +kernel : decide (V.str "if" = V.str "while") = false)
  | whl _ _ => exact (by decide +kernel : decide (V.str "while" = V.str "while") = true)
def intsD (ar : List Nat) : PyData := .tuple (ar.map fun (n : Nat) => .int (n : Int))
section
variable {P : Program} {w : World} {K : PySem.W.Frag} {mg : Str → Option Value} {base : Heap}
def sp_law_built (K : PySem.W.Frag) (n : Nat) : Sp := fun vs H Q _ => ∃ (lr : Addr) (av : V) (xs : List V) (F : List Item) (m : Nat) (ar : List Nat) (ks : List Row), vs = [.ref lr, av] ∧ H lr = some (.lst xs) ∧ TdA K H xs (F.map itemD) ∧ Td K H av (intsD ar) ∧ Sub F (dps ks + 1) m ar ks ∧ dps ks < n ∧ ar.length + dps ks ≤ 100 ∧ F.length ≤ 500 ∧ (∀ t ∈ F, t.2.2.length ≤ 100) ∧
  ∀ H' v, Same H H' → Td K H' v (.tuple (rowsD ks)) → Q v H'
theorem Sub.mono {F : List Item} : ∀ {k j n : Nat} {ar : List Nat} {ks : List Row}, Sub F k n ar ks → j ≤ k → Sub F j n ar ks
  | _, 0, _, _, _, _, _ => trivial
  | k + 1, j + 1, n, ar, ks, h, l => ⟨h.1, fun t ht => (h.2 t ht).mono (by omega)⟩
theorem ok_law_built (T : Txt K mg) : ∀ n, Cal P w K mg base "_law_built" (n + 1) ["_law_rows", "_law_around"] (sp_law_built K n)
  | 0 => Cal.vac T.d_law_built b_law_built fun vs H Q E h => by
    obtain ⟨_, _, _, _, _, _, _, _, _, _, _, _, h, _⟩ := h
    omega
  | n + 1 => by
    have C_law_built := ok_law_built T n
    refine Cal.of T.d_law_built b_law_built sc_law_built (fun vs H Q E h => ?_) (fun cdv A outer s H vs Q E hr h => ?_)
    · obtain ⟨_, _, _, _, _, _, _, rfl, _⟩ := h; rfl
    obtain ⟨lr, av, xs, F, m, ar, ks, rfl, hlr, hxs, hav, hsub, hdn, har, hFl, hFo, q⟩ := h
    refine ⟨_, (pss_cons (ps_set (i := 2) sc_law_built.nd rfl (Or.inl rfl) (pe_lst pa_nil))
  (pss_cons (ps_for PassesOwn.never rfl (pi_list (pv 0)) (pg_tup (by rfl) (pgs_cons (pg_name (i := 3) sc_law_built.nd rfl (Or.inl rfl)) (pgs_cons (pg_name (i := 4) sc_law_built.nd rfl (Or.inl rfl)) (pgs_cons (pg_name (i := 5) sc_law_built.nd rfl (Or.inl rfl)) pgs_nil))))
   (pss_one (ps_if (pt_cmpR (op_eqD hr.units) (pv 5) (pv 1) (nomark _)) (pss_cons (ps_set (i := 6) sc_law_built.nd rfl (Or.inl rfl) (pe_callC C_law_built (hr.mono (by omega)) rfl (pa_cons (pv 0) (pa_cons (pe_op op_catA (pv 1) (pe_tup (pa_cons (pv 3) pa_nil))) pa_nil))))
  (pss_one (ps_if (pt_cmpR op_eq (pe_ix ix_tup (pv 4) pe_int (fun _ _ => rfl)) pe_str (nomark _)) (pss_one (ps_expr (pe_bm PySem.F.plainAttrs_list PySem.F.slot_list_append PySem.F.type_list_append mt_append (pv 2) (pa_cons (pe_op op_catA (pe_slice sl_tupA (pv 4) po_none (po_some pe_int)) (pe_tup (pa_cons (pe_slice sl_tupA (pv 6) po_none (po_some (pe_callB call_len_seq (by rfl) T.len bb_len (pa_cons (pe_ix ix_tup (pv 4) pe_int (fun _ _ => rfl)) pa_nil)))) (pa_cons (pe_slice sl_tupA (pv 6) (po_some (pe_callB call_len_seq (by rfl) T.len bb_len (pa_cons (pe_ix ix_tup (pv 4) pe_int (fun _ _ => rfl)) pa_nil))) po_none) pa_nil)))) pa_nil)))) (pss_one (ps_expr (pe_bm PySem.F.plainAttrs_list PySem.F.slot_list_append PySem.F.type_list_append mt_append (pv 2) (pa_cons (pe_ifExp (pt_cmpR op_eq (pe_ix ix_tup (pv 4) pe_int (fun _ _ => rfl)) pe_str (nomark _)) (pe_op op_catA (pe_slice sl_tupA (pv 4) po_none (po_some pe_int)) (pe_tup (pa_cons (pv 6) pa_nil))) (pv 4)) pa_nil))))))) pss_nil)))
  (pss_one (ps_ret (pe_callTy call_tuple_of (by rfl) T.tuple bb_tuple (pa_cons (pv 2) pa_nil)))))), ?_⟩
    have hxl := hxs.length
    rw [List.length_map] at hxl
    refine ⟨by show 0 ≤ sizeLine; decide, fun lf nlf => ?_⟩
    have s0 := same_new nlf (o := .lst [])
    refine ⟨_, rfl, lr, rfl, ⟨_, .of (s0 _ _ hlr)⟩, for_it (walk_list (xs := xs)) (fun i σ H' => ∃ (x3 x4 x5 x6 : Option V) (ws : List V), σ = [some (.ref lr), some av, some (.ref lf), x3, x4, x5, x6] ∧ Same H H' ∧ H' lf = some (.lst ws) ∧ ws.length ≤ i ∧ TdA K H' ws (((F.take i).filter (ownB ar)).map fun t => t.2.1.d))
      ⟨none, none, none, none, [], rfl, s0, upd_same, Nat.le_refl _, by rw [List.take_zero]; exact tda_nil⟩ (fun i σ H' _ h => by obtain ⟨_, _, _, _, _, _, s, _⟩ := h; exact .of (s _ _ hlr)) ?_ ?_⟩
    · rintro i x σ H2 H1 hi ⟨x3, x4, x5, x6, ws, rfl, s1, h1, hwl, hws⟩ ⟨rfl, hx⟩
      obtain ⟨d, hd, hxd⟩ := (hxs.same s1).get hx
      rw [List.getElem?_map] at hd
      obtain ⟨t, ht, rfl⟩ := Option.map_eq_some_iff.mp hd
      have htm := List.mem_of_getElem? ht
      have etk : F.take (i + 1) = F.take i ++ [t] := by rw [List.take_succ, ht] <;> rfl
      obtain ⟨ta, v1, v2, v3, rfl, hs, g1, g2, g3⟩ := Td.t3 hxd
      obtain rfl := td_int.mp g1
      refine ⟨ta, _, rfl, hs, rfl, _, _, rfl, _, _, rfl, _, _, rfl, rfl, ?_⟩
      have hav1 := hav.same s1
      refine ⟨_, rfl, _, rfl, _, _, Td.dp _ g3, Td.dp _ hav1, (okD_ints (by have := hFo t htm; omega)).shaped (by decide), (okD_ints (by omega)).shaped (by decide), _, rfl, ?_⟩
      have eqv : PyData.eqv (.tuple (t.2.2.map fun (n : Nat) => .int (n : Int))) (.tuple (ar.map fun (n : Nat) => .int (n : Int))) = ownB ar t := by
        rw [PyData.eqv, eqv_ints]; rfl
      by_cases ho : ownB ar t = true
      case neg =>
        have ho' : ownB ar t = false := by simpa using ho
        refine iteF' (eqv.trans ho') ?_
        refine ⟨_, _, _, _, ws, rfl, s1, h1, by omega, ?_⟩
        rw [etk, List.filter_append, List.filter_cons, if_neg ho, List.filter_nil, List.append_nil]
        exact hws
      refine iteT' (eqv.trans ho) ?_
      have htt : t ∈ tops m ar ks := by rw [← hsub.1]; exact List.mem_filter.mpr ⟨htm, ho⟩
      obtain ⟨num, r, own⟩ := t
      have hrk : r ∈ ks := tops_mem ar m ks _ htt
      have hrd := (dps_mem.mp (Nat.le_refl (dps ks))) r hrk
      have hdk := r.dp_kids
      have ew : ((F.take (i + 1)).filter (ownB ar)).map (fun t => t.2.1.d) = ((F.take i).filter (ownB ar)).map (fun t => t.2.1.d) ++ [r.d] := by
        rw [etk, List.filter_append, List.filter_cons, if_pos ho, List.filter_nil, List.map_append]; rfl
      obtain ⟨aa, avs, rfl, ha1, havs⟩ := td_tup.mp hav1
      have havl := havs.length
      rw [List.length_map] at havl
      refine ⟨_, rfl, _, rfl, _, rfl, by show 1 ≤ sizeLine; decide, fun p2 np2 => ?_⟩
      have s2 := same_new np2 (o := .tup [V.int (num : Nat)])
      refine catA_of (same_tup s2 ha1) (.of upd_same) (by rw [sizeLine_eq, List.length_singleton]; omega) fun H3 p3 s3 hp3 => ?_
      have s23 := s2.trans s3
      have s13 := s1.trans s23
      have hd3 : Td K H3 (.ref p3) (intsD (ar ++ [num])) := td_tup.mpr ⟨p3, _, rfl, hp3, by
        rw [List.map_append]
        exact (havs.same s23).append (tda_cons.mpr ⟨td_int.mpr rfl, tda_nil⟩)⟩
      refine ⟨lr, .ref p3, xs, F, num + 1, ar ++ [num], r.kids, rfl, s13 _ _ hlr, hxs.same s13, hd3, (hsub.2 _ htt).mono (by omega), by omega, by rw [List.length_append, List.length_singleton]; omega, hFl, hFo, fun H4 v4 s4 t4 => ?_⟩
      have s14 := s13.trans s4
      have h4 := (s23.trans s4) _ _ h1
      have hws4 := hws.same (s23.trans s4)
      have hr4 : Td K H4 v2 r.d := g2.same (s23.trans s4)
      clear hd3 hp3 s13 s3 np2 s2 havs ha1 g3 g2 hs hxd hav1
      have finish : ∀ (x3 x4 x5 x6 : Option V) (H6 : Hp) (v6 : V), Same H4 H6 → Td K H6 v6 r.d → ∃ (x3' x4' x5' x6' : Option V) (ws' : List V), [some (V.ref lr), some (V.ref aa), some (V.ref lf), x3, x4, x5, x6] = [some (V.ref lr), some (V.ref aa), some (V.ref lf), x3', x4', x5', x6'] ∧ Same H (upd H6 lf (.lst (ws ++ [v6]))) ∧ upd H6 lf (.lst (ws ++ [v6])) lf = some (.lst ws') ∧ ws'.length ≤ i + 1 ∧ TdA K (upd H6 lf (.lst (ws ++ [v6]))) ws' (((F.take (i + 1)).filter (ownB ar)).map fun t => t.2.1.d) := fun x3 x4 x5 x6 H6 v6 s6 t6 => by
        refine ⟨x3, x4, x5, x6, ws ++ [v6], rfl, same_put (s14.trans s6) nlf, upd_same, by rw [List.length_append, List.length_singleton]; omega, ?_⟩
        rw [ew]
        exact TdA.put (s6 _ _ h4) ((hws4.same s6).append (tda_cons.mpr ⟨t6, tda_nil⟩))
      have hszw : ws.length < sizeLine := by rw [sizeLine_eq]; omega
      obtain ⟨ra, rest, rfl, hra, hrt⟩ := td_row hr4
      refine ⟨_, rfl, _, _, _, _, rfl, rfl, hra, at0, rfl, _, rfl, ?_⟩
      obtain ⟨va, vys, rfl, hva, hvys⟩ := td_tup.mp t4
      have hvyl := hvys.length
      rw [rowsD_map, List.length_map] at hvyl
      cases r with
      | lt op x e =>
        refine iteF' (hd_if _) ?_
        refine ⟨_, rfl, Or.inl ⟨rfl, _, SqL.of h4⟩, _, rfl, _, _, _, _, rfl, rfl, hra, at0, rfl, _, rfl, ?_⟩
        refine iteF' (hd_while (.lt op x e)) ?_
        refine ⟨_, rfl, lf, _, _, rfl, rfl, h4, hszw, ?_⟩
        exact finish _ _ _ _ H4 _ (Same.refl _) hr4
      | ask x h0 k =>
        refine iteF' (hd_if _) ?_
        refine ⟨_, rfl, Or.inl ⟨rfl, _, SqL.of h4⟩, _, rfl, _, _, _, _, rfl, rfl, hra, at0, rfl, _, rfl, ?_⟩
        refine iteF' (hd_while (.ask x h0 k)) ?_
        refine ⟨_, rfl, lf, _, _, rfl, rfl, h4, hszw, ?_⟩
        exact finish _ _ _ _ H4 _ (Same.refl _) hr4
      | say h0 e =>
        refine iteF' (hd_if _) ?_
        refine ⟨_, rfl, Or.inl ⟨rfl, _, SqL.of h4⟩, _, rfl, _, _, _, _, rfl, rfl, hra, at0, rfl, _, rfl, ?_⟩
        refine iteF' (hd_while (.say h0 e)) ?_
        refine ⟨_, rfl, lf, _, _, rfl, rfl, h4, hszw, ?_⟩
        exact finish _ _ _ _ H4 _ (Same.refl _) hr4
      | whl e ba =>
        refine iteF' (hd_if (.whl e ba)) ?_
        refine ⟨_, rfl, Or.inl ⟨rfl, _, SqL.of h4⟩, _, rfl, _, _, _, _, rfl, rfl, hra, at0, rfl, _, rfl, ?_⟩
        refine iteT' (hd_while (.whl e ba)) ?_
        obtain ⟨a', x, y, e1, ht', hx', _⟩ := td_whl hr4
        cases e1
        refine ⟨_, rfl, np ⟨_, rfl, slA_of ht' fun H5 p5 s5 hp5 => ?_⟩⟩
        rw [show ((2 : Int)) = ((2 : Nat) : Int) from rfl, cut_to] at hp5
        refine ⟨_, rfl, by show 1 ≤ sizeLine; decide, fun p6 np6 => ?_⟩
        have s6 := same_new np6 (o := .tup [V.ref va])
        refine catA_of (same_tup s6 hp5) (.of upd_same) (by rw [sizeLine_eq]; show 2 + 1 ≤ 16777216; decide) fun H7 p7 s7 hp7 => ?_
        have s57 := (s5.trans s6).trans s7
        refine ⟨lf, _, _, rfl, rfl, s57 _ _ h4, hszw, ?_⟩
        refine finish _ _ _ _ H7 _ s57 ?_
        rw [Row.d]
        refine td_tup.mpr ⟨p7, _, rfl, hp7, ?_⟩
        exact tda_cons.mpr ⟨td_str.mpr rfl, tda_cons.mpr ⟨hx'.same s57, tda_cons.mpr ⟨td_tup.mpr ⟨va, vys, rfl, same_tup s57 hva, hvys.same s57⟩, tda_nil⟩⟩⟩
      | iff e ba bb =>
        refine iteT' (hd_if (.iff e ba bb)) ?_
        obtain ⟨a', x, y, z, e1, ht', hx', hy', _⟩ := td_iff' hr4
        cases e1
        obtain ⟨ya, ys, rfl, hya, hys⟩ := td_tup.mp hy'
        have hyl := hys.length
        rw [rowsD_map, List.length_map] at hyl
        have hk : (Row.iff e ba bb).kids = ba ++ bb := rfl
        rw [hk, rowsD_map, List.map_append] at hvys
        obtain ⟨hva1, hva2⟩ := TdA.split hvys
        rw [List.length_map] at hva1 hva2
        refine ⟨_, rfl, Or.inl ⟨rfl, _, SqL.of h4⟩, _, rfl, np ⟨_, rfl, slA_of ht' fun H5 p5 s5 hp5 => ?_⟩⟩
        rw [show ((2 : Int)) = ((2 : Nat) : Int) from rfl, cut_to] at hp5
        refine ⟨_, rfl, np ⟨_, rfl, _, _, _, _, rfl, rfl, same_tup s5 ht', rfl, _, _, rfl, .inr (same_tup s5 hya), _, rfl, slA_of (same_tup s5 hva) fun H6 p6 s6 hp6 => ?_⟩⟩
        rw [hyl, cut_to] at hp6
        have s56 := s5.trans s6
        refine ⟨_, rfl, _, rfl, _, _, _, _, rfl, rfl, same_tup s56 ht', rfl, _, _, rfl, .inr (same_tup s56 hya), _, rfl, np (slA_of (same_tup s56 hva) fun H7 p7 s7 hp7 => ?_)⟩
        rw [hyl, cut_from] at hp7
        refine ⟨by show 2 ≤ sizeLine; decide, fun p8 np8 => ?_⟩
        have s8 := same_new np8 (o := .tup [V.ref p6, V.ref p7])
        refine catA_of (same_tup ((s6.trans s7).trans s8) hp5) (.of upd_same) (by rw [sizeLine_eq]; show 2 + 2 ≤ 16777216; decide) fun H9 p9 s9 hp9 => ?_
        have s59 := ((s56.trans s7).trans s8).trans s9
        refine ⟨lf, _, _, rfl, rfl, s59 _ _ h4, hszw, ?_⟩
        refine finish _ _ _ _ H9 _ s59 ?_
        rw [Row.d]
        refine td_tup.mpr ⟨p9, _, rfl, hp9, ?_⟩
        rw [rowsD_map, rowsD_map]
        exact tda_cons.mpr ⟨td_str.mpr rfl, tda_cons.mpr ⟨hx'.same s59, tda_cons.mpr ⟨td_tup.mpr ⟨p6, _, rfl, same_tup ((s7.trans s8).trans s9) hp6, hva1.same s59⟩, tda_cons.mpr ⟨td_tup.mpr ⟨p7, _, rfl, same_tup (s8.trans s9) hp7, hva2.same s59⟩, tda_nil⟩⟩⟩⟩
    · rintro σ H1 ⟨x3, x4, x5, x6, ws, rfl, s1, h1, hwl, hws⟩
      rw [hxl, List.take_length, hsub.1, tops_rows] at hws
      refine ⟨_, rfl, _, _, rfl, .inl ⟨.of h1, fun pt npt => ?_⟩⟩
      exact q _ _ (s1.trans (same_new npt)) (Td.new npt hws)
end
end Tw
set_option Elab.async false
set_option linter.all false
set_option maxRecDepth 100000
set_option maxHeartbeats 4000000
namespace Tw
open PySem PySem.Spec PyProof.Rows L2 TL
/-! ### names changed: rows, words, lines -/
structure Chg (f : Str → Str) (ns : List Str) : Prop where
  ok : ∀ x ∈ ns, isName x = true ∧ x ≠ "name" ∧ x ≠ "number"
  nm : ∀ x ∈ ns, isName (f x) = true
  inj : ∀ x ∈ ns, ∀ y ∈ ns, f x = f y → x = y
  hs : ∀ h, isHouse h = true → isHouse (f h) = true
  fix : ∀ w, w ∉ ns → isHouse w = false → f w = w
def E.ren (f : Str → Str) : E → E
  | .num n => .num n
  | .nam x => .nam (f x)
  | .bin o a b => .bin o (a.ren f) (b.ren f)
mutual
def Row.ren (f : Str → Str) : Row → Row
  | .lt op x e => .lt op (f x) (e.ren f)
  | .ask x h k => .ask (f x) (f h) k
  | .say h e => .say (f h) (e.ren f)
  | .iff e a b => .iff (e.ren f) (rens' f a) (rens' f b)
  | .whl e a => .whl (e.ren f) (rens' f a)
def rens' (f : Str → Str) : List Row → List Row
  | [] => []
  | r :: rs => r.ren f :: rens' f rs
end
theorem rens'_map (f : Str → Str) : ∀ rs : List Row, rens' f rs = rs.map (Row.ren f)
  | [] => rfl
  | r :: rs => by rw [rens', rens'_map f rs]; rfl
theorem numS_house (n : Nat) : isHouse (numS n) = false := by
  cases h : isHouse (numS n) with
  | false => rfl
  | true =>
    exfalso
    have key : ∀ w : Str, (101 ∈ tl w ∨ 119 ∈ tl w) → numS n ≠ w := fun w hw e => by
      rw [← e, tl_numS] at hw
      rcases hw with h | h
      · have := numL_digits n _ h; revert this; decide
      · have := numL_digits n _ h; revert this; decide
    rcases house_ok h with e | e
    · exact key _ (.inl (by decide +kernel)) e
    · exact key _ (.inr (by decide +kernel)) e
section
variable {f : Str → Str} {ns : List Str}
theorem Chg.lit (C : Chg f ns) {w : Str} (h1 : isName w = false) (h2 : isHouse w = false) : f w = w :=
  C.fix w (fun h => by rw [(C.ok w h).1] at h1; cases h1) h2
theorem Chg.num (C : Chg f ns) (n : Nat) : f (numS n) = numS n := C.lit fig_name (numS_house n)
theorem Chg.tname (C : Chg f ns) : f "name" = "name" := C.fix _ (fun h => (C.ok _ h).2.1 rfl) (by decide +kernel)
theorem Chg.tnumber (C : Chg f ns) : f "number" = "number" := C.fix _ (fun h => (C.ok _ h).2.2 rfl) (by decide +kernel)
theorem Chg.op (C : Chg f ns) (o : Op) : f o.w = o.w := by cases o <;> exact C.lit (by decide +kernel) (by decide +kernel)
theorem Chg.ltw (C : Chg f ns) (b : Bool) : f (Tw.ltw b) = Tw.ltw b := by cases b <;> exact C.lit (by decide +kernel) (by decide +kernel)
theorem E.ren_d (C : Chg f ns) : ∀ e : E, Tw.ren f e.d = (e.ren f).d
  | .num n => by show PyData.tuple [.str (f "number"), _] = _; rw [C.tnumber]; rfl
  | .nam x => by show PyData.tuple [.str (f "name"), .str (f x)] = _; rw [C.tname]; rfl
  | .bin o a b => by
    show PyData.tuple [.str (f o.w), Tw.ren f a.d, Tw.ren f b.d] = _
    rw [C.op, E.ren_d C a, E.ren_d C b]; rfl
theorem E.ren_words (C : Chg f ns) : ∀ e : E, (e.ren f).words = e.words.map f
  | .num n => by show [numS n] = [f (numS n)]; rw [C.num]
  | .nam x => rfl
  | .bin o a b => by
    show o.w :: ((a.ren f).words ++ (b.ren f).words) = (o.w :: (a.words ++ b.words)).map f
    rw [E.ren_words C a, E.ren_words C b, List.map_cons, List.map_append, C.op]
theorem E.ren_vars : ∀ e : E, (e.ren f).vars = e.vars.map f
  | .num n => rfl
  | .nam x => rfl
  | .bin o a b => by
    show (a.ren f).vars ++ (b.ren f).vars = (a.vars ++ b.vars).map f
    rw [E.ren_vars a, E.ren_vars b, List.map_append]
theorem E.ren_deep : ∀ e : E, (e.ren f).deep = e.deep
  | .num n => rfl
  | .nam x => rfl
  | .bin o a b => by show 1 + max _ _ = 1 + max _ _; rw [E.ren_deep a, E.ren_deep b]
theorem E.ren_parts : ∀ e : E, (e.ren f).parts = e.parts
  | .num n => rfl
  | .nam x => rfl
  | .bin o a b => by show 1 + _ + _ = 1 + _ + _; rw [E.ren_parts a, E.ren_parts b]
theorem E.ren_wf (C : Chg f ns) : ∀ e : E, e.wf = true → (∀ x ∈ e.vars, x ∈ ns) → (e.ren f).wf = true
  | .num n, h, _ => h
  | .nam x, h, hv => C.nm x (hv x (by simp [E.vars]))
  | .bin o a b, h, hv => by
    obtain ⟨w1, w2⟩ := Bool.and_eq_true_iff.mp (show (a.wf && b.wf) = true from h)
    show ((a.ren f).wf && (b.ren f).wf) = true
    rw [E.ren_wf C a w1 fun x hx => hv x (List.mem_append_left _ hx), E.ren_wf C b w2 fun x hx => hv x (List.mem_append_right _ hx)]
    rfl
theorem E.ren_ok (C : Chg f ns) {e : E} (h : e.ok) (hv : ∀ x ∈ e.vars, x ∈ ns) : (e.ren f).ok := ⟨e.ren_wf C h.1 hv, by rw [e.ren_deep]; exact h.2.1, by rw [e.ren_parts]; exact h.2.2⟩
theorem E.ren_val {g g' : Str → Int} : ∀ e : E, (∀ x ∈ e.vars, g' (f x) = g x) → (e.ren f).val g' = e.val g
  | .num n, _ => rfl
  | .nam x, h => h x (by simp [E.vars])
  | .bin o a b, h => by
    show o.val _ _ = o.val _ _
    rw [E.ren_val a fun x hx => h x (List.mem_append_left _ hx), E.ren_val b fun x hx => h x (List.mem_append_right _ hx)]
mutual
theorem Row.ren_d (C : Chg f ns) : ∀ r : Row, Tw.ren f r.d = (r.ren f).d
  | .lt op x e => by
    rw [Row.ren, Row.d, Row.d]
    show PyData.tuple [.str (f (Tw.ltw op)), .str (f x), Tw.ren f e.d] = _
    rw [C.ltw, E.ren_d C e]
  | .ask x h k => by
    rw [Row.ren, Row.d, Row.d]
    show PyData.tuple [.str (f "ask"), .str (f x), .str (f h), .bool k] = _
    rw [C.lit (w := "ask") (by decide +kernel) (by decide +kernel)]
  | .say h e => by
    rw [Row.ren, Row.d, Row.d]
    show PyData.tuple [.str (f "say"), .str (f h), Tw.ren f e.d] = _
    rw [C.lit (w := "say") (by decide +kernel) (by decide +kernel), E.ren_d C e]
  | .iff e a b => by
    rw [Row.ren, Row.d, Row.d]
    show PyData.tuple [.str (f "if"), Tw.ren f e.d, .tuple (rens f (rowsD a)), .tuple (rens f (rowsD b))] = _
    rw [C.lit (w := "if") (by decide +kernel) (by decide +kernel), E.ren_d C e, rows_ren_d C a, rows_ren_d C b]
  | .whl e a => by
    rw [Row.ren, Row.d, Row.d]
    show PyData.tuple [.str (f "while"), Tw.ren f e.d, .tuple (rens f (rowsD a))] = _
    rw [C.lit (w := "while") (by decide +kernel) (by decide +kernel), E.ren_d C e, rows_ren_d C a]
theorem rows_ren_d (C : Chg f ns) : ∀ rs : List Row, rens f (rowsD rs) = rowsD (rens' f rs)
  | [] => by rw [rowsD, rens', rens, rowsD]
  | r :: rs => by rw [rowsD, rens', rens, rowsD, Row.ren_d C r, rows_ren_d C rs]
end
mutual
theorem Row.ren_cnt : ∀ r : Row, (r.ren f).cnt = r.cnt
  | .lt _ _ _ => by rw [Row.ren]; rfl
  | .ask _ _ _ => by rw [Row.ren]; rfl
  | .say _ _ => by rw [Row.ren]; rfl
  | .iff e a b => by rw [Row.ren, Row.cnt, Row.cnt, rens_cnt a, rens_cnt b]
  | .whl e a => by rw [Row.ren, Row.cnt, Row.cnt, rens_cnt a]
theorem rens_cnt : ∀ rs : List Row, cnts (rens' f rs) = cnts rs
  | [] => by rw [rens']
  | r :: rs => by rw [rens', cnts, cnts, Row.ren_cnt r, rens_cnt rs]
end
mutual
theorem Row.ren_dp : ∀ r : Row, (r.ren f).dp = r.dp
  | .lt _ _ _ => by rw [Row.ren]; rfl
  | .ask _ _ _ => by rw [Row.ren]; rfl
  | .say _ _ => by rw [Row.ren]; rfl
  | .iff e a b => by rw [Row.ren, Row.dp, Row.dp, rens_dp a, rens_dp b]
  | .whl e a => by rw [Row.ren, Row.dp, Row.dp, rens_dp a]
theorem rens_dp : ∀ rs : List Row, dps (rens' f rs) = dps rs
  | [] => by rw [rens']
  | r :: rs => by rw [rens', dps, dps, Row.ren_dp r, rens_dp rs]
end
theorem Row.ren_words (C : Chg f ns) (r : Row) : (r.ren f).words = r.words.map f := by
  cases r with
  | lt op x e =>
    rw [Row.ren, Row.words, Row.words, E.ren_words C e, List.map_cons, List.map_cons, List.map_cons, C.ltw, C.lit (w := "=") (by decide +kernel) (by decide +kernel)]
  | ask x h k =>
    rw [Row.ren, Row.words, Row.words, List.map_cons, List.map_cons, List.map_cons, C.lit (w := "ask") (by decide +kernel) (by decide +kernel)]
    cases k
    · rfl
    · show _ = _ :: _ :: _ :: [f "kept"]
      rw [C.lit (w := "kept") (by decide +kernel) (by decide +kernel)]; rfl
  | say h e => rw [Row.ren, Row.words, Row.words, E.ren_words C e, List.map_cons, List.map_cons, C.lit (w := "say") (by decide +kernel) (by decide +kernel)]
  | iff e a b => rw [Row.ren, Row.words, Row.words, E.ren_words C e, List.map_cons, C.lit (w := "if") (by decide +kernel) (by decide +kernel)]
  | whl e a => rw [Row.ren, Row.words, Row.words, E.ren_words C e, List.map_cons, C.lit (w := "while") (by decide +kernel) (by decide +kernel)]
theorem Row.ren_vars (r : Row) : (r.ren f).vars = r.vars.map f := by
  cases r <;> simp [Row.ren, Row.vars, Row.evars, Row.told, Row.expr, E.ren_vars]
theorem Row.ren_expr (r : Row) : (r.ren f).expr = r.expr.map (E.ren f) := by cases r <;> rw [Row.ren] <;> rfl
end
end Tw
set_option Elab.async false
set_option linter.all false
set_option maxRecDepth 100000
set_option maxHeartbeats 4000000
namespace Tw
open PySem PySem.Spec PyProof.Rows L2 TL
/-! ### lines as words, the blanks ahead as empty words -/
def rep (d : Nat) (ws : List Str) : List Str := List.replicate (2 * d) ("" : Str) ++ ws
mutual
def Row.linesW (d : Nat) : Row → List (List Str)
  | .iff e a b => rep d (Row.words (.iff e a b)) :: (linessW (d + 1) a ++ match b with
    | [] => []
    | r :: rs => rep d ["else"] :: (r.linesW (d + 1) ++ linessW (d + 1) rs))
  | .whl e a => rep d (Row.words (.whl e a)) :: linessW (d + 1) a
  | .lt op x e => [rep d (Row.words (.lt op x e))]
  | .ask x h k => [rep d (Row.words (.ask x h k))]
  | .say h e => [rep d (Row.words (.say h e))]
def linessW (d : Nat) : List Row → List (List Str)
  | [] => []
  | r :: rs => r.linesW d ++ linessW d rs
end
theorem tl_empty : tl ("" : Str) = [] := by decide +kernel
theorem joinL_rep (ps : List (List Nat)) (h : ps ≠ []) : ∀ k, joinL [32] (List.replicate k [] ++ ps) = List.replicate k 32 ++ joinL [32] ps
  | 0 => rfl
  | k + 1 => by
    have ih := joinL_rep ps h k
    rw [List.replicate_succ, List.cons_append, List.replicate_succ, List.cons_append, ← ih]
    cases e : List.replicate k [] ++ ps with
    | nil => exact absurd (List.append_eq_nil_iff.mp e).2 h
    | cons q qs =>
      have : joinL [32] ([] :: q :: qs) = [] ++ [32] ++ joinL [32] (q :: qs) := by first | rfl | simp [joinL]
      rw [this]; rfl
theorem join_rep (d : Nat) {ws : List Str} (h : ws ≠ []) : Str.join sp (rep d ws) = ahead d ++ Str.join sp ws := ext_tl (by
  rw [tl_join, tl_append, tl_ahead, tl_join, tl_sp, rep, List.map_append, List.map_replicate, tl_empty, joinL_rep _ (by simpa using h)])
theorem join_one (x : Str) : Str.join sp [x] = x := ext_tl (by rw [tl_join]; rfl)
section
variable {f : Str → Str} {ns : List Str}
theorem Chg.empty (C : Chg f ns) : f "" = "" := C.lit (by decide +kernel) (by decide +kernel)
theorem rep_map (C : Chg f ns) (d : Nat) (ws : List Str) : (rep d ws).map f = rep d (ws.map f) := by
  unfold rep
  rw [List.map_append, List.map_replicate, C.empty]
theorem Row.line_W (d : Nat) (r : Row) : Row.line d r = Str.join sp (rep d r.words) := by
  rw [join_rep d r.words_ne]; rfl
theorem else_W (d : Nat) : ahead d ++ "else" = Str.join sp (rep d ["else"]) := by
  rw [join_rep d (by simp), join_one]
mutual
theorem Row.lines_W (d : Nat) : ∀ r : Row, r.lines d = (r.linesW d).map (Str.join sp)
  | .iff e a b => by
    cases b with
    | nil => rw [Row.lines, Row.linesW, List.map_cons, List.map_append, Row.line_W, liness_W _ a]; rfl
    | cons r rs => rw [Row.lines, Row.linesW, List.map_cons, List.map_append, List.map_cons, List.map_append, Row.line_W, liness_W _ a, else_W, Row.lines_W _ r, liness_W _ rs]
  | .whl e a => by rw [Row.lines, Row.linesW, List.map_cons, Row.line_W, liness_W _ a]
  | .lt op x e => by rw [Row.lines, Row.linesW, Row.line_W]; rfl
  | .ask x h k => by rw [Row.lines, Row.linesW, Row.line_W]; rfl
  | .say h e => by rw [Row.lines, Row.linesW, Row.line_W]; rfl
theorem liness_W (d : Nat) : ∀ rs : List Row, liness d rs = (linessW d rs).map (Str.join sp)
  | [] => by rw [liness, linessW]; rfl
  | r :: rs => by rw [liness, linessW, List.map_append, Row.lines_W d r, liness_W d rs]
end
mutual
theorem Row.linesW_ren (C : Chg f ns) (d : Nat) : ∀ r : Row, (r.ren f).linesW d = (r.linesW d).map (List.map f)
  | .iff e a b => by
    have hw := Row.ren_words C (.iff e a b)
    rw [Row.ren] at hw ⊢
    cases b with
    | nil => rw [rens', Row.linesW, Row.linesW, List.map_cons, List.map_append, rep_map C, ← hw, linessW_ren C _ a, rens']; rfl
    | cons r rs =>
      rw [rens'] at hw ⊢
      rw [Row.linesW, Row.linesW, List.map_cons, List.map_append, rep_map C, ← hw, linessW_ren C _ a, List.map_cons, List.map_append, rep_map C, Row.linesW_ren C _ r, linessW_ren C _ rs, List.map_singleton, C.lit (w := "else") (by decide +kernel) (by decide +kernel)]
  | .whl e a => by
    have hw := Row.ren_words C (.whl e a)
    rw [Row.ren] at hw ⊢
    rw [Row.linesW, Row.linesW, List.map_cons, rep_map C, ← hw, linessW_ren C _ a]
  | .lt op x e => by
    have hw := Row.ren_words C (.lt op x e)
    rw [Row.ren] at hw ⊢
    rw [Row.linesW, Row.linesW, List.map_singleton, rep_map C, ← hw]
  | .ask x h k => by
    have hw := Row.ren_words C (.ask x h k)
    rw [Row.ren] at hw ⊢
    rw [Row.linesW, Row.linesW, List.map_singleton, rep_map C, ← hw]
  | .say h e => by
    have hw := Row.ren_words C (.say h e)
    rw [Row.ren] at hw ⊢
    rw [Row.linesW, Row.linesW, List.map_singleton, rep_map C, ← hw]
theorem linessW_ren (C : Chg f ns) (d : Nat) : ∀ rs : List Row, linessW d (rens' f rs) = (linessW d rs).map (List.map f)
  | [] => by rw [rens', linessW]; rfl
  | r :: rs => by rw [rens', linessW, linessW, List.map_append, Row.linesW_ren C d r, linessW_ren C d rs]
end
/-- a line's words -/
structure LW (ws : List Str) : Prop where
  ne : ws ≠ []
  len : ws.length ≤ 100
  ok : ∀ w ∈ ws, w = "" ∨ Wd w
theorem lw_rep {d : Nat} (hd : d ≤ 10) {ws : List Str} (h1 : ws ≠ []) (h2 : ws.length ≤ 50) (h3 : ∀ w ∈ ws, Wd w) : LW (rep d ws) := by
  unfold rep
  refine ⟨fun z => h1 (List.append_eq_nil_iff.mp z).2, by rw [List.length_append, List.length_replicate]; omega, fun w hw => ?_⟩
  rcases List.mem_append.mp hw with h | h
  · exact .inl (List.mem_replicate.mp h).2
  · exact .inr (h3 w h)
theorem lw_row {hm : Str → Str} (hh : HsOk hm) {d : Nat} (hd : d ≤ 10) {r : Row} (h : r.ok hm) : LW (rep d r.words) := lw_rep hd r.words_ne (by have := r.words_len h; omega) (r.words_wd hh h)
theorem lw_else {d : Nat} (hd : d ≤ 10) : LW (rep d ["else"]) := lw_rep hd (by simp) (by simp) fun w hw => by rw [List.mem_singleton.mp hw]; exact wd_lit (by decide +kernel)
mutual
theorem Row.linesW_ok {hm : Str → Str} (hh : HsOk hm) (d : Nat) : ∀ r : Row, r.ok hm → d + r.dp ≤ 10 → ∀ ws ∈ r.linesW d, LW ws
  | .iff e a b, h, hd, ws, hx => by
    have hd' : d + (1 + max (dps a) (dps b)) ≤ 10 := hd
    obtain ⟨o1, o2, o3⟩ : e.ok ∧ oks hm a ∧ oks hm b := id h
    cases b with
    | nil =>
      rw [Row.linesW] at hx
      rcases List.mem_cons.mp hx with e1 | hx
      · rw [e1]; exact lw_row hh (by omega) h
      · rw [List.append_nil] at hx
        exact linessW_ok hh (d + 1) a o2 (by omega) ws hx
    | cons r rs =>
      have hd2 : d + 1 + max r.dp (dps rs) ≤ 10 := by have : dps (r :: rs) = max r.dp (dps rs) := rfl; omega
      rw [Row.linesW] at hx
      rcases List.mem_cons.mp hx with e1 | hx
      · rw [e1]; exact lw_row hh (by omega) h
      · rcases List.mem_append.mp hx with hx | hx
        · exact linessW_ok hh (d + 1) a o2 (by omega) ws hx
        · rcases List.mem_cons.mp hx with e1 | hx
          · rw [e1]; exact lw_else (by omega)
          · rcases List.mem_append.mp hx with hx | hx
            · exact Row.linesW_ok hh (d + 1) r o3.1 (by omega) ws hx
            · exact linessW_ok hh (d + 1) rs o3.2 (by omega) ws hx
  | .whl e a, h, hd, ws, hx => by
    have hd' : d + (1 + dps a) ≤ 10 := hd
    rw [Row.linesW] at hx
    rcases List.mem_cons.mp hx with e1 | hx
    · rw [e1]; exact lw_row hh (by omega) h
    · exact linessW_ok hh (d + 1) a h.2 (by omega) ws hx
  | .lt op y e, h, hd, ws, hx => by
    have hd' : d + 1 ≤ 10 := hd
    rw [Row.linesW, List.mem_singleton] at hx; rw [hx]; exact lw_row hh (by omega) h
  | .ask y h0 k, h, hd, ws, hx => by
    have hd' : d + 1 ≤ 10 := hd
    rw [Row.linesW, List.mem_singleton] at hx; rw [hx]; exact lw_row hh (by omega) h
  | .say h0 e, h, hd, ws, hx => by
    have hd' : d + 1 ≤ 10 := hd
    rw [Row.linesW, List.mem_singleton] at hx; rw [hx]; exact lw_row hh (by omega) h
theorem linessW_ok {hm : Str → Str} (hh : HsOk hm) (d : Nat) : ∀ rs : List Row, oks hm rs → d + dps rs ≤ 10 → ∀ ws ∈ linessW d rs, LW ws
  | [], _, _, ws, hx => by simp [linessW] at hx
  | r :: rs, h, hd, ws, hx => by
    have hd' : d + max r.dp (dps rs) ≤ 10 := hd
    rw [linessW] at hx
    rcases List.mem_append.mp hx with hx | hx
    · exact Row.linesW_ok hh d r h.1 (by omega) ws hx
    · exact linessW_ok hh d rs h.2 (by omega) ws hx
end
theorem Chg.wd (C : Chg f ns) {w : Str} (h : Wd w) : Wd (f w) := by
  by_cases h1 : w ∈ ns
  · exact wd_name (C.nm w h1)
  · cases h2 : isHouse w with
    | true => exact wd_house (C.hs w h2)
    | false => rw [C.fix w h1 h2]; exact h
theorem LW.lines (C : Chg f ns) {ws : List Str} (h : LW ws) : ws ≠ [] ∧ ws.length ≤ 1000 ∧ ∀ w ∈ ws, 32 ∉ tl w ∧ 10 ∉ tl w ∧ w.length ≤ 10 ∧ (f w).length ≤ 10 := ⟨h.ne, by have := h.len; omega, fun w hw => by
  rcases h.ok w hw with e | e
  · rw [e, C.empty, tl_empty]
    exact ⟨by simp, by simp, by decide +kernel, by decide +kernel⟩
  · exact ⟨e.no32, e.no10, e.len, (C.wd e).len⟩⟩
/-! ### the rows told, renamed -/
def itN (f : Str → Str) (t : Item) : Item := (t.1, t.2.1.ren f, t.2.2)
mutual
theorem Row.flat_ren (n : Nat) (ar : List Nat) : ∀ r : Row, (r.ren f).flat n ar = (r.flat n ar).map (itN f)
  | .iff e a b => by
    have h := Row.ren.eq_def f (.iff e a b)
    rw [Row.flat, List.map_cons, List.map_append, ← flats_ren _ _ a, ← flats_ren _ _ b, ← rens_cnt (f := f) a]
    show _ = (n, (Row.iff e a b).ren f, ar) :: _
    rw [Row.ren, Row.flat]
  | .whl e a => by
    rw [Row.flat, List.map_cons, ← flats_ren _ _ a]
    show _ = (n, (Row.whl e a).ren f, ar) :: _
    rw [Row.ren, Row.flat]
  | .lt op x e => by rw [Row.ren, Row.flat, Row.flat, List.map_singleton]; show _ = [(n, (Row.lt op x e).ren f, ar)]; rw [Row.ren]
  | .ask x h k => by rw [Row.ren, Row.flat, Row.flat, List.map_singleton]; show _ = [(n, (Row.ask x h k).ren f, ar)]; rw [Row.ren]
  | .say h e => by rw [Row.ren, Row.flat, Row.flat, List.map_singleton]; show _ = [(n, (Row.say h e).ren f, ar)]; rw [Row.ren]
theorem flats_ren (n : Nat) (ar : List Nat) : ∀ rs : List Row, flats n ar (rens' f rs) = (flats n ar rs).map (itN f)
  | [] => by rw [rens', flats]; rfl
  | r :: rs => by rw [rens', flats, flats, List.map_append, Row.flat_ren n ar r, Row.ren_cnt, flats_ren _ ar rs]
end
end
end Tw
set_option Elab.async false
set_option linter.all false
set_option maxRecDepth 100000
set_option maxHeartbeats 4000000
namespace Tw
open PySem PySem.Spec PyProof.Rows L2 TL
/-! ### the names of a program's rows -/
mutual
theorem Row.inn_of {p : Str → Prop} (n : Nat) (ar : List Nat) : ∀ r : Row, (∀ t ∈ r.flat n ar, ∀ x ∈ t.2.1.vars, p x) → r.inn p
  | .lt op x e, h => by
    have h0 := h (n, .lt op x e, ar) (by rw [Row.flat]; simp)
    exact ⟨h0 x (List.mem_cons_self), fun y hy => h0 y (List.mem_cons_of_mem _ hy)⟩
  | .ask x h0 k, h => h (n, .ask x h0 k, ar) (by rw [Row.flat]; simp) x List.mem_cons_self
  | .say h0 e, h => fun y hy => h (n, .say h0 e, ar) (by rw [Row.flat]; simp) y hy
  | .iff e a b, h => by
    rw [Row.flat] at h
    exact ⟨fun y hy => h (n, .iff e a b, ar) List.mem_cons_self y hy, inns_of _ _ a fun t ht => h t (List.mem_cons_of_mem _ (List.mem_append_left _ ht)), inns_of _ _ b fun t ht => h t (List.mem_cons_of_mem _ (List.mem_append_right _ ht))⟩
  | .whl e a, h => by
    rw [Row.flat] at h
    exact ⟨fun y hy => h (n, .whl e a, ar) List.mem_cons_self y hy, inns_of _ _ a fun t ht => h t (List.mem_cons_of_mem _ ht)⟩
theorem inns_of {p : Str → Prop} (n : Nat) (ar : List Nat) : ∀ rs : List Row, (∀ t ∈ flats n ar rs, ∀ x ∈ t.2.1.vars, p x) → inns p rs
  | [], _ => trivial
  | r :: rs, h => by
    rw [flats] at h
    exact ⟨Row.inn_of n ar r fun t ht => h t (List.mem_append_left _ ht), inns_of _ ar rs fun t ht => h t (List.mem_append_right _ ht)⟩
end
theorem Row.inn_vars {p : Str → Prop} {r : Row} (h : r.inn p) : ∀ x ∈ r.vars, p x := by
  intro x hx
  cases r with
  | lt op y e =>
    rcases List.mem_cons.mp (show x ∈ y :: e.vars from hx) with e1 | hx
    · rw [e1]; exact h.1
    · exact h.2 x hx
  | ask y h0 k => rw [List.mem_singleton.mp (show x ∈ [y] from hx)]; exact h
  | say h0 e => exact h x hx
  | iff e a b => exact h.1 x hx
  | whl e a => exact h.1 x hx
mutual
theorem Row.inn_flat {p : Str → Prop} (n : Nat) (ar : List Nat) : ∀ r : Row, r.inn p → ∀ t ∈ r.flat n ar, t.2.1.inn p
  | .lt op x e, h, t, ht => by rw [Row.flat] at ht; rw [List.mem_singleton.mp ht]; exact h
  | .ask x h0 k, h, t, ht => by rw [Row.flat] at ht; rw [List.mem_singleton.mp ht]; exact h
  | .say h0 e, h, t, ht => by rw [Row.flat] at ht; rw [List.mem_singleton.mp ht]; exact h
  | .iff e a b, h, t, ht => by
    rw [Row.flat] at ht
    rcases List.mem_cons.mp ht with e1 | ht
    · rw [e1]; exact h
    · rcases List.mem_append.mp ht with ht | ht
      · exact inns_flat _ _ a h.2.1 t ht
      · exact inns_flat _ _ b h.2.2 t ht
  | .whl e a, h, t, ht => by
    rw [Row.flat] at ht
    rcases List.mem_cons.mp ht with e1 | ht
    · rw [e1]; exact h
    · exact inns_flat _ _ a h.2 t ht
theorem inns_flat {p : Str → Prop} (n : Nat) (ar : List Nat) : ∀ rs : List Row, inns p rs → ∀ t ∈ flats n ar rs, t.2.1.inn p
  | [], _, t, ht => by simp [flats] at ht
  | r :: rs, h, t, ht => by
    rw [flats] at ht
    rcases List.mem_append.mp ht with ht | ht
    · exact Row.inn_flat n ar r h.1 t ht
    · exact inns_flat _ ar rs h.2 t ht
end
theorem mem_varsOf {l : List Item} {x : Str} : x ∈ varsOf l ↔ ∃ t ∈ l, x ∈ t.2.1.vars := by
  unfold varsOf
  rw [List.mem_flatMap]
theorem Pg.vars_inn {p : Pg} {q : Str → Prop} (h : inns q p.rs) : ∀ x ∈ p.vars, q x := fun x hx => by
  obtain ⟨t, ht, hx⟩ := mem_varsOf.mp hx
  exact Row.inn_vars (inns_flat 1 [] p.rs h t ht) x hx
theorem Pg.inn_vars (p : Pg) {q : Str → Prop} (h : ∀ x ∈ p.vars, q x) : inns q p.rs := inns_of 1 [] p.rs fun t ht x hx => h x (mem_varsOf.mpr ⟨t, ht, hx⟩)
/-! ### the renamed program -/
section
variable {f : Str → Str} {ns : List Str} {hm hm' : Str → Str}
mutual
theorem Row.ren_okr (C : Chg f ns) (hh : ∀ x ∈ ns, hm' (f x) = f (hm x)) : ∀ r : Row, r.ok hm → r.inn (· ∈ ns) → (r.ren f).ok hm'
  | .lt op x e, h, i => by rw [Row.ren]; exact ⟨C.nm x i.1, E.ren_ok C h.2 i.2⟩
  | .ask x h0 k, h, i => by rw [Row.ren]; exact ⟨C.nm x i, by rw [h.2, hh x i]⟩
  | .say h0 e, h, i => by rw [Row.ren]; exact ⟨C.hs h0 h.1, E.ren_ok C h.2 i⟩
  | .iff e a b, h, i => by
    obtain ⟨o1, o2, o3⟩ : e.ok ∧ oks hm a ∧ oks hm b := id h
    rw [Row.ren]; exact ⟨E.ren_ok C o1 i.1, rens_okr C hh a o2 i.2.1, rens_okr C hh b o3 i.2.2⟩
  | .whl e a, h, i => by
    obtain ⟨o1, o2⟩ : e.ok ∧ oks hm a := id h
    rw [Row.ren]; exact ⟨E.ren_ok C o1 i.1, rens_okr C hh a o2 i.2⟩
theorem rens_okr (C : Chg f ns) (hh : ∀ x ∈ ns, hm' (f x) = f (hm x)) : ∀ rs : List Row, oks hm rs → inns (· ∈ ns) rs → oks hm' (rens' f rs)
  | [], _, _ => by rw [rens']; trivial
  | r :: rs, h, i => by rw [rens']; exact ⟨Row.ren_okr C hh r h.1 i.1, rens_okr C hh rs h.2 i.2⟩
end
theorem ren_ne {rs : List Row} (h : rs ≠ []) : rens' f rs ≠ [] := by
  cases rs with
  | nil => exact absurd rfl h
  | cons r rs => rw [rens']; simp
/-- the houses of the renamed names -/
def homeR (f : Str → Str) (ns : List Str) (hm : Str → Str) (y : Str) : Str := match ns.find? (fun x => decide (f x = y)) with
  | some x => f (hm x)
  | none => "east"
theorem homeR_at (C : Chg f ns) {x : Str} (hx : x ∈ ns) : homeR f ns hm (f x) = f (hm x) := by
  unfold homeR
  cases h : ns.find? (fun z => decide (f z = f x)) with
  | none =>
    have := List.find?_eq_none.mp h x hx
    simp at this
  | some z =>
    have h1 := List.mem_of_find?_eq_some h
    have h2 : f z = f x := of_decide_eq_true (by have := List.find?_some h; exact this)
    rw [C.inj z h1 x hx h2]
theorem homeR_hs (C : Chg f ns) (hh : HsOk hm) : HsOk (homeR f ns hm) := fun y => by
  unfold homeR
  split
  · exact C.hs _ (hh _)
  · decide +kernel
/-- a marks list of the renamed program -/
theorem ren_pg (C : Chg f ns) {p : Pg} {ms' : List (Str × Str)} (hok : p.ok hm) (hv : ∀ x ∈ p.vars, x ∈ ns) (hmn : ∀ m ∈ p.ms, m.1 ∈ ns) (hp : ms'.Perm (p.ms.map fun m => (f m.1, f m.2))) (hup : rising (ms'.map (·.1))) : Pg.ok (homeR f ns hm) ⟨ms', rens' f p.rs⟩ where
  hs := homeR_hs C hok.hs
  mks := fun m hm' => by
    obtain ⟨m0, h0, rfl⟩ := List.mem_map.mp (hp.mem_iff.mp hm')
    exact ⟨C.nm _ (hmn m0 h0), by show f m0.2 = _; rw [homeR_at C (hmn m0 h0), (hok.mks m0 h0).2]⟩
  up := hup
  few := by rw [hp.length_eq, List.length_map]; exact hok.few
  ne := ren_ne hok.ne
  cn := by show cnts (rens' f p.rs) ≤ 60; rw [rens_cnt]; exact hok.cn
  dp := by show dps (rens' f p.rs) ≤ 5; rw [rens_dp]; exact hok.dp
  rk := rens_okr C (fun x hx => homeR_at C hx) p.rs hok.rk (p.inn_vars hv)
theorem ren_flat (p : Pg) (ms' : List (Str × Str)) : (⟨ms', rens' f p.rs⟩ : Pg).flat = p.flat.map (itN f) := flats_ren 1 [] p.rs
theorem ren_vars_mem (p : Pg) (ms' : List (Str × Str)) {y : Str} : y ∈ (⟨ms', rens' f p.rs⟩ : Pg).vars ↔ ∃ x ∈ p.vars, f x = y := by
  unfold Pg.vars
  rw [ren_flat, mem_varsOf]
  constructor
  · rintro ⟨t, ht, hy⟩
    obtain ⟨t0, h0, rfl⟩ := List.mem_map.mp ht
    have hy : y ∈ (t0.2.1.ren f).vars := hy
    rw [Row.ren_vars] at hy
    obtain ⟨x, hx, e⟩ := List.mem_map.mp hy
    exact ⟨x, mem_varsOf.mpr ⟨t0, h0, hx⟩, e⟩
  · rintro ⟨x, hx, e⟩
    obtain ⟨t, ht, hx⟩ := mem_varsOf.mp hx
    refine ⟨itN f t, List.mem_map_of_mem ht, ?_⟩
    show y ∈ (t.2.1.ren f).vars
    rw [Row.ren_vars]
    exact List.mem_map.mpr ⟨x, hx, e⟩
end
end Tw
set_option Elab.async false
set_option linter.all false
set_option maxRecDepth 100000
set_option maxHeartbeats 4000000
namespace Tw
open PySem PySem.Spec PyProof.Rows L2 TL
/-! ### the changer that the law builds -/
def cN (k : Nat) : Str := repS "c" (1 + k)
def fresh (n : Nat) : List Str := (List.range n).map cN
theorem cN_ok : ∀ k, k < 5 → isName (cN k) = true := by
  have : (List.range 5).all (fun k => isName (cN k)) = true := by decide +kernel
  intro k hk
  exact List.all_eq_true.mp this k (List.mem_range.mpr hk)
theorem cN_inj {j k : Nat} (h : cN j = cN k) : j = k := by
  have : (tl (cN j)).length = (tl (cN k)).length := by rw [h]
  have e : ∀ k, (tl (cN k)).length = 1 + k := fun k => by
    show ((List.replicate (1 + k) ("c" : Str).cps.toList).flatten).length = 1 + k
    rw [show ("c" : Str).cps.toList = [99] by decide +kernel, List.length_flatten, List.map_replicate, List.sum_replicate_nat]
    simp
  rw [e, e] at this
  omega
theorem fresh_nd (n : Nat) : (fresh n).Nodup := by
  unfold fresh List.Nodup
  rw [List.pairwise_map]
  exact List.Pairwise.imp (fun {a b} h e => h (cN_inj e)) (List.nodup_range (n := n))
theorem fresh_len (n : Nat) : (fresh n).length = n := by unfold fresh; rw [List.length_map, List.length_range]
theorem fresh_ok {n : Nat} (h : n ≤ 5) : ∀ x ∈ fresh n, isName x = true := fun x hx => by
  obtain ⟨k, hk, rfl⟩ := List.mem_map.mp hx
  exact cN_ok k (by have := List.mem_range.mp hk; omega)
/-- x's place -/
def chg (ns fr : List Str) (h1 h2 : Str) (x : Str) : Str :=
  if x = "west" then h2 else if x = "east" then h1 else match (ns.zip fr).find? (fun q => decide (q.1 = x)) with | some q => q.2 | none => x
theorem name_house {x : Str} (h : isName x = true) : isHouse x = false := by
  cases e : isHouse x with
  | false => rfl
  | true =>
    rcases house_ok e with z | z <;> rw [z] at h <;> exact absurd h (by decide +kernel)
theorem find_zip {ns fr : List Str} (nd : ns.Nodup) (hl : ns.length = fr.length) : ∀ x ∈ ns, ∃ y ∈ fr, (ns.zip fr).find? (fun q => decide (q.1 = x)) = some (x, y) := by
  induction ns generalizing fr with
  | nil => intro x h; simp at h
  | cons n ns ih =>
    cases fr with
    | nil => simp at hl
    | cons y fr =>
      obtain ⟨nd1, nd2⟩ := List.nodup_cons.mp nd
      intro x hx
      rw [List.zip_cons_cons, List.find?_cons]
      by_cases e : n = x
      · subst e
        exact ⟨y, List.mem_cons_self, by simp⟩
      · rw [decide_eq_false e]
        rcases List.mem_cons.mp hx with z | hx
        · exact absurd z.symm e
        · obtain ⟨y', h1, h2⟩ := ih nd2 (by simpa using hl) x hx
          exact ⟨y', List.mem_cons_of_mem _ h1, h2⟩
theorem find_inj {ns fr : List Str} (nd : fr.Nodup) : ∀ {x x' y : Str}, (ns.zip fr).find? (fun q => decide (q.1 = x)) = some (x, y) → (ns.zip fr).find? (fun q => decide (q.1 = x')) = some (x', y) → x = x' := by
  induction ns generalizing fr with
  | nil => intro x x' y h; simp at h
  | cons n ns ih =>
    cases fr with
    | nil => intro x x' y h; simp at h
    | cons z fr =>
      obtain ⟨nd1, nd2⟩ := List.nodup_cons.mp nd
      intro x x' y h h'
      rw [List.zip_cons_cons, List.find?_cons] at h h'
      have mem : ∀ {x}, (ns.zip fr).find? (fun q => decide (q.1 = x)) = some (x, y) → y ∈ fr := fun h => (List.of_mem_zip (List.mem_of_find?_eq_some h)).2
      by_cases e : n = x
      · rw [decide_eq_true e] at h
        by_cases e' : n = x'
        · rw [← e, ← e']
        · rw [decide_eq_false e'] at h'
          cases h
          exact absurd (mem h') nd1
      · rw [decide_eq_false e] at h
        by_cases e' : n = x'
        · rw [decide_eq_true e'] at h'
          cases h'
          exact absurd (mem h) nd1
        · rw [decide_eq_false e'] at h'
          exact ih nd2 h h'
theorem chg_ok {ns fr : List Str} {h1 h2 : Str} (ok : ∀ x ∈ ns, isName x = true ∧ x ≠ "name" ∧ x ≠ "number") (nd : ns.Nodup) (hl : ns.length = fr.length) (fnd : fr.Nodup) (fok : ∀ x ∈ fr, isName x = true) (hh1 : isHouse h1 = true) (hh2 : isHouse h2 = true) : Chg (chg ns fr h1 h2) ns := by
  have hne : ∀ x, isName x = true → x ≠ "west" ∧ x ≠ "east" := fun x hx => by
    constructor <;> intro z <;> rw [z] at hx <;> exact absurd hx (by decide +kernel)
  have at_ : ∀ x ∈ ns, ∃ y ∈ fr, chg ns fr h1 h2 x = y ∧ (ns.zip fr).find? (fun q => decide (q.1 = x)) = some (x, y) := fun x hx => by
    obtain ⟨y, hy, e⟩ := find_zip nd hl x hx
    obtain ⟨n1, n2⟩ := hne x (ok x hx).1
    refine ⟨y, hy, ?_, e⟩
    unfold chg
    rw [if_neg n1, if_neg n2, e]
  refine ⟨ok, fun x hx => ?_, fun x hx y hy e => ?_, fun h hh => ?_, fun w hw hh => ?_⟩
  · obtain ⟨y, hy, e, _⟩ := at_ x hx
    rw [e]; exact fok y hy
  · obtain ⟨x', _, e1, e2⟩ := at_ x hx
    obtain ⟨y', _, e3, e4⟩ := at_ y hy
    rw [e1, e3] at e
    rw [← e] at e4
    exact find_inj fnd e2 e4
  · unfold chg
    rcases house_ok hh with z | z <;> rw [z]
    · rw [if_neg (by decide +kernel), if_pos rfl]; exact hh1
    · rw [if_pos rfl]; exact hh2
  · unfold chg
    rw [if_neg (fun z => by rw [z] at hh; exact absurd hh (by decide +kernel)), if_neg (fun z => by rw [z] at hh; exact absurd hh (by decide +kernel))]
    have : (ns.zip fr).find? (fun q => decide (q.1 = w)) = none := by
      rw [List.find?_eq_none]
      intro q hq z
      have : q.1 = w := of_decide_eq_true z
      exact hw (by rw [← this]; exact (List.of_mem_zip (show (q.1, q.2) ∈ ns.zip fr from hq)).1)
    rw [this]
/-- the dict that the law builds holds it -/
theorem merge_zip : ∀ (l : List (Str × Str)) (kvs : List (L2.Key × V)) (x : Str), (l.map (·.1)).Nodup →
    valV (mergeK kvs (l.map fun q => ((Sum.inr q.1 : L2.Key), V.str q.2))) (Sum.inr x) = match l.find? (fun q => decide (q.1 = x)) with | some q => some (.str q.2) | none => valV kvs (Sum.inr x)
  | [], kvs, x, _ => rfl
  | q :: l, kvs, x, nd => by
    rw [List.map_cons, List.nodup_cons] at nd
    show valV (mergeK (putK kvs (Sum.inr q.1) (.str q.2)) (l.map fun q => ((Sum.inr q.1 : L2.Key), V.str q.2))) (Sum.inr x) = _
    rw [merge_zip l _ x nd.2, List.find?_cons]
    by_cases e : q.1 = x
    · rw [decide_eq_true e]
      have : l.find? (fun q => decide (q.1 = x)) = none := by
        rw [List.find?_eq_none]
        intro r hr z
        have : r.1 = x := of_decide_eq_true z
        exact nd.1 (by rw [e, ← this]; exact List.mem_map_of_mem hr)
      rw [this, valV_put, if_pos (by rw [e])]
    · rw [decide_eq_false e]
      cases h : l.find? (fun q => decide (q.1 = x)) with
      | some r => rfl
      | none => show valV (putK kvs _ _) _ = _; rw [valV_put, if_neg (fun z => e (by injection z with z; exact z.symm))]
theorem oth_chg {ns fr : List Str} {h1 h2 : Str} (nd : ns.Nodup) (hl : ns.length = fr.length) : Oth (chg ns fr h1 h2) (putK (putK (mergeK [] ((ns.zip fr).map fun q => ((Sum.inr q.1 : L2.Key), V.str q.2))) (Sum.inr "east") (.str h1)) (Sum.inr "west") (.str h2)) := fun x => by
  have hm : (ns.zip fr).map (·.1) = ns := by rw [List.map_fst_zip (by omega)]
  rw [valV_put]
  unfold chg
  by_cases e : x = "west"
  · rw [if_pos (by rw [e]), if_pos e]; rfl
  · rw [if_neg (fun z => e (by injection z)), if_neg e, valV_put]
    by_cases e' : x = "east"
    · rw [if_pos (by rw [e']), if_pos e']; rfl
    · rw [if_neg (fun z => e' (by injection z)), if_neg e', merge_zip _ _ _ (by rw [hm]; exact nd)]
      cases h : (ns.zip fr).find? (fun q => decide (q.1 = x)) with
      | some q => rfl
      | none => rfl
end Tw
set_option Elab.async false
set_option linter.all false
set_option maxRecDepth 100000
set_option maxHeartbeats 8000000
namespace Tw
open PySem PySem.Spec PyProof.Rows L2 LamX NdefX TL
theorem itemOkD {hm : Str → Str} (hh : HsOk hm) {t : Item} (h : t.2.1.ok hm) (hc : t.2.1.cnt ≤ 500) (hd : t.2.1.dp ≤ 5) (ho : t.2.2.length ≤ 1000) : okD 30 (itemD t) := by
  refine ⟨by simp, fun d hx => ?_⟩
  simp only [List.mem_cons, List.not_mem_nil, or_false] at hx
  rcases hx with e | e | e <;> rw [e]
  · exact trivial
  · exact (t.2.1.okD hh h hc).mono (by show _ ≤ (29 : Nat); omega)
  · exact (okD_ints ho).mono (by show 2 ≤ (29 : Nat); decide)
abbrev st2 (d : Addr) (v : V) (n f o m c : Addr) (tx : Str) (w' mv : Addr) (x3 x5 x10 x13 x14 x15 x16 x17 : Option V) : L2.St :=
  [some (.ref d), some v, some (.ref n), x3, some (.ref f), x5, some (.ref o), some (.ref m), some (.ref c), some (.str tx), x10, some (.ref w'), some (.ref mv), x13, x14, x15, x16, x17]
structure Chk (K : PySem.W.Frag) (t : TS) : Prop where
  run : ∀ (D : Ends) (H : Hp) (d : Addr) (v : V) (n fl o m c : Addr) (tx : Str) (wd md : Addr) (x3 x5 x10 x15 x16 : Option V) (one other : V) (f : Str → Str) (ns : List Str) (hm hm' : Str → Str) (it : Item) (kvo kvw kvm : List (L2.Key × V)) (g g' : Str → Int),
    Chg f ns → HsOk hm → HsOk hm' → it.2.1.ok hm → (it.2.1.ren f).ok hm' → it.2.1.cnt ≤ 500 → it.2.1.dp ≤ 5 → it.2.2.length ≤ 1000 → (∀ x ∈ it.2.1.vars, x ∈ ns) → Td K H one (itemD it) → Td K H other (itemD (itN f it)) →
    H o = some (.dK kvo) → Oth f kvo → H wd = some (.dK kvw) → H md = some (.dK kvm) → (∀ x, 0 ≤ g x ∧ g x ≤ 996) → (∀ x, 0 ≤ g' x ∧ g' x ≤ 996) → (∀ x, (valV kvw (Sum.inr x)).getD (.int 0) = .int (g x)) → (∀ x, (valV kvm (Sum.inr x)).getD (.int 0) = .int (g' x)) → (∀ x ∈ ns, g' (f x) = g x) →
    (∀ H' x15 x16, Same H H' → D.nx (st2 d v n fl o m c tx wd md x3 x5 x10 (some one) (some other) x15 x16 none) H' ∧ D.ct (st2 d v n fl o m c tx wd md x3 x5 x10 (some one) (some other) x15 x16 none) H') →
    t D (st2 d v n fl o m c tx wd md x3 x5 x10 (some one) (some other) x15 x16 none) H
def lorB : List Stmt := match (defBody s_law_otherwise_right).getD 12 (.Pass ⟨0, 0, 0, 0⟩) with
  | .For _ _ b _ _ => b
  | _ => []
theorem names_len {f : Str → Str} {ns xs ys zs : List Str} (inj : ∀ x ∈ ns, ∀ y ∈ ns, f x = f y → x = y) (hz : ∀ x ∈ zs, x ∈ ns) (h1 : NamesOf zs xs) (h2 : NamesOf (zs.map f) ys) : xs.length = ys.length := by
  have hx : ∀ x ∈ xs, x ∈ ns := fun x h => hz x ((h1.mem x).mp h)
  have nd : (xs.map f).Nodup := by
    have := h1.up.nodup
    unfold List.Nodup at this ⊢
    rw [List.pairwise_map]
    exact List.Pairwise.imp_of_mem (fun {a b} ha hb h e => h (inj a (hx a ha) b (hx b hb) e)) this
  have a := nodup_len_le (ys := ys) nd fun y hy => by
    obtain ⟨x, hx, rfl⟩ := List.mem_map.mp hy
    exact (h2.mem _).mpr (List.mem_map_of_mem ((h1.mem x).mp hx))
  have b := nodup_len_le (ys := xs.map f) h2.up.nodup fun y hy => by
    obtain ⟨x, hx, rfl⟩ := List.mem_map.mp ((h2.mem y).mp hy)
    exact List.mem_map_of_mem ((h1.mem x).mpr hx)
  rw [List.length_map] at a b
  omega
section
variable {P : Program} {w : World} {K : PySem.W.Frag} {mg : Str → Option Value} {base : Heap}
theorem chk (T : Txt K mg) {cdv : Value} {A : Around} {outer : List Env} {s : Shared} {H0 : Hp} {E : XK}
    (hr : Room 40 (A.deeper (envOfC "_law_otherwise_right" (defScope s_law_otherwise_right) s.heap.objs.size (He.ga K "_law_otherwise_right") cdv))) :
    ∃ t, PSs (cxOf CX0 P w K mg base N_law_otherwise_right "_law_otherwise_right" (defScope s_law_otherwise_right) (He.ga K "_law_otherwise_right") cdv A outer s H0 E).nox lorB t ∧ Chk K t := by
  have C_law_named := ok_law_named (P := P) (w := w) (base := base) T 30
  have C_expr_of := ok_expr_of (P := P) (w := w) (base := base) T
  have C_worth_of := ok_worth_of (P := P) (w := w) (base := base) T 8
  have C_names_in := ok_names_in (P := P) (w := w) (base := base) T 8
  have C_expr_words := ok_expr_words (P := P) (w := w) (base := base) T 8
  have hu := hu_of hr
  refine ⟨_, (pss_cons (ps_if (pt_cmpR (op_neD hr.units) (pv 14) (pe_tup (pa_cons (pe_ix ix_tup (pv 13) pe_int (fun _ _ => rfl)) (pa_cons (pe_callC C_law_named (hr.mono (by decide)) rfl (pa_cons (pe_ix ix_tup (pv 13) pe_int (fun _ _ => rfl)) (pa_cons (pv 6) pa_nil))) (pa_cons (pe_ix ix_tup (pv 13) pe_int (fun _ _ => rfl)) pa_nil)))) (nomark _)) (pss_one (ps_ret pe_bl)) pss_nil)
  (pss_cons (ps_par (i := 15) (j := 16) (by rfl) sc_law_otherwise_right.nd rfl rfl (by decide) rfl rfl (pa_cons (pe_callC C_expr_of (hr.mono (by decide)) rfl (pa_cons (pe_ix ix_tup (pv 13) pe_int (fun _ _ => rfl)) pa_nil)) (pa_cons (pe_callC C_expr_of (hr.mono (by decide)) rfl (pa_cons (pe_ix ix_tup (pv 14) pe_int (fun _ _ => rfl)) pa_nil)) pa_nil)) (by rfl))
  (pss_cons (ps_if (pt_cmpR op_isN (pv 15) pe_non (nomark _)) (pss_one ps_continue) pss_nil)
  (pss_cons (ps_if (PW.pt (pw_or (pt_cmpR op_ne (pe_callC C_worth_of (hr.mono (by decide)) rfl (pa_cons (pv 15) (pa_cons (pv 11) pa_nil))) (pe_callC C_worth_of (hr.mono (by decide)) rfl (pa_cons (pv 16) (pa_cons (pv 12) pa_nil))) (nomark _)) (pw_or1 (pt_cmpR op_ne (pe_callB call_len_seq (by rfl) T.len bb_len (pa_cons (pe_callC C_names_in (hr.mono (by decide)) rfl (pa_cons (pv 15) pa_nil)) pa_nil)) (pe_callB call_len_seq (by rfl) T.len bb_len (pa_cons (pe_callC C_names_in (hr.mono (by decide)) rfl (pa_cons (pv 16) pa_nil)) pa_nil)) (nomark _))))) (pss_one (ps_ret pe_bl)) pss_nil)
  (pss_one (ps_if (pt_cmpR (op_neD hr.units) (pe_lc (own := [("_law_word", 17)]) (by rfl) sc_law_otherwise_right.nd (pi_list (pe_callC C_expr_words (hr.mono (by decide)) rfl (pa_cons (pv 15) pa_nil))) (blkOk_by (own := [("_law_word", 17)]) (N := N_law_otherwise_right) (sc := defScope s_law_otherwise_right) (by decide +kernel)) (fun _ _ _ _ _ => (pg_name (i := 17) sc_law_otherwise_right.nd rfl (Or.inl rfl))) (fun _ _ _ _ _ => pts_nil) (fun _ _ _ _ _ => (pe_dget2 hu (pv 6) (pv 17) (pv 17) ⟨rfl, rfl, rfl, rfl⟩))) (pe_callC C_expr_words (hr.mono (by decide)) rfl (pa_cons (pv 16) pa_nil)) (nomark _)) (pss_one (ps_ret pe_bl)) pss_nil)))))), ?_⟩
  refine ⟨?_⟩
  rintro D H d v n fl o m c tx wd md x3 x5 x10 x15 x16 one other f ns hm hm' ⟨num, r, own⟩ kvo kvw kvm g g' C hh hh' hok hok' hcn hdp hol hv h1 h2 ho hoth hwd hmd hg hg' hgw hgm hgg q
  have hok : r.ok hm := hok
  have hok' : (r.ren f).ok hm' := hok'
  have hdp : r.dp ≤ 5 := hdp
  obtain ⟨a1, u1, u2, u3, rfl, hs1, g1, g2, g3⟩ := Td.t3 h1
  obtain rfl := td_int.mp g1
  have hol' : own.length ≤ 1000 := hol
  refine ⟨_, rfl, _, rfl, _, _, _, _, rfl, rfl, hs1, rfl, _, rfl, _, _, _, _, rfl, rfl, hs1, rfl, _, rfl, u2, o, r.d, kvo, f, rfl, g2, (r.okD hh hok hcn).mono (by omega), ho, hoth, fun H3 v3 s3 t3 => ?_⟩
  rw [Row.ren_d C] at t3
  refine ⟨_, rfl, _, _, _, _, rfl, rfl, same_tup s3 hs1, rfl, by show 3 ≤ sizeLine; decide, fun pt npt => ?_⟩
  have s4 := same_new npt (o := .tup [V.int num, v3, u3])
  have s34 := s3.trans s4
  have ok1 : okD 30 (itemD (num, r.ren f, own)) := itemOkD hh' hok' (by show (r.ren f).cnt ≤ 500; rw [Row.ren_cnt]; exact hcn) (by show (r.ren f).dp ≤ 5; rw [Row.ren_dp]; exact hdp) hol'
  have ht4 : Td K (upd H3 pt (.tup [V.int num, v3, u3])) (.ref pt) (itemD (num, r.ren f, own)) := Td.new npt (tda_cons.mpr ⟨td_int.mpr rfl, tda_cons.mpr ⟨t3, tda_cons.mpr ⟨g3.same s3, tda_nil⟩⟩⟩)
  refine ⟨_, _, Td.dp _ (h2.same s34), Td.dp _ ht4, ok1.shaped (by decide), ok1.shaped (by decide), _, rfl, ?_⟩
  refine iteF' (by show (!PyData.eqv (itemD (num, r.ren f, own)) (itemD (num, r.ren f, own))) = false; rw [ok1.refl]; rfl) ?_
  generalize upd H3 pt (.tup [V.int num, v3, u3]) = H4 at s4 s34 ht4 ⊢
  have h24 := h2.same s34
  obtain ⟨a2, w1, w2, w3, rfl, hs2, k1, k2, k3⟩ := Td.t3 h24
  refine ⟨_, rfl, _, _, _, _, rfl, rfl, same_tup s34 hs1, rfl, u2, r, rfl, g2.same s34, fun H5 x5v s5 o5 => ?_⟩
  refine ⟨_, rfl, _, _, _, _, rfl, rfl, same_tup s5 hs2, rfl, w2, r.ren f, rfl, k2.same s5, fun H6 x6v s6 o6 => ?_⟩
  have s46 := (s34.trans s5).trans s6
  refine ⟨_, _, rfl, ?_⟩
  rw [Row.ren_expr] at o6
  cases he : r.expr with
  | none =>
    rw [he] at o5 o6
    obtain rfl : x5v = .non := o5
    refine ⟨_, rfl, rfl, _, rfl, ?_⟩
    refine iteT' (by rfl) ?_
    exact (q H6 _ _ s46).2
  | some e =>
    rw [he] at o5 o6
    have e5 : Td K H6 x5v e.d := Td.same s6 (show Td K H5 x5v e.d from o5)
    have e6 : Td K H6 x6v (e.ren f).d := o6
    have heo := hok.expr he
    have hvars : ∀ x ∈ e.vars, x ∈ ns := fun x hx => hv x (by
      show x ∈ r.vars
      unfold Row.vars Row.evars
      rw [he]
      exact List.mem_append_right _ hx)
    have heo' := Tw.E.ren_ok C heo hvars
    have hx5 : ¬ x5v = .non := by
      cases e with
      | num n => obtain ⟨_, z, _⟩ := td_num e5; rw [z]; exact fun z => by cases z
      | nam n => obtain ⟨_, z, _⟩ := td_nam e5; rw [z]; exact fun z => by cases z
      | bin o a b => obtain ⟨_, _, _, z, _⟩ := td_bin e5; rw [z]; exact fun z => by cases z
    refine ⟨_, rfl, rfl, _, rfl, ?_⟩
    refine iteF' (decide_eq_false hx5) ?_
    refine ⟨_, rfl, _, rfl, x5v, e, wd, kvw, g, rfl, e5, heo.1, heo.2.1, s46 _ _ hwd, hg, hgw, fun H7 s7 => ?_⟩
    refine ⟨_, rfl, _, rfl, x6v, e.ren f, md, kvm, g', rfl, e6.same s7, heo'.1, heo'.2.1, s7 _ _ (s46 _ _ hmd), hg', hgm, fun H8 s8 => ?_⟩
    refine ⟨rfl, _, rfl, ?_⟩
    rw [e.ren_val fun x hx => hgg x (hvars x hx)]
    refine iteF' (by simp) ?_
    have s78 := s7.trans s8
    refine ⟨_, rfl, x5v, e, rfl, e5.same s78, heo.2.2, heo.2.1, fun H9 p9 y9 s9 n9 l9 N9 => ?_⟩
    refine ⟨_, _, rfl, .inl (.of l9), ?_⟩
    refine ⟨_, rfl, x6v, e.ren f, rfl, e6.same (s78.trans s9), heo'.2.2, heo'.2.1, fun H10 p10 y10 s10 n10 l10 N10 => ?_⟩
    refine ⟨_, _, rfl, .inl (.of l10), ?_⟩
    rw [e.ren_vars] at N10
    have hlen := names_len C.inj hvars N9 N10
    refine ⟨rfl, _, rfl, ?_⟩
    rw [List.length_map, List.length_map, hlen]
    refine iteF' (by simp) ?_
    have s710 := (s78.trans s9).trans s10
    refine ⟨_, rfl, x5v, e, rfl, e5.same s710, heo.1, by have := heo.2.2; omega, heo.2.1, fun H11 p11 s11 n11 l11 => ?_⟩
    refine ⟨p11, rfl, ⟨_, .of l11⟩, fun D2 nD2 => ?_⟩
    have s411 := (s46.trans s710).trans s11
    have hwl := e.words_len
    have hpt := heo.2.2
    refine lc_pu (walk_list (xs := e.words.map V.str)) (by rw [List.length_map]; omega) nD2 (fun H' s' => .of (s' _ _ l11)) (fun i y H' => ∃ x, e.words[i]? = some x ∧ y = .str (f x)) (fun i y H' H'' _ _ h => h) ?_ ?_
    · rintro j y H12 H13 Qc hj s12 _ ⟨rfl, hy⟩ hq
      rw [List.getElem?_map] at hy
      obtain ⟨x, hx, rfl⟩ := Option.map_eq_some_iff.mp hy
      refine ⟨rfl, _, rfl, o, rfl, .inl ⟨_, .of (s12 _ _ (s411 _ _ ho))⟩, _, rfl, _, rfl, _, DGet.k (k := Sum.inr x) (s12 _ _ (s411 _ _ ho)), ?_⟩
      rw [hoth x]
      exact hq _ _ (Same.refl _) ⟨x, hx, rfl⟩
    · intro ys H12 s12 hD12 hyl hys
      rw [List.length_map] at hyl
      have eys : ys = (e.words.map f).map V.str := by
        apply List.ext_getElem?
        intro j
        by_cases hj : j < ys.length
        · obtain ⟨x, h1, h2⟩ := hys j _ (List.getElem?_eq_getElem hj)
          rw [List.getElem?_eq_getElem hj, h2, List.getElem?_map, List.getElem?_map, h1] <;> rfl
        · rw [List.getElem?_eq_none (by omega), List.getElem?_eq_none (by rw [List.length_map, List.length_map]; omega)]
      rw [eys] at hD12
      have s712 := (s710.trans s11).trans s12
      refine ⟨_, rfl, x6v, e.ren f, rfl, e6.same s712, heo'.1, by have := heo'.2.2; omega, heo'.2.1, fun H14 p14 s14 n14 l14 => ?_⟩
      rw [e.ren_words C] at l14
      have dps : ∀ (l : List Str), DpAll K H14 (l.map V.str) (l.map PyData.str) := fun l => by
        induction l with
        | nil => exact .nil
        | cons x l ih => exact .cons (.str x) ih
      have okw : okD 2 (.list ((e.words.map f).map PyData.str)) := ⟨by rw [List.length_map, List.length_map]; omega, fun d hd => by
        obtain ⟨x, hx, rfl⟩ := List.mem_map.mp hd
        obtain ⟨y, hy, rfl⟩ := List.mem_map.mp hx
        exact (C.wd (e.words_wd heo.1 y hy)).lay⟩
      refine ⟨_, _, .lst (.of (s14 _ _ hD12)) (dps _), .lst (.of l14) (dps _), okw.shaped (by decide), okw.shaped (by decide), _, rfl, ?_⟩
      refine iteF' (by rw [okw.refl]; rfl) ?_
      exact (q H14 _ _ ((s46.trans s712).trans s14)).1
end
end Tw
set_option Elab.async false
set_option linter.all false
set_option maxRecDepth 100000
set_option maxHeartbeats 4000000
namespace Tw
open PySem PySem.Spec PyProof.Rows L2 TL
/-! ### the changer's dict holds every name -/
theorem oth_has {ns fr : List Str} {h1 h2 : Str} (ok : ∀ x ∈ ns, isName x = true) (nd : ns.Nodup) (hl : ns.length = fr.length) : ∀ x ∈ ns, valV (putK (putK (mergeK [] ((ns.zip fr).map fun q => ((Sum.inr q.1 : L2.Key), V.str q.2))) (Sum.inr "east") (.str h1)) (Sum.inr "west") (.str h2)) (Sum.inr x) = some (.str (chg ns fr h1 h2 x)) := fun x hx => by
  have hm : (ns.zip fr).map (·.1) = ns := by rw [List.map_fst_zip (by omega)]
  have n1 : x ≠ "west" := fun z => by have := ok x hx; rw [z] at this; exact absurd this (by decide +kernel)
  have n2 : x ≠ "east" := fun z => by have := ok x hx; rw [z] at this; exact absurd this (by decide +kernel)
  obtain ⟨y, _, e⟩ := find_zip nd hl x hx
  rw [valV_put, if_neg (fun z => n1 (by injection z)), valV_put, if_neg (fun z => n2 (by injection z)), merge_zip _ _ _ (by rw [hm]; exact nd), e]
  unfold chg
  rw [if_neg n1, if_neg n2, e]
/-! ### worths by names -/
def wth (l : List (Str × Int)) (x : Str) : Int := match l.find? (fun q => decide (q.1 = x)) with
  | some q => q.2
  | none => 0
def wthK (l : List (Str × Int)) : List (L2.Key × V) := mergeK [] (l.map fun q => ((Sum.inr q.1 : L2.Key), V.int q.2))
theorem merge_int : ∀ (l : List (Str × Int)) (kvs : List (L2.Key × V)) (x : Str), (l.map (·.1)).Nodup →
    valV (mergeK kvs (l.map fun q => ((Sum.inr q.1 : L2.Key), V.int q.2))) (Sum.inr x) = match l.find? (fun q => decide (q.1 = x)) with | some q => some (.int q.2) | none => valV kvs (Sum.inr x)
  | [], kvs, x, _ => rfl
  | q :: l, kvs, x, nd => by
    rw [List.map_cons, List.nodup_cons] at nd
    show valV (mergeK (putK kvs (Sum.inr q.1) (.int q.2)) (l.map fun q => ((Sum.inr q.1 : L2.Key), V.int q.2))) (Sum.inr x) = _
    rw [merge_int l _ x nd.2, List.find?_cons]
    by_cases e : q.1 = x
    · rw [decide_eq_true e]
      have : l.find? (fun q => decide (q.1 = x)) = none := by
        rw [List.find?_eq_none]
        intro r hr z
        have : r.1 = x := of_decide_eq_true z
        exact nd.1 (by rw [e, ← this]; exact List.mem_map_of_mem hr)
      rw [this, valV_put, if_pos (by rw [e])]
    · rw [decide_eq_false e]
      cases h : l.find? (fun q => decide (q.1 = x)) with
      | some r => rfl
      | none => show valV (putK kvs _ _) _ = _; rw [valV_put, if_neg (fun z => e (by injection z with z; exact z.symm))]
theorem wth_get {l : List (Str × Int)} (nd : (l.map (·.1)).Nodup) (x : Str) : (valV (wthK l) (Sum.inr x)).getD (.int 0) = .int (wth l x) := by
  unfold wthK wth
  rw [merge_int l [] x nd]
  cases l.find? (fun q => decide (q.1 = x)) <;> rfl
theorem wth_has {l : List (Str × Int)} (nd : (l.map (·.1)).Nodup) {x : Str} (hx : x ∈ l.map (·.1)) : valV (wthK l) (Sum.inr x) = some (.int (wth l x)) := by
  unfold wthK wth
  rw [merge_int l [] x nd]
  cases h : l.find? (fun q => decide (q.1 = x)) with
  | some q => rfl
  | none =>
    obtain ⟨q, hq, e⟩ := List.mem_map.mp hx
    exact absurd (decide_eq_true e) (List.find?_eq_none.mp h q hq)
theorem wth_at : ∀ {l : List (Str × Int)}, (l.map (·.1)).Nodup → ∀ {q : Str × Int}, q ∈ l → wth l q.1 = q.2
  | [], _, q, h => by simp at h
  | r :: l, nd, q, h => by
    rw [List.map_cons, List.nodup_cons] at nd
    by_cases e : r.1 = q.1
    · unfold wth
      rw [List.find?_cons, decide_eq_true e]
      rcases List.mem_cons.mp h with z | z
      · rw [z]
      · exact absurd (by rw [e]; exact List.mem_map_of_mem z) nd.1
    · have ih := wth_at nd.2 (q := q) (by
        rcases List.mem_cons.mp h with z | z
        · exact absurd (by rw [z]) e
        · exact z)
      unfold wth at ih ⊢
      rw [List.find?_cons, decide_eq_false e]
      exact ih
theorem wth_bd {l : List (Str × Int)} (h : ∀ q ∈ l, 0 ≤ q.2 ∧ q.2 ≤ 996) (x : Str) : 0 ≤ wth l x ∧ wth l x ≤ 996 := by
  unfold wth
  cases e : l.find? (fun q => decide (q.1 = x)) with
  | some q => exact h q (List.mem_of_find?_eq_some e)
  | none => exact ⟨by decide, by decide⟩
theorem wth_ren {f : Str → Str} {ns : List Str} (inj : ∀ x ∈ ns, ∀ y ∈ ns, f x = f y → x = y) : ∀ {l : List (Str × Int)} {x : Str}, (∀ q ∈ l, q.1 ∈ ns) → x ∈ ns → wth (l.map fun q => (f q.1, q.2)) (f x) = wth l x
  | [], x, _, _ => rfl
  | q :: l, x, hl, hx => by
    have ih := wth_ren inj (l := l) (fun r hr => hl r (List.mem_cons_of_mem _ hr)) hx
    unfold wth at ih ⊢
    rw [List.map_cons, List.find?_cons, List.find?_cons]
    by_cases e : q.1 = x
    · rw [decide_eq_true (by show f q.1 = f x; rw [e]), decide_eq_true e]
    · rw [decide_eq_false (by show ¬ f q.1 = f x; exact fun z => e (inj _ (hl q List.mem_cons_self) _ hx z)), decide_eq_false e]
      exact ih
theorem wth_keys {f : Str → Str} {ns : List Str} (inj : ∀ x ∈ ns, ∀ y ∈ ns, f x = f y → x = y) {l : List (Str × Int)} (hl : ∀ q ∈ l, q.1 ∈ ns) (nd : (l.map (·.1)).Nodup) : ((l.map fun q => (f q.1, q.2)).map (·.1)).Nodup := by
  rw [List.map_map]
  have : ((fun m : Str × Int => m.1) ∘ fun m : Str × Int => (f m.1, m.2)) = f ∘ (·.1) := rfl
  rw [this, ← List.map_map]
  unfold List.Nodup at nd ⊢
  rw [List.pairwise_map]
  exact List.Pairwise.imp_of_mem (fun {a b} ha hb h e => h (inj a (by obtain ⟨m, hm', rfl⟩ := List.mem_map.mp ha; exact hl m hm') b (by obtain ⟨m, hm', rfl⟩ := List.mem_map.mp hb; exact hl m hm') e)) nd
/-- worths drawn, name by name -/
theorem worths_of {K : PySem.W.Frag} {H : Hp} : ∀ {ns : List Str} {ys : List V}, ys.length = ns.length → (∀ (i : Nat) y, ys[i]? = some y → ∃ p x n, y = .ref p ∧ ns[i]? = some x ∧ SqT K H p [.str x, .int ((n : Nat) : Int)] ∧ n < 997) →
    ∃ gs : List (Str × Int), gs.map (·.1) = ns ∧ (∀ q ∈ gs, 0 ≤ q.2 ∧ q.2 ≤ 996) ∧ ∀ (i : Nat) z, ys[i]? = some z → ∃ p n, z = .ref p ∧ gs[i]? = some n ∧ SqT K H p [.str n.1, .int n.2]
  | [], ys, hl, _ => ⟨[], rfl, fun q h => by simp at h, fun i z h => by
      cases ys with
      | nil => simp at h
      | cons _ _ => simp at hl⟩
  | x :: ns, [], hl, _ => by simp at hl
  | x :: ns, z :: ys, hl, hh => by
    obtain ⟨p, x', n, e1, e2, e3, e4⟩ := hh 0 z rfl
    cases e2
    obtain ⟨gs, h1, h2, h3⟩ := worths_of (ns := ns) (ys := ys) (by simpa using hl) fun i y hy => by
      obtain ⟨p, x', n, e1, e2, e3, e4⟩ := hh (i + 1) y (by simpa using hy)
      exact ⟨p, x', n, e1, by simpa using e2, e3, e4⟩
    refine ⟨(x, ((n : Nat) : Int)) :: gs, by rw [List.map_cons, h1], fun q hq => ?_, fun i y hy => ?_⟩
    · rcases List.mem_cons.mp hq with e | hq
      · rw [e]; exact ⟨by show (0 : Int) ≤ (n : Int); omega, by show (n : Int) ≤ 996; omega⟩
      · exact h2 q hq
    · cases i with
      | zero => cases hy; exact ⟨p, (x, (n : Int)), e1, rfl, e3⟩
      | succ i =>
        obtain ⟨p, n, g1, g2, g3⟩ := h3 i y (by simpa using hy)
        exact ⟨p, n, g1, by simpa using g2, g3⟩
/-! ### rows told are no greater than those around them -/
mutual
theorem Row.flat_le (n : Nat) (ar : List Nat) : ∀ r : Row, ∀ t ∈ r.flat n ar, t.2.1.cnt ≤ r.cnt ∧ t.2.1.dp ≤ r.dp
  | .iff e a b, t, h => by
    rw [Row.flat] at h
    rcases List.mem_cons.mp h with z | h
    · rw [z]; exact ⟨Nat.le_refl _, Nat.le_refl _⟩
    · rw [Row.cnt, Row.dp]
      rcases List.mem_append.mp h with h | h
      · have := flats_le _ _ a t h; omega
      · have := flats_le _ _ b t h; omega
  | .whl e a, t, h => by
    rw [Row.flat] at h
    rcases List.mem_cons.mp h with z | h
    · rw [z]; exact ⟨Nat.le_refl _, Nat.le_refl _⟩
    · rw [Row.cnt, Row.dp]
      have := flats_le _ _ a t h; omega
  | .lt op x e, t, h => by rw [Row.flat] at h; rw [List.mem_singleton.mp h]; exact ⟨Nat.le_refl _, Nat.le_refl _⟩
  | .ask x h0 k, t, h => by rw [Row.flat] at h; rw [List.mem_singleton.mp h]; exact ⟨Nat.le_refl _, Nat.le_refl _⟩
  | .say h0 e, t, h => by rw [Row.flat] at h; rw [List.mem_singleton.mp h]; exact ⟨Nat.le_refl _, Nat.le_refl _⟩
theorem flats_le (n : Nat) (ar : List Nat) : ∀ rs : List Row, ∀ t ∈ flats n ar rs, t.2.1.cnt ≤ cnts rs ∧ t.2.1.dp ≤ dps rs
  | [], t, h => by simp [flats] at h
  | r :: rs, t, h => by
    rw [flats] at h
    rw [cnts, dps]
    rcases List.mem_append.mp h with h | h
    · have := Row.flat_le _ _ r t h; omega
    · have := flats_le _ _ rs t h; omega
end
theorem Dr.kn {d : Addr} {H H' : Hp} (k : Dr d H H') : Kn [d] H H' := ⟨fun b o e n _ => k.kp b o e n, k.nn⟩
end Tw
set_option Elab.async false
set_option linter.all false
set_option maxRecDepth 100000
set_option maxHeartbeats 4000000
namespace Tw
open PySem PySem.Spec PyProof.Rows L2 TL
/-! ### rows put ahead put all numbers on -/
def itS (k : Nat) (t : Item) : Item := (t.1 + k, t.2.1, t.2.2.map (· + k))
mutual
theorem Row.flat_shift (k n : Nat) (ar : List Nat) : ∀ r : Row, r.flat (n + k) (ar.map (· + k)) = (r.flat n ar).map (itS k)
  | .iff e a b => by
    have h1 := flats_shift k (n + 1) (ar ++ [n]) a
    have h2 := flats_shift k (n + 1 + cnts a) (ar ++ [n]) b
    rw [List.map_append, List.map_singleton] at h1 h2
    rw [show n + 1 + k = n + k + 1 by omega] at h1
    rw [show n + 1 + cnts a + k = n + k + 1 + cnts a by omega] at h2
    rw [Row.flat, Row.flat, h1, h2, List.map_cons, List.map_append]; rfl
  | .whl e a => by
    have h1 := flats_shift k (n + 1) (ar ++ [n]) a
    rw [List.map_append, List.map_singleton] at h1
    rw [show n + 1 + k = n + k + 1 by omega] at h1
    rw [Row.flat, Row.flat, h1, List.map_cons]; rfl
  | .lt op x e => by rw [Row.flat, Row.flat]; rfl
  | .ask x h0 k => by rw [Row.flat, Row.flat]; rfl
  | .say h0 e => by rw [Row.flat, Row.flat]; rfl
theorem flats_shift (k n : Nat) (ar : List Nat) : ∀ rs : List Row, flats (n + k) (ar.map (· + k)) rs = (flats n ar rs).map (itS k)
  | [] => by rw [flats, flats]; rfl
  | r :: rs => by
    have h1 := flats_shift k (n + r.cnt) ar rs
    rw [show n + r.cnt + k = n + k + r.cnt by omega] at h1
    rw [flats, flats, Row.flat_shift k n ar r, h1, List.map_append]
end
def aheadR : List Row := [.say "west" (.num 3), .whl (.nam "q") [.lt false "q" (.num 0)]]
theorem aheadR_len : (flats 1 [] aheadR).length = 3 := by rw [flats_len]; decide
theorem ahead_flat' (p : Pg) : (⟨p.ms, aheadR ++ p.rs⟩ : Pg).flat = flats 1 [] aheadR ++ p.flat.map (itS 3) := by
  show flats 1 [] (aheadR ++ p.rs) = _
  rw [flats_append, show cnts aheadR = 3 by decide]
  exact congrArg (flats 1 [] aheadR ++ ·) (flats_shift 3 1 [] p.rs)
theorem ahead_ok {hm : Str → Str} {p : Pg} (h : p.ok hm) (hc : cnts p.rs ≤ 24) : Pg.ok hm ⟨p.ms, aheadR ++ p.rs⟩ := by
  have hok : oks hm aheadR := ⟨⟨by decide +kernel, by decide +kernel, by decide, by decide⟩, ⟨⟨by decide +kernel, by decide, by decide⟩, ⟨by decide +kernel, by decide +kernel, by decide, by decide⟩, trivial⟩, trivial⟩
  have hd := h.dp
  refine ⟨h.hs, h.mks, h.up, h.few, ?_, ?_, ?_, ?_⟩
  · show aheadR ++ p.rs ≠ []
    exact fun z => by cases z
  · show cnts (aheadR ++ p.rs) ≤ 60
    rw [cnts_append]
    have : cnts aheadR = 3 := by decide
    omega
  · show dps (aheadR ++ p.rs) ≤ 5
    rw [dps_append]
    have : dps aheadR = 2 := by decide
    omega
  · exact (oks_append hm aheadR p.rs).mpr ⟨hok, h.rk⟩
/-! ### the first rows alone -/
def Pg.first (p : Pg) (k : Nat) : Pg := ⟨p.ms, p.rs.take k⟩
theorem Pg.first_ok {hm : Str → Str} {p : Pg} (h : p.ok hm) {k : Nat} (hk : 1 ≤ k) : (p.first k).ok hm := by
  have e := List.take_append_drop k p.rs
  have hc := cnts_append (p.rs.take k) (p.rs.drop k)
  have hd := dps_append (p.rs.take k) (p.rs.drop k)
  have ho := oks_append hm (p.rs.take k) (p.rs.drop k)
  rw [e] at hc hd ho
  have h1 := h.cn
  have h2 := h.dp
  refine ⟨h.hs, h.mks, h.up, h.few, ?_, ?_, ?_, (ho.mp h.rk).1⟩
  · show p.rs.take k ≠ []
    have := h.ne
    cases hp : p.rs with
    | nil => exact absurd hp this
    | cons r rs =>
      obtain ⟨k', rfl⟩ : ∃ k', k = k' + 1 := ⟨k - 1, by omega⟩
      rw [List.take_succ_cons]
      simp
  · show cnts (p.rs.take k) ≤ 60; omega
  · show dps (p.rs.take k) ≤ 5; omega
theorem liness_app (d : Nat) : ∀ a b : List Row, liness d (a ++ b) = liness d a ++ liness d b
  | [], b => by rw [List.nil_append, liness, List.nil_append]
  | r :: a, b => by rw [List.cons_append, liness, liness, liness_app d a b, List.append_assoc]
theorem Pg.first_lines (p : Pg) (k : Nat) : ∃ M, p.lines = (p.first k).lines ++ M := by
  refine ⟨liness 0 (p.rs.drop k), ?_⟩
  unfold Pg.lines Pg.first
  rw [List.append_assoc, ← liness_app, List.take_append_drop]
theorem joinL_pre (s : List Nat) : ∀ (as bs : List (List Nat)), as ≠ [] → ∃ t, joinL s (as ++ bs) = joinL s as ++ t
  | [], _, h => absurd rfl h
  | [a], [], _ => ⟨[], by rw [List.append_nil, List.append_nil]⟩
  | [a], b :: bs, _ => ⟨s ++ joinL s (b :: bs), rfl⟩
  | a :: b :: as, bs, _ => by
    obtain ⟨t, ht⟩ := joinL_pre s (b :: as) bs (by simp)
    refine ⟨t, ?_⟩
    show a ++ (s ++ joinL s (b :: as ++ bs)) = a ++ (s ++ joinL s (b :: as)) ++ t
    rw [ht, List.append_assoc, List.append_assoc]
theorem Pg.first_text {hm : Str → Str} {p : Pg} {k : Nat} (h : (p.first k).ok hm) : (tl p.text).take (p.first k).text.length = tl (p.first k).text := by
  obtain ⟨M, e⟩ := p.first_lines k
  unfold Pg.text
  rw [len_tl, tl_join, tl_join, e, List.map_append]
  obtain ⟨t, ht⟩ := joinL_pre (tl nl) ((p.first k).lines.map tl) (M.map tl) (fun z => Pg.lines_ne h (List.map_eq_nil_iff.mp z))
  rw [ht, List.take_left' rfl]
theorem cut_pre {z y : Str} (h : (tl z).take y.length = tl y) : cutS z none (some ((y.length : Nat) : Int)) = y := by
  have hl : y.length ≤ z.length := by
    have := congrArg List.length h
    rw [List.length_take, ← len_tl, ← len_tl] at this
    omega
  refine ext_tl ?_
  unfold cutS
  show ((z.cps.toList.drop (HT.sIx z.length 0 none)).take (HT.sIx z.length z.length (some ((y.length : Nat) : Int)) - HT.sIx z.length 0 none)) = _
  rw [HT.sIx_none, HT.sIx_nat, Nat.min_eq_left hl, Nat.sub_zero, List.drop_zero]
  exact h
/-! ### numbers -/
mutual
theorem Row.flat_nums (n : Nat) (ar : List Nat) : ∀ r : Row, (r.flat n ar).map (·.1) = List.range' n r.cnt
  | .iff e a b => by
    rw [Row.flat, List.map_cons, List.map_append, flats_nums _ _ a, flats_nums _ _ b, Row.cnt, show 1 + cnts a + cnts b = (cnts a + cnts b) + 1 by omega, List.range'_succ, ← List.range'_append_1]
  | .whl e a => by rw [Row.flat, List.map_cons, flats_nums _ _ a, Row.cnt, show 1 + cnts a = cnts a + 1 by omega, List.range'_succ]
  | .lt op x e => by rw [Row.flat]; rfl
  | .ask x h0 k => by rw [Row.flat]; rfl
  | .say h0 e => by rw [Row.flat]; rfl
theorem flats_nums (n : Nat) (ar : List Nat) : ∀ rs : List Row, (flats n ar rs).map (·.1) = List.range' n (cnts rs)
  | [] => by rw [flats, cnts]; rfl
  | r :: rs => by rw [flats, List.map_append, Row.flat_nums _ _ r, flats_nums _ _ rs, cnts, List.range'_append_1]
end
theorem Pg.flat_num {p : Pg} {i : Nat} {t : Item} (h : p.flat[i]? = some t) : t.1 = i + 1 := by
  have e := flats_nums 1 [] p.rs
  have h2 : (p.flat.map (·.1))[i]? = some t.1 := by rw [List.getElem?_map, h]; rfl
  unfold Pg.flat at h2
  rw [e] at h2
  have hi : i < cnts p.rs := by
    have := (List.getElem?_eq_some_iff.mp h2).1
    rw [List.length_range'] at this
    exact this
  rw [List.getElem?_range' hi] at h2
  have h3 := Option.some.inj h2
  omega
end Tw
set_option Elab.async false
set_option linter.all false
set_option maxRecDepth 100000
set_option maxHeartbeats 8000000
namespace Tw
open PySem PySem.Spec PyProof.Rows L2 LamX NdefX TL
theorem Dr.tabs {d : Addr} {H H' : Hp} {t : Nat} {ro : Option Nat} {T : List (Addr × Str)} (k : Dr d H H') (h : StA H d t ro) (hT : Tabs T H) : Tabs T H' := tabs_kp hT k.kp fun m hm' u hu => by
  obtain ⟨l, s0, t1, h1, h2⟩ := h
  rw [List.mem_singleton.mp hm', h2] at hu
  cases hu
  exact ⟨fun ps z => (by cases z), fun c q z => codeO_dK z⟩
theorem ren_marks (f : Str → Str) (ms : List (Str × Str)) : ren f (.tuple (ms.map markD)) = .tuple ((ms.map fun m => (f m.1, f m.2)).map markD) := by
  rw [ren, rens_map, List.map_map, List.map_map]; rfl
def Pg.linesW (p : Pg) : List (List Str) := (p.ms.map fun m => [("mark" : Str), m.1, m.2]) ++ linessW 0 p.rs
theorem Pg.lines_W (p : Pg) : p.lines = p.linesW.map (Str.join sp) := by
  unfold Pg.lines Pg.linesW
  rw [List.map_append, List.map_map, liness_W]; rfl
theorem Pg.linesW_ok {hm : Str → Str} {p : Pg} (h : p.ok hm) : ∀ ws ∈ p.linesW, LW ws := fun ws hws => by
  unfold Pg.linesW at hws
  rcases List.mem_append.mp hws with hx | hx
  · obtain ⟨m, hm', rfl⟩ := List.mem_map.mp hx
    obtain ⟨h1, h2⟩ := h.mks m hm'
    refine ⟨by simp, by simp, fun w hw => .inr (mark_wds h1 (by rw [h2]; exact h.hs _) w hw)⟩
  · exact linessW_ok h.hs 0 p.rs h.rk (by have := h.dp; omega) ws hx
theorem LW.lay {ws : List Str} (h : LW ws) : (PyData.str (Str.join sp ws)).canLay0 = true := str_lay fun c hc => by
  rw [tl_join] at hc
  rcases joinL_mem _ _ hc with z | ⟨q, hq, z⟩
  · rw [tl_sp, List.mem_singleton] at z; omega
  · obtain ⟨x, hx, rfl⟩ := List.mem_map.mp hq
    rcases h.ok x hx with e | e
    · rw [e, tl_empty] at z; simp at z
    · have := e.cs c z
      unfold okC at this
      simp at this
      omega
theorem ite_nx {b : Bool} {D : Ends} {t1 t2 : TS} {σ : L2.St} {H : Hp} (C : L2.St → Hp → Prop) (h1 : b = true → ∀ D' : Ends, (∀ σ' H', C σ' H' → D'.nx σ' H') → t1 D' σ H) (h2 : b = false → ∀ D' : Ends, (∀ σ' H', C σ' H' → D'.nx σ' H') → t2 D' σ H) (h : ∀ σ' H', C σ' H' → D.nx σ' H') : if b = true then t1 D σ H else t2 D σ H := by
  cases b with
  | true => exact iteT' rfl (h1 rfl D h)
  | false => exact iteF' rfl (h2 rfl D h)
section
variable {P : Program} {w : World} {K : PySem.W.Frag} {mg : Str → Option Value} {base : Heap}
def sp_law_otherwise_right (K : PySem.W.Frag) : Sp := fun vs H Q _ => ∃ (d : Addr) (v : V) (p : Pg) (hm : Str → Str) (nms : List Str) (t : Nat) (ro : Option Nat), vs = [.ref d, v] ∧ StA H d t ro ∧ t ≤ 100000 ∧ PgT K H v p ∧ Drawn hm nms p ∧ Tabs (TT K) H ∧ ∀ H', Kn [d] H H' → Tabs (TT K) H' → Q (.bl true) H'
theorem ok_law_otherwise_right (T : Txt K mg) (B : Tb K mg base) : Cal P w K mg base "_law_otherwise_right" 41 ["_law_state", "_law_program_here"] (sp_law_otherwise_right K) := by
  have C_law_digit := ok_digit (P := P) (w := w) (base := base) T
  have C_names_of := ok_names_of (P := P) (w := w) (base := base) T
  have C_law_named := ok_law_named (P := P) (w := w) (base := base) T 30
  have C_law_lines := ok_law_lines (P := P) (w := w) (base := base) T
  have C_program_text := ok_program_text (P := P) (w := w) (base := base) T
  have C_rows_in := ok_rows_in (P := P) (w := w) (base := base) T
  have C_read_program := ok_read_program (P := P) (w := w) T B
  refine Cal.of T.d_law_otherwise_right b_law_otherwise_right sc_law_otherwise_right (fun vs H Q E h => ?_) (fun cdv A outer s H vs Q E hr h => ?_)
  · obtain ⟨_, _, _, _, _, _, _, rfl, _⟩ := h; rfl
  obtain ⟨d, v, p, hm, nms, t, ro, rfl, hS, ht, hv, hD, hT, q⟩ := h
  have hu := hu_of hr
  have hu64 := hr.units
  obtain ⟨tb, hb, HB⟩ := chk (P := P) (w := w) (outer := outer) (H0 := H) (E := E) T hr
  refine ⟨_, (pss_cons (ps_set (i := 2) sc_law_otherwise_right.nd rfl (Or.inl rfl) (pe_callB (cr_sortSet rfl) (by rfl) T.sorted bb_sorted (pa_cons (pe_callTy (call_setS rfl) (by rfl) T.set bb_set (pa_cons (pe_op op_cat (pe_callC C_names_of (hr.mono (by decide)) rfl (pa_cons (pv 1) pa_nil)) (pe_lc (own := [("_law_pair", 3)]) (by rfl) sc_law_otherwise_right.nd (pi_tup (pe_ix ix_tup (pv 1) pe_int (fun _ _ => rfl))) (blkOk_by (own := [("_law_pair", 3)]) (N := N_law_otherwise_right) (sc := defScope s_law_otherwise_right) (by decide +kernel)) (fun _ _ _ _ _ => (pg_name (i := 3) sc_law_otherwise_right.nd rfl (Or.inl rfl))) (fun _ _ _ _ _ => pts_nil) (fun _ _ _ _ _ => (pe_ix (ix_tupB K) (pv 3) pe_int (fun _ _ => rfl))))) pa_nil)) pa_nil)))
  (pss_cons (ps_setLc (i := 4) (own := [("_law_k", 5)]) (by rfl) sc_law_otherwise_right.nd rfl rfl (sw_true rfl rfl rfl (by decide +kernel)) (pi_range1 (by rfl) T.range (pa_cons (pe_callB call_len_seq (by rfl) T.len bb_len (pa_cons (pv 2) pa_nil)) pa_nil)) (blkOk_by (own := [("_law_k", 5)]) (N := N_law_otherwise_right) (sc := defScope s_law_otherwise_right) (by decide +kernel)) (fun _ _ _ _ _ => (pg_name (i := 5) sc_law_otherwise_right.nd rfl (Or.inl rfl))) (fun _ _ _ _ _ => pts_nil) (fun _ _ _ _ _ => (pe_op op_repS pe_str (pe_op op_add pe_int (pv 5)))))
  (pss_cons (ps_if (pt_cmpR op_eq (pe_callC C_law_digit (hr.mono (by decide)) rfl (pa_cons (pv 0) (pa_cons pe_int pa_nil))) pe_int (nomark _)) (pss_one (ps_set (i := 4) sc_law_otherwise_right.nd rfl (Or.inl rfl) (pe_revL (pv 4)))) pss_nil)
  (pss_cons (ps_set (i := 6) sc_law_otherwise_right.nd rfl (Or.inr rfl) (pe_dictzip rfl (by rfl) T.dict (by rfl) T.zip (pa_cons (pv 2) (pa_cons (pv 4) pa_nil))))
  (pss_cons (ps_asg (pe_ix ix_list (pe_lst (pa_cons (pe_tup (pa_cons pe_str (pa_cons pe_str pa_nil))) (pa_cons (pe_tup (pa_cons pe_str (pa_cons pe_str pa_nil))) pa_nil))) (pe_callC C_law_digit (hr.mono (by decide)) rfl (pa_cons (pv 0) (pa_cons pe_int pa_nil))) (fun _ _ => rfl)) (pg_tup (by rfl) (pgs_cons (pg_sub (pv 6) pe_str (set_dict hu)) (pgs_cons (pg_sub (pv 6) pe_str (set_dict hu)) pgs_nil))))
  (pss_cons (ps_set (i := 7) sc_law_otherwise_right.nd rfl (Or.inl rfl) (pe_callTy (call_tupleF K) (by rfl) T.tuple bb_tuple (pa_cons (pe_callB (cr_sortPairs rfl hu64) (by rfl) T.sorted bb_sorted (pa_cons (pe_callC C_law_named (hr.mono (by decide)) rfl (pa_cons (pe_ix ix_tup (pv 1) pe_int (fun _ _ => rfl)) (pa_cons (pv 6) pa_nil))) pa_nil)) pa_nil)))
  (pss_cons (ps_set (i := 8) sc_law_otherwise_right.nd rfl (Or.inl rfl) (pe_tup (pa_cons (pv 7) (pa_cons (pe_callC C_law_named (hr.mono (by decide)) rfl (pa_cons (pe_ix ix_tup (pv 1) pe_int (fun _ _ => rfl)) (pa_cons (pv 6) pa_nil))) pa_nil))))
  (pss_cons (ps_set (i := 9) sc_law_otherwise_right.nd rfl (Or.inl rfl) (pe_callC C_program_text (hr.mono (by decide)) rfl (pa_cons (pe_tup (pa_cons (pv 7) (pa_cons (pe_ix ix_tup (pv 8) pe_int (fun _ _ => rfl)) pa_nil))) pa_nil)))
  (pss_cons (ps_if (pt_cmpR (op_neD hr.units) (pe_slice sl_list (pe_split (pv 9) pe_str) (po_some (pe_callB call_len_seq (by rfl) T.len bb_len (pa_cons (pv 7) pa_nil))) po_none) (pe_slice sl_list (pe_callC C_law_lines (hr.mono (by decide)) rfl (pa_cons (pe_callC C_program_text (hr.mono (by decide)) rfl (pa_cons (pv 1) pa_nil)) (pa_cons (pv 6) pa_nil))) (po_some (pe_callB call_len_seq (by rfl) T.len bb_len (pa_cons (pv 7) pa_nil))) po_none) (nomark _)) (pss_one (ps_ret pe_bl)) pss_nil)
  (pss_cons (ps_if (pt_cmpR (op_neD hr.units) (pe_callC C_names_of (hr.mono (by decide)) rfl (pa_cons (pv 8) pa_nil)) (pe_callB cr_sortedS (by rfl) T.sorted bb_sorted (pa_cons (pe_lc (own := [("_law_name", 10)]) (by rfl) sc_law_otherwise_right.nd (pi_list (pe_callC C_names_of (hr.mono (by decide)) rfl (pa_cons (pv 1) pa_nil))) (blkOk_by (own := [("_law_name", 10)]) (N := N_law_otherwise_right) (sc := defScope s_law_otherwise_right) (by decide +kernel)) (fun _ _ _ _ _ => (pg_name (i := 10) sc_law_otherwise_right.nd rfl (Or.inl rfl))) (fun _ _ _ _ _ => pts_nil) (fun _ _ _ _ _ => (pe_dget hu (pv 6) (pv 10) (fun _ _ => rfl)))) pa_nil)) (nomark _)) (pss_one (ps_ret pe_bl)) pss_nil)
  (pss_cons (ps_set (i := 11) sc_law_otherwise_right.nd rfl (Or.inr rfl) (pe_callTy (call_dictP rfl) (by rfl) T.dict bb_dict (pa_cons (pe_lc (own := [("_law_name", 10)]) (by rfl) sc_law_otherwise_right.nd (pi_list (pv 2)) (blkOk_by (own := [("_law_name", 10)]) (N := N_law_otherwise_right) (sc := defScope s_law_otherwise_right) (by decide +kernel)) (fun _ _ _ _ _ => (pg_name (i := 10) sc_law_otherwise_right.nd rfl (Or.inl rfl))) (fun _ _ _ _ _ => pts_nil) (fun _ _ _ _ _ => (pe_tup (pa_cons (pv 10) (pa_cons (pe_callC C_law_digit (hr.mono (by decide)) rfl (pa_cons (pv 0) (pa_cons pe_int pa_nil))) pa_nil))))) pa_nil)))
  (pss_cons (ps_set (i := 12) sc_law_otherwise_right.nd rfl (Or.inl rfl) (pe_callTy (call_dictP rfl) (by rfl) T.dict bb_dict (pa_cons (pe_lc (own := [("_law_name", 10)]) (by rfl) sc_law_otherwise_right.nd (pi_list (pv 2)) (blkOk_by (own := [("_law_name", 10)]) (N := N_law_otherwise_right) (sc := defScope s_law_otherwise_right) (by decide +kernel)) (fun _ _ _ _ _ => (pg_name (i := 10) sc_law_otherwise_right.nd rfl (Or.inl rfl))) (fun _ _ _ _ _ => pts_nil) (fun _ _ _ _ _ => (pe_tup (pa_cons (pe_dget hu (pv 6) (pv 10) (fun _ _ => rfl)) (pa_cons (pe_dget hu (pv 11) (pv 10) (fun _ _ => rfl)) pa_nil))))) pa_nil)))
  (pss_cons (ps_for PassesOwn.never rfl (pi_zip (by rfl) T.zip (pa_cons (pe_callC C_rows_in (hr.mono (by decide)) rfl (pa_cons (pv 1) pa_nil)) (pa_cons (pe_callC C_rows_in (hr.mono (by decide)) rfl (pa_cons (pv 8) pa_nil)) pa_nil))) (pg_tup (by rfl) (pgs_cons (pg_name (i := 13) sc_law_otherwise_right.nd rfl (Or.inl rfl)) (pgs_cons (pg_name (i := 14) sc_law_otherwise_right.nd rfl (Or.inl rfl)) pgs_nil)))
   hb)
  (pss_one (ps_ret (pe_cmpR (op_eqD hr.units) (pe_callC C_read_program (hr.mono (by decide)) rfl (pa_cons (pe_callC C_program_text (hr.mono (by decide)) rfl (pa_cons (pv 8) pa_nil)) pa_nil)) (pv 8) (nomark _))))))))))))))))), ?_⟩
  obtain ⟨pa, pm, pr, rfl, hpa, hpm, hpr⟩ := id hv
  have hok := hD.ok
  have hvn : ∀ x ∈ p.vars, x ∈ nms := p.vars_inn hD.inn
  have hn5 := hD.nm.few
  refine ⟨_, rfl, _, p, hm, rfl, hv, hok, ⟨nms, by omega, hvn⟩, fun H1 l1 ys1 s1 n1 h1 N1 => ?_⟩
  obtain ⟨ma, xm, mob, rfl, hma, hmob, hxm⟩ := hpm
  refine ⟨_, rfl, _, _, _, _, rfl, rfl, same_tup s1 hpa, rfl, ma, rfl, ⟨_, SqT.frz (s1 _ _ hma)⟩, fun D1 nD1 => ?_⟩
  have hxml := hxm.length
  rw [List.length_map] at hxml
  have hmsn : (p.ms.map (·.1)).Nodup := hok.up.nodup
  have hmsl : p.ms.length ≤ 5 := by
    have := nodup_len_le (ys := nms) hmsn fun x hx => by
      obtain ⟨m, hm', rfl⟩ := List.mem_map.mp hx
      exact hD.mks m hm'
    rw [List.length_map] at this
    omega
  have hy1l : ys1.length ≤ 5 := by
    have := nodup_len_le (ys := nms) N1.up.nodup fun x hx => hvn x ((N1.mem x).mp hx)
    omega
  refine lc_pu (walk_tup (xs := xm)) (by omega) nD1 (fun H' s' => SqT.frz (s' _ _ (s1 _ _ hma))) (fun i y H' => ∃ m, p.ms[i]? = some m ∧ y = .str m.1) (fun i y H' H'' _ _ h => h) ?_ ?_
  · rintro i x H2 H3 Qc hi s2 _ ⟨rfl, hx⟩ hq
    obtain ⟨dd, hdd, hxd⟩ := ((hxm.same s1).same s2).get hx
    rw [List.getElem?_map] at hdd
    obtain ⟨m, hm', rfl⟩ := Option.map_eq_some_iff.mp hdd
    obtain ⟨q0, q1, q2, rfl, hq0, hq1, hq2⟩ := Td.t2 hxd
    obtain rfl := td_str.mp hq1
    refine ⟨rfl, _, rfl, _, _, _, _, rfl, rfl, hq0, rfl, ?_⟩
    exact hq _ _ (Same.refl _) ⟨m, hm', rfl⟩
  intro ys2 H2 s2 hD2 hyl2 hys2
  have e2 : ys2 = (p.ms.map (·.1)).map V.str := by
    apply List.ext_getElem?
    intro j
    by_cases hj : j < ys2.length
    · obtain ⟨x, h1, h2⟩ := hys2 j _ (List.getElem?_eq_getElem hj)
      rw [List.getElem?_eq_getElem hj, h2, List.getElem?_map, List.getElem?_map, h1] <;> rfl
    · rw [List.getElem?_eq_none (by omega), List.getElem?_eq_none (by rw [List.length_map, List.length_map]; omega)]
  rw [e2] at hD2
  have s12 := s1.trans s2
  refine ⟨l1, D1, _, _, rfl, rfl, s2 _ _ h1, hD2, by rw [List.length_map, List.length_map, List.length_map, sizeLine_eq]; omega, fun pl npl => ?_⟩
  refine ⟨pl, ys1 ++ p.ms.map (·.1), rfl, SqL.of (by rw [upd_same, List.map_append]), by rw [List.length_append, List.length_map]; omega, fun ps nps => ?_⟩
  have hlen := gotS_len (ys1 ++ p.ms.map (·.1)) []
  rw [List.length_append, List.length_map, List.length_nil] at hlen
  refine ⟨ps, _, rfl, upd_same, by omega, fun ns pn hperm hsort npn => ?_⟩
  have eP : (cxOf CX0 P w K mg base N_law_otherwise_right "_law_otherwise_right" (defScope s_law_otherwise_right) (He.ga K "_law_otherwise_right") cdv A outer s H E).nox.prog = P := rfl
  have eW : (cxOf CX0 P w K mg base N_law_otherwise_right "_law_otherwise_right" (defScope s_law_otherwise_right) (He.ga K "_law_otherwise_right") cdv A outer s H E).nox.w = w := rfl
  rw [eP, eW] at npn ⊢
  have s3 := (s12.trans (same_new npl (o := .lst (ys1.map V.str ++ (p.ms.map (·.1)).map V.str)))).trans (same_new nps (o := SetSO P w ps (gotS (ys1 ++ p.ms.map (·.1)) [])))
  have s4 := s3.trans (same_new npn (o := .lst (ns.map V.str)))
  have hnN : NamesOf (p.vars ++ p.ms.map (·.1)) ns := ⟨rising_of hsort (hperm.nodup_iff.mpr (gotS_nodup _ _ List.nodup_nil)), fun x => by
    rw [hperm.mem_iff, gotS_mem, List.mem_append, List.mem_append, N1.mem]
    simp⟩
  have hpn4 : upd (upd (upd H2 pl (.lst (ys1.map V.str ++ (p.ms.map (·.1)).map V.str))) ps (SetSO P w ps (gotS (ys1 ++ p.ms.map (·.1)) []))) pn (.lst (ns.map V.str)) pn = some (.lst (ns.map V.str)) := upd_same
  generalize upd (upd (upd H2 pl (.lst (ys1.map V.str ++ (p.ms.map (·.1)).map V.str))) ps (SetSO P w ps (gotS (ys1 ++ p.ms.map (·.1)) []))) pn (.lst (ns.map V.str)) = H4 at s4 hpn4 ⊢
  clear s3 npn nps npl hD2 hys2 hyl2 s12 s2 nD1
  have hnsn : ∀ x ∈ ns, x ∈ nms := fun x hx => by
    rcases List.mem_append.mp ((hnN.mem x).mp hx) with h | h
    · exact hvn x h
    · obtain ⟨m, hm', rfl⟩ := List.mem_map.mp h
      exact hD.mks m hm'
  have hnl : ns.length ≤ 5 := by
    have := nodup_len_le hnN.up.nodup hnsn
    omega
  have hvs : ∀ x ∈ p.vars, x ∈ ns := fun x hx => (hnN.mem x).mpr (List.mem_append_left _ hx)
  have hmks : ∀ m ∈ p.ms, m.1 ∈ ns := fun m hm' => (hnN.mem _).mpr (List.mem_append_right _ (List.mem_map_of_mem hm'))
  have hv4 := hv.same s4
  have hS4 := hS.same s4
  have hT4 := hT.ext s4
  refine ⟨_, rfl, _, _, rfl, .inl (.of hpn4), _, rfl, by rw [List.length_map]; omega, by rw [List.length_map]; omega, fun D3 nD3 => ?_⟩
  refine lc_pu (n := ((ns.map V.str).length : Int).toNat) walk_range (by rw [List.length_map]; omega) nD3 (fun _ _ => trivial) (fun i y H' => y = .str (cN i)) (fun i y H' H'' _ _ h => h) ?_ ?_
  · rintro i x H5 H6 Qc hi s5 _ ⟨rfl, rfl⟩ hq
    rw [List.length_map] at hi
    refine ⟨rfl, _, rfl, _, _, rfl, rfl, _, _, rfl, rfl, by omega, by omega, (by decide), ?_⟩
    refine hq _ _ (Same.refl _) ?_
    show V.str (repS "c" ((1 : Int) + (0 + (i : Int))).toNat) = _
    rw [show ((1 : Int) + (0 + (i : Int))).toNat = 1 + i by omega]
    rfl
  intro ys3 H5 s5 hD3 hyl3 hys3
  rw [List.length_map] at hyl3
  have e3 : ys3 = (fresh ns.length).map V.str := by
    apply List.ext_getElem?
    intro j
    unfold fresh
    by_cases hj : j < ys3.length
    · rw [List.getElem?_eq_getElem hj, hys3 j _ (List.getElem?_eq_getElem hj), List.getElem?_map, List.getElem?_map, List.getElem?_range (by omega)] <;> rfl
    · rw [List.getElem?_eq_none (by omega), List.getElem?_eq_none (by rw [List.length_map, List.length_map, List.length_range]; omega)]
  rw [e3] at hD3
  have hS5 := hS4.same s5
  have s05 := s4.trans s5
  refine ⟨_, rfl, d, 2, t, ro, rfl, hS5, by decide, by decide, by omega, fun H6 n6 d6 hS6 hn6 => ?_⟩
  have hD6 := d6.lst hS5 hD3
  have hpn6 := d6.lst hS5 (s5 _ _ hpn4)
  have d06 : Dr d H H6 := (Dr.ofS s05).trans d6
  refine ⟨rfl, _, rfl, ?_⟩
  refine ite_nx (fun σ' H' => ∃ (fa : Addr) (fr : List Str), σ' = [some (.ref d), some (.ref pa), some (.ref pn), none, some (.ref fa), none, none, none, none, none, none, none, none, none, none, none, none, none] ∧ Same H6 H' ∧ H' fa = some (.lst (fr.map V.str)) ∧ fr.length = ns.length ∧ fr.Nodup ∧ ∀ x ∈ fr, isName x = true) ?_ ?_ ?_
  · intro _ D' hD'
    refine ⟨_, rfl, _, _, rfl, .of hD6, fun fa nfa => ?_⟩
    refine hD' _ _ ⟨fa, (fresh ns.length).reverse, rfl, same_new nfa, by rw [upd_same, List.map_reverse], by rw [List.length_reverse, fresh_len], (List.reverse_perm _).nodup_iff.mpr (fresh_nd _), fun x hx => fresh_ok hnl x (List.mem_reverse.mp hx)⟩
  · intro _ D' hD'
    exact hD' _ _ ⟨D3, fresh ns.length, rfl, Same.refl _, hD6, fresh_len _, fresh_nd _, fresh_ok hnl⟩
  rintro _ H7 ⟨fa, fr, rfl, s7, hfa, hfl, hfn, hfo⟩
  have hpn7 := s7 _ _ hpn6
  have hS7 := hS6.same s7
  have d07 := d06.trans (.ofS s7)
  clear hD6 hpn6 hS6 d06 d6 hS5 s05 hys3 hyl3 hD3 s5 nD3
  refine ⟨_, rfl, _, rfl, pn, fa, ns, fr.map V.str, rfl, .of hpn7, .of hfa, by rw [List.length_map, hfl], fun od nod => ?_⟩
  have ezip : (ns.map Sum.inr).zip (fr.map V.str) = (ns.zip fr).map fun q => ((Sum.inr q.1 : L2.Key), V.str q.2) := by
    rw [List.zip_map]; rfl
  rw [ezip]
  have s8 := same_new nod (o := .dK (mergeK [] ((ns.zip fr).map fun q => ((Sum.inr q.1 : L2.Key), V.str q.2))))
  have hod8 : upd H7 od (.dK (mergeK [] ((ns.zip fr).map fun q => ((Sum.inr q.1 : L2.Key), V.str q.2)))) od = some (.dK (mergeK [] ((ns.zip fr).map fun q => ((Sum.inr q.1 : L2.Key), V.str q.2)))) := upd_same
  have hS8 := hS7.same s8
  have d08 := d07.trans (.ofS s8)
  have hpn8 := s8 _ _ hpn7
  have nodH : H od = none := d07.free nod
  have hodd : od ≠ d := fun z => hS7.some (by rw [← z]; exact nod)
  generalize upd H7 od (.dK (mergeK [] ((ns.zip fr).map fun q => ((Sum.inr q.1 : L2.Key), V.str q.2)))) = H8 at s8 hod8 hS8 d08 hpn8 ⊢
  clear s8 nod hpn7 hS7 d07 hfa s7
  refine ⟨by show 2 ≤ sizeLine; decide, fun q1 nq1 => ?_⟩
  refine ⟨by show 2 ≤ sizeLine; decide, fun q2 nq2 => ?_⟩
  refine ⟨by show 2 ≤ sizeLine; decide, fun q3 nq3 => ?_⟩
  have s9 := ((same_new nq1 (o := .tup [V.str "east", V.str "west"])).trans (same_new nq2 (o := .tup [V.str "west", V.str "east"]))).trans (same_new nq3 (o := .lst [V.ref q1, V.ref q2]))
  have hq1 := (same_new nq3 (o := .lst [V.ref q1, V.ref q2])) _ _ ((same_new nq2 (o := .tup [V.str "west", V.str "east"])) _ _ (upd_same (H := H8) (a := q1) (o := .tup [V.str "east", V.str "west"])))
  have hq2 := (same_new nq3 (o := .lst [V.ref q1, V.ref q2])) _ _ (upd_same (H := upd H8 q1 (.tup [V.str "east", V.str "west"])) (a := q2) (o := .tup [V.str "west", V.str "east"]))
  have hq3 : upd (upd (upd H8 q1 (.tup [V.str "east", V.str "west"])) q2 (.tup [V.str "west", V.str "east"])) q3 (.lst [V.ref q1, V.ref q2]) q3 = some _ := upd_same
  have hS9 := hS8.same s9
  refine ⟨_, rfl, d, 2, _, ro, rfl, hS9, by decide, by decide, by omega, fun H10 n10 d10 hS10 hn10 => ?_⟩
  have hq1' := d10.kp.tup hS9.tf (SqT.of (K := K) hq1)
  have hq2' := d10.kp.tup hS9.tf (SqT.of (K := K) hq2)
  have hq3' := d10.lst hS9 hq3
  have hod10 := d10.dK hodd (s9 _ _ hod8)
  obtain ⟨qx, e1, e2, hqx, hqxs, he1, he2⟩ : ∃ qx e1 e2, atI [V.ref q1, V.ref q2] (n10 : Int) = some (.ref qx) ∧ SqT K H10 qx [V.str e1, V.str e2] ∧ isHouse e1 = true ∧ isHouse e2 = true := by
    match n10, hn10 with
    | 0, _ => exact ⟨q1, "east", "west", rfl, hq1', by decide +kernel, by decide +kernel⟩
    | 1, _ => exact ⟨q2, "west", "east", rfl, hq2', by decide +kernel, by decide +kernel⟩
  refine ⟨q3, _, _, _, rfl, rfl, .of hq3', hqx, qx, _, rfl, hqxs, rfl, ?_⟩
  have hzl : ((ns.zip fr).map fun q => ((Sum.inr q.1 : L2.Key), V.str q.2)).length ≤ 5 := by rw [List.length_map, List.length_zip]; omega
  have hml := length_mergeK ((ns.zip fr).map fun q => ((Sum.inr q.1 : L2.Key), V.str q.2)) []
  rw [List.length_nil] at hml
  have hpl := length_putK (mergeK [] ((ns.zip fr).map fun q => ((Sum.inr q.1 : L2.Key), V.str q.2))) (Sum.inr "east") (V.str e1)
  refine ⟨_, _, rfl, _, rfl, od, _, rfl, DPut.k (k := Sum.inr "east") hod10 (by rw [sizeLine_eq]; omega), _, _, rfl, _, rfl, od, _, rfl, DPut.k (k := Sum.inr "west") upd_same (by rw [sizeLine_eq]; omega), rfl, ?_⟩
  rw [upd_upd]
  have hO := oth_chg (h1 := e1) (h2 := e2) hnN.up.nodup hfl.symm
  have hC := chg_ok (fun x hx => hD.nm.ok x (hnsn x hx)) hnN.up.nodup hfl.symm hfn hfo he1 he2
  have hG := oth_has (h1 := e1) (h2 := e2) (fun x hx => (hD.nm.ok x (hnsn x hx)).1) hnN.up.nodup hfl.symm
  generalize chg ns fr e1 e2 = f at hO hC hG
  generalize putK (putK (mergeK [] ((ns.zip fr).map fun q => ((Sum.inr q.1 : L2.Key), V.str q.2))) (Sum.inr "east") (V.str e1)) (Sum.inr "west") (V.str e2) = kvo at hO hG ⊢
  have hod11 : upd H10 od (.dK kvo) od = some (.dK kvo) := upd_same
  have d011 : Dr d H (upd H10 od (.dK kvo)) := ((d08.trans (.ofS s9)).trans d10).putN nodH
  have hS11 := hS10.put (o := .dK kvo) hodd
  have hpn11 : upd H10 od (.dK kvo) pn = some (.lst (ns.map V.str)) := by
    rw [upd_ne (fun z => by rw [z, hod8] at hpn8; cases hpn8)]
    exact d10.lst hS9 (s9 _ _ hpn8)
  generalize upd H10 od (.dK kvo) = H11 at hod11 d011 hS11 hpn11 ⊢
  have hv11 : PgT K H11 (.ref pa) p := hv.kp d011.kp hS.tf
  have hT11 := d011.tabs hS hT
  obtain ⟨pa', pm', pr', ea, hpa11, hpm11, hpr11⟩ := id hv11
  cases ea
  have hmsh : ∀ m ∈ p.ms, isName m.1 = true ∧ isHouse m.2 = true := fun m hm' => ⟨(hok.mks m hm').1, by rw [(hok.mks m hm').2]; exact hok.hs _⟩
  refine ⟨_, rfl, _, _, _, _, rfl, rfl, hpa11, rfl, _, rfl, pm', od, _, kvo, f, rfl, hpm11.td, (marksOkD hmsh (by omega)).mono (by decide), hod11, hO, fun H12 v12 s12 t12 => ?_⟩
  rw [ren_marks] at t12
  obtain ⟨m12, xs12, rfl, hm12, hx12⟩ := td_tup.mp t12
  have hnd12 : ((p.ms.map fun m => (f m.1, f m.2)).map (·.1)).Nodup := by
    rw [List.map_map]
    have : ((fun m : Str × Str => m.1) ∘ fun m : Str × Str => (f m.1, f m.2)) = f ∘ (·.1) := rfl
    rw [this, ← List.map_map]
    unfold List.Nodup at hmsn ⊢
    rw [List.pairwise_map]
    exact List.Pairwise.imp_of_mem (fun {a b} ha hb h e => h (hC.inj a (by obtain ⟨m, hm', rfl⟩ := List.mem_map.mp ha; exact hmks m hm') b (by obtain ⟨m, hm', rfl⟩ := List.mem_map.mp hb; exact hmks m hm') e)) hmsn
  refine ⟨m12, xs12, _, rfl, hm12, hx12, hnd12, fun ms' ys13 p13 perm' up' hy13 np13 => ?_⟩
  refine ⟨p13, ys13, rfl, .of upd_same, fun tm ob ntm hob => ?_⟩
  have s13 := same_new np13 (o := .lst ys13)
  have s14 := same_new ntm (o := .frz ob (.tup ys13))
  have hmk14 : MkT K (upd (upd H12 p13 (.lst ys13)) tm (.frz ob (.tup ys13))) (.ref tm) ms' := ⟨tm, ys13, ob, rfl, upd_same, hob, (hy13.same s13).same s14⟩
  have s1114 := (s12.trans s13).trans s14
  generalize upd (upd H12 p13 (.lst ys13)) tm (.frz ob (.tup ys13)) = H14 at s1114 hmk14 ⊢
  clear s14 s13 ntm np13 hy13 hx12 hm12 t12 s12
  have hok' := ren_pg hC hok hvs hmks perm' up'
  have hrows30 : okD 30 (.tuple (rowsD p.rs)) := (rowsOkD hok.hs p.rs hok.rk (by have := hok.cn; omega)).mono (by have := hok.dp; omega)
  refine ⟨_, rfl, _, rfl, _, _, _, _, rfl, rfl, same_tup s1114 hpa11, rfl, _, rfl, pr', od, _, kvo, f, rfl, hpr11.same s1114, hrows30, s1114 _ _ hod11, hO, fun H15 v15 s15 t15 => ?_⟩
  have t15 : Td K H15 v15 (.tuple (rowsD (rens' f p.rs))) := by
    have := t15
    rw [ren, rows_ren_d hC] at this
    exact this
  refine ⟨by show 2 ≤ sizeLine; decide, fun pc npc => ?_⟩
  have s16 := same_new npc (o := .tup [V.ref tm, v15])
  have s1116 := (s1114.trans s15).trans s16
  have hmk16 := (hmk14.same s15).same s16
  have t16 := t15.same s16
  have hpc16 : SqT K (upd H15 pc (.tup [V.ref tm, v15])) pc [V.ref tm, v15] := .of upd_same
  generalize upd H15 pc (.tup [V.ref tm, v15]) = H16 at s1116 hmk16 t16 hpc16 ⊢
  clear s16 npc t15 s15 hmk14 s1114
  have hch16 : PgT K H16 (.ref pc) ⟨ms', rens' f p.rs⟩ := ⟨pc, _, _, rfl, hpc16, hmk16, t16⟩
  refine ⟨_, rfl, _, rfl, _, _, _, _, rfl, rfl, hpc16, rfl, by show 2 ≤ sizeLine; decide, fun px npx => ?_⟩
  have s17 := same_new npx (o := .tup [V.ref tm, v15])
  refine ⟨.ref px, ⟨ms', rens' f p.rs⟩, _, rfl, ⟨px, _, _, rfl, .of upd_same, hmk16.same s17, t16.same s17⟩, hok', fun H18 s18 => ?_⟩
  have s1618 := s17.trans s18
  have s1118 := s1116.trans s1618
  have hch18 := hch16.same s1618
  have hpc18 := same_tup s1618 hpc16
  have hmk18 := hmk16.same s1618
  have t18 := t16.same s1618
  clear s18 s17 npx s1116 hmk16 t16
  have hmsl' : ms'.length = p.ms.length := by rw [perm'.length_eq, List.length_map]
  obtain ⟨tm', xmk, mobk, emk, hmkx, _, hxmk⟩ := id hmk18
  cases emk
  have hmkl := hxmk.length
  rw [List.length_map] at hmkl
  have htl' := Pg.text_len hok'
  refine ⟨_, rfl, ⟨_, rfl⟩, _, _, rfl, rfl, by decide +kernel, by rw [sizeLine_eq]; omega, fun pl npl => ?_⟩
  rw [Pg.split hok']
  have s19 := same_new npl (o := .lst ((Pg.lines ⟨ms', rens' f p.rs⟩).map V.str))
  have hpl19 : upd H18 pl (.lst ((Pg.lines ⟨ms', rens' f p.rs⟩).map V.str)) pl = some (.lst ((Pg.lines ⟨ms', rens' f p.rs⟩).map V.str)) := upd_same
  generalize upd H18 pl (.lst ((Pg.lines ⟨ms', rens' f p.rs⟩).map V.str)) = H19 at s19 hpl19 ⊢
  refine ⟨_, rfl, _, _, rfl, .inr (SqT.frz (s19 _ _ hmkx)), _, rfl, np ⟨pl, _, rfl, .of hpl19, fun pk npk => ?_⟩⟩
  rw [hmkl, cut_from]
  have edrop : ((Pg.lines ⟨ms', rens' f p.rs⟩).map V.str).drop ms'.length = (liness 0 (rens' f p.rs)).map V.str := by
    unfold Pg.lines
    rw [List.map_append, List.drop_left' (by rw [List.length_map, List.length_map])]
  rw [edrop]
  have s20 := same_new npk (o := .lst ((liness 0 (rens' f p.rs)).map V.str))
  have hpk20 : upd H19 pk (.lst ((liness 0 (rens' f p.rs)).map V.str)) pk = some (.lst ((liness 0 (rens' f p.rs)).map V.str)) := upd_same
  generalize upd H19 pk (.lst ((liness 0 (rens' f p.rs)).map V.str)) = H20 at s20 hpk20 ⊢
  have s1820 := s19.trans s20
  have s1120 := s1118.trans s1820
  have hodt := s1120 _ _ hod11
  have hptl := Pg.text_len hok
  have hpll := Pg.lines_len hok
  have eM : p.text = Str.join nl (p.linesW.map (Str.join sp)) := by unfold Pg.text; rw [Pg.lines_W]
  have hMl : p.linesW.length ≤ 180 := by rw [Pg.lines_W, List.length_map] at hpll; exact hpll
  refine ⟨_, rfl, .ref pa, p, hm, rfl, hv11.same s1120, hok, fun H21 s21 => ?_⟩
  refine ⟨_, rfl, p.linesW, od, kvo, f, by rw [eM] <;> rfl, ?_, by omega, by rw [← eM]; omega, fun ws hws => LW.lines hC (Pg.linesW_ok hok ws hws), s21 _ _ hodt, hO, fun H22 p22 s22 n22 h22 => ?_⟩
  · intro z
    have := Pg.lines_ne hok
    rw [Pg.lines_W, z] at this
    exact this rfl
  have s1822 := (s1820.trans s21).trans s22
  refine ⟨_, rfl, _, _, rfl, .inr (SqT.frz (s1822 _ _ hmkx)), _, rfl, np ⟨p22, _, rfl, .of h22, fun pj npj => ?_⟩⟩
  rw [hmkl, cut_from]
  have edrop2 : (p.linesW.map fun ws => V.str (Str.join sp (ws.map f))).drop ms'.length = (liness 0 (rens' f p.rs)).map V.str := by
    unfold Pg.linesW
    rw [List.map_append, List.drop_left' (by rw [List.length_map, List.length_map, hmsl']), liness_W, linessW_ren hC, List.map_map, List.map_map]; rfl
  rw [edrop2]
  have s23 := same_new npj (o := .lst ((liness 0 (rens' f p.rs)).map V.str))
  have hpj23 : upd H22 pj (.lst ((liness 0 (rens' f p.rs)).map V.str)) pj = some (.lst ((liness 0 (rens' f p.rs)).map V.str)) := upd_same
  have hpk23 := s23 _ _ (s22 _ _ (s21 _ _ hpk20))
  generalize upd H22 pj (.lst ((liness 0 (rens' f p.rs)).map V.str)) = H23 at s23 hpj23 hpk23 ⊢
  have s1823 := s1822.trans s23
  have dps : ∀ (l : List Str), DpAll K H23 (l.map V.str) (l.map PyData.str) := fun l => by
    induction l with
    | nil => exact .nil
    | cons x l ih => exact .cons (.str x) ih
  have okl : okD 2 (.list ((liness 0 (rens' f p.rs)).map PyData.str)) := by
    refine ⟨?_, fun dd hdd => ?_⟩
    · have h1 := liness_len 0 (rens' f p.rs)
      have h2 : cnts (rens' f p.rs) ≤ 60 := hok'.cn
      rw [List.length_map]; omega
    · obtain ⟨x, hx, rfl⟩ := List.mem_map.mp hdd
      rw [liness_W] at hx
      obtain ⟨ws, hws, rfl⟩ := List.mem_map.mp hx
      exact (linessW_ok hok'.hs 0 (rens' f p.rs) hok'.rk (by have h2 : Tw.dps (rens' f p.rs) ≤ 5 := hok'.dp; omega) ws hws).lay
  refine ⟨_, _, .lst (.of hpk23) (dps _), .lst (.of hpj23) (dps _), okl.shaped (by decide), okl.shaped (by decide), _, rfl, ?_⟩
  refine iteF' (by rw [okl.refl]; rfl) ?_
  have s1123 := s1118.trans s1823
  have hod23 := s1123 _ _ hod11
  have hpn23 := s1123 _ _ hpn11
  have hch23 := hch18.same s1823
  have hv23 := hv11.same s1123
  have hfr : ∀ y ∈ (⟨ms', rens' f p.rs⟩ : Pg).vars, y ∈ ns.map f := fun y hy => by
    obtain ⟨x, hx, rfl⟩ := (ren_vars_mem p ms').mp hy
    exact List.mem_map_of_mem (hvs x hx)
  clear s1820 s1822 s22 s21 s20 s19 hpj23 hpk23 hpk20 hpl19 h22 npj npk npl okl
  refine ⟨_, rfl, _, ⟨ms', rens' f p.rs⟩, _, rfl, hch23, hok', ⟨ns.map f, by rw [List.length_map]; omega, hfr⟩, fun H24 l24 y24 s24 n24 h24 N24 => ?_⟩
  refine ⟨_, rfl, .ref pa, p, hm, rfl, hv23.same s24, hok, ⟨nms, by omega, hvn⟩, fun H25 l25 y25 s25 n25 h25 N25 => ?_⟩
  have hy25l : y25.length ≤ 5 := by
    have := nodup_len_le (ys := nms) N25.up.nodup fun x hx => hvn x ((N25.mem x).mp hx)
    omega
  have hod25 := s25 _ _ (s24 _ _ hod23)
  refine ⟨l25, rfl, ⟨_, .of h25⟩, fun D26 nD26 => ?_⟩
  refine lc_pu (walk_list (xs := y25.map V.str)) (by rw [List.length_map]; omega) nD26 (fun H' s' => .of (s' _ _ h25)) (fun i y H' => ∃ x, y25[i]? = some x ∧ y = .str (f x)) (fun i y H' H'' _ _ h => h) ?_ ?_
  · rintro j y H26 H27 Qc hj s26 _ ⟨rfl, hy⟩ hq
    rw [List.getElem?_map] at hy
    obtain ⟨x, hx, rfl⟩ := Option.map_eq_some_iff.mp hy
    have hxn : x ∈ ns := hvs x ((N25.mem x).mp (List.mem_of_getElem? hx))
    refine ⟨rfl, _, rfl, _, rfl, od, _, rfl, dget_eq (s26 _ _ hod25) (hG x hxn), ?_⟩
    exact hq _ _ (Same.refl _) ⟨x, hx, rfl⟩
  intro ys26 H26 s26 hD26 hyl26 hys26
  rw [List.length_map] at hyl26
  have e26 : ys26 = (y25.map f).map V.str := by
    apply List.ext_getElem?
    intro j
    by_cases hj : j < ys26.length
    · obtain ⟨x, h1, h2⟩ := hys26 j _ (List.getElem?_eq_getElem hj)
      rw [List.getElem?_eq_getElem hj, h2, List.getElem?_map, List.getElem?_map, h1] <;> rfl
    · rw [List.getElem?_eq_none (by omega), List.getElem?_eq_none (by rw [List.length_map, List.length_map]; omega)]
  rw [e26] at hD26
  refine ⟨D26, y25.map f, rfl, .of hD26, by rw [List.length_map]; omega, fun y27 p27 perm27 srt27 np27 => ?_⟩
  have s27 := same_new np27 (o := .lst (y27.map V.str))
  have hp27 : upd H26 p27 (.lst (y27.map V.str)) p27 = some (.lst (y27.map V.str)) := upd_same
  have h24' := (s25.trans (s26.trans s27)) _ _ h24
  have s1127 := s1123.trans (s24.trans (s25.trans (s26.trans s27)))
  have hch27 := hch23.same (s24.trans (s25.trans (s26.trans s27)))
  generalize upd H26 p27 (.lst (y27.map V.str)) = H27 at s27 hp27 h24' s1127 hch27 ⊢
  have ey : y24 = y27 := by
    have nd : (y25.map f).Nodup := by
      have h := N25.up.nodup
      unfold List.Nodup at h ⊢
      rw [List.pairwise_map]
      exact List.Pairwise.imp_of_mem (fun {a b} ha hb h e => h (hC.inj a (hvs a ((N25.mem a).mp ha)) b (hvs b ((N25.mem b).mp hb)) e)) h
    refine rising_ext N24.up (rising_of srt27 (perm27.nodup_iff.mpr nd)) fun x => ?_
    rw [N24.mem, perm27.mem_iff, ren_vars_mem, List.mem_map]
    constructor
    · rintro ⟨z, h1, h2⟩
      exact ⟨z, (N25.mem z).mpr h1, h2⟩
    · rintro ⟨z, h1, h2⟩
      exact ⟨z, (N25.mem z).mp h1, h2⟩
  subst ey
  have hy24l : y24.length ≤ 5 := by rw [perm27.length_eq, List.length_map]; exact hy25l
  have dps2 : ∀ (l : List Str), DpAll K H27 (l.map V.str) (l.map PyData.str) := fun l => by
    induction l with
    | nil => exact .nil
    | cons x l ih => exact .cons (.str x) ih
  have okn : okD 2 (.list (y24.map PyData.str)) := by
    refine ⟨by rw [List.length_map]; omega, fun dd hdd => ?_⟩
    obtain ⟨x, hx, rfl⟩ := List.mem_map.mp hdd
    obtain ⟨z, hz, rfl⟩ := List.mem_map.mp (hfr x ((N24.mem x).mp hx))
    exact (wd_name (hC.nm z hz)).lay
  refine ⟨_, _, .lst (.of h24') (dps2 _), .lst (.of hp27) (dps2 _), okn.shaped (by decide), okn.shaped (by decide), _, rfl, ?_⟩
  refine iteF' (by rw [okn.refl]; rfl) ?_
  clear dps2 okn hp27 h24' s27 s26 s25 s24 hD26 e26 hys26 hyl26 perm27 srt27 N24 N25 h24 h25 n24 n25 nD26 np27 hod25 hy25l hy24l
  -- the worths
  have hS27 := hS11.same s1127
  have hpn27 := s1127 _ _ hpn11
  have hod27 := s1127 _ _ hod11
  have d027 := d011.trans (.ofS s1127)
  refine ⟨_, rfl, pn, rfl, ⟨_, .of hpn27⟩, fun D28 nD28 => ?_⟩
  refine lc_dr (walk_list (xs := ns.map V.str)) (by rw [List.length_map]; omega) nD28 hS27 (fun H' k => .of (k.lst hS27 hpn27)) (fun i y H' => ∃ p x n, y = .ref p ∧ ns[i]? = some x ∧ SqT K H' p [.str x, .int ((n : Nat) : Int)] ∧ n < 997) (fun i y H' H'' ⟨l, hl⟩ k ⟨p, x, h, e1, e2, e3, e4⟩ => ⟨p, x, h, e1, e2, k.tup (.lst hl) e3, e4⟩) (fun i y H' H'' t' st k ⟨p, x, h, e1, e2, e3, e4⟩ => ⟨p, x, h, e1, e2, k.kp.tup st.tf e3, e4⟩) ?_ ?_
  · rintro i y H28 H29 Qc hi d28 hS28 ⟨rfl, hy⟩ hq
    rw [List.length_map] at hi
    rw [List.getElem?_map] at hy
    obtain ⟨x, hx, rfl⟩ := Option.map_eq_some_iff.mp hy
    refine ⟨rfl, _, rfl, _, rfl, d, 997, _, ro, rfl, hS28, by decide, by decide, by omega, fun H7 n7 d7 hS7 hn7 => ?_⟩
    refine ⟨by show 2 ≤ sizeLine; decide, fun p8 np8 => ?_⟩
    exact hq _ _ (d7.new np8) ((hS7.same (same_new np8)).mono (by omega)) ⟨p8, x, n7, rfl, hx, .of upd_same, hn7⟩
  intro ys28 H28 d28 hS28 hD28 hyl28 hys28
  rw [List.length_map] at hyl28 hS28
  obtain ⟨gs, hgs, hgb, hgz⟩ := worths_of hyl28 hys28
  have hgl : gs.length = ns.length := by rw [← hgs, List.length_map]
  obtain ⟨ps28, eps28, hpp28⟩ := paired_of (K := K) (H := H28) (fun n : Str × Int => (Sum.inr n.1 : L2.Key)) (fun n => V.int n.2) (hyl28.trans hgl.symm) hgz
  subst eps28
  refine ⟨D28, ps28, _, rfl, .of hD28, hpp28, fun wd nwd => ?_⟩
  have hgn : (gs.map (·.1)).Nodup := by rw [hgs]; exact hnN.up.nodup
  have hgm : ∀ q ∈ gs, q.1 ∈ ns := fun q hq => by rw [← hgs]; exact List.mem_map_of_mem hq
  have hKw : mergeK [] (gs.map fun n => ((Sum.inr n.1 : L2.Key), V.int n.2)) = wthK gs := rfl
  rw [hKw]
  have s29 := same_new nwd (o := .dK (wthK gs))
  have hwd29 : upd H28 wd (.dK (wthK gs)) wd = some (.dK (wthK gs)) := upd_same
  have hS29 := hS28.same s29
  have d029 := (d027.trans d28).trans (.ofS s29)
  have hpn29 := s29 _ _ (d28.lst hS27 hpn27)
  have hod29 := s29 _ _ (d28.dK hodd hod27)
  have hch29 := (hch27.kp d28.kp hS27.tf).same s29
  generalize upd H28 wd (.dK (wthK gs)) = H29 at hwd29 hS29 d029 hpn29 hod29 hch29 s29 ⊢
  clear s29 nwd hpp28 hgz hyl28 hys28 hD28 d28 hS28 nD28 hch27 d027 hod27 hpn27 hS27
  -- the same by the other names
  refine ⟨_, rfl, pn, rfl, ⟨_, .of hpn29⟩, fun D30 nD30 => ?_⟩
  refine lc_pu (walk_list (xs := ns.map V.str)) (by rw [List.length_map]; omega) nD30 (fun H' s' => .of (s' _ _ hpn29)) (fun i y H' => ∃ p x, y = .ref p ∧ ns[i]? = some x ∧ SqT K H' p [.str (f x), .int (wth gs x)]) (fun i y H' H'' ⟨l, hl⟩ k ⟨p, x, e1, e2, e3⟩ => ⟨p, x, e1, e2, k.tup (.lst hl) e3⟩) ?_ ?_
  · rintro i y H30 H31 Qc hi s30 _ ⟨rfl, hy⟩ hq
    rw [List.getElem?_map] at hy
    obtain ⟨x, hx, rfl⟩ := Option.map_eq_some_iff.mp hy
    have hxn : x ∈ ns := List.mem_of_getElem? hx
    refine ⟨rfl, _, rfl, _, rfl, od, _, rfl, dget_eq (s30 _ _ hod29) (hG x hxn), _, rfl, _, rfl, wd, _, rfl, dget_eq (s30 _ _ hwd29) (wth_has hgn (by rw [hgs]; exact hxn)), by show 2 ≤ sizeLine; decide, fun p8 np8 => ?_⟩
    exact hq _ _ (same_new np8) ⟨p8, x, rfl, hx, .of upd_same⟩
  intro ys30 H30 s30 hD30 hyl30 hys30
  rw [List.length_map] at hyl30
  have hgz30 : ∀ (i : Nat) z, ys30[i]? = some z → ∃ p n, z = .ref p ∧ (gs.map fun q => (f q.1, q.2))[i]? = some n ∧ SqT K H30 p [.str n.1, .int n.2] := fun i z hz => by
    obtain ⟨p, x, e1, e2, e3⟩ := hys30 i z hz
    have hx : (gs.map (·.1))[i]? = some x := by rw [hgs]; exact e2
    rw [List.getElem?_map] at hx
    obtain ⟨q, hq, rfl⟩ := Option.map_eq_some_iff.mp hx
    rw [wth_at hgn (List.mem_of_getElem? hq)] at e3
    exact ⟨p, (f q.1, q.2), e1, by rw [List.getElem?_map, hq]; rfl, e3⟩
  obtain ⟨ps30, eps30, hpp30⟩ := paired_of (K := K) (H := H30) (fun n : Str × Int => (Sum.inr n.1 : L2.Key)) (fun n => V.int n.2) (by rw [List.length_map, hyl30, hgl]) hgz30
  subst eps30
  refine ⟨D30, ps30, _, rfl, .of hD30, hpp30, fun md nmd => ?_⟩
  have hKm : mergeK [] ((gs.map fun q => (f q.1, q.2)).map fun n => ((Sum.inr n.1 : L2.Key), V.int n.2)) = wthK (gs.map fun q => (f q.1, q.2)) := rfl
  rw [hKm]
  have hgn' := wth_keys hC.inj hgm hgn
  have hgb' : ∀ q ∈ gs.map (fun q => (f q.1, q.2)), 0 ≤ q.2 ∧ q.2 ≤ 996 := fun q hq => by
    obtain ⟨r, hr, rfl⟩ := List.mem_map.mp hq
    exact hgb r hr
  have hgr : ∀ x ∈ ns, wth (gs.map fun q => (f q.1, q.2)) (f x) = wth gs x := fun x hx => wth_ren hC.inj hgm hx
  have s31 := s30.trans (same_new nmd (o := .dK (wthK (gs.map fun q => (f q.1, q.2)))))
  have hmd31 : upd H30 md (.dK (wthK (gs.map fun q => (f q.1, q.2)))) md = some (.dK (wthK (gs.map fun q => (f q.1, q.2)))) := upd_same
  generalize gs.map (fun q => (f q.1, q.2)) = gm at hgn' hgb' hgr s31 hmd31 ⊢
  generalize upd H30 md (.dK (wthK gm)) = H31 at s31 hmd31 ⊢
  have hS31 := hS29.same s31
  have d031 := d029.trans (.ofS s31)
  have hod31 := s31 _ _ hod29
  have hwd31 := s31 _ _ hwd29
  have hch31 := hch29.same s31
  have hv31 : PgT K H31 (.ref pa) p := hv.kp d031.kp hS.tf
  have hT31 := d031.tabs hS hT
  clear nmd hpp30 hgz30 hyl30 hys30 hD30 s30 nD30 hpn29 hod29 hwd29 hch29 d029 hS29 s31
  refine ⟨_, rfl, .ref pa, p, hm, rfl, hv31, hok, fun H32 l32 f32 s32 n32 h32 t32 => ?_⟩
  refine ⟨_, rfl, .ref pc, ⟨ms', rens' f p.rs⟩, _, rfl, hch31.same s32, hok', fun H33 l33 f33 s33 n33 h33 t33 => ?_⟩
  have hl32 := t32.length
  rw [List.length_map] at hl32
  have hl33 := t33.length
  rw [List.length_map, ren_flat, List.length_map] at hl33
  have s3133 := s32.trans s33
  refine ⟨l32, l33, f32, f33, rfl, .of (s33 _ _ h32), .of h33, for_it (walk_zip (xs := f32) (ys := f33) (n := p.flat.length) (by rw [hl32, hl33, Nat.min_self])) (fun i σ H' => ∃ x13 x14 x15 x16, σ = st2 d (.ref pa) pn fa od tm pc (Pg.text ⟨ms', rens' f p.rs⟩) wd md none none none x13 x14 x15 x16 none ∧ Same H33 H') ⟨none, none, none, none, rfl, Same.refl _⟩ (fun i σ H' _ h => by obtain ⟨_, _, _, _, _, s⟩ := h; exact ⟨.of (s _ _ (s33 _ _ h32)), .of (s _ _ h33)⟩) ?_ ?_⟩
  · rintro i x σ H34 H35 hi ⟨x13, x14, x15, x16, rfl, s34⟩ ⟨Tt, one, other, rfl, nT, rfl, e1, e2⟩
    have s35 := s34.trans (same_new nT (o := .tup [one, other]))
    obtain ⟨dd, hdd, h1⟩ := ((t32.same s33).same s35).get e1
    rw [List.getElem?_map] at hdd
    obtain ⟨it, hit, rfl⟩ := Option.map_eq_some_iff.mp hdd
    obtain ⟨dd2, hdd2, h2⟩ := (t33.same s35).get e2
    rw [ren_flat, List.map_map, List.getElem?_map, hit] at hdd2
    cases hdd2
    have hmem := List.mem_of_getElem? hit
    have hle := flats_le 1 [] p.rs it hmem
    have hown := flats_own' 1 [] p.rs it hmem
    have h60 : cnts p.rs ≤ 60 := hok.cn
    have h5 : Tw.dps p.rs ≤ 5 := hok.dp
    rw [List.length_nil] at hown
    have s3135 := s3133.trans s35
    refine ⟨Tt, _, rfl, .of upd_same, rfl, _, _, rfl, _, _, rfl, rfl, ?_⟩
    refine HB.run _ _ d (.ref pa) pn fa od tm pc (Pg.text ⟨ms', rens' f p.rs⟩) wd md none none none x15 x16 one other f ns hm _ it kvo (wthK gs) (wthK gm) (wth gs) (wth gm) hC hok.hs hok'.hs (hok.flat it hmem) (hok'.flat (itN f it) (by rw [ren_flat]; exact List.mem_map_of_mem hmem)) (by omega) (by omega) (by omega) (fun x hx => hvs x (mem_varsOf.mpr ⟨it, hmem, hx⟩)) h1 h2 (s3135 _ _ hod31) hO (s3135 _ _ hwd31) (s3135 _ _ hmd31) (wth_bd hgb) (wth_bd hgb') (wth_get hgn) (wth_get hgn') hgr ?_
    intro H' x15' x16' s'
    exact ⟨⟨_, _, _, _, rfl, s35.trans s'⟩, ⟨_, _, _, _, rfl, s35.trans s'⟩⟩
  rintro σ H34 ⟨x13, x14, x15, x16, rfl, s34⟩
  have s3134 := s3133.trans s34
  refine ⟨_, rfl, .ref pc, ⟨ms', rens' f p.rs⟩, _, rfl, hch31.same s3134, hok', fun H35 s35 => ?_⟩
  have s3135 := s3134.trans s35
  refine ⟨⟨ms', rens' f p.rs⟩, _, rfl, hok', hT31.ext s3135, fun H36 q36 k36 t36 td36 => ?_⟩
  have hok30 := hok'.okD
  have hch36 : Td K H36 (.ref pc) (Pg.d ⟨ms', rens' f p.rs⟩) := (hch31.same s3135).td.kn k36 .nil
  refine ⟨_, rfl, _, _, Td.dp _ td36, Td.dp _ hch36, hok30.shaped (by decide), hok30.shaped (by decide), ?_⟩
  rw [hok30.refl]
  exact q H36 ((d031.kn.trans (.ofS s3135)).trans (k36.mono (by simp))) t36
end
end Tw
set_option Elab.async false
set_option linter.all false
set_option maxRecDepth 100000
set_option maxHeartbeats 8000000
namespace Tw
open PySem PySem.Spec PyProof.Rows L2 LamX NdefX TL
section
variable {K : PySem.W.Frag} {H H1 : Hp} {v : V} {d : Addr}
theorem MkT.kn {ms : List (Str × Str)} (k : Kn [] H H1) (h : MkT K H v ms) : MkT K H1 v ms := by
  obtain ⟨a, xs, ob, e, h1, h2, h3⟩ := h
  exact ⟨a, xs, ob, e, k.at_ _ _ h1 (by simp) (fun ps z => by cases z), h2, TdA.kn k .nil _ h3⟩
theorem PgT.kn {p : Pg} (k : Kn [] H H1) (h : PgT K H v p) : PgT K H1 v p := by
  obtain ⟨a, x, y, e, h1, h2, h3⟩ := h
  exact ⟨a, x, y, e, k.tup .nil h1, h2.kn k, Td.kn k .nil _ h3⟩
theorem StA.kn {t : Nat} {ro : Option Nat} (k : Kn [] H H1) (h : StA H d t ro) : StA H1 d t ro := by
  obtain ⟨l, s, t1, h1, h2⟩ := h
  exact ⟨l, s, t1, h1, k.dK (by simp) h2⟩
end
theorem ints_shift (own : List Nat) : (own.map fun (n : Nat) => V.int (n : Int)).map (fun v => match v with | .int i => V.int (i + 3) | v => v) = (own.map (· + 3)).map fun (n : Nat) => V.int (n : Int) := by
  rw [List.map_map, List.map_map]
  apply List.map_congr_left
  intro n _
  show V.int ((n : Int) + 3) = V.int ((n + 3 : Nat) : Int)
  rw [show ((n + 3 : Nat) : Int) = (n : Int) + 3 by omega]
section
variable {P : Program} {w : World} {K : PySem.W.Frag} {mg : Str → Option Value} {base : Heap}
def sp_law_right (K : PySem.W.Frag) : Sp := fun vs H Q _ => ∃ (d : Addr) (v : V) (p : Pg) (hm : Str → Str) (nms : List Str) (t : Nat) (ro : Option Nat), vs = [.ref d, v] ∧ StA H d t ro ∧ t ≤ 100000 ∧ PgT K H v p ∧ Drawn hm nms p ∧ Tabs (TT K) H ∧ ∀ H', Kn [d] H H' → Tabs (TT K) H' → Q (.bl true) H'
theorem ok_law_right (T : Txt K mg) (B : Tb K mg base) : Cal P w K mg base "_law_right" 42 ["_law_state", "_law_program_here"] (sp_law_right K) := by
  have C_rows_in := ok_rows_in (P := P) (w := w) (base := base) T
  have C_law_built := ok_law_built (P := P) (w := w) (base := base) T 6
  have C_row_at := ok_row_at (P := P) (w := w) (base := base) T
  have C_program_text := ok_program_text (P := P) (w := w) (base := base) T
  have C_read_program := ok_read_program (P := P) (w := w) T B
  have C_law_otherwise_right := ok_law_otherwise_right (P := P) (w := w) T B
  refine Cal.of T.d_law_right b_law_right sc_law_right (fun vs H Q E h => ?_) (fun cdv A outer s H vs Q E hr h => ?_)
  · obtain ⟨_, _, _, _, _, _, _, rfl, _⟩ := h; rfl
  obtain ⟨d, v, p, hm, nms, t, ro, rfl, hS, ht, hv, hD, hT, q⟩ := h
  have hu := hu_of hr
  refine ⟨_, (pss_cons (ps_set (i := 2) sc_law_right.nd rfl (Or.inl rfl) (pe_callC C_rows_in (hr.mono (by decide)) rfl (pa_cons (pv 1) pa_nil)))
  (pss_cons (ps_if (pt_cmpR (op_neD hr.units) (pe_callC C_law_built (hr.mono (by decide)) rfl (pa_cons (pv 2) (pa_cons (pe_tup pa_nil) pa_nil))) (pe_ix ix_tup (pv 1) pe_int (fun _ _ => rfl)) (nomark _)) (pss_one (ps_ret pe_bl)) pss_nil)
  (pss_cons (ps_if (pt_cmpR (op_neD hr.units) (pe_lc (own := [("_law_own", 3)]) (by rfl) sc_law_right.nd (pi_list (pv 2)) (blkOk_by (own := [("_law_own", 3)]) (N := N_law_right) (sc := defScope s_law_right) (by decide +kernel)) (fun _ _ _ _ _ => (pg_name (i := 3) sc_law_right.nd rfl (Or.inl rfl))) (fun _ _ _ _ _ => pts_nil) (fun _ _ _ _ _ => (pe_callC C_row_at (hr.mono (by decide)) rfl (pa_cons (pv 1) (pa_cons (pe_ix (ix_tupB K) (pv 3) pe_int (fun _ _ => rfl)) pa_nil))))) (pe_lc (own := [("_law_own", 3)]) (by rfl) sc_law_right.nd (pi_list (pv 2)) (blkOk_by (own := [("_law_own", 3)]) (N := N_law_right) (sc := defScope s_law_right) (by decide +kernel)) (fun _ _ _ _ _ => (pg_name (i := 3) sc_law_right.nd rfl (Or.inl rfl))) (fun _ _ _ _ _ => pts_nil) (fun _ _ _ _ _ => (pe_ix (ix_tupB K) (pv 3) pe_int (fun _ _ => rfl)))) (nomark _)) (pss_one (ps_ret pe_bl)) pss_nil)
  (pss_cons (ps_set (i := 4) sc_law_right.nd rfl (Or.inl rfl) (pe_tup (pa_cons (pe_tup (pa_cons pe_str (pa_cons pe_str (pa_cons (pe_tup (pa_cons pe_str (pa_cons pe_int pa_nil))) pa_nil)))) (pa_cons (pe_tup (pa_cons pe_str (pa_cons (pe_tup (pa_cons pe_str (pa_cons pe_str pa_nil))) (pa_cons (pe_tup (pa_cons (pe_tup (pa_cons pe_str (pa_cons pe_str (pa_cons (pe_tup (pa_cons pe_str (pa_cons pe_int pa_nil))) pa_nil)))) pa_nil)) pa_nil)))) pa_nil))))
  (pss_cons (ps_set (i := 5) sc_law_right.nd rfl (Or.inl rfl) (pe_callC C_rows_in (hr.mono (by decide)) rfl (pa_cons (pe_tup (pa_cons (pe_ix ix_tup (pv 1) pe_int (fun _ _ => rfl)) (pa_cons (pe_op op_catA (pv 4) (pe_ix ix_tup (pv 1) pe_int (fun _ _ => rfl))) pa_nil))) pa_nil)))
  (pss_cons (ps_if (pt_cmpR (op_neD hr.units) (pe_slice sl_list (pv 5) (po_some pe_int) po_none) (pe_lc (own := [("_law_number", 6), ("_law_row_here", 7), ("_law_around", 8)]) (by rfl) sc_law_right.nd (pi_list (pv 2)) (blkOk_by (own := [("_law_number", 6), ("_law_row_here", 7), ("_law_around", 8)]) (N := N_law_right) (sc := defScope s_law_right) (by decide +kernel)) (fun _ _ _ _ _ => (pg_tupB K 3 (by rfl) (pgs_cons (pg_name (i := 6) sc_law_right.nd rfl (Or.inl rfl)) (pgs_cons (pg_name (i := 7) sc_law_right.nd rfl (Or.inl rfl)) (pgs_cons (pg_name (i := 8) sc_law_right.nd rfl (Or.inl rfl)) pgs_nil))))) (fun _ _ _ _ _ => pts_nil) (fun _ _ _ _ _ => (pe_tup (pa_cons (pe_op op_add (pv 6) pe_int) (pa_cons (pv 7) (pa_cons (pe_callTy (call_tuple_ofB K) (by rfl) T.tuple bb_tuple (pa_cons (pe_lc (own := [("_law_own", 3)]) (by rfl) sc_law_right.nd (pi_tupB K (pv 8)) (blkOk_by (own := [("_law_own", 3)]) (by rfl)) (fun _ _ _ _ _ => (pg_name (i := 3) sc_law_right.nd rfl (Or.inl rfl))) (fun _ _ _ _ _ => pts_nil) (fun _ _ _ _ _ => (pe_op op_add (pv 3) pe_int))) pa_nil)) pa_nil)))))) (nomark _)) (pss_one (ps_ret pe_bl)) pss_nil)
  (pss_cons (ps_for PassesOwn.never rfl (pi_range2 (by rfl) T.range (pa_cons pe_int (pa_cons (pe_op op_add (pe_callB call_len_seq (by rfl) T.len bb_len (pa_cons (pe_ix ix_tup (pv 1) pe_int (fun _ _ => rfl)) pa_nil)) pe_int) pa_nil))) (pg_name (i := 9) sc_law_right.nd rfl (Or.inl rfl))
   (pss_cons (ps_set (i := 10) sc_law_right.nd rfl (Or.inl rfl) (pe_tup (pa_cons (pe_ix ix_tup (pv 1) pe_int (fun _ _ => rfl)) (pa_cons (pe_slice sl_tupA (pe_ix ix_tup (pv 1) pe_int (fun _ _ => rfl)) po_none (po_some (pv 9))) pa_nil))))
  (pss_cons (ps_set (i := 11) sc_law_right.nd rfl (Or.inl rfl) (pe_callC C_program_text (hr.mono (by decide)) rfl (pa_cons (pv 10) pa_nil)))
  (pss_one (ps_if (PW.pt (pw_or (pt_cmpR (op_neD hr.units) (pe_callC C_read_program (hr.mono (by decide)) rfl (pa_cons (pv 11) pa_nil)) (pv 10) (nomark _)) (pw_or1 (pt_cmpR op_ne (pe_slice sl_str (pe_callC C_program_text (hr.mono (by decide)) rfl (pa_cons (pv 1) pa_nil)) po_none (po_some (pe_callB call_len_str (by rfl) T.len bb_len (pa_cons (pv 11) pa_nil)))) (pv 11) (nomark _))))) (pss_one (ps_ret pe_bl)) pss_nil)))))
  (pss_one (ps_ret (pe_callC C_law_otherwise_right (hr.mono (by decide)) rfl (pa_cons (pv 0) (pa_cons (pv 1) pa_nil)))))))))))), ?_⟩
  obtain ⟨pa, pm, pr, rfl, hpa, hpm, hpr⟩ := id hv
  have hok := hD.ok
  have h24 := hD.cn
  have h5 : dps p.rs ≤ 5 := hok.dp
  have hfl := hok.flen
  have hown := flats_own' 1 [] p.rs
  rw [List.length_nil] at hown
  refine ⟨_, rfl, .ref pa, p, hm, rfl, hv, hok, fun H1 l1 f1 s1 n1 h1 t1 => ?_⟩
  have hf1l := t1.length
  rw [List.length_map] at hf1l
  -- built
  refine ⟨_, rfl, by show 0 ≤ sizeLine; decide, fun p2 np2 => ?_⟩
  have s2 := same_new np2 (o := .tup [])
  refine ⟨l1, .ref p2, f1, p.flat, 1, [], p.rs, rfl, s2 _ _ h1, t1.same s2, td_tup.mpr ⟨p2, [], rfl, .of upd_same, tda_nil⟩, sub_all p.rs _, by omega, by rw [List.length_nil]; omega, by omega, fun t ht => by have := hown t ht; omega, fun H3 v3 s3 t3 => ?_⟩
  have s13 := s1.trans (s2.trans s3)
  have okr : okD 30 (.tuple (rowsD p.rs)) := (rowsOkD hok.hs p.rs hok.rk (by omega)).mono (by omega)
  refine ⟨_, rfl, _, _, _, _, rfl, rfl, same_tup s13 hpa, rfl, _, _, Td.dp _ t3, Td.dp _ (hpr.same s13), okr.shaped (by decide), okr.shaped (by decide), _, rfl, ?_⟩
  refine iteF' (by rw [okr.refl]; rfl) ?_
  have h13 := (s2.trans s3) _ _ h1
  have t13 := t1.same (s2.trans s3)
  clear t3 s3 s2 np2
  -- row_at
  have okrow : ∀ t ∈ p.flat, okD 25 t.2.1.d := fun t ht => by
    have := flats_le 1 [] p.rs t ht
    exact (t.2.1.okD hok.hs (hok.flat t ht) (by omega)).mono (by omega)
  refine ⟨_, rfl, l1, rfl, ⟨_, .of h13⟩, fun D4 nD4 => ?_⟩
  refine lc_pu (walk_list (xs := f1)) (by omega) nD4 (fun H' s' => .of (s' _ _ h13)) (fun i y H' => ∃ t, p.flat[i]? = some t ∧ Td K H' y t.2.1.d) (fun i y H' H'' ⟨l, hl⟩ k ⟨t, e1, e2⟩ => ⟨t, e1, Td.kp k (.lst hl) _ e2⟩) ?_ ?_
  · rintro i x H4 H5 Qc hi s4 _ ⟨rfl, hx⟩ hq
    obtain ⟨dd, hdd, hxd⟩ := (t13.same s4).get hx
    rw [List.getElem?_map] at hdd
    obtain ⟨it, hit, rfl⟩ := Option.map_eq_some_iff.mp hdd
    obtain ⟨ta, v1, v2, v3, rfl, hs, g1, g2, g3⟩ := Td.t3 hxd
    obtain rfl := td_int.mp g1
    refine ⟨rfl, _, rfl, _, rfl, _, _, _, _, rfl, rfl, hs, rfl, .ref pa, p, hm, i, it, ?_, hv.same (s13.trans s4), hok, hit, fun H6 u s6 t6 => ?_⟩
    · rw [Pg.flat_num hit]; rfl
    · exact hq _ _ s6 ⟨it, hit, t6⟩
  intro ys4 H4 s4 hD4 hyl4 hys4
  have td4 : TdA K H4 ys4 (p.flat.map fun t => t.2.1.d) := TdA.of_get (by rw [hyl4, List.length_map, hf1l]) fun i y dd e1 e2 => by
    obtain ⟨t, h1, h2⟩ := hys4 i y e1
    rw [List.getElem?_map, h1] at e2
    cases e2
    exact h2
  have h14 := s4 _ _ h13
  have t14 := t13.same s4
  refine ⟨_, rfl, l1, rfl, ⟨_, .of h14⟩, fun D5 nD5 => ?_⟩
  refine lc_pu (walk_list (xs := f1)) (by omega) nD5 (fun H' s' => .of (s' _ _ h14)) (fun i y H' => ∃ t, p.flat[i]? = some t ∧ Td K H' y t.2.1.d) (fun i y H' H'' ⟨l, hl⟩ k ⟨t, e1, e2⟩ => ⟨t, e1, Td.kp k (.lst hl) _ e2⟩) ?_ ?_
  · rintro i x H5 H6 Qc hi s5 _ ⟨rfl, hx⟩ hq
    obtain ⟨dd, hdd, hxd⟩ := (t14.same s5).get hx
    rw [List.getElem?_map] at hdd
    obtain ⟨it, hit, rfl⟩ := Option.map_eq_some_iff.mp hdd
    obtain ⟨ta, v1, v2, v3, rfl, hs, g1, g2, g3⟩ := Td.t3 hxd
    refine ⟨rfl, _, rfl, _, _, _, _, rfl, rfl, hs, rfl, ?_⟩
    exact hq _ _ (Same.refl _) ⟨it, hit, g2⟩
  intro ys5 H5 s5 hD5 hyl5 hys5
  have td5 : TdA K H5 ys5 (p.flat.map fun t => t.2.1.d) := TdA.of_get (by rw [hyl5, List.length_map, hf1l]) fun i y dd e1 e2 => by
    obtain ⟨t, h1, h2⟩ := hys5 i y e1
    rw [List.getElem?_map, h1] at e2
    cases e2
    exact h2
  have okl : okD 26 (.list (p.flat.map fun t => t.2.1.d)) := ⟨by rw [List.length_map]; omega, fun dd hdd => by
    obtain ⟨t, ht, rfl⟩ := List.mem_map.mp hdd
    exact okrow t ht⟩
  refine ⟨_, _, .lst (.of (s5 _ _ hD4)) (TdA.dp _ (td4.same s5)), .lst (.of hD5) (TdA.dp _ td5), okl.shaped (by decide), okl.shaped (by decide), _, rfl, ?_⟩
  refine iteF' (by rw [okl.refl]; rfl) ?_
  have s15 := s13.trans (s4.trans s5)
  have h15 := s5 _ _ h14
  have t15 := t14.same s5
  clear okl td5 hys5 hyl5 hD5 nD5 t14 h14 td4 hys4 hyl4 hD4 nD4 t13 h13
  -- the rows ahead
  obtain ⟨ra, xr, rfl, hra, hxr⟩ := td_tup.mp hpr
  have hxrl := hxr.length
  rw [rowsD_map, List.length_map] at hxrl
  have hrl := rows_len_le p.rs
  refine ⟨by show 2 ≤ sizeLine; decide, fun a1 na1 => ?_⟩
  have u1 := same_new na1 (o := .tup [V.str "number", V.int 3])
  have b1 : Td K (upd H5 a1 (.tup [V.str "number", V.int 3])) (.ref a1) (Tw.E.d (.num 3)) := Td.new na1 (tda_cons.mpr ⟨td_str.mpr rfl, tda_cons.mpr ⟨td_int.mpr rfl, tda_nil⟩⟩)
  generalize upd H5 a1 (.tup [V.str "number", V.int 3]) = G1 at u1 b1 ⊢
  refine ⟨by show 3 ≤ sizeLine; decide, fun a2 na2 => ?_⟩
  have u2 := same_new na2 (o := .tup [V.str "say", V.str "west", V.ref a1])
  have b2 : Td K (upd G1 a2 (.tup [V.str "say", V.str "west", V.ref a1])) (.ref a2) (Row.d (.say "west" (.num 3))) := by
    rw [Row.d]
    exact Td.new na2 (tda_cons.mpr ⟨td_str.mpr rfl, tda_cons.mpr ⟨td_str.mpr rfl, tda_cons.mpr ⟨b1, tda_nil⟩⟩⟩)
  generalize upd G1 a2 (.tup [V.str "say", V.str "west", V.ref a1]) = G2 at u2 b2 ⊢
  refine ⟨by show 2 ≤ sizeLine; decide, fun a3 na3 => ?_⟩
  have u3 := same_new na3 (o := .tup [V.str "name", V.str "q"])
  have b3 : Td K (upd G2 a3 (.tup [V.str "name", V.str "q"])) (.ref a3) (Tw.E.d (.nam "q")) := Td.new na3 (tda_cons.mpr ⟨td_str.mpr rfl, tda_cons.mpr ⟨td_str.mpr rfl, tda_nil⟩⟩)
  generalize upd G2 a3 (.tup [V.str "name", V.str "q"]) = G3 at u3 b3 ⊢
  refine ⟨by show 2 ≤ sizeLine; decide, fun a4 na4 => ?_⟩
  have u4 := same_new na4 (o := .tup [V.str "number", V.int 0])
  have b4 : Td K (upd G3 a4 (.tup [V.str "number", V.int 0])) (.ref a4) (Tw.E.d (.num 0)) := Td.new na4 (tda_cons.mpr ⟨td_str.mpr rfl, tda_cons.mpr ⟨td_int.mpr rfl, tda_nil⟩⟩)
  generalize upd G3 a4 (.tup [V.str "number", V.int 0]) = G4 at u4 b4 ⊢
  refine ⟨by show 3 ≤ sizeLine; decide, fun a5 na5 => ?_⟩
  have u5 := same_new na5 (o := .tup [V.str "let", V.str "q", V.ref a4])
  have b5 : Td K (upd G4 a5 (.tup [V.str "let", V.str "q", V.ref a4])) (.ref a5) (Row.d (.lt false "q" (.num 0))) := by
    rw [Row.d]
    exact Td.new na5 (tda_cons.mpr ⟨td_str.mpr rfl, tda_cons.mpr ⟨td_str.mpr rfl, tda_cons.mpr ⟨b4, tda_nil⟩⟩⟩)
  generalize upd G4 a5 (.tup [V.str "let", V.str "q", V.ref a4]) = G5 at u5 b5 ⊢
  refine ⟨by show 1 ≤ sizeLine; decide, fun a6 na6 => ?_⟩
  have u6 := same_new na6 (o := .tup [V.ref a5])
  have b6 : Td K (upd G5 a6 (.tup [V.ref a5])) (.ref a6) (.tuple (rowsD [.lt false "q" (.num 0)])) := by
    rw [rowsD, rowsD]
    exact Td.new na6 (tda_cons.mpr ⟨b5, tda_nil⟩)
  generalize upd G5 a6 (.tup [V.ref a5]) = G6 at u6 b6 ⊢
  refine ⟨by show 3 ≤ sizeLine; decide, fun a7 na7 => ?_⟩
  have u7 := same_new na7 (o := .tup [V.str "while", V.ref a3, V.ref a6])
  have b7 : Td K (upd G6 a7 (.tup [V.str "while", V.ref a3, V.ref a6])) (.ref a7) (Row.d (.whl (.nam "q") [.lt false "q" (.num 0)])) := by
    rw [Row.d]
    exact Td.new na7 (tda_cons.mpr ⟨td_str.mpr rfl, tda_cons.mpr ⟨b3.same (u4.trans (u5.trans u6)), tda_cons.mpr ⟨b6, tda_nil⟩⟩⟩)
  have b27 := b2.same (u3.trans (u4.trans (u5.trans (u6.trans u7))))
  generalize upd G6 a7 (.tup [V.str "while", V.ref a3, V.ref a6]) = G7 at u7 b7 b27 ⊢
  refine ⟨by show 2 ≤ sizeLine; decide, fun a8 na8 => ?_⟩
  have u8 := same_new na8 (o := .tup [V.ref a2, V.ref a7])
  have b8 : TdA K (upd G7 a8 (.tup [V.ref a2, V.ref a7])) [V.ref a2, V.ref a7] (rowsD aheadR) := by
    unfold aheadR
    rw [rowsD, rowsD, rowsD]
    exact tda_cons.mpr ⟨b27.same u8, tda_cons.mpr ⟨b7.same u8, tda_nil⟩⟩
  have c8 : SqT K (upd G7 a8 (.tup [V.ref a2, V.ref a7])) a8 [V.ref a2, V.ref a7] := .of upd_same
  have u58 := u1.trans (u2.trans (u3.trans (u4.trans (u5.trans (u6.trans (u7.trans u8))))))
  generalize upd G7 a8 (.tup [V.ref a2, V.ref a7]) = G8 at u8 b8 c8 u58 ⊢
  clear b27 u8 u7 b7 b6 u6 b5 u5 b4 u4 b3 u3 b2 u2 b1 u1 na1 na2 na3 na4 na5 na6 na7 na8
  have s18 := s15.trans u58
  refine ⟨_, rfl, _, _, _, _, rfl, rfl, same_tup s18 hpa, rfl, _, rfl, _, rfl, _, _, _, _, rfl, rfl, same_tup s18 hpa, rfl, ?_⟩
  refine catA_of c8 (same_tup s18 hra) (by rw [sizeLine_eq, hxrl]; show 2 + _ ≤ _; omega) fun G9 p9 u9 hp9 => ?_
  refine ⟨by show 2 ≤ sizeLine; decide, fun pt npt => ?_⟩
  have u10 := same_new npt (o := .tup [pm, V.ref p9])
  have s110 := s18.trans (u9.trans u10)
  have hok3 := ahead_ok hok h24
  refine ⟨.ref pt, ⟨p.ms, aheadR ++ p.rs⟩, hm, rfl, ⟨pt, _, _, rfl, .of upd_same, hpm.same s110, td_tup.mpr ⟨p9, _, rfl, same_tup u10 hp9, ?_⟩⟩, hok3, fun G11 l11 f11 u11 n11 h11 t11 => ?_⟩
  · show TdA K _ _ (rowsD (aheadR ++ p.rs))
    rw [rowsD_map, List.map_append, ← rowsD_map, ← rowsD_map]
    exact (b8.same (u9.trans u10)).append (hxr.same s110)
  have s111 := s110.trans u11
  have h1b := (u58.trans (u9.trans (u10.trans u11))) _ _ h15
  have t1b := t15.same (u58.trans (u9.trans (u10.trans u11)))
  clear u10 npt hp9 u9 c8 b8 s18 t15 h15
  -- the numbers put on
  refine ⟨_, rfl, 3, rfl, np ⟨l11, _, rfl, .of h11, fun p12 np12 => ?_⟩⟩
  rw [show cutV f11 (some (3 : Int)) none = f11.drop 3 from cut_from (k := 3)]
  have tdrop : TdA K G11 (f11.drop 3) (p.flat.map fun t => itemD (itS 3 t)) := by
    rw [ahead_flat', List.map_append] at t11
    have h := (TdA.split t11).2
    rw [List.length_map, aheadR_len, List.map_map] at h
    exact h
  have u12 := same_new np12 (o := .lst (f11.drop 3))
  have h12 : upd G11 p12 (.lst (f11.drop 3)) p12 = some (.lst (f11.drop 3)) := upd_same
  have tdrop := tdrop.same u12
  have h1c := u12 _ _ h1b
  have t1c := t1b.same u12
  have s112 := s111.trans u12
  generalize upd G11 p12 (.lst (f11.drop 3)) = G12 at u12 h12 tdrop h1c t1c s112 ⊢
  refine ⟨_, rfl, l1, rfl, ⟨_, .of h1c⟩, fun D13 nD13 => ?_⟩
  refine lc_pu (walk_list (xs := f1)) (by omega) nD13 (fun H' s' => .of (s' _ _ h1c)) (fun i y H' => ∃ t, p.flat[i]? = some t ∧ Td K H' y (itemD (itS 3 t))) (fun i y H' H'' ⟨l, hl⟩ k ⟨t, e1, e2⟩ => ⟨t, e1, Td.kp k (.lst hl) _ e2⟩) ?_ ?_
  · rintro i x H13 H13' Qc hi s13' _ ⟨rfl, hx⟩ hq
    obtain ⟨dd, hdd, hxd⟩ := (t1c.same s13').get hx
    rw [List.getElem?_map] at hdd
    obtain ⟨it, hit, rfl⟩ := Option.map_eq_some_iff.mp hdd
    obtain ⟨ta, v1, v2, v3, rfl, hs, g1, g2, g3⟩ := Td.t3 hxd
    obtain rfl := td_int.mp g1
    obtain ⟨oa, ox, rfl, hoa, hox⟩ := td_tup.mp g3
    have eox : ox = (it.2.2.map fun (n : Nat) => (n : Int)).map V.int := TdA.of_ints (by rw [List.map_map]; exact hox)
    have hol := hown it (List.mem_of_getElem? hit)
    refine ⟨ta, _, rfl, hs, rfl, _, _, rfl, _, _, rfl, _, _, rfl, rfl, ?_⟩
    refine ⟨rfl, ?_⟩
    refine ⟨_, rfl, _, _, rfl, rfl, _, rfl, _, rfl, oa, rfl, ⟨_, hoa⟩, fun D14 nD14 => ?_⟩
    refine lc_pu (walk_tup (xs := ox)) (by rw [eox, List.length_map, List.length_map]; omega) nD14 (fun H' s' => same_tup s' hoa) (fun j y H' => ∃ n, it.2.2[j]? = some n ∧ y = .int ((n + 3 : Nat) : Int)) (fun j y H' H'' _ _ h => h) ?_ ?_
    · rintro j y H14 H15 Qc2 hj s14 _ ⟨rfl, hy⟩ hq2
      rw [eox, List.getElem?_map, List.getElem?_map] at hy
      obtain ⟨z, hz, rfl⟩ := Option.map_eq_some_iff.mp hy
      obtain ⟨n, hn, rfl⟩ := Option.map_eq_some_iff.mp hz
      refine ⟨rfl, _, rfl, _, _, rfl, rfl, ?_⟩
      exact hq2 _ _ (Same.refl _) ⟨n, hn, by rw [show ((n + 3 : Nat) : Int) = (n : Int) + 3 by omega]⟩
    intro ys14 H14 s14 hD14 hyl14 hys14
    have ht14 : TdA K H14 ys14 ((it.2.2.map (· + 3)).map fun (n : Nat) => .int (n : Int)) := TdA.of_get (by rw [hyl14, eox, List.length_map, List.length_map, List.length_map, List.length_map]) fun j y dd e1 e2 => by
      obtain ⟨n, h1, h2⟩ := hys14 j y e1
      rw [List.getElem?_map, List.getElem?_map, h1] at e2
      cases e2
      exact td_int.mpr h2
    refine ⟨D14, ys14, rfl, .inl ⟨.of hD14, fun p15 np15 => ?_⟩⟩
    refine ⟨by show 3 ≤ sizeLine; decide, fun p16 np16 => ?_⟩
    have s15' := same_new np15 (o := .tup ys14)
    refine hq _ _ (s14.trans (s15'.trans (same_new np16))) ⟨it, hit, ?_⟩
    exact Td.new np16 (tda_cons.mpr ⟨td_int.mpr (by show V.int ((it.1 : Nat) + 3 : Int) = V.int ((it.1 + 3 : Nat) : Int); rw [show ((it.1 + 3 : Nat) : Int) = (it.1 : Int) + 3 by omega]), tda_cons.mpr ⟨g2.same (s14.trans s15'), tda_cons.mpr ⟨Td.new np15 ht14, tda_nil⟩⟩⟩)
  intro ys13 H13 s13' hD13 hyl13 hys13
  have td13 : TdA K H13 ys13 (p.flat.map fun t => itemD (itS 3 t)) := TdA.of_get (by rw [hyl13, List.length_map, hf1l]) fun i y dd e1 e2 => by
    obtain ⟨t, h1, h2⟩ := hys13 i y e1
    rw [List.getElem?_map, h1] at e2
    cases e2
    exact h2
  have okl : okD 31 (.list (p.flat.map fun t => itemD (itS 3 t))) := ⟨by rw [List.length_map]; omega, fun dd hdd => by
    obtain ⟨t, ht, rfl⟩ := List.mem_map.mp hdd
    have hle := flats_le 1 [] p.rs t ht
    have hol := hown t ht
    exact itemOkD hok.hs (t := itS 3 t) (hok.flat t ht) (by show t.2.1.cnt ≤ 500; omega) (by show t.2.1.dp ≤ 5; omega) (by show (t.2.2.map (· + 3)).length ≤ 1000; rw [List.length_map]; omega)⟩
  refine ⟨_, _, .lst (.of (s13' _ _ h12)) (TdA.dp _ (tdrop.same s13')), .lst (.of hD13) (TdA.dp _ td13), okl.shaped (by decide), okl.shaped (by decide), _, rfl, ?_⟩
  refine iteF' (by rw [okl.refl]; rfl) ?_
  have s113 := s112.trans s13'
  clear okl td13 hys13 hyl13 hD13 nD13 t1c h1c tdrop h12 u12 np12 t1b h1b s110 s111 s112 s13' s13 s15
  -- the first rows
  have hT13 := hT.ext s113
  have hv13 := hv.same s113
  have hS13 := hS.same s113
  refine ⟨_, rfl, _, _, _, _, rfl, rfl, same_tup s113 hpa, rfl, _, _, rfl, .inr (same_tup s113 hra), _, _, rfl, rfl, _, _, rfl, ⟨by omega, by omega, by omega, by omega⟩, for_it walk_range (fun i σ H' => ∃ x9 x10 x11, σ = [some (.ref d), some (.ref pa), some (.ref l1), none, some (.ref a8), some (.ref l11), none, none, none, x9, x10, x11] ∧ Kn [] H13 H' ∧ Tabs (TT K) H') ⟨none, none, none, rfl, Kn.refl _ _, hT13⟩ (fun _ _ _ _ _ => trivial) ?_ ?_⟩
  · rintro i x σ H14o H14 hi ⟨x9, x10, x11, rfl, k14, hT14⟩ ⟨rfl, rfl⟩
    have hv14 := hv13.kn k14
    have hpa14 := k14.tup .nil (same_tup s113 hpa)
    have hra14 := k14.tup .nil (same_tup s113 hra)
    have hpm14 := (hpm.same s113).kn k14
    have hxr14 : TdA K H14 xr (rowsD p.rs) := TdA.kn k14 .nil _ (hxr.same s113)
    refine ⟨_, rfl, _, _, _, _, rfl, rfl, hpa14, rfl, _, rfl, _, _, _, _, rfl, rfl, hpa14, rfl, np ⟨_, rfl, _, rfl, ?_⟩⟩
    refine slA_of hra14 fun H15 p15 s15 hp15 => ?_
    rw [show cutV xr none (some ((1 : Int) + (i : Nat))) = xr.take (i + 1) by rw [show (1 : Int) + (i : Nat) = ((i + 1 : Nat) : Int) by omega]; exact cut_to] at hp15
    refine ⟨by show 2 ≤ sizeLine; decide, fun p16 np16 => ?_⟩
    have s16 := same_new np16 (o := .tup [pm, V.ref p15])
    have hfok : (p.first (i + 1)).ok hm := Pg.first_ok hok (by omega)
    have hpg16 : PgT K (upd H15 p16 (.tup [pm, V.ref p15])) (.ref p16) (p.first (i + 1)) := ⟨p16, _, _, rfl, .of upd_same, hpm14.same (s15.trans s16), td_tup.mpr ⟨p15, _, rfl, same_tup s16 hp15, by
      have e : rowsD p.rs = rowsD (p.rs.take (i + 1)) ++ rowsD (p.rs.drop (i + 1)) := by rw [rowsD_map, rowsD_map, rowsD_map, ← List.map_append, List.take_append_drop]
      rw [e] at hxr14
      have h := (TdA.split hxr14).1
      rw [rowsD_map, List.length_map, List.length_take] at h
      by_cases hle : i + 1 ≤ p.rs.length
      · rw [Nat.min_eq_left hle] at h
        rw [rowsD_map]
        exact h.same (s15.trans s16)
      · rw [Nat.min_eq_right (by omega), List.take_of_length_le (by omega)] at h
        rw [rowsD_map, List.take_of_length_le (l := xr) (by omega)]
        exact h.same (s15.trans s16)⟩⟩
    have s1416 := s15.trans s16
    generalize upd H15 p16 (.tup [pm, V.ref p15]) = H16 at s16 hpg16 s1416 ⊢
    refine ⟨_, rfl, .ref p16, p.first (i + 1), hm, rfl, hpg16, hfok, fun H17 s17 => ?_⟩
    have s1417 := s1416.trans s17
    refine ⟨_, rfl, p.first (i + 1), hm, rfl, hfok, hT14.ext s1417, fun H18 q18 k18 t18 td18 => ?_⟩
    have hok30 := hfok.okD
    have hpg18 := (hpg16.same s17).kn k18
    refine ⟨_, rfl, _, _, Td.dp _ td18, Td.dp _ hpg18.td, hok30.shaped (by decide), hok30.shaped (by decide), _, rfl, ?_⟩
    refine iteF' (by rw [hok30.refl]; rfl) ?_
    have k1418 := (Kn.ofS s1417).trans k18
    have hv18 := hv14.kn k1418
    have hl1 := Pg.text_len hok
    have hl2 := Pg.text_len hfok
    refine ⟨_, rfl, .ref pa, p, hm, rfl, hv18, hok, fun H19 s19 => ?_⟩
    refine np ⟨_, rfl, _, rfl, by rw [sizeLine_eq]; omega, _, rfl, _, rfl, by rw [sizeLine_eq]; omega, _, rfl, ?_⟩
    rw [cut_pre (Pg.first_text hfok)]
    refine ⟨rfl, _, rfl, ?_⟩
    refine iteF' (by simp) ?_
    exact ⟨_, _, _, rfl, k14.trans (k1418.trans (.ofS s19)), t18.ext s19⟩
  rintro σ H14 ⟨x9, x10, x11, rfl, k14, hT14⟩
  refine ⟨_, rfl, _, rfl, d, .ref pa, p, hm, nms, t, ro, rfl, hS13.kn k14, ht, hv13.kn k14, hD, hT14, fun H15 k15 t15 => ?_⟩
  exact q H15 (((Kn.ofS s113).trans (k14.mono (by simp))).trans k15) t15
end
end Tw
set_option Elab.async false
set_option linter.all false
set_option maxRecDepth 100000
set_option maxHeartbeats 8000000
namespace Tw
open PySem PySem.Spec PyProof.Rows L2 LamX NdefX TL
section
variable {P : Program} {w : World} {K : PySem.W.Frag} {mg : Str → Option Value} {base : Heap}
def sp_law (K : PySem.W.Frag) : Sp := fun vs H Q _ => ∃ (a : Addr) (ns : List Int), vs = [.ref a] ∧ SqL K H a (ns.map V.int) ∧ ns.length ≤ 63 ∧ Tabs (TT K) H ∧ ∀ H', Q (.bl true) H'
theorem fn_law (T : Txt K mg) (B : Tb K mg base) {fd : FuncData} (F : FunD K "law" "law" (defArgs s_law) (defBody s_law) (defScope s_law) [] [] (He.ga K "law") fd) : FnOk P w K mg base CX0 43 (He.ga K "law") fd ["_law_script"] (sp_law K) := by
  have C_law_draw := ok_law_draw (P := P) (w := w) (base := base) T
  have C_law_program := ok_law_program (P := P) (w := w) (base := base) T
  have C_law_right := ok_law_right (P := P) (w := w) T B
  refine F.ok sc_law (fun vs H Q E h => ?_) fun cdv A outer s H vs Q E hr h => ?_
  · obtain ⟨_, _, rfl, _⟩ := h; rfl
  obtain ⟨a, ns, rfl, hS, hl, hT, q⟩ := h
  refine ⟨_, PSs.nox (pss_cons (ps_for PassesOwn.never rfl (pi_enum (by rfl) T.enumerate (pa_cons (pe_op op_cat (pe_slice sl_list (pv 0) po_none (po_some pe_int)) (pe_lst (pa_cons (pe_callB (cr_sum rfl) (by rfl) T.sum bb_sum (pa_cons (pv 0) pa_nil)) pa_nil))) pa_nil)) (pg_tup (by rfl) (pgs_cons (pg_name (i := 1) sc_law.nd rfl (Or.inl rfl)) (pgs_cons (pg_name (i := 2) sc_law.nd rfl (Or.inl rfl)) pgs_nil)))
   (pss_cons (ps_set (i := 3) sc_law.nd rfl (Or.inl rfl) (pe_callC C_law_draw (hr.mono (by decide)) rfl (pa_cons (pv 2) (pa_cons (pv 1) pa_nil))))
  (pss_one (ps_if (pt_not (pt_val (pe_callC C_law_right (hr.mono (by decide)) rfl (pa_cons (pv 3) (pa_cons (pe_callC C_law_program (hr.mono (by decide)) rfl (pa_cons (pv 3) pa_nil)) pa_nil))))) (pss_one (ps_ret pe_bl)) pss_nil))))
  (pss_one (ps_ret pe_bl))), ?_⟩
  refine ⟨_, rfl, np ⟨8, rfl, a, _, rfl, hS, fun p1 np1 => ?_⟩⟩
  have ecut : cutV (ns.map V.int) none (some (8 : Int)) = (ns.take 8).map V.int := by
    rw [show cutV (ns.map V.int) none (some (8 : Int)) = (ns.map V.int).take 8 from cut_to (k := 8), List.map_take]
  rw [ecut]
  have s1 := same_new np1 (o := .lst ((ns.take 8).map V.int))
  have h1 : upd H p1 (.lst ((ns.take 8).map V.int)) p1 = some (.lst ((ns.take 8).map V.int)) := upd_same
  generalize upd H p1 (.lst ((ns.take 8).map V.int)) = H1 at s1 h1 ⊢
  refine ⟨_, rfl, a, ns, rfl, same_lst s1 hS, by show 1 ≤ sizeLine; decide, fun p2 np2 => ?_⟩
  have s2 := same_new np2 (o := .lst [V.int ns.sum])
  have h2 : upd H1 p2 (.lst [V.int ns.sum]) p2 = some (.lst [V.int ns.sum]) := upd_same
  have h12 := s2 _ _ h1
  generalize upd H1 p2 (.lst [V.int ns.sum]) = H2 at s2 h2 h12 ⊢
  have htl : (ns.take 8).length ≤ 8 := by rw [List.length_take]; omega
  refine ⟨p1, p2, _, _, rfl, rfl, h12, h2, by rw [sizeLine_eq, List.length_map, List.length_singleton]; omega, fun p3 np3 => ?_⟩
  obtain ⟨cs, ecs, hcl⟩ : ∃ cs : List Int, (ns.take 8).map V.int ++ [V.int ns.sum] = cs.map V.int ∧ cs.length ≤ 9 := ⟨ns.take 8 ++ [ns.sum], by rw [List.map_append]; rfl, by rw [List.length_append, List.length_singleton]; omega⟩
  rw [ecs]
  have s3 := (s1.trans s2).trans (same_new np3 (o := .lst (cs.map V.int)))
  have h3 : upd H2 p3 (.lst (cs.map V.int)) p3 = some (.lst (cs.map V.int)) := upd_same
  generalize upd H2 p3 (.lst (cs.map V.int)) = H3 at s3 h3 ⊢
  have hT3 := hT.ext s3
  refine ⟨p3, _, rfl, .of h3, for_it (walk_enum (xs := cs.map V.int)) (fun i σ H' => ∃ x1 x2 x3, σ = [some (.ref a), x1, x2, x3] ∧ H' p3 = some (.lst (cs.map V.int)) ∧ Tabs (TT K) H') ⟨none, none, none, rfl, h3, hT3⟩ (fun i σ H' _ h => by obtain ⟨_, _, _, _, h, _⟩ := h; exact .of h) ?_ ?_⟩
  · rintro i x σ H4 H5 hi ⟨x1, x2, x3, rfl, h4, hT4⟩ ⟨Tt, u1, u2, rfl, nT, rfl, e1, e2⟩
    rw [List.length_map] at hi
    cases e1
    have e2 : (cs.map V.int)[i]? = some u2 := e2
    rw [List.getElem?_map] at e2
    obtain ⟨c, hc, rfl⟩ := Option.map_eq_some_iff.mp e2
    refine ⟨Tt, _, rfl, .of upd_same, rfl, _, _, rfl, _, _, rfl, rfl, ?_⟩
    have s5 := same_new nT (o := .tup [V.int (i : Nat), V.int c])
    have h5 := s5 _ _ h4
    have hT5 := hT4.ext s5
    generalize upd H4 Tt (.tup [V.int (i : Nat), V.int c]) = H5 at s5 h5 hT5 ⊢
    refine ⟨_, rfl, _, rfl, c, i, rfl, by omega, fun H6 d l s0 s6 n6 h6 => ?_⟩
    have hp6 := s6 _ _ h5
    have hT6 := hT5.ext s6
    have hS6 : StA H6 d i none := ⟨l, s0, i, Nat.le_refl _, h6⟩
    have hpd : p3 ≠ d := fun z => by rw [z, n6] at h5; cases h5
    refine ⟨_, rfl, _, rfl, d, i, rfl, hS6, by omega, fun H7 v p hm nms ro d7 hS7 hp7 hD7 => ?_⟩
    have hT7 := d7.tabs hS6 hT6
    have h7 := d7.lst hS6 hp6
    refine ⟨d, v, p, hm, nms, _, ro, rfl, hS7, by omega, hp7, hD7, hT7, fun H8 k8 t8 => ?_⟩
    refine ⟨_, rfl, ?_⟩
    refine iteF' (by rfl) ?_
    exact ⟨_, _, _, rfl, k8.lst (by simp [hpd]) h7, t8⟩
  rintro σ H4 ⟨x1, x2, x3, rfl, h4, hT4⟩
  exact q _
end
end Tw
set_option Elab.async false
set_option linter.all false
set_option maxRecDepth 100000
namespace Tw
open PySem PySem.Spec PyProof.Rows L2
def dd_is_whole : He.DefD := ⟨("is_whole", none), "is_whole", "is_whole", defArgs s_is_whole, defBody s_is_whole, defScope s_is_whole, [], []⟩
def dd_is_among : He.DefD := ⟨("is_among", none), "is_among", "is_among", defArgs s_is_among, defBody s_is_among, defScope s_is_among, [], []⟩
def dd_is_house : He.DefD := ⟨("is_house", none), "is_house", "is_house", defArgs s_is_house, defBody s_is_house, defScope s_is_house, [], []⟩
def dd_is_name : He.DefD := ⟨("is_name", none), "is_name", "is_name", defArgs s_is_name, defBody s_is_name, defScope s_is_name, [], []⟩
def dd_number_of : He.DefD := ⟨("number_of", none), "number_of", "number_of", defArgs s_number_of, defBody s_number_of, defScope s_number_of, [], []⟩
def dd_words_of : He.DefD := ⟨("words_of", none), "words_of", "words_of", defArgs s_words_of, defBody s_words_of, defScope s_words_of, [], []⟩
def dd_is_form : He.DefD := ⟨("is_form", none), "is_form", "is_form", defArgs s_is_form, defBody s_is_form, defScope s_is_form, [], []⟩
def dd_is_expr : He.DefD := ⟨("is_expr", none), "is_expr", "is_expr", defArgs s_is_expr, defBody s_is_expr, defScope s_is_expr, [], []⟩
def dd_parts_in : He.DefD := ⟨("parts_in", none), "parts_in", "parts_in", defArgs s_parts_in, defBody s_parts_in, defScope s_parts_in, [], []⟩
def dd_names_in : He.DefD := ⟨("names_in", none), "names_in", "names_in", defArgs s_names_in, defBody s_names_in, defScope s_names_in, [], []⟩
def dd_worth_of : He.DefD := ⟨("worth_of", none), "worth_of", "worth_of", defArgs s_worth_of, defBody s_worth_of, defScope s_worth_of, [], []⟩
def dd_expr_words : He.DefD := ⟨("expr_words", none), "expr_words", "expr_words", defArgs s_expr_words, defBody s_expr_words, defScope s_expr_words, [], []⟩
def dd_expr_in : He.DefD := ⟨("expr_in", none), "expr_in", "expr_in", defArgs s_expr_in, defBody s_expr_in, defScope s_expr_in, [], []⟩
def dd_are_marks : He.DefD := ⟨("are_marks", none), "are_marks", "are_marks", defArgs s_are_marks, defBody s_are_marks, defScope s_are_marks, [], []⟩
def dd_blocks_in : He.DefD := ⟨("blocks_in", none), "blocks_in", "blocks_in", defArgs s_blocks_in, defBody s_blocks_in, defScope s_blocks_in, [], []⟩
def dd_expr_of : He.DefD := ⟨("expr_of", none), "expr_of", "expr_of", defArgs s_expr_of, defBody s_expr_of, defScope s_expr_of, [], []⟩
def dd_told_by : He.DefD := ⟨("told_by", none), "told_by", "told_by", defArgs s_told_by, defBody s_told_by, defScope s_told_by, [], []⟩
def dd_is_plain_row : He.DefD := ⟨("is_plain_row", none), "is_plain_row", "is_plain_row", defArgs s_is_plain_row, defBody s_is_plain_row, defScope s_is_plain_row, [], []⟩
def dd_need_program : He.DefD := ⟨("need_program", none), "need_program", "need_program", defArgs s_need_program, defBody s_need_program, defScope s_need_program, [], []⟩
def dd_rows_in : He.DefD := ⟨("rows_in", none), "rows_in", "rows_in", defArgs s_rows_in, defBody s_rows_in, defScope s_rows_in, [], []⟩
def dd_row_at : He.DefD := ⟨("row_at", none), "row_at", "row_at", defArgs s_row_at, defBody s_row_at, defScope s_row_at, [], []⟩
def dd_names_of : He.DefD := ⟨("names_of", none), "names_of", "names_of", defArgs s_names_of, defBody s_names_of, defScope s_names_of, [], []⟩
def dd_Rd_init : He.DefD := ⟨("Reading", some "__init__"), "__init__", "Reading.__init__", defArgs s_Rd_init, defBody s_Rd_init, defScope s_Rd_init, [], []⟩
def dd_Rd_take : He.DefD := ⟨("Reading", some "take"), "take", "Reading.take", defArgs s_Rd_take, defBody s_Rd_take, defScope s_Rd_take, [], []⟩
def dd_Rd_take_expr : He.DefD := ⟨("Reading", some "take_expr"), "take_expr", "Reading.take_expr", defArgs s_Rd_take_expr, defBody s_Rd_take_expr, defScope s_Rd_take_expr, [], []⟩
def dd_Rd_end : He.DefD := ⟨("Reading", some "end"), "end", "Reading.end", defArgs s_Rd_end, defBody s_Rd_end, defScope s_Rd_end, [], []⟩
def dd_read_row : He.DefD := ⟨("read_row", none), "read_row", "read_row", defArgs s_read_row, defBody s_read_row, defScope s_read_row, [], []⟩
def dd_read_mark : He.DefD := ⟨("read_mark", none), "read_mark", "read_mark", defArgs s_read_mark, defBody s_read_mark, defScope s_read_mark, [], []⟩
def dd_read_else : He.DefD := ⟨("read_else", none), "read_else", "read_else", defArgs s_read_else, defBody s_read_else, defScope s_read_else, [], []⟩
def dd_settled : He.DefD := ⟨("settled", none), "settled", "settled", defArgs s_settled, defBody s_settled, defScope s_settled, [], []⟩
def dd_blanks_of : He.DefD := ⟨("blanks_of", none), "blanks_of", "blanks_of", defArgs s_blanks_of, defBody s_blanks_of, defScope s_blanks_of, [], []⟩
def dd_read_program : He.DefD := ⟨("read_program", none), "read_program", "read_program", defArgs s_read_program, defBody s_read_program, defScope s_read_program, [], []⟩
def dd_unmarked : He.DefD := ⟨("unmarked", none), "unmarked", "unmarked", defArgs s_unmarked, defBody s_unmarked, defScope s_unmarked, [], []⟩
def dd_row_words : He.DefD := ⟨("row_words", none), "row_words", "row_words", defArgs s_row_words, defBody s_row_words, defScope s_row_words, [], []⟩
def dd_block_lines : He.DefD := ⟨("block_lines", none), "block_lines", "block_lines", defArgs s_block_lines, defBody s_block_lines, defScope s_block_lines, [], []⟩
def dd_program_text : He.DefD := ⟨("program_text", none), "program_text", "program_text", defArgs s_program_text, defBody s_program_text, defScope s_program_text, [], []⟩
def dd_law_mixed : He.DefD := ⟨("_law_mixed", none), "_law_mixed", "_law_mixed", defArgs s_law_mixed, defBody s_law_mixed, defScope s_law_mixed, [], []⟩
def dd_law_draw : He.DefD := ⟨("_law_draw", none), "_law_draw", "_law_draw", defArgs s_law_draw, defBody s_law_draw, defScope s_law_draw, [], []⟩
def dd_law_digit : He.DefD := ⟨("_law_digit", none), "_law_digit", "_law_digit", defArgs s_law_digit, defBody s_law_digit, defScope s_law_digit, [], []⟩
def dd_law_expr : He.DefD := ⟨("_law_expr", none), "_law_expr", "_law_expr", defArgs s_law_expr, defBody s_law_expr, defScope s_law_expr, [], []⟩
def dd_law_row : He.DefD := ⟨("_law_row", none), "_law_row", "_law_row", defArgs s_law_row, defBody s_law_row, defScope s_law_row, [], []⟩
def dd_law_block : He.DefD := ⟨("_law_block", none), "_law_block", "_law_block", defArgs s_law_block, defBody s_law_block, defScope s_law_block, [], []⟩
def dd_law_program : He.DefD := ⟨("_law_program", none), "_law_program", "_law_program", defArgs s_law_program, defBody s_law_program, defScope s_law_program, [], []⟩
def dd_law_named : He.DefD := ⟨("_law_named", none), "_law_named", "_law_named", defArgs s_law_named, defBody s_law_named, defScope s_law_named, [], []⟩
def dd_law_lines : He.DefD := ⟨("_law_lines", none), "_law_lines", "_law_lines", defArgs s_law_lines, defBody s_law_lines, defScope s_law_lines, [], []⟩
def dd_law_built : He.DefD := ⟨("_law_built", none), "_law_built", "_law_built", defArgs s_law_built, defBody s_law_built, defScope s_law_built, [], []⟩
def dd_law_otherwise_right : He.DefD := ⟨("_law_otherwise_right", none), "_law_otherwise_right", "_law_otherwise_right", defArgs s_law_otherwise_right, defBody s_law_otherwise_right, defScope s_law_otherwise_right, [], []⟩
def dd_law_right : He.DefD := ⟨("_law_right", none), "_law_right", "_law_right", defArgs s_law_right, defBody s_law_right, defScope s_law_right, [], []⟩
def dd_law : He.DefD := ⟨("law", none), "law", "law", defArgs s_law, defBody s_law, defScope s_law, [], []⟩
def fn0 : List He.DefD := [dd_is_whole, dd_is_among, dd_is_house, dd_is_name, dd_number_of, dd_words_of, dd_is_form, dd_is_expr, dd_parts_in, dd_names_in, dd_worth_of, dd_expr_words, dd_expr_in, dd_are_marks, dd_blocks_in, dd_expr_of, dd_told_by, dd_is_plain_row, dd_need_program, dd_rows_in, dd_row_at, dd_names_of, dd_Rd_init, dd_Rd_take, dd_Rd_take_expr]
def fn1 : List He.DefD := [dd_Rd_end, dd_read_row, dd_read_mark, dd_read_else, dd_settled, dd_blanks_of, dd_read_program, dd_unmarked, dd_row_words, dd_block_lines, dd_program_text, dd_law_mixed, dd_law_draw, dd_law_digit, dd_law_expr, dd_law_row, dd_law_block, dd_law_program, dd_law_named, dd_law_lines, dd_law_built, dd_law_otherwise_right, dd_law_right, dd_law]
def fn : List He.DefD := fn0 ++ fn1
def fa0 : List He.Fa := [.glo "is_whole", .glo "is_among", .glo "is_house", .glo "is_name", .glo "number_of", .glo "words_of", .glo "is_form", .glo "is_expr", .glo "parts_in", .glo "names_in", .glo "worth_of", .glo "expr_words", .glo "expr_in", .glo "are_marks", .glo "blocks_in", .glo "expr_of", .glo "told_by", .glo "is_plain_row", .glo "need_program", .glo "rows_in", .glo "row_at", .glo "names_of", .glo "read_row", .glo "read_mark", .glo "read_else", .glo "settled", .glo "blanks_of", .glo "read_program", .glo "unmarked", .glo "row_words"]
def fa1 : List He.Fa := [.glo "block_lines", .glo "program_text", .glo "_law_mixed", .glo "_law_draw", .glo "_law_digit", .glo "_law_expr", .glo "_law_row", .glo "_law_block", .glo "_law_program", .glo "_law_named", .glo "_law_lines", .glo "_law_built", .glo "_law_otherwise_right", .glo "_law_right", .glo "law", .free "all", .free "bool", .free "dict", .free "enumerate", .free "int", .free "isinstance", .free "len", .free "list", .free "range", .free "set", .free "sorted", .free "str", .free "sum", .free "tuple", .free "zip"]
def fa2 : List He.Fa := [.glo "HOUSES", .glo "KEYS", .glo "PAIRS", .int "MOST_LETTERS" 6, .int "MOST" 996, .int "MOST_PARTS" 40, .int "MOST_DEEP" 8, .int "MOST_ROWS" 60, .int "MOST_BLOCKS" 5, .str "LETTERS" "abcdefghijklmnopqrstuvwxyz", .str "FIGURES" "0123456789", .glo "Reading", .cls "Reading", .mkr "Reading", .noat "Reading" "line", .noat "Reading" "words", .noat "Reading" "at", .meth "Reading" "take", .meth "Reading" "take_expr", .meth "Reading" "end"]
def fa : List He.Fa := fa0 ++ fa1 ++ fa2
def ex (K : PySem.W.Frag) : Bool := He.tupB K "HOUSES" (c_HOUSES.map He.Dv.str) && He.tupB K "KEYS" (c_KEYS.map He.Dv.str) && He.tupB K "PAIRS" (c_PAIRS.map He.Dv.str) && decide (tbA K "read_row" ≠ tbA K "read_mark")
def tf : List He.Defn := [("read_row", none), ("read_mark", none)]
abbrev R : PySem.W.OpenRow := PySem.W.OpenLaw.row PySem.Challenge.rw_twainwork_k08_whole_programs_told_otherw
abbrev hk : PySem.W.Hook := He.hookX 5 fa fn [] tf ex
def ob (s : PySem.W.SharedT) : He.AlX := He.obsX 5 fa fn [] tf ex (HandSHeadRun.getT s)
theorem ob_eq (s : PySem.W.SharedT) : ob s = hk.obs s.abs := He.obsX_eq (HandSHeadRun.getT_eq s)
def st (s : String) : PySem.Str := PySem.Str.ofString s
def lo0 : List PySem.Str := [st "TwainError", st "BadRow", st "BadProgram", st "OutOfPlace", st "HOUSES", st "LETTERS", st "FIGURES", st "KEYS", st "MOST_LETTERS", st "MOST", st "is_whole", st "is_among", st "is_house", st "is_name", st "number_of", st "words_of"]
def lo1 : List PySem.Str := [st "PAIRS", st "MOST_PARTS", st "MOST_DEEP", st "is_form", st "is_expr", st "parts_in", st "names_in", st "worth_of", st "expr_words", st "expr_in", st "MOST_ROWS", st "MOST_BLOCKS", st "are_marks", st "blocks_in", st "expr_of", st "told_by"]
def lo2 : List PySem.Str := [st "is_plain_row", st "need_program", st "rows_in", st "row_at", st "names_of", st "Reading", st "read_row", st "read_mark", st "read_else", st "settled", st "blanks_of", st "read_program", st "unmarked", st "row_words", st "block_lines", st "program_text"]
def lo3 : List PySem.Str := [st "_law_mixed", st "_law_draw", st "_law_digit", st "_law_expr", st "_law_row", st "_law_block", st "_law_program", st "_law_named", st "_law_lines", st "_law_built", st "_law_otherwise_right", st "_law_right"]
def lo : List PySem.Str := lo0 ++ lo1 ++ lo2 ++ lo3
abbrev qv : Program := PySem.W.view R.prog [67]
set_option maxHeartbeats 0 in
theorem run (w : World) : HandSHeadRun.RunEq R qv hk ob 3500 lo w := by
  intro os
  kernel_rfl
theorem dvs_str (K : PySem.W.Frag) (l : List Str) : (l.map He.Dv.str).map (He.Dv.v K) = l.map V.str := by rw [List.map_map] <;> rfl
theorem txt {w : World} {K : PySem.W.Frag} {h : Heap} {mg : Str → Option Value} (X : K.In h) (G : h.Ns mainGlobals mg) (c : He.SaysX fa fn [] tf ex w h K) : Txt K mg := by
  have D := c.t.d
  have m0 : ex K = true := c.more
  obtain ⟨m0, x_ne⟩ := He.ba m0
  obtain ⟨m0, x_PAIRS⟩ := He.ba m0
  obtain ⟨m0, x_KEYS⟩ := He.ba m0
  have x_HOUSES := m0
  exact {
    all := He.free_ok X G (D.fact 45 (f := .free "all") rfl)
    bool := He.free_ok X G (D.fact 46 (f := .free "bool") rfl)
    dict := He.free_ok X G (D.fact 47 (f := .free "dict") rfl)
    enumerate := He.free_ok X G (D.fact 48 (f := .free "enumerate") rfl)
    int := He.free_ok X G (D.fact 49 (f := .free "int") rfl)
    isinstance := He.free_ok X G (D.fact 50 (f := .free "isinstance") rfl)
    len := He.free_ok X G (D.fact 51 (f := .free "len") rfl)
    list := He.free_ok X G (D.fact 52 (f := .free "list") rfl)
    range := He.free_ok X G (D.fact 53 (f := .free "range") rfl)
    set := He.free_ok X G (D.fact 54 (f := .free "set") rfl)
    sorted := He.free_ok X G (D.fact 55 (f := .free "sorted") rfl)
    str := He.free_ok X G (D.fact 56 (f := .free "str") rfl)
    sum := He.free_ok X G (D.fact 57 (f := .free "sum") rfl)
    tuple := He.free_ok X G (D.fact 58 (f := .free "tuple") rfl)
    zip := He.free_ok X G (D.fact 59 (f := .free "zip") rfl)
    i_MOST_LETTERS := He.int_ok X G (D.fact 63 (f := .int "MOST_LETTERS" 6) rfl)
    i_MOST := He.int_ok X G (D.fact 64 (f := .int "MOST" 996) rfl)
    i_MOST_PARTS := He.int_ok X G (D.fact 65 (f := .int "MOST_PARTS" 40) rfl)
    i_MOST_DEEP := He.int_ok X G (D.fact 66 (f := .int "MOST_DEEP" 8) rfl)
    i_MOST_ROWS := He.int_ok X G (D.fact 67 (f := .int "MOST_ROWS" 60) rfl)
    i_MOST_BLOCKS := He.int_ok X G (D.fact 68 (f := .int "MOST_BLOCKS" 5) rfl)
    s_LETTERS := He.str_ok X G (D.fact 69 (f := .str "LETTERS" "abcdefghijklmnopqrstuvwxyz") rfl)
    s_FIGURES := He.str_ok X G (D.fact 70 (f := .str "FIGURES" "0123456789") rfl)
    g_HOUSES := He.glo_ok X G (D.fact 60 (f := .glo "HOUSES") rfl)
    t_HOUSES := fun H => by rw [← dvs_str K c_HOUSES]; exact He.tupB_ok x_HOUSES H
    g_KEYS := He.glo_ok X G (D.fact 61 (f := .glo "KEYS") rfl)
    t_KEYS := fun H => by rw [← dvs_str K c_KEYS]; exact He.tupB_ok x_KEYS H
    g_PAIRS := He.glo_ok X G (D.fact 62 (f := .glo "PAIRS") rfl)
    t_PAIRS := fun H => by rw [← dvs_str K c_PAIRS]; exact He.tupB_ok x_PAIRS H
    d_is_whole := ⟨He.glo_ok X G (D.fact 0 (f := .glo "is_whole") rfl), D.def_ 0 (d := dd_is_whole) rfl⟩
    d_is_among := ⟨He.glo_ok X G (D.fact 1 (f := .glo "is_among") rfl), D.def_ 1 (d := dd_is_among) rfl⟩
    d_is_house := ⟨He.glo_ok X G (D.fact 2 (f := .glo "is_house") rfl), D.def_ 2 (d := dd_is_house) rfl⟩
    d_is_name := ⟨He.glo_ok X G (D.fact 3 (f := .glo "is_name") rfl), D.def_ 3 (d := dd_is_name) rfl⟩
    d_number_of := ⟨He.glo_ok X G (D.fact 4 (f := .glo "number_of") rfl), D.def_ 4 (d := dd_number_of) rfl⟩
    d_words_of := ⟨He.glo_ok X G (D.fact 5 (f := .glo "words_of") rfl), D.def_ 5 (d := dd_words_of) rfl⟩
    d_is_form := ⟨He.glo_ok X G (D.fact 6 (f := .glo "is_form") rfl), D.def_ 6 (d := dd_is_form) rfl⟩
    d_is_expr := ⟨He.glo_ok X G (D.fact 7 (f := .glo "is_expr") rfl), D.def_ 7 (d := dd_is_expr) rfl⟩
    d_parts_in := ⟨He.glo_ok X G (D.fact 8 (f := .glo "parts_in") rfl), D.def_ 8 (d := dd_parts_in) rfl⟩
    d_names_in := ⟨He.glo_ok X G (D.fact 9 (f := .glo "names_in") rfl), D.def_ 9 (d := dd_names_in) rfl⟩
    d_worth_of := ⟨He.glo_ok X G (D.fact 10 (f := .glo "worth_of") rfl), D.def_ 10 (d := dd_worth_of) rfl⟩
    d_expr_words := ⟨He.glo_ok X G (D.fact 11 (f := .glo "expr_words") rfl), D.def_ 11 (d := dd_expr_words) rfl⟩
    d_expr_in := ⟨He.glo_ok X G (D.fact 12 (f := .glo "expr_in") rfl), D.def_ 12 (d := dd_expr_in) rfl⟩
    d_are_marks := ⟨He.glo_ok X G (D.fact 13 (f := .glo "are_marks") rfl), D.def_ 13 (d := dd_are_marks) rfl⟩
    d_blocks_in := ⟨He.glo_ok X G (D.fact 14 (f := .glo "blocks_in") rfl), D.def_ 14 (d := dd_blocks_in) rfl⟩
    d_expr_of := ⟨He.glo_ok X G (D.fact 15 (f := .glo "expr_of") rfl), D.def_ 15 (d := dd_expr_of) rfl⟩
    d_told_by := ⟨He.glo_ok X G (D.fact 16 (f := .glo "told_by") rfl), D.def_ 16 (d := dd_told_by) rfl⟩
    d_is_plain_row := ⟨He.glo_ok X G (D.fact 17 (f := .glo "is_plain_row") rfl), D.def_ 17 (d := dd_is_plain_row) rfl⟩
    d_need_program := ⟨He.glo_ok X G (D.fact 18 (f := .glo "need_program") rfl), D.def_ 18 (d := dd_need_program) rfl⟩
    d_rows_in := ⟨He.glo_ok X G (D.fact 19 (f := .glo "rows_in") rfl), D.def_ 19 (d := dd_rows_in) rfl⟩
    d_row_at := ⟨He.glo_ok X G (D.fact 20 (f := .glo "row_at") rfl), D.def_ 20 (d := dd_row_at) rfl⟩
    d_names_of := ⟨He.glo_ok X G (D.fact 21 (f := .glo "names_of") rfl), D.def_ 21 (d := dd_names_of) rfl⟩
    d_Rd_init := D.def_ 22 (d := dd_Rd_init) rfl
    d_Rd_take := D.def_ 23 (d := dd_Rd_take) rfl
    d_Rd_take_expr := D.def_ 24 (d := dd_Rd_take_expr) rfl
    d_Rd_end := D.def_ 25 (d := dd_Rd_end) rfl
    d_read_row := ⟨He.glo_ok X G (D.fact 22 (f := .glo "read_row") rfl), D.def_ 26 (d := dd_read_row) rfl⟩
    d_read_mark := ⟨He.glo_ok X G (D.fact 23 (f := .glo "read_mark") rfl), D.def_ 27 (d := dd_read_mark) rfl⟩
    d_read_else := ⟨He.glo_ok X G (D.fact 24 (f := .glo "read_else") rfl), D.def_ 28 (d := dd_read_else) rfl⟩
    d_settled := ⟨He.glo_ok X G (D.fact 25 (f := .glo "settled") rfl), D.def_ 29 (d := dd_settled) rfl⟩
    d_blanks_of := ⟨He.glo_ok X G (D.fact 26 (f := .glo "blanks_of") rfl), D.def_ 30 (d := dd_blanks_of) rfl⟩
    d_read_program := ⟨He.glo_ok X G (D.fact 27 (f := .glo "read_program") rfl), D.def_ 31 (d := dd_read_program) rfl⟩
    d_unmarked := ⟨He.glo_ok X G (D.fact 28 (f := .glo "unmarked") rfl), D.def_ 32 (d := dd_unmarked) rfl⟩
    d_row_words := ⟨He.glo_ok X G (D.fact 29 (f := .glo "row_words") rfl), D.def_ 33 (d := dd_row_words) rfl⟩
    d_block_lines := ⟨He.glo_ok X G (D.fact 30 (f := .glo "block_lines") rfl), D.def_ 34 (d := dd_block_lines) rfl⟩
    d_program_text := ⟨He.glo_ok X G (D.fact 31 (f := .glo "program_text") rfl), D.def_ 35 (d := dd_program_text) rfl⟩
    d_law_mixed := ⟨He.glo_ok X G (D.fact 32 (f := .glo "_law_mixed") rfl), D.def_ 36 (d := dd_law_mixed) rfl⟩
    d_law_draw := ⟨He.glo_ok X G (D.fact 33 (f := .glo "_law_draw") rfl), D.def_ 37 (d := dd_law_draw) rfl⟩
    d_law_digit := ⟨He.glo_ok X G (D.fact 34 (f := .glo "_law_digit") rfl), D.def_ 38 (d := dd_law_digit) rfl⟩
    d_law_expr := ⟨He.glo_ok X G (D.fact 35 (f := .glo "_law_expr") rfl), D.def_ 39 (d := dd_law_expr) rfl⟩
    d_law_row := ⟨He.glo_ok X G (D.fact 36 (f := .glo "_law_row") rfl), D.def_ 40 (d := dd_law_row) rfl⟩
    d_law_block := ⟨He.glo_ok X G (D.fact 37 (f := .glo "_law_block") rfl), D.def_ 41 (d := dd_law_block) rfl⟩
    d_law_program := ⟨He.glo_ok X G (D.fact 38 (f := .glo "_law_program") rfl), D.def_ 42 (d := dd_law_program) rfl⟩
    d_law_named := ⟨He.glo_ok X G (D.fact 39 (f := .glo "_law_named") rfl), D.def_ 43 (d := dd_law_named) rfl⟩
    d_law_lines := ⟨He.glo_ok X G (D.fact 40 (f := .glo "_law_lines") rfl), D.def_ 44 (d := dd_law_lines) rfl⟩
    d_law_built := ⟨He.glo_ok X G (D.fact 41 (f := .glo "_law_built") rfl), D.def_ 45 (d := dd_law_built) rfl⟩
    d_law_otherwise_right := ⟨He.glo_ok X G (D.fact 42 (f := .glo "_law_otherwise_right") rfl), D.def_ 46 (d := dd_law_otherwise_right) rfl⟩
    d_law_right := ⟨He.glo_ok X G (D.fact 43 (f := .glo "_law_right") rfl), D.def_ 47 (d := dd_law_right) rfl⟩
    d_law := ⟨He.glo_ok X G (D.fact 44 (f := .glo "law") rfl), D.def_ 48 (d := dd_law) rfl⟩
    Rd_g := He.glo_ok X G (D.fact 71 (f := .glo "Reading") rfl)
    Rd_cl := He.cls_ok (D.fact 72 (f := .cls "Reading") rfl)
    Rd_mk := He.mkr_ok (D.fact 73 (f := .mkr "Reading") rfl)
    Rd_n_line := He.noat_ok (D.fact 74 (f := .noat "Reading" "line") rfl)
    Rd_n_words := He.noat_ok (D.fact 75 (f := .noat "Reading" "words") rfl)
    Rd_n_at := He.noat_ok (D.fact 76 (f := .noat "Reading" "at") rfl)
    Rd_m_take := He.meth_ok (D.fact 77 (f := .meth "Reading" "take") rfl)
    Rd_m_take_expr := He.meth_ok (D.fact 78 (f := .meth "Reading" "take_expr") rfl)
    Rd_m_end := He.meth_ok (D.fact 79 (f := .meth "Reading" "end") rfl)
  }
theorem law_at {w : World} {K : PySem.W.Frag} {h : Heap} {mg : Str → Option Value} {f : Addr} (X : K.In h) (G : h.Ns mainGlobals mg) (hfa : mg ("law" : Str) = some (.ref f)) (c : He.SaysX fa fn [] tf ex w h K) : LamX.LawAtS PySem.Challenge.rw_twainwork_k08_whole_programs_told_otherw w K CX0 43 63 "_law_script" mg f h := by
  have T : Txt K mg := txt X G c
  obtain ⟨g, fd, F⟩ := T.d_law
  have e := hfa.symm.trans g
  cases e
  have m0 : ex K = true := c.more
  obtain ⟨_, x_ne⟩ := He.ba m0
  have hr : (("read_row", none) : He.Defn) ∈ tf := by unfold tf; exact List.mem_cons_self
  have hm : (("read_mark", none) : He.Defn) ∈ tf := by unfold tf; exact List.mem_cons_of_mem _ List.mem_cons_self
  refine ⟨fd, tf.map (He.cT K), sp_law K, ?_, ?_, ?_, fun s u => FunD.bindsA (ps := ["_law_script"]) F (fun _ _ _ _ _ _ us hl => match us, hl with | [_], _ => rfl) s [u] rfl, ?_, fun base KB NB TB => fn_law T ⟨TB _ (List.mem_map_of_mem hr), TB _ (List.mem_map_of_mem hm), of_decide_eq_true x_ne⟩ F⟩
  · intro p hp
    obtain ⟨q, hq, rfl⟩ := List.mem_map.mp hp
    exact c.empty q hq
  · intro p hp
    obtain ⟨q, hq, rfl⟩ := List.mem_map.mp hp
    exact c.out q hq
  · intro p hp
    obtain ⟨q, hq, rfl⟩ := List.mem_map.mp hp
    exact PySem.W.codeHd_of_K X (c.hd q hq)
  · intro H a ns hl _ hH hS
    refine ⟨a, ns, rfl, hS, hl, fun p hp => ?_, fun _ => rfl⟩
    simp only [TT, List.mem_cons, List.not_mem_nil, or_false] at hp
    rcases hp with z | z
    · rw [z]
      exact LamX.TabS.nil (hH _ (List.mem_map_of_mem hr))
    · rw [z]
      exact LamX.TabS.nil (hH _ (List.mem_map_of_mem hm))
end Tw
open PySem PySem.W PySem.Calls PyProof.Rows
set_option maxHeartbeats 0 in
theorem PySem.Challenge.cw_twainwork_k08_whole_programs_told_otherw_holds : PySem.Challenge.rw_twainwork_k08_whole_programs_told_otherw.Holds := by
  w_on; o_law
  refine HandSHeadRun.head_any (r := OpenLaw.row PySem.Challenge.rw_twainwork_k08_whole_programs_told_otherw) (q := Tw.qv) (H := Tw.hk) (ob := Tw.ob) (M := 3500) (loose := Tw.lo) (d := HandSHeadRun.topDef (OpenLaw.row PySem.Challenge.rw_twainwork_k08_whole_programs_told_otherw).prog 67) (kwd := []) Tw.ob_eq
    (by kernel_rfl) (fun s => by kernel_rfl) Tw.run (by kernel_rfl) (by kernel_rfl) (by kernel_rfl) (by rfl) (by first | assumption | decide +kernel) (by decide +kernel) ⟨rfl, rfl, rfl, rfl, rfl, by decide +kernel⟩ ?hw ?hc
  case hw => w_witness2
  case hc =>
    refine LamX.walk_ofTsE (l := PySem.Challenge.rw_twainwork_k08_whole_programs_told_otherw) (n := 63) (k := 43) (x := "_law_script") (CX := fun _ => L2.CX0) rfl (by decide) (by kernel_rfl) ⟨rfl, by decide, by decide⟩ ?F (fun _ _ _ _ _ z => z)
    intro w mg fa h Y G hmg0
    obtain ⟨K, KX, c⟩ := Y
    have hmg : mg ("law" : PySem.Str) = some (.ref fa) := by
      have e : (HandSHeadRun.topDef (OpenLaw.row PySem.Challenge.rw_twainwork_k08_whole_programs_told_otherw).prog 67).name = ("law" : PySem.Str) := by kernel_rfl
      rw [← e]
      exact hmg0
    exact ⟨K, KX, Tw.law_at KX G hmg c⟩
