import PyProof.Rows.All
import Wide.All
import OpenK.AllK
import Wide.FinOn
import KE.KStateDown
import Lean
import HandS.ForMost
import HandS.More
import HandS.Exc
import HandS.Defaults
import HandS.Conv
import HandS.TupAny
import HandS.StrMore
import HandS.WrittenGet
import HandS.Walk
import HandS.Head0
import HandS.Head1
import HandS.Head2
import HandS.HeadEnd
import HandS.HeadHook1
import HandS.HeadHook2
import HandS.HeadHook3
import HandS.HeadHook4
import PySem.Challenge.RW_wholenet_k04_loose_texts
set_option Elab.async false
set_option linter.all false
set_option maxRecDepth 100000
set_option maxHeartbeats 4000000
/-! The text by places, scopes, own rules of the hand layer, what the top leaves. -/
namespace Wh
open PySem PySem.Spec PyProof.Rows L2
def digS : Str := "0123456789"
def chrS : Str := "\n !\"#$&'()*+,-./0123456789:;<=>?@ABCDEFGHIJKLMNOPQRSTUVWXYZ[\\]^_`abcdefghijklmnopqrstuvwxyz{|}~"
def top (i : Nat) : Stmt := PySem.Challenge.pw_wholenet_k04_loose_texts.main.body.getD i (.Pass ⟨0, 0, 0, 0⟩)
abbrev s_within : Stmt := top 6
abbrev s_places : Stmt := top 14
abbrev s_gives_all : Stmt := top 15
abbrev s_gives : Stmt := top 16
abbrev s_init : Stmt := inClass (top 23) 0
abbrev s_put_layer : Stmt := inClass (top 23) 1
abbrev s_present : Stmt := inClass (top 23) 2
abbrev s_finish : Stmt := inClass (top 23) 3
abbrev s_is_number : Stmt := top 24
abbrev s_read_numbers : Stmt := top 25
abbrev s_read_count : Stmt := top 26
abbrev s_check_place : Stmt := top 27
abbrev s_check_words : Stmt := top 28
abbrev s_read_row : Stmt := top 29
abbrev s_read_branch : Stmt := top 30
abbrev s_read_size : Stmt := top 31
abbrev s_check_count : Stmt := top 32
abbrev s_read_layer : Stmt := top 33
abbrev s_read_line : Stmt := top 34
abbrev s_words_of : Stmt := top 35
abbrev s_check_text : Stmt := top 36
abbrev s_parse : Stmt := top 37
abbrev s_law_cell : Stmt := top 39
abbrev s_law_digits : Stmt := top 40
abbrev s_law_draw : Stmt := top 41
abbrev s_law_sign : Stmt := top 42
abbrev s_law_weight : Stmt := top 43
abbrev s_law_weights : Stmt := top 44
abbrev s_law_rows : Stmt := top 45
abbrev s_law_gives : Stmt := top 46
abbrev s_law_plain_layer : Stmt := top 47
abbrev s_law_plain_layers : Stmt := top 48
abbrev s_law_layer : Stmt := top 49
abbrev s_law_net : Stmt := top 50
abbrev s_law_same : Stmt := top 53
abbrev s_law_line : Stmt := top 54
abbrev s_law_lines : Stmt := top 55
abbrev s_law : Stmt := top 56
def wordsZ : List (Str × Int) := [("net", 2), ("dense", 1), ("conv", 2), ("relu", 1), ("clamp", 3), ("max", 2), ("mean", 2), ("sum", 1), ("fork", 1), ("with", 1), ("end", 1), ("done", 1), ("row", 0), ("kernel", 0)]
abbrev N_within : List Str := ["x", "most"]
abbrev P_within : List Str := ["x", "most"]
theorem sc_within : FnScope N_within P_within (defScope s_within) := ⟨rfl, rfl, rfl, by decide +kernel, rfl, by decide +kernel, by decide +kernel⟩
abbrev N_places : List Str := ["layer", "n"]
abbrev P_places : List Str := ["layer", "n"]
theorem sc_places : FnScope N_places P_places (defScope s_places) := ⟨rfl, rfl, rfl, by decide +kernel, rfl, by decide +kernel, by decide +kernel⟩
abbrev N_gives_all : List Str := ["layers", "n", "layer"]
abbrev P_gives_all : List Str := ["layers", "n"]
theorem sc_gives_all : FnScope N_gives_all P_gives_all (defScope s_gives_all) := ⟨rfl, rfl, rfl, by decide +kernel, rfl, by decide +kernel, by decide +kernel⟩
abbrev N_gives : List Str := ["layer", "n", "kind"]
abbrev P_gives : List Str := ["layer", "n"]
theorem sc_gives : FnScope N_gives P_gives (defScope s_gives) := ⟨rfl, rfl, rfl, by decide +kernel, rfl, by decide +kernel, by decide +kernel⟩
abbrev N_init : List Str := ["self"]
abbrev P_init : List Str := ["self"]
theorem sc_init : FnScope N_init P_init (defScope s_init) := ⟨rfl, rfl, rfl, by decide +kernel, rfl, by decide +kernel, by decide +kernel⟩
abbrev N_put_layer : List Str := ["self", "line", "layer", "target", "many"]
abbrev P_put_layer : List Str := ["self", "line", "layer"]
theorem sc_put_layer : FnScope N_put_layer P_put_layer (defScope s_put_layer) := ⟨rfl, rfl, rfl, by decide +kernel, rfl, by decide +kernel, by decide +kernel⟩
abbrev N_present : List Str := ["self"]
abbrev P_present : List Str := ["self"]
theorem sc_present : FnScope N_present P_present (defScope s_present) := ⟨rfl, rfl, rfl, by decide +kernel, rfl, by decide +kernel, by decide +kernel⟩
abbrev N_finish : List Str := ["self", "kind", "stride", "rows", "biases", "line"]
abbrev P_finish : List Str := ["self"]
theorem sc_finish : FnScope N_finish P_finish (defScope s_finish) := ⟨rfl, rfl, rfl, by decide +kernel, rfl, by decide +kernel, by decide +kernel⟩
abbrev N_is_number : List Str := ["word", "digits", "char"]
abbrev P_is_number : List Str := ["word"]
theorem sc_is_number : FnScope N_is_number P_is_number (defScope s_is_number) := ⟨rfl, rfl, rfl, by decide +kernel, rfl, by decide +kernel, by decide +kernel⟩
abbrev N_read_numbers : List Str := ["line", "words", "most", "numbers", "word"]
abbrev P_read_numbers : List Str := ["line", "words", "most"]
theorem sc_read_numbers : FnScope N_read_numbers P_read_numbers (defScope s_read_numbers) := ⟨rfl, rfl, rfl, by decide +kernel, rfl, by decide +kernel, by decide +kernel⟩
abbrev N_read_count : List Str := ["line", "word", "least", "most", "number"]
abbrev P_read_count : List Str := ["line", "word", "least", "most"]
theorem sc_read_count : FnScope N_read_count P_read_count (defScope s_read_count) := ⟨rfl, rfl, rfl, by decide +kernel, rfl, by decide +kernel, by decide +kernel⟩
abbrev N_check_place : List Str := ["builder", "line", "word", "out", "kind"]
abbrev P_check_place : List Str := ["builder", "line", "word"]
theorem sc_check_place : FnScope N_check_place P_check_place (defScope s_check_place) := ⟨rfl, rfl, rfl, by decide +kernel, rfl, by decide +kernel, by decide +kernel⟩
abbrev N_check_words : List Str := ["line", "words", "due"]
abbrev P_check_words : List Str := ["line", "words"]
theorem sc_check_words : FnScope N_check_words P_check_words (defScope s_check_words) := ⟨rfl, rfl, rfl, by decide +kernel, rfl, by decide +kernel, by decide +kernel⟩
abbrev N_read_row : List Str := ["builder", "line", "words", "kind", "stride", "rows", "biases", "_", "numbers", "row", "most", "wrong"]
abbrev P_read_row : List Str := ["builder", "line", "words"]
theorem sc_read_row : FnScope N_read_row P_read_row (defScope s_read_row) := ⟨rfl, rfl, rfl, by decide +kernel, rfl, by decide +kernel, by decide +kernel⟩
abbrev N_read_branch : List Str := ["builder", "line", "word", "kind", "layer"]
abbrev P_read_branch : List Str := ["builder", "line", "word"]
theorem sc_read_branch : FnScope N_read_branch P_read_branch (defScope s_read_branch) := ⟨rfl, rfl, rfl, by decide +kernel, rfl, by decide +kernel, by decide +kernel⟩
abbrev N_read_size : List Str := ["builder", "line", "words", "size"]
abbrev P_read_size : List Str := ["builder", "line", "words"]
theorem sc_read_size : FnScope N_read_size P_read_size (defScope s_read_size) := ⟨rfl, rfl, rfl, by decide +kernel, rfl, by decide +kernel, by decide +kernel⟩
abbrev N_check_count : List Str := ["builder", "line"]
abbrev P_check_count : List Str := ["builder", "line"]
theorem sc_check_count : FnScope N_check_count P_check_count (defScope s_check_count) := ⟨rfl, rfl, rfl, by decide +kernel, rfl, by decide +kernel, by decide +kernel⟩
abbrev N_read_layer : List Str := ["builder", "line", "words", "word", "numbers"]
abbrev P_read_layer : List Str := ["builder", "line", "words"]
theorem sc_read_layer : FnScope N_read_layer P_read_layer (defScope s_read_layer) := ⟨rfl, rfl, rfl, by decide +kernel, rfl, by decide +kernel, by decide +kernel⟩
abbrev N_read_line : List Str := ["builder", "line", "words", "word"]
abbrev P_read_line : List Str := ["builder", "line", "words"]
theorem sc_read_line : FnScope N_read_line P_read_line (defScope s_read_line) := ⟨rfl, rfl, rfl, by decide +kernel, rfl, by decide +kernel, by decide +kernel⟩
abbrev N_words_of : List Str := ["text", "words", "word"]
abbrev P_words_of : List Str := ["text"]
theorem sc_words_of : FnScope N_words_of P_words_of (defScope s_words_of) := ⟨rfl, rfl, rfl, by decide +kernel, rfl, by decide +kernel, by decide +kernel⟩
abbrev N_check_text : List Str := ["text", "line", "char"]
abbrev P_check_text : List Str := ["text"]
theorem sc_check_text : FnScope N_check_text P_check_text (defScope s_check_text) := ⟨rfl, rfl, rfl, by decide +kernel, rfl, by decide +kernel, by decide +kernel⟩
abbrev N_parse : List Str := ["text", "builder", "lines", "index", "row", "words"]
abbrev P_parse : List Str := ["text"]
theorem sc_parse : FnScope N_parse P_parse (defScope s_parse) := ⟨rfl, rfl, rfl, by decide +kernel, rfl, by decide +kernel, by decide +kernel⟩
abbrev N_law_cell : List Str := ["_law_script", "_law_k"]
abbrev P_law_cell : List Str := ["_law_script", "_law_k"]
theorem sc_law_cell : FnScope N_law_cell P_law_cell (defScope s_law_cell) := ⟨rfl, rfl, rfl, by decide +kernel, rfl, by decide +kernel, by decide +kernel⟩
abbrev N_law_digits : List Str := ["_law_script", "_law_first", "_law_last", "_law_digits_here", "_law_k", "_law_cell_here", "_law_turn", "_law_seed"]
abbrev P_law_digits : List Str := ["_law_script", "_law_first", "_law_last"]
theorem sc_law_digits : FnScope N_law_digits P_law_digits (defScope s_law_digits) := ⟨rfl, rfl, rfl, by decide +kernel, rfl, by decide +kernel, by decide +kernel⟩
abbrev N_law_draw : List Str := ["_law_box", "_law_many", "_law_at"]
abbrev P_law_draw : List Str := ["_law_box", "_law_many"]
theorem sc_law_draw : FnScope N_law_draw P_law_draw (defScope s_law_draw) := ⟨rfl, rfl, rfl, by decide +kernel, rfl, by decide +kernel, by decide +kernel⟩
abbrev N_law_sign : List Str := ["_law_box"]
abbrev P_law_sign : List Str := ["_law_box"]
theorem sc_law_sign : FnScope N_law_sign P_law_sign (defScope s_law_sign) := ⟨rfl, rfl, rfl, by decide +kernel, rfl, by decide +kernel, by decide +kernel⟩
abbrev N_law_weight : List Str := ["_law_box", "_law_kind"]
abbrev P_law_weight : List Str := ["_law_box"]
theorem sc_law_weight : FnScope N_law_weight P_law_weight (defScope s_law_weight) := ⟨rfl, rfl, rfl, by decide +kernel, rfl, by decide +kernel, by decide +kernel⟩
abbrev N_law_weights : List Str := ["_law_box", "_law_n", "_law_k"]
abbrev P_law_weights : List Str := ["_law_box", "_law_n"]
theorem sc_law_weights : FnScope N_law_weights P_law_weights (defScope s_law_weights) := ⟨rfl, rfl, rfl, by decide +kernel, rfl, by decide +kernel, by decide +kernel⟩
abbrev N_law_rows : List Str := ["_law_box", "_law_many", "_law_n", "_law_k"]
abbrev P_law_rows : List Str := ["_law_box", "_law_many", "_law_n"]
theorem sc_law_rows : FnScope N_law_rows P_law_rows (defScope s_law_rows) := ⟨rfl, rfl, rfl, by decide +kernel, rfl, by decide +kernel, by decide +kernel⟩
abbrev N_law_gives : List Str := ["_law_layers", "_law_n", "_law_layer_here"]
abbrev P_law_gives : List Str := ["_law_layers", "_law_n"]
theorem sc_law_gives : FnScope N_law_gives P_law_gives (defScope s_law_gives) := ⟨rfl, rfl, rfl, by decide +kernel, rfl, by decide +kernel, by decide +kernel⟩
abbrev N_law_plain_layer : List Str := ["_law_box", "_law_n", "_law_kind", "_law_low", "_law_sizes", "_law_size", "_law_many"]
abbrev P_law_plain_layer : List Str := ["_law_box", "_law_n"]
theorem sc_law_plain_layer : FnScope N_law_plain_layer P_law_plain_layer (defScope s_law_plain_layer) := ⟨rfl, rfl, rfl, by decide +kernel, rfl, by decide +kernel, by decide +kernel⟩
abbrev N_law_plain_layers : List Str := ["_law_box", "_law_n", "_law_many", "_law_layers", "_law_k", "_law_layer_here"]
abbrev P_law_plain_layers : List Str := ["_law_box", "_law_n", "_law_many"]
theorem sc_law_plain_layers : FnScope N_law_plain_layers P_law_plain_layers (defScope s_law_plain_layers) := ⟨rfl, rfl, rfl, by decide +kernel, rfl, by decide +kernel, by decide +kernel⟩
abbrev N_law_layer : List Str := ["_law_box", "_law_n", "_law_kind", "_law_first", "_law_second", "_law_many"]
abbrev P_law_layer : List Str := ["_law_box", "_law_n"]
theorem sc_law_layer : FnScope N_law_layer P_law_layer (defScope s_law_layer) := ⟨rfl, rfl, rfl, by decide +kernel, rfl, by decide +kernel, by decide +kernel⟩
abbrev N_law_net : List Str := ["_law_box", "_law_inputs_here", "_law_layers", "_law_k", "_law_layer_here"]
abbrev P_law_net : List Str := ["_law_box"]
theorem sc_law_net : FnScope N_law_net P_law_net (defScope s_law_net) := ⟨rfl, rfl, rfl, by decide +kernel, rfl, by decide +kernel, by decide +kernel⟩
abbrev N_law_same : List Str := ["_law_actual", "_law_due"]
abbrev P_law_same : List Str := ["_law_actual", "_law_due"]
theorem sc_law_same : FnScope N_law_same P_law_same (defScope s_law_same) := ⟨rfl, rfl, rfl, by decide +kernel, rfl, by decide +kernel, by decide +kernel⟩
abbrev N_law_line : List Str := ["_law_word", "_law_row", "_law_bias", "_law_weight_here"]
abbrev P_law_line : List Str := ["_law_word", "_law_row", "_law_bias"]
theorem sc_law_line : FnScope N_law_line P_law_line (defScope s_law_line) := ⟨rfl, rfl, rfl, by decide +kernel, rfl, by decide +kernel, by decide +kernel⟩
abbrev N_law_lines : List Str := ["_law_layers", "_law_lines_here", "_law_layer_here", "_law_kind", "_law_k", "_law_number"]
abbrev P_law_lines : List Str := ["_law_layers"]
theorem sc_law_lines : FnScope N_law_lines P_law_lines (defScope s_law_lines) := ⟨rfl, rfl, rfl, by decide +kernel, rfl, by decide +kernel, by decide +kernel⟩
abbrev N_law : List Str := ["_law_script", "_law_box", "_law_net_here", "_law_lines_here", "_law_loose", "_law_line_here", "_law_k", "_law_text", "_law_word"]
abbrev P_law : List Str := ["_law_script"]
theorem sc_law : FnScope N_law P_law (defScope s_law) := ⟨rfl, rfl, rfl, by decide +kernel, rfl, by decide +kernel, by decide +kernel⟩
/-! ### own rules of the hand layer -/
section
variable {X : Cx}
/-- a global int, text, object -/
theorem pgi {x : Str} {i : Int} {pos : Pos} (h : ∃ t, X.mg x = some (.int i t)) (hg : Gl X x := by rfl) (hd : (x == ("__debug__" : Str)) = false := by decide) : PE X (.Name x pos) (tC (.int i)) :=
  let ⟨t, e⟩ := h
  pe_glob hg e ⟨t, rfl⟩ hd
theorem pgs {x z : Str} {pos : Pos} (h : ∃ t, X.mg x = some (.str z t)) (hg : Gl X x := by rfl) (hd : (x == ("__debug__" : Str)) = false := by decide) : PE X (.Name x pos) (tC (.str z)) :=
  let ⟨t, e⟩ := h
  pe_glob hg e ⟨t, rfl⟩ hd
theorem pgr {x : Str} {a : Addr} {pos : Pos} (h : X.mg x = some (.ref a)) (hg : Gl X x := by rfl) (hd : (x == ("__debug__" : Str)) = false := by decide) : PE X (.Name x pos) (tC (.ref a)) := pe_glob hg h rfl hd
/-- a text times a number -/
def rMulS : R2 := fun x y H Q => ∃ z n, x = .str z ∧ y = .int n ∧ MulOk z n ∧ Q (.str (Txt.mul z n)) H
theorem op_mulS : OpR X (binaryOp .Mult) rMulS := by
  intro pins s σ H x y v u Q I rx ry h
  obtain ⟨z, n, rfl, rfl, ok, q⟩ := h
  obtain ⟨t, rfl⟩ := rx
  obtain ⟨t', rfl⟩ := ry
  exact SB.mul ok fun t2 k => ⟨.str (Txt.mul z n), H, I.tok _, ⟨t2, rfl⟩, q⟩
/-- the text of data: tuples of texts and ints, at any depth; no guard runs around -/
def rReprD (K : PySem.W.Frag) : List V → Hp → VK → Prop := fun xs H Q => ∃ (a : Addr) (d : PyData), xs = [.ref a] ∧ Dp K H (.ref a) d ∧ d.showable = true ∧ d.hasDict = false ∧ d.depth ≤ 30 ∧ d.shown.length ≤ sizeLine ∧ Q (.str d.shown) H
theorem call_repr_dat (hgu : X.A.guards = some []) (hu : X.A.units + 64 < cLine) : CallR X (.builtin "repr") (rReprD X.K) := by
  intro pins s σ H xs us Q I r h
  obtain ⟨a, d, rfl, hd, h1, h2, h3, h4, q⟩ := h
  rw [Vals.ref1 r]
  obtain ⟨as, rd⟩ := Dp.reads I d (.ref a) (.ref a) hd rfl
  exact repr_of_reads' rd h1 (PyData.noDict_hsm h2) hgu (by omega) (fun _ _ e => e) (fun h' u tk hk => ⟨.str d.shown, H, I.kept (t' := tk) hk, ⟨u, rfl⟩, q⟩) h4
end
section
variable {X : Cx} {a b c : Expr} {ta tb tc : TE}
/-- list(range(a, b, c)) -/
def lr3 (i c : Int) (n : Nat) : List V := (List.range n).map fun j => V.int (i + (j : Nat) * c)
theorem lr3_length (i c : Int) (n : Nat) : (lr3 i c n).length = n := by unfold lr3; rw [List.length_map, List.length_range]
def tLstRg3 (ta tb tc : TE) : TE := fun σ H Q => ta σ H fun x H1 => tb σ H1 fun y H2 => tc σ H2 fun z H3 => ∃ i j c n, x = .int i ∧ y = .int j ∧ z = .int c ∧ RgC i j c n ∧ n ≤ 16777216 ∧
  ∀ q, H3 q = none → Q (.ref q) (upd H3 q (.lst (lr3 i c n)))
theorem lr3_vals {i c : Int} {n : Nat} {acc : Array Value} (h : ItemsOf (fun k v => ∃ t, v = .int (i + k * c) t) acc n) : Vals (lr3 i c n) acc.toList := by
  have e : acc.toList.length = n := by rw [Array.length_toList]; exact h.1
  unfold lr3
  rw [← e]
  refine vals_of_get acc.toList _ fun j u hj => ?_
  obtain ⟨t, rfl⟩ := h.2 j u (by rw [← hj, Array.getElem?_toList])
  exact ⟨t, rfl⟩
theorem pe_listRg3 {p p2 pos pos2 : Pos} (hc : X.calm = true) (hg : Gl X "list") (hgr : Gl X "range") (hm : X.mg "list" = none) (hmr : X.mg "range" = none) (ha : PE X a ta) (hb : PE X b tb) (hcc : PE X c tc)
    (na : starEach [a, b, c] X.env = (false, eval a X.env) :: starEach [b, c] X.env := by rfl) (nb : starEach [b, c] X.env = (false, eval b X.env) :: starEach [c] X.env := by rfl)
    (nc : starEach [c] X.env = (false, eval c X.env) :: starEach [] X.env := by rfl) (hp : (backTo pos2 (starEach [b, c] X.env)).any (·.1) = false := by rfl)
    (nl : starEach [.Call (.Name "range" p2) [a, b, c] [] pos2] X.env = (false, eval (.Call (.Name "range" p2) [a, b, c] [] pos2) X.env) :: starEach [] X.env := by rfl) :
    PE X (.Call (.Name "list" p) [.Call (.Name "range" p2) [a, b, c] [] pos2] [] pos) (tLstRg3 ta tb tc) := by
  refine ⟨fun pins s σ H Q I h => ?_⟩
  have h2 : tCons ta (tCons tb (tCons tc tNil)) σ H (fun vs H3 => match vs with
    | [x, y, z] => ∃ i j c n, x = .int i ∧ y = .int j ∧ z = .int c ∧ RgC i j c n ∧ n ≤ 16777216 ∧ ∀ q, H3 q = none → Q (.ref q) (upd H3 q (.lst (lr3 i c n)))
    | _ => False) := h
  refine Call_ (ld_blt I hg hm boot_list (PyProof.Rows.callWith_type1 (args_cons (Call_ (ld_blt I hgr hmr boot_range (PyProof.Rows.callWith_type1
    (thn ((pa_cons ha (pa_cons hb (pa_cons hcc pa_nil nc) nb) na).run pos2 pins s σ H _ I h2) fun us s1 ⟨vs, H1, I1, r1, q1⟩ => ?_) na hp))) nl) nl))
  obtain ⟨x, y, z, rfl⟩ : ∃ x y z, vs = [x, y, z] := by
    match vs, q1 with
    | [x, y, z], _ => exact ⟨x, y, z, rfl⟩
  obtain ⟨i, j, c, n, rfl, rfl, rfl, ⟨c0, c1, c2, c3⟩, n1, q⟩ := q1
  cases r1 with
  | cons r rr =>
    cases rr with
    | cons r' rr =>
      cases rr with
      | cons r'' rr =>
        cases rr
        obtain ⟨t, rfl⟩ := r
        obtain ⟨t', rfl⟩ := r'
        obtain ⟨t'', rfl⟩ := r''
        refine call_range_3 c0 ?_ (.inl (PyProof.noPylong_small c1))
        have I2 : Inv X pins σ H1 { s1 with heap := s1.heap.push { cls := .type "range", data := .fields #[.int i t, .int j t', .int c t''] } } := I1.kept (t' := s1.toks) fun b o e => Heap.get?_push_of_some _ e
        refine args_nil ?_
        refine call_list_range (n := n) (I2.ok.hd hc) (IsRange.new ..) c2 c3 n1 fun h' tk acc c' hk e' hi => ?_
        refine ⟨.ref _, upd H1 _ (.lst (lr3 i c n)), I2.laid hk (Nat.le_refl _) (show ObjOk X.prog X.w _ _ _ (.lst (lr3 i c n)) from ⟨?_, acc.toList, c', lr3_vals hi, ?_⟩), rfl, q _ (I2.hok.fresh (Nat.le_refl _))⟩
        · rw [lr3_length, sizeLine_eq]; exact n1
        · rw [Array.toArray_toList]; exact e'
end
/-! ### callees -/
section
variable (P : Program) (w : World) (K : PySem.W.Frag) (mg : Str → Option Value) (base : Heap)
/-- a def of the text: it stands under its name and keeps its promise -/
structure Cl (k : Nat) (x : Str) (ps : List Str) (sp : Sp) : Prop where
  ex : ∃ f fd, FnOk P w K mg base CX0 k f fd ps sp ∧ mg x = some (.ref f) ∧ PySem.W.keepIn K (.ref f) = true ∧ Binds K fd ps []
/-- a method of the class at C -/
structure Ml (C : Addr) (k : Nat) (m : Str) (ps : List Str) (sp : Sp) : Prop where
  ex : ∃ f fd, FnOk P w K mg base CX0 k f fd ps sp ∧ Meth K C m f ∧ Binds K fd ps []
structure Mkl (C : Addr) (k : Nat) (ps : List Str) (sp : Sp) : Prop where
  ex : ∃ f fd, FnOk P w K mg base CX0 k f fd ps sp ∧ Mk K C f ∧ Binds K fd ps []
end
section
variable {X : Cx} {x m : Str} {k j : Nat} {ps : List Str} {sp : Sp} {e o : Expr} {es : List Expr} {t : TA} {ta : TE} {p pos apos : Pos} {C : Addr}
theorem pcl (G : Cl X.prog X.w X.K X.mg X.base k x ps sp) (hr : Room j X.A) (ha : PA X (e :: es) t) (h : k ≤ j := by first | decide | omega) (hg : Gl X x := by rfl) (hdb : (x == ("__debug__" : Str)) = false := by decide)
    (he : starEach (e :: es) X.env = (false, eval e X.env) :: starEach es X.env := by rfl) (hpl : (backTo pos (starEach es X.env)).any (·.1) = false := by rfl) :
    PE X (.Call (.Name x p) (e :: es) [] pos) (tCall sp [] E0 t) := by
  obtain ⟨f, fd, F, hm, hk, hb⟩ := G.ex
  exact pe_call F (hr.mono h) hg hm hk hb .nil pass0 ha hdb he hpl
theorem pml {pl : Sem Bool} (ho : PE X o ta) (c : Cls X.K C) (G : Ml X.prog X.w X.K X.mg X.base C k m ps sp) (hr : Room j X.A) (ha : PA X (e :: es) t) (h : k ≤ j := by first | decide | omega)
    (hst : starEach (e :: es) X.env = (false, eval e X.env) :: starEach es X.env := by rfl) (hpl : (backTo pos (starEach es X.env)).any (·.1) = false := by rfl)
    (ht : eval (.Call (.Attribute o m apos) (e :: es) [] pos) X.env = (do
      let ov ← eval o X.env
      standAt apos.atName
      let (f, first) ← holding [ov] (getMethod ov m pl)
      callWith pos f first (backTo pos (starEach (e :: es) X.env)) (backToKw pos (keywordEach [] X.env))) := by rfl) :
    PE X (.Call (.Attribute o m apos) (e :: es) [] pos) (tMeth C m sp [] E0 ta t) := by
  obtain ⟨f, fd, F, hm, hb⟩ := G.ex
  exact pe_meth ho c hm F (hr.mono h) hb .nil pass0 ha hst hpl ht
theorem pml0 {pl : Sem Bool} (ho : PE X o ta) (c : Cls X.K C) (G : Ml X.prog X.w X.K X.mg X.base C k m ps sp) (hr : Room j X.A) (h : k ≤ j := by first | decide | omega)
    (ht : eval (.Call (.Attribute o m apos) [] [] pos) X.env = (do
      let ov ← eval o X.env
      standAt apos.atName
      let (f, first) ← holding [ov] (getMethod ov m pl)
      callWith pos f first (backTo pos (starEach [] X.env)) (backToKw pos (keywordEach [] X.env))) := by rfl) :
    PE X (.Call (.Attribute o m apos) [] [] pos) (tMeth C m sp [] E0 ta tNil) := by
  obtain ⟨f, fd, F, hm, hb⟩ := G.ex
  exact pe_meth0 ho c hm F (hr.mono h) hb .nil pass0 ht
theorem pmk0 (G : Mkl X.prog X.w X.K X.mg X.base C k ps sp) (hr : Room j X.A) (hm : X.mg x = some (.ref C)) (h : k + 1 ≤ j := by first | decide | omega) (hg : Gl X x := by rfl) (hdb : (x == ("__debug__" : Str)) = false := by decide) :
    PE X (.Call (.Name x p) [] [] pos) (tMake C sp [] E0 tNil) := by
  obtain ⟨f, fd, F, M, hb⟩ := G.ex
  exact pe_make0 M F (hr.mono h) hg hm hb .nil pass0 hdb
end
/-! ### what the top has left -/
structure Tx (K : PySem.W.Frag) (w : World) (mg : Str → Option Value) (C W M : Addr) : Prop where
  f_len : mg "len" = none
  f_range : mg "range" = none
  f_int : mg "int" = none
  f_tuple : mg "tuple" = none
  f_str : mg "str" = none
  f_min : mg "min" = none
  f_enumerate : mg "enumerate" = none
  f_repr : mg "repr" = none
  f_list : mg "list" = none
  c_MOST_WEIGHT : ∃ t, mg "MOST_WEIGHT" = some (.int 1048576 t)
  c_MOST_SIGNAL : ∃ t, mg "MOST_SIGNAL" = some (.int 16777216 t)
  c_MOST_INPUTS : ∃ t, mg "MOST_INPUTS" = some (.int 16 t)
  c_MOST_LAYERS : ∃ t, mg "MOST_LAYERS" = some (.int 12 t)
  c_MOST_SIGNALS : ∃ t, mg "MOST_SIGNALS" = some (.int 64 t)
  c_MOST_ROWS : ∃ t, mg "MOST_ROWS" = some (.int 16 t)
  c_MOST_KERNELS : ∃ t, mg "MOST_KERNELS" = some (.int 4 t)
  c_MOST_CHARACTERS : ∃ t, mg "MOST_CHARACTERS" = some (.int 60000 t)
  c_MOST_DIGITS : ∃ t, mg "MOST_DIGITS" = some (.int 9 t)
  c_DIGITS : ∃ t, mg "DIGITS" = some (.str digS t)
  c_CHARACTERS : ∃ t, mg "CHARACTERS" = some (.str chrS t)
  c_Builder : mg "Builder" = some (.ref C)
  c_WORDS : mg "WORDS" = some (.ref W)
  c_MEANS : mg "MEANS" = some (.ref M)
  cl : Cls K C
  n_inputs : NoAttr K C "inputs"
  n_done : NoAttr K C "done"
  n_layers : NoAttr K C "layers"
  n_n : NoAttr K C "n"
  n_pending : NoAttr K C "pending"
  n_branch : NoAttr K C "branch"
  n_first : NoAttr K C "first"
  means : ∀ H, SqT K H M ([1, 2, 4, 8, 16, 32, 64].map V.int)
  kd : ∃ es n, KDict K w W es n
  wv : ∀ q ∈ wordsZ, ∃ u, PySem.W.nsIn K W q.1 = some (some u) ∧ RelV (.int q.2) u
end Wh

/-! Data of nets, how they lie in the heap; reading steps. -/
namespace Wh
open PySem PySem.Spec PyProof.Rows L2
/-! ### layers -/
inductive PL where
  | dense (rows : List (List Int)) (bs : List Int)
  | conv (ks : List (List Int)) (bs : List Int) (st : Nat)
  | relu
  | clamp (lo hi : Int)
  | mx (s : Nat)
  | mean (s : Nat)
inductive LL where
  | p (l : PL)
  | sm (a b : List PL)
  | fk (a b : List PL)
/-! ### in the heap -/
def Tup (H : Hp) (v : V) (xs : List V) : Prop := ∃ a, v = .ref a ∧ H a = some (.tup xs)
def Ints (H : Hp) (v : V) (ns : List Int) : Prop := Tup H v (ns.map V.int)
def AllP {α : Type} (R : V → α → Prop) : List V → List α → Prop
  | [], [] => True
  | x :: xs, d :: ds => R x d ∧ AllP R xs ds
  | _, _ => False
theorem AllP.len {α : Type} {R : V → α → Prop} : ∀ {xs : List V} {ds : List α}, AllP R xs ds → xs.length = ds.length
  | [], [], _ => rfl
  | _ :: xs, _ :: ds, h => congrArg (· + 1) (AllP.len h.2)
  | [], _ :: _, h => h.elim
  | _ :: _, [], h => h.elim
theorem AllP.mono {α : Type} {R S : V → α → Prop} (f : ∀ x d, R x d → S x d) : ∀ {xs : List V} {ds : List α}, AllP R xs ds → AllP S xs ds
  | [], [], _ => trivial
  | _ :: _, _ :: _, h => ⟨f _ _ h.1, AllP.mono f h.2⟩
  | [], _ :: _, h => h.elim
  | _ :: _, [], h => h.elim
theorem AllP.app {α : Type} {R : V → α → Prop} : ∀ {xs ys : List V} {ds es : List α}, AllP R xs ds → AllP R ys es → AllP R (xs ++ ys) (ds ++ es)
  | [], _, [], _, _, k => k
  | _ :: _, _, _ :: _, _, h, k => ⟨h.1, AllP.app h.2 k⟩
  | [], _, _ :: _, _, h, _ => h.elim
  | _ :: _, _, [], _, h, _ => h.elim
theorem AllP.get {α : Type} {R : V → α → Prop} : ∀ {xs : List V} {ds : List α} {i : Nat} {d : α}, AllP R xs ds → ds[i]? = some d → ∃ x, xs[i]? = some x ∧ R x d
  | x :: _, _ :: _, 0, _, h, e => ⟨x, rfl, by cases e; exact h.1⟩
  | _ :: xs, _ :: ds, i + 1, d, h, e => by
    obtain ⟨y, e2, r⟩ := AllP.get (xs := xs) (ds := ds) (i := i) (d := d) h.2 (by simpa using e)
    exact ⟨y, by simpa using e2, r⟩
  | [], [], _, _, _, e => by simp at e
  | [], _ :: _, _, _, h, _ => h.elim
  | _ :: _, [], _, _, h, _ => h.elim
theorem AllP.at {α : Type} {R : V → α → Prop} : ∀ {xs : List V} {ds : List α} {i : Nat} {x : V}, AllP R xs ds → xs[i]? = some x → ∃ d, ds[i]? = some d ∧ R x d
  | _ :: _, d :: _, 0, _, h, e => ⟨d, rfl, by cases e; exact h.1⟩
  | _ :: xs, _ :: ds, i + 1, x, h, e => by
    obtain ⟨y, e2, r⟩ := AllP.at (xs := xs) (ds := ds) (i := i) (x := x) h.2 (by simpa using e)
    exact ⟨y, by simpa using e2, r⟩
  | [], [], _, _, _, e => by simp at e
  | [], _ :: _, _, _, h, _ => h.elim
  | _ :: _, [], _, _, h, _ => h.elim
theorem AllP.map {α β : Type} {R : V → α → Prop} {S : V → β → Prop} (g : α → β) (f : ∀ x d, R x d → S x (g d)) : ∀ {xs : List V} {ds : List α}, AllP R xs ds → AllP S xs (ds.map g)
  | [], [], _ => trivial
  | _ :: _, _ :: _, h => ⟨f _ _ h.1, AllP.map g f h.2⟩
  | [], _ :: _, h => h.elim
  | _ :: _, [], h => h.elim
def Rows (H : Hp) (v : V) (rows : List (List Int)) : Prop := ∃ xs, Tup H v xs ∧ AllP (Ints H) xs rows
def PLAt (H : Hp) (v : V) : PL → Prop
  | .dense rows bs => ∃ x y, Tup H v [.str "dense", x, y] ∧ Rows H x rows ∧ Ints H y bs
  | .conv ks bs st => ∃ x y, Tup H v [.str "conv", x, y, .int st] ∧ Rows H x ks ∧ Ints H y bs
  | .relu => Tup H v [.str "relu"]
  | .clamp lo hi => Tup H v [.str "clamp", .int lo, .int hi]
  | .mx s => Tup H v [.str "max", .int s]
  | .mean s => Tup H v [.str "mean", .int s]
def PLs (H : Hp) (v : V) (ls : List PL) : Prop := ∃ xs, Tup H v xs ∧ AllP (PLAt H) xs ls
def LLAt (H : Hp) (v : V) : LL → Prop
  | .p l => PLAt H v l
  | .sm a b => ∃ x y, Tup H v [.str "sum", x, y] ∧ PLs H x a ∧ PLs H y b
  | .fk a b => ∃ x y, Tup H v [.str "fork", x, y] ∧ PLs H x a ∧ PLs H y b
def LLs (H : Hp) (v : V) (ls : List LL) : Prop := ∃ xs, Tup H v xs ∧ AllP (LLAt H) xs ls
/-- tuples stand -/
def TK (H H' : Hp) : Prop := ∀ a xs, H a = some (.tup xs) → H' a = some (.tup xs)
theorem TK.refl (H : Hp) : TK H H := fun _ _ h => h
theorem TK.trans {H H1 H2 : Hp} (a : TK H H1) (b : TK H1 H2) : TK H H2 := fun c xs h => b c xs (a c xs h)
theorem TK.new {H : Hp} {p : Addr} (h : H p = none) (o : HO) : TK H (upd H p o) := fun a xs e => by
  rw [upd_ne (ne_of_none e h)]
  exact e
theorem TK.put {H : Hp} {p : Addr} {u : HO} (h : H p = some u) (n : ∀ xs, u ≠ .tup xs) (o : HO) : TK H (upd H p o) := fun a xs e => by
  rw [upd_ne (ne_of e h (fun z => n xs z.symm))]
  exact e
section
variable {H H' : Hp} {v : V}
theorem Tup.mono (k : TK H H') {xs : List V} (h : Tup H v xs) : Tup H' v xs := let ⟨a, e, q⟩ := h; ⟨a, e, k a xs q⟩
theorem Ints.mono (k : TK H H') {xs : List Int} (h : Ints H v xs) : Ints H' v xs := Tup.mono k h
theorem Rows.mono (k : TK H H') {rs : List (List Int)} (h : Rows H v rs) : Rows H' v rs := let ⟨xs, t, a⟩ := h; ⟨xs, t.mono k, a.mono fun _ _ q => q.mono k⟩
theorem PLAt.mono (k : TK H H') : ∀ {l : PL}, PLAt H v l → PLAt H' v l
  | .dense _ _, ⟨x, y, t, r, i⟩ => ⟨x, y, t.mono k, r.mono k, i.mono k⟩
  | .conv _ _ _, ⟨x, y, t, r, i⟩ => ⟨x, y, t.mono k, r.mono k, i.mono k⟩
  | .relu, h => Tup.mono k h
  | .clamp _ _, h => Tup.mono k h
  | .mx _, h => Tup.mono k h
  | .mean _, h => Tup.mono k h
theorem PLs.mono (k : TK H H') {ls : List PL} (h : PLs H v ls) : PLs H' v ls := let ⟨xs, t, a⟩ := h; ⟨xs, t.mono k, a.mono fun _ _ q => q.mono k⟩
theorem LLAt.mono (k : TK H H') : ∀ {l : LL}, LLAt H v l → LLAt H' v l
  | .p l, h => PLAt.mono (l := l) k h
  | .sm _ _, ⟨x, y, t, r, i⟩ => ⟨x, y, t.mono k, r.mono k, i.mono k⟩
  | .fk _ _, ⟨x, y, t, r, i⟩ => ⟨x, y, t.mono k, r.mono k, i.mono k⟩
theorem LLs.mono (k : TK H H') {ls : List LL} (h : LLs H v ls) : LLs H' v ls := let ⟨xs, t, a⟩ := h; ⟨xs, t.mono k, a.mono fun _ _ q => q.mono k⟩
theorem PLs.lls {ls : List PL} (h : PLs H v ls) : LLs H v (ls.map LL.p) := let ⟨xs, t, a⟩ := h; ⟨xs, t, a.map LL.p fun _ _ q => q⟩
theorem Tup.new {p : Addr} {xs : List V} : Tup (upd H p (.tup xs)) (.ref p) xs := ⟨p, rfl, upd_same⟩
end
/-! ### reading steps: each names what its reading asks, no more -/
section
variable {σ : L2.St} {H : Hp} {D : Ends} {te ta tb tc : TE} {t u : TS} {c d : TT} {Q : VK} {QB : Bool → Hp → Prop} {K : PySem.W.Frag}
theorem r_seq (h : t { D with nx := u D } σ H) : tSeq t u D σ H := h
theorem r_next (h : D.nx σ H) : tNext D σ H := h
theorem r_asg {g : TG} (h : te σ H fun x H1 => g x σ H1 D.nx) : tAsg te g D σ H := h
theorem r_name {i : Nat} {x : V} {R : L2.St → Hp → Prop} (h : R (σ.set i (some x)) H) : gName i x σ H R := h
theorem r_ret (h : te σ H D.rt) : tRet te D σ H := h
theorem r_retN (h : D.rt .non H) : tRetN D σ H := h
theorem r_brk (h : D.bk σ H) : tBreak D σ H := h
theorem r_if (h : c σ H fun b H1 => if b = true then t D σ H1 else u D σ H1) : tIfS c t u D σ H := h
theorem r_drop (h : te σ H fun _ H1 => D.nx σ H1) : tDrop te D σ H := h
theorem r_test (h : te σ H fun x H1 => ∃ k, x = .bl k ∧ QB k H1) : tTest te σ H QB := h
theorem r_B (h : te σ H fun x H1 => ∃ k, x = .bl k ∧ QB k H1) : tB te σ H QB := h
theorem r_and (h : c σ H fun b H1 => if b = true then d σ H1 QB else QB false H1) : tAnd c d σ H QB := h
theorem r_or (h : c σ H fun b H1 => if b = true then QB true H1 else d σ H1 QB) : tOr c d σ H QB := h
theorem r_not (h : c σ H fun b H1 => QB (!b) H1) : tNot c σ H QB := h
theorem r_andV (h : ta σ H fun x H1 => ∃ c, x = .bl c ∧ if c = true then tb σ H1 Q else Q (.bl false) H1) : tAndV ta tb σ H Q := h
theorem r_orV (h : ta σ H fun x H1 => ∃ c, x = .bl c ∧ if c = true then Q (.bl true) H1 else tb σ H1 Q) : tOrV ta tb σ H Q := h
theorem r_notV (h : ta σ H fun x H1 => ∃ c, x = .bl c ∧ Q (.bl (!c)) H1) : tNotV ta σ H Q := h
theorem r_bl {b : Bool} {R : Bool → Prop} (h : R b) : ∃ k, V.bl b = .bl k ∧ R k := ⟨b, rfl, h⟩
theorem r_var {i : Nat} {v : V} (e : σ[i]? = some (some v)) (h : Q v H) : tVar i σ H Q := ⟨v, e, h⟩
theorem r_c {v : V} (h : Q v H) : tC v σ H Q := h
theorem r_op {r : R2} (h : ta σ H fun x H1 => tb σ H1 fun y H2 => r x y H2 Q) : tOp r ta tb σ H Q := h
theorem r_un {r : V → Hp → VK → Prop} (h : ta σ H fun x H1 => r x H1 Q) : tUn r ta σ H Q := h
theorem r_I0 {g : Int → Int → V} {i j : Int} (h : Q (g i j) H) : rI0 g (.int i) (.int j) H Q := ⟨i, j, rfl, rfl, h⟩
theorem r_I {C : Int → Int → Prop} {g : Int → Int → V} {i j : Int} (hc : C i j) (h : Q (g i j) H) : rI C g (.int i) (.int j) H Q := ⟨i, j, rfl, rfl, hc, h⟩
theorem r_U {g : Int → V} {i : Int} (h : Q (g i) H) : rU g (.int i) H Q := ⟨i, rfl, h⟩
theorem r_eq {x y : V} (s : scal x y = true) (h : Q (.bl (decide (x = y))) H) : rEq x y H Q := ⟨s, h⟩
theorem r_ne {x y : V} (s : scal x y = true) (h : Q (.bl (!decide (x = y))) H) : rNe x y H Q := ⟨s, h⟩
theorem r_nil {R : List V → Hp → Prop} (h : R [] H) : tNil σ H R := h
theorem r_cons {tr : TA} {R : List V → Hp → Prop} (h : ta σ H fun x H1 => tr σ H1 fun xs H2 => R (x :: xs) H2) : tCons ta tr σ H R := h
theorem r_CB {r : List V → Hp → VK → Prop} {ts : TA} (h : ts σ H fun vs H1 => r vs H1 Q) : tCB r ts σ H Q := h
theorem r_call {sp : Sp} {E : XK} {ts : TA} (h : ts σ H fun vs H1 => sp (vs ++ []) H1 Q E) : tCall sp [] E ts σ H Q := h
theorem r_tup {ts : TA} (h : ts σ H fun xs H1 => xs.length ≤ sizeLine ∧ ∀ p, H1 p = none → Q (.ref p) (upd H1 p (.tup xs))) : tTup ts σ H Q := h
theorem r_lst {ts : TA} (h : ts σ H fun xs H1 => xs.length ≤ sizeLine ∧ ∀ p, H1 p = none → Q (.ref p) (upd H1 p (.lst xs))) : tLst ts σ H Q := h
theorem r_bm {T : String} {r : V → List V → Hp → VK → Prop} {ts : TA} (h : ta σ H fun x H1 => tyV K T x H1 ∧ ts σ H1 fun xs H2 => r x xs H2 Q) : tBM K T r ta ts σ H Q := h
theorem r_M1 {r : V → List V → Hp → VK → Prop} (h : ta σ H fun x H1 => (∃ a, x = .str a) ∧ tb σ H1 fun y H2 => r x [y] H2 Q) : tM1 r ta tb σ H Q := h
theorem r_noP {R : Option Int → Hp → Prop} (h : R none H) : tNoPart σ H R := h
theorem r_P {R : Option Int → Hp → Prop} (h : ta σ H fun x H1 => ∃ i, x = .int i ∧ R (some i) H1) : tPart ta σ H R := h
theorem r_sl {r : V → Option Int → Option Int → Hp → VK → Prop} {tl th : TO} (h : ta σ H fun x H1 => tl σ H1 fun l H2 => th σ H2 fun u H3 => r x l u H3 Q) : tSl r ta tl th σ H Q := h
theorem r_ei {i : Int} {R : Int → Prop} (h : R i) : ∃ k, V.int i = .int k ∧ R k := ⟨i, rfl, h⟩
theorem r_es {i : Str} {R : Str → Prop} (h : R i) : ∃ k, V.str i = .str k ∧ R k := ⟨i, rfl, h⟩
theorem r_es1 {i : Str} {A : Prop} (h : A) : (∃ k, V.str i = .str k) ∧ A := ⟨⟨i, rfl⟩, h⟩
theorem r_ixT {p : Addr} {xs : List V} {i : Int} {v : V} (hp : H p = some (.tup xs)) (e : atI xs i = some v) (h : Q v H) : rIxT K (.ref p) (.int i) H Q := ⟨p, xs, i, v, rfl, rfl, SqT.of hp, e, h⟩
theorem r_ixL {p : Addr} {xs : List V} {i : Int} {v : V} (hp : H p = some (.lst xs)) (e : atI xs i = some v) (h : Q v H) : rIxL K (.ref p) (.int i) H Q := ⟨p, xs, i, v, rfl, rfl, SqL.of hp, e, h⟩
theorem r_es2 {i j : Str} {R : Str → Str → Prop} (h : R i j) : ∃ k l, V.str i = .str k ∧ V.str j = .str l ∧ R k l := ⟨i, j, rfl, rfl, h⟩
theorem r_chain {r r' : R2} (h : ta σ H fun x H1 => tb σ H1 fun y H2 => r x y H2 fun z H3 => ∃ k, z = .bl k ∧ (if k = true then tc σ H3 fun w H4 => r' y w H4 Q else Q (.bl false) H3)) : tChain r r' ta tb tc σ H Q := h
theorem r_rg3 (h : ta σ H fun x H1 => tb σ H1 fun y H2 => tc σ H2 fun z H3 => ∃ i j c n, x = .int i ∧ y = .int j ∧ z = .int c ∧ RgC i j c n ∧ n ≤ 16777216 ∧ ∀ q, H3 q = none → Q (.ref q) (upd H3 q (.lst (lr3 i c n)))) : tLstRg3 ta tb tc σ H Q := h
theorem r_gSub {to ti : TE} {ts : TSet} {v : V} {R : L2.St → Hp → Prop} (h : to σ H fun o H1 => ti σ H1 fun i H2 => ts o i v H2 fun H3 => R σ H3) : gSub to ti ts v σ H R := h
theorem r_setL {p : Addr} {xs : List V} {i : Int} {j : Nat} {v : V} {R : Hp → Prop} (hp : H p = some (.lst xs)) (e : ixN xs.length i = some j) (h : R (upd H p (.lst (xs.set j v)))) : rSetL (.ref p) (.int i) v H R := ⟨p, xs, i, j, rfl, rfl, hp, e, h⟩
theorem r_int {i : Int} {A : Int → Prop} {B : Prop} (h : A i) : (∃ k, [V.int i] = [V.int k] ∧ A k) ∨ B := .inl ⟨i, rfl, h⟩
theorem r_ei1 {i : Int} {R : Int → Prop} (h : R i) : ∃ k, [V.int i] = [V.int k] ∧ R k := ⟨i, rfl, h⟩
theorem r_ei2 {i j : Int} {R : Int → Int → Prop} (h : R i j) : ∃ k l, [V.int i, V.int j] = [V.int k, V.int l] ∧ R k l := ⟨i, j, rfl, h⟩
theorem r_app {p : Addr} {xs : List V} {y : V} (hp : H p = some (.lst xs)) (n : xs.length < 100000) (h : Q .non (upd H p (.lst (xs ++ [y])))) : rAppend (.ref p) [y] H Q := ⟨p, xs, y, rfl, rfl, hp, Nat.lt_of_lt_of_le n (by decide), h⟩
theorem r_tyL {p : Addr} {xs : List V} {A : Prop} (hp : H p = some (.lst xs)) (q : A) : tyV K "list" (.ref p) H ∧ A := ⟨.inl ⟨rfl, _, SqL.of hp⟩, q⟩
theorem r_lenT {p : Addr} {xs : List V} {R : List V → Prop} (hp : H p = some (.tup xs)) (h : R xs) : ∃ q ys, [V.ref p] = [V.ref q] ∧ (SqL K H q ys ∨ SqT K H q ys) ∧ R ys := ⟨p, xs, rfl, .inr (SqT.of hp), h⟩
theorem r_lenL {p : Addr} {xs : List V} {R : List V → Prop} (hp : H p = some (.lst xs)) (h : R xs) : ∃ q ys, [V.ref p] = [V.ref q] ∧ (SqL K H q ys ∨ SqT K H q ys) ∧ R ys := ⟨p, xs, rfl, .inl (SqL.of hp), h⟩
theorem itN {b : Bool} {A B : Prop} (h : b = false) (q : B) : if b = true then A else B := by subst h; exact iteF q
theorem itY {b : Bool} {A B : Prop} (h : b = true) (q : A) : if b = true then A else B := by subst h; exact iteT q
theorem tup_s {n : Nat} (h : Nat.ble n 1000 = true) {A : Prop} (q : A) : n ≤ sizeLine ∧ A := ⟨Nat.le_of_lt (small1000 (Nat.le_of_ble_eq_true h)), q⟩
theorem tup_small {n : Nat} (h : n ≤ 1000) {A : Prop} (q : A) : n ≤ sizeLine ∧ A := ⟨Nat.le_of_lt (small1000 h), q⟩
end
/-! ### loops -/
def atIt (J : It) : TI := fun _ H R => R J H
section
variable {σ : L2.St} {H : Hp} {D : Ends} {te tl : TE} {ta : TA} {tb : TS} {g : TG} {tt : TT} {Q : VK} {K : PySem.W.Frag} {js : List Nat}
theorem f_R1 (h : ta σ H fun vs H1 => ∃ j : Int, vs = [.int j] ∧ -(2 ^ 62) ≤ j ∧ j < 2 ^ 62 ∧ tFor (atIt (Itr 0 j.toNat)) g tb D σ H1) : tFor (iRng1 ta) g tb D σ H := h
theorem f_R2 (h : ta σ H fun vs H1 => ∃ i j : Int, vs = [.int i, .int j] ∧ (-(2 ^ 62) ≤ i ∧ i < 2 ^ 62 ∧ -(2 ^ 62) ≤ j ∧ j < 2 ^ 62) ∧ tFor (atIt (Itr i (j - i).toNat)) g tb D σ H1) : tFor (iRng2 ta) g tb D σ H := h
theorem f_L (h : tl σ H fun x H1 => ∃ a, x = .ref a ∧ (∃ xs, SqL K H1 a xs) ∧ tFor (atIt (Itl K a)) g tb D σ H1) : tFor (iList K tl) g tb D σ H := h
theorem f_T (h : tl σ H fun x H1 => ∃ a, x = .ref a ∧ (∃ xs, SqT K H1 a xs) ∧ tFor (atIt (Itt K a)) g tb D σ H1) : tFor (iTup K tl) g tb D σ H := h
theorem f_S (h : tl σ H fun x H1 => ∃ z, x = .str z ∧ tFor (atIt (Its z)) g tb D σ H1) : tFor (iStr tl) g tb D σ H := h
theorem f_E (h : ta σ H fun vs H1 => ∃ a xs, vs = [.ref a] ∧ SqL K H1 a xs ∧ tFor (atIt (Ite K a)) g tb D σ H1) : tFor (iEnum K ta) g tb D σ H := h
theorem l_R1 (h : ta σ H fun vs H1 => ∃ j : Int, vs = [.int j] ∧ -(2 ^ 62) ≤ j ∧ j < 2 ^ 62 ∧ tLc (atIt (Itr 0 j.toNat)) g tt te js σ H1 Q) : tLc (iRng1 ta) g tt te js σ H Q := h
theorem l_L (h : tl σ H fun x H1 => ∃ a, x = .ref a ∧ (∃ xs, SqL K H1 a xs) ∧ tLc (atIt (Itl K a)) g tt te js σ H1 Q) : tLc (iList K tl) g tt te js σ H Q := h
theorem l_T (h : tl σ H fun x H1 => ∃ a, x = .ref a ∧ (∃ xs, SqT K H1 a xs) ∧ tLc (atIt (Itt K a)) g tt te js σ H1 Q) : tLc (iTup K tl) g tt te js σ H Q := h
/-- the loop by its invariant: an int, an item, a sign at each turn -/
theorem f_rng {lo : Int} {n : Nat} (Pv : Nat → L2.St → Hp → Prop) (h0 : Pv 0 σ H) (hs : ∀ i σ H, i < n → Pv i σ H → g (.int (lo + i)) σ H fun σ2 H2 => tb { D with nx := Pv (i + 1), ct := Pv (i + 1), bk := D.nx } σ2 H2)
    (hd : ∀ σ H, Pv n σ H → D.nx σ H) : tFor (atIt (Itr lo n)) g tb D σ H := for_range Pv h0 hs hd
theorem f_lst {a : Addr} {xs : List V} (Pv : Nat → L2.St → Hp → Prop) (h0 : Pv 0 σ H) (hl : ∀ i σ H, i ≤ xs.length → Pv i σ H → SqL K H a xs)
    (hs : ∀ i x σ H, xs[i]? = some x → Pv i σ H → g x σ H fun σ2 H2 => tb { D with nx := Pv (i + 1), ct := Pv (i + 1), bk := D.nx } σ2 H2) (hd : ∀ σ H, Pv xs.length σ H → D.nx σ H) : tFor (atIt (Itl K a)) g tb D σ H := for_list Pv h0 hl hs hd
theorem f_tup {a : Addr} {xs : List V} (Pv : Nat → L2.St → Hp → Prop) (h0 : Pv 0 σ H) (hl : ∀ i σ H, i ≤ xs.length → Pv i σ H → SqT K H a xs)
    (hs : ∀ i x σ H, xs[i]? = some x → Pv i σ H → g x σ H fun σ2 H2 => tb { D with nx := Pv (i + 1), ct := Pv (i + 1), bk := D.nx } σ2 H2) (hd : ∀ σ H, Pv xs.length σ H → D.nx σ H) : tFor (atIt (Itt K a)) g tb D σ H := for_tup Pv h0 hl hs hd
theorem f_str {z : Str} (Pv : Nat → L2.St → Hp → Prop) (h0 : Pv 0 σ H)
    (hs : ∀ i c σ H, z.cps[i]? = some c → Pv i σ H → g (.str ⟨#[c]⟩) σ H fun σ2 H2 => tb { D with nx := Pv (i + 1), ct := Pv (i + 1), bk := D.nx } σ2 H2) (hd : ∀ σ H, Pv z.cps.size σ H → D.nx σ H) : tFor (atIt (Its z)) g tb D σ H :=
  for_it walk_str Pv h0 (fun _ _ _ _ _ => trivial) (fun i x σ H H' _ p y => by
    obtain ⟨e, c, hc, ex⟩ := y
    subst e
    subst ex
    exact hs i c σ _ hc p) hd
theorem f_enm {a : Addr} {xs : List V} (Pv : Nat → L2.St → Hp → Prop) (h0 : Pv 0 σ H) (hl : ∀ i σ H, i ≤ xs.length → Pv i σ H → SqL K H a xs)
    (hs : ∀ i x σ H T, xs[i]? = some x → Pv i σ H → H T = none → g (.ref T) σ (upd H T (.tup [.int (i : Nat), x])) fun σ2 H2 => tb { D with nx := Pv (i + 1), ct := Pv (i + 1), bk := D.nx } σ2 H2) (hd : ∀ σ H, Pv xs.length σ H → D.nx σ H) :
    tFor (atIt (Ite K a)) g tb D σ H :=
  for_it walk_enum Pv h0 hl (fun i v σ H H' _ p y => by
    obtain ⟨T, x, y, ev, hT, eH, ex, ey⟩ := y
    cases ex
    subst ev
    subst eH
    exact hs i y σ H T ey p hT) hd
theorem w_one {j : Nat} {x : V} : wipe (((wipe σ [j])).set j (some x)) [j] = wipe σ [j] := by
  show ((σ.set j none).set j (some x)).set j none = σ.set j none
  rw [List.set_set, List.set_set]
/-- a comprehension without a test, its own name in slot j -/
theorem l_rng {lo : Int} {n : Nat} {j : Nat} (h : ∀ D, H D = none → ∃ Pv : Nat → Hp → Prop, Pv 0 (upd H D (.lst [])) ∧
    (∀ i H', i < n → Pv i H' → te ((σ.set j none).set j (some (.int (lo + i)))) H' fun y H4 => ∃ acc, H4 D = some (.lst acc) ∧ acc.length < sizeLine ∧ Pv (i + 1) (upd H4 D (.lst (acc ++ [y])))) ∧ ∀ H', Pv n H' → Q (.ref D) H') :
    tLc (atIt (Itr lo n)) (gName j) tYes te [j] σ H Q := by
  intro D hD
  obtain ⟨Pv, h0, hs, hd⟩ := h D hD
  exact lc_range Pv h0 (fun i H' hi p => ⟨w_one, hs i H' hi p⟩) hd
theorem l_tup {a : Addr} {xs : List V} {j : Nat} (h : ∀ D, H D = none → ∃ Pv : Nat → Hp → Prop, Pv 0 (upd H D (.lst [])) ∧ (∀ i H', i ≤ xs.length → Pv i H' → SqT K H' a xs) ∧
    (∀ i x H', xs[i]? = some x → Pv i H' → te ((σ.set j none).set j (some x)) H' fun y H4 => ∃ acc, H4 D = some (.lst acc) ∧ acc.length < sizeLine ∧ Pv (i + 1) (upd H4 D (.lst (acc ++ [y])))) ∧ ∀ H', Pv xs.length H' → Q (.ref D) H') :
    tLc (atIt (Itt K a)) (gName j) tYes te [j] σ H Q := by
  intro D hD
  obtain ⟨Pv, h0, hl, hs, hd⟩ := h D hD
  exact lc_tup Pv h0 hl (fun i x H' hi p => ⟨w_one, hs i x H' hi p⟩) hd
/-- with a test -/
theorem l_lstT {a : Addr} {xs : List V} {j : Nat} (h : ∀ D, H D = none → ∃ Pv : Nat → Hp → Prop, Pv 0 (upd H D (.lst [])) ∧ (∀ i H', i ≤ xs.length → Pv i H' → SqL K H' a xs) ∧
    (∀ i x H', xs[i]? = some x → Pv i H' → tt ((σ.set j none).set j (some x)) H' fun b H3 => if b = true then te ((σ.set j none).set j (some x)) H3 fun y H4 => ∃ acc, H4 D = some (.lst acc) ∧ acc.length < sizeLine ∧ Pv (i + 1) (upd H4 D (.lst (acc ++ [y]))) else Pv (i + 1) H3) ∧
    ∀ H', Pv xs.length H' → Q (.ref D) H') : tLc (atIt (Itl K a)) (gName j) tt te [j] σ H Q := by
  intro D hD
  obtain ⟨Pv, h0, hl, hs, hd⟩ := h D hD
  exact lc_list Pv h0 hl (fun i x H' hi p => ⟨w_one, hs i x H' hi p⟩) hd
end
end Wh

open PySem PySem.Spec PyProof.Rows L2 Wh
local macro_rules | `(tactic| walk_at "rd1") => `(tactic| (first
  | (with_reducible refine r_seq ?_) | (with_reducible refine r_asg ?_) | (with_reducible refine r_name ?_)
  | ((with_reducible refine' r_var ?rdE ?_); (case rdE => exact rfl))
  | (with_reducible refine r_c ?_) | (with_reducible refine r_op ?_) | (with_reducible refine r_I0 ?_)
  | (with_reducible refine r_un ?_) | (with_reducible refine r_U ?_)
  | (with_reducible refine r_if ?_) | (with_reducible refine r_test ?_) | (with_reducible refine r_B ?_) | (with_reducible refine r_bl ?_)
  | ((with_reducible refine r_eq ?rdE ?_); (case rdE => exact rfl)) | ((with_reducible refine r_ne ?rdE ?_); (case rdE => exact rfl))
  | (with_reducible refine r_and ?_) | (with_reducible refine r_or ?_) | (with_reducible refine r_not ?_)
  | (with_reducible refine r_andV ?_) | (with_reducible refine r_orV ?_) | (with_reducible refine r_notV ?_)
  | (with_reducible refine r_ret ?_) | (with_reducible refine r_retN ?_) | (with_reducible refine r_next ?_) | (with_reducible refine r_brk ?_) | (with_reducible refine r_drop ?_)
  | (with_reducible refine r_cons ?_) | (with_reducible refine r_nil ?_) | (with_reducible refine r_CB ?_) | (with_reducible refine r_call ?_)
  | (with_reducible refine r_bm ?_) | (with_reducible refine r_M1 ?_) | (with_reducible refine r_sl ?_) | (with_reducible refine r_noP ?_) | (with_reducible refine r_P ?_)
  | (with_reducible refine r_ei ?_) | (with_reducible refine r_es ?_) | (with_reducible refine r_chain ?_) | (with_reducible refine r_es1 ?_) | (with_reducible refine r_es2 ?_)
  | (with_reducible refine f_R1 ?_) | (with_reducible refine f_R2 ?_) | (with_reducible refine f_L ?_) | (with_reducible refine f_T ?_) | (with_reducible refine f_S ?_) | (with_reducible refine f_E ?_)
  | (with_reducible refine l_R1 ?_) | (with_reducible refine l_L ?_) | (with_reducible refine l_T ?_)
  | (with_reducible refine r_gSub ?_) | (with_reducible refine r_int ?_) | (with_reducible refine r_ei1 ?_) | (with_reducible refine r_ei2 ?_)
  | ((with_reducible refine r_I ?rdC ?_); (case rdC => first | exact (show (0 : Int) < _ by decide) | exact ⟨by decide, by decide⟩ | exact Or.inl ⟨by decide, by decide⟩ | exact Or.inr ⟨by decide, by decide⟩ | assumption))
  | (with_reducible refine r_tup ?_) | (with_reducible refine r_lst ?_)))
local macro_rules | `(tactic| walk_at "rd") => `(tactic| (repeat walk_at "rd1"))
local macro_rules | `(tactic| walk_at "rx") => `(tactic| (first
  | ((with_reducible refine' r_ixT ?rxA ?rxB ?_); (case rxA => assumption); (case rxB => first | exact rfl | exact at_of (j := 0) rfl rfl))
  | ((with_reducible refine' r_ixL ?rxA ?rxB ?_); (case rxA => assumption); (case rxB => first | exact rfl | exact at_of (j := 0) rfl rfl))
  | ((with_reducible refine' r_lenT ?rxA ?_); (case rxA => assumption))
  | ((with_reducible refine' r_lenL ?rxA ?_); (case rxA => assumption))))
local macro_rules | `(tactic| walk_at "rs") => `(tactic| (first
  | ((with_reducible refine itY ?rsA ?_); (case rsA => decide +kernel))
  | ((with_reducible refine itN ?rsA ?_); (case rsA => decide +kernel))))
local macro_rules | `(tactic| walk_at "rt") => `(tactic| (repeat (first | walk_at "rd1" | walk_at "rx" | walk_at "rs")))

namespace Wh
/-! ### the box of draws -/
/-- a box of draws stands at b, its digits at dl -/
def Bq (H : Hp) (b dl : Addr) : Prop := ∃ (ds : List Int) (k : Nat), dl ≠ b ∧ H b = some (.lst [.ref dl, .int k]) ∧ H dl = some (.lst (ds.map V.int))
def Bx (H : Hp) (b : Addr) : Prop := ∃ dl, Bq H b dl
theorem Bq.inj {H : Hp} {b d e : Addr} (h : Bq H b d) (k : Bq H b e) : d = e := by
  obtain ⟨_, _, _, q, _⟩ := h
  obtain ⟨_, _, _, r, _⟩ := k
  rw [q] at r
  have r2 := HO.lst.inj (Option.some.inj r)
  exact V.ref.inj (List.cons.inj r2).1
/-- all but b stands, b is a box as before -/
structure Gn (b : Addr) (H H' : Hp) : Prop where
  keep : ∀ a o, a ≠ b → H a = some o → H' a = some o
  bq : ∃ dl, Bq H b dl ∧ Bq H' b dl
section
variable {b : Addr} {H H1 H2 : Hp}
theorem Gn.bx (h : Gn b H H1) : Bx H b := let ⟨dl, q, _⟩ := h.bq; ⟨dl, q⟩
theorem Gn.bx' (h : Gn b H H1) : Bx H1 b := let ⟨dl, _, q⟩ := h.bq; ⟨dl, q⟩
theorem Gn.refl (h : Bx H b) : Gn b H H := ⟨fun _ _ _ e => e, let ⟨dl, q⟩ := h; ⟨dl, q, q⟩⟩
theorem Gn.trans (h : Gn b H H1) (k : Gn b H1 H2) : Gn b H H2 := ⟨fun a o n e => k.keep a o n (h.keep a o n e), by
  obtain ⟨dl, q1, q2⟩ := h.bq
  obtain ⟨dm, q3, q4⟩ := k.bq
  cases q2.inj q3
  exact ⟨dl, q1, q4⟩⟩
theorem Bx.ne (h : Bx H b) {p : Addr} (n : H p = none) : p ≠ b := fun z => by
  obtain ⟨dl, ds, k, _, q, _⟩ := h
  rw [z, q] at n
  cases n
theorem Gn.tk (h : Gn b H H1) : TK H H1 := fun a xs e => h.keep a _ (fun z => by
  obtain ⟨dl, ds, k, _, q, _⟩ := h.bx
  rw [z, q] at e
  cases e) e
theorem Bq.put {dl : Addr} (h : Bq H b dl) {p : Addr} (o : HO) (n1 : b ≠ p) (n2 : dl ≠ p) : Bq (upd H p o) b dl := by
  obtain ⟨ds, k, d, q, r⟩ := h
  exact ⟨ds, k, d, by rw [upd_ne n1]; exact q, by rw [upd_ne n2]; exact r⟩
theorem Bq.apart {dl : Addr} (h : Bq H b dl) {p : Addr} (n : H p = none) : b ≠ p ∧ dl ≠ p := by
  obtain ⟨ds, k, d, q, r⟩ := h
  exact ⟨ne_of_none q n, ne_of_none r n⟩
theorem Gn.new (h : Bx H b) {p : Addr} (o : HO) (n : H p = none) : Gn b H (upd H p o) := ⟨fun a u _ e => by rw [upd_ne (ne_of_none e n)]; exact e, by
  obtain ⟨dl, q⟩ := h
  exact ⟨dl, q, q.put o (q.apart n).1 (q.apart n).2⟩⟩
theorem Gn.free (h : Gn b H H1) {p : Addr} (n : H1 p = none) : H p = none := by
  cases q : H p with
  | none => rfl
  | some o =>
    rw [h.keep p o (h.bx'.ne n) q] at n
    cases n
/-- a thing of our own, not told in H, changes -/
theorem Gn.own (h : Gn b H H1) {p : Addr} (o : HO) (n : H p = none) : Gn b H (upd H1 p o) := by
  refine ⟨fun a v na ea => ?_, ?_⟩
  · rw [upd_ne (ne_of_none ea n)]
    exact h.keep a v na ea
  · obtain ⟨dl, q, r⟩ := h.bq
    exact ⟨dl, q, r.put o (q.apart n).1 (q.apart n).2⟩
/-- .. and stands through what follows -/
theorem Gn.at {p : Addr} {u : HO} (h : Gn b H H1) (n : p ≠ b) (e : H p = some u) : H1 p = some u := h.keep p u n e
theorem Gn.mk_new (h : Gn b H H1) {p : Addr} (o : HO) (n : H1 p = none) : Gn b H (upd H1 p o) := h.trans (Gn.new h.bx' o n)
end
theorem atI_mem {xs : List V} {r : Int} (h0 : 0 ≤ r) (h1 : r < xs.length) : ∃ v, atI xs r = some v ∧ v ∈ xs := by
  have h2 : r.toNat < xs.length := by omega
  exact ⟨xs[r.toNat], at_of (j := r.toNat) (by omega) (List.getElem?_eq_getElem h2), List.getElem_mem h2⟩
/-! ### promises -/
def sp_draw : Sp := fun vs H Q _ => ∃ (b : Addr) (m : Int), vs = [.ref b, .int m] ∧ Bx H b ∧ 0 < m ∧ ∀ (r : Int) (H' : Hp), 0 ≤ r → r < m → Gn b H H' → Q (.int r) H'
def sp_sign : Sp := fun vs H Q _ => ∃ b : Addr, vs = [.ref b] ∧ Bx H b ∧ ∀ (r : Int) (H' : Hp), (r = 1 ∨ r = -1) → Gn b H H' → Q (.int r) H'
section
variable {P : Program} {w : World} {K : PySem.W.Frag} {mg : Str → Option Value} {base : Heap} {C W M f : Addr} {fd : FuncData}
theorem ok_draw (F : Fun K "_law_draw" "_law_draw" s_law_draw f fd) (T : Tx K w mg C W M) : FnOk P w K mg base CX0 1 f fd P_law_draw sp_draw := by
  refine F.ok sc_law_draw (fun vs H Q E h => ?_) (fun cdv A outer s H vs Q E hr h => ?_)
  · obtain ⟨b, m, rfl, _⟩ := h
    rfl
  obtain ⟨b, m, rfl, ⟨dl, ds, k, nd, hb, hd⟩, hm, q⟩ := h
  refine ⟨_, (pss_cons (ps_set (i := 2) sc_law_draw.nd rfl (Or.inl rfl) (pe_ix ix_list (pv 0) pe_int (fun _ _ => rfl)))
      (pss_cons (ps_asg (pe_op op_add (pv 2) pe_int) (pg_sub (pv 0) pe_int set_list))
      (pss_cons (ps_if (pt_cmpR op_lt (pv 2) (pe_callB call_len_seq rfl T.f_len PySem.boot_len (pa_cons (pe_ix ix_list (pv 0) pe_int (fun _ _ => rfl)) pa_nil)) (nomark _))
        (pss_one (ps_ret (pe_op op_mod (pe_callTy call_int1 rfl T.f_int (by decide +kernel) (pa_cons (pe_ix ix_list (pe_ix ix_list (pv 0) pe_int (fun _ _ => rfl)) (pv 2) (fun _ _ => rfl)) pa_nil)) (pv 1))))
        pss_nil)
      (pss_one (ps_ret pe_int))))), ?_⟩
  walk_at "rd"
  refine r_ixL hb (by rfl) ?_
  walk_at "rd"
  refine r_setL (j := 1) hb (by rfl) ?_
  walk_at "rd"
  have hb1 : upd H b (.lst ([V.ref dl, V.int k].set 1 (V.int (k + 1)))) b = some (.lst [V.ref dl, V.int ((k + 1 : Nat) : Int)]) := upd_same
  have g : Gn b H (upd H b (.lst ([V.ref dl, V.int k].set 1 (V.int (k + 1))))) := ⟨fun a o na e => by rw [upd_ne na]; exact e, dl, ⟨ds, k, nd, hb, hd⟩, ds, k + 1, nd, hb1, by rw [upd_ne nd]; exact hd⟩
  have hd1 : upd H b (.lst ([V.ref dl, V.int k].set 1 (V.int (k + 1)))) dl = some (.lst (ds.map V.int)) := by rw [upd_ne nd]; exact hd
  generalize upd H b (.lst ([V.ref dl, V.int k].set 1 (V.int (k + 1)))) = H1 at *
  refine r_ixL hb1 (by rfl) ?_
  refine ⟨dl, _, rfl, .inl (SqL.of hd1), ?_⟩
  walk_at "rd"
  refine ite2 (fun c => ?_) (fun c => ?_)
  · have c1 := of_decide_eq_true c
    rw [List.length_map] at c1
    have c2 : k < ds.length := by omega
    walk_at "rd"
    refine r_ixL hb1 (by rfl) ?_
    walk_at "rd"
    refine r_ixL hd1 (at_of (j := k) rfl (by rw [List.getElem?_map, List.getElem?_eq_getElem c2]; rfl)) ?_
    walk_at "rd"
    exact q _ _ (Int.emod_nonneg _ (by omega)) (Int.emod_lt_of_pos _ hm) g
  · walk_at "rd"
    exact q 0 _ (Int.le_refl 0) hm g
theorem ok_sign (F : Fun K "_law_sign" "_law_sign" s_law_sign f fd) (T : Tx K w mg C W M) (G_law_draw : Cl P w K mg base 1 "_law_draw" P_law_draw sp_draw) : FnOk P w K mg base CX0 2 f fd P_law_sign sp_sign := by
  refine F.ok sc_law_sign (fun vs H Q E h => ?_) (fun cdv A outer s H vs Q E hr h => ?_)
  · obtain ⟨b, rfl, _⟩ := h
    rfl
  obtain ⟨b, rfl, hb, q⟩ := h
  refine ⟨_, (pss_one (ps_ret (pe_op op_sub pe_int (pe_op op_mul pe_int (pcl G_law_draw hr (pa_cons (pv 0) (pa_cons pe_int pa_nil))))))), ?_⟩
  walk_at "rd"
  refine ⟨b, 2, rfl, hb, by decide, fun r H1 r0 r2 g => ?_⟩
  walk_at "rd"
  exact q _ _ (by omega) g
def sp_cell (K : PySem.W.Frag) : Sp := fun vs H Q _ => ∃ (a : Addr) (ns : List Int) (k : Nat), vs = [.ref a, .int k] ∧ SqL K H a (ns.map V.int) ∧ ∀ r : Int, Q (.int r) H
theorem ok_cell (F : Fun K "_law_cell" "_law_cell" s_law_cell f fd) (T : Tx K w mg C W M) : FnOk P w K mg base CX0 1 f fd P_law_cell (sp_cell K) := by
  refine F.ok sc_law_cell (fun vs H Q E h => ?_) (fun cdv A outer s H vs Q E hr h => ?_)
  · obtain ⟨a, ns, k, rfl, _⟩ := h
    rfl
  obtain ⟨a, ns, k, rfl, hS, q⟩ := h
  refine ⟨_, (pss_cons (ps_if (pt_cmpR op_lt (pv 1) (pe_callB call_len_seq rfl T.f_len PySem.boot_len (pa_cons (pv 0) pa_nil)) (nomark _))
        (pss_one (ps_ret (pe_ix ix_list (pv 0) (pv 1) (fun _ _ => rfl))))
        pss_nil)
      (pss_one (ps_ret pe_int))), ?_⟩
  walk_at "rd"
  refine ⟨a, _, rfl, .inl hS, ?_⟩
  walk_at "rd"
  refine ite2 (fun c => ?_) (fun c => ?_)
  · have c1 := of_decide_eq_true c
    rw [List.length_map] at c1
    have c2 : k < ns.length := by omega
    walk_at "rd"
    exact ⟨a, _, _, _, rfl, rfl, hS, at_of (j := k) rfl (by rw [List.getElem?_map, List.getElem?_eq_getElem c2]; rfl), q _⟩
  · walk_at "rd"
    exact q _
def sp_digits (K : PySem.W.Frag) : Sp := fun vs H Q _ => ∃ (a : Addr) (ns : List Int), vs = [.ref a, .int 0, .int 63] ∧ SqL K H a (ns.map V.int) ∧ ∀ (p : Addr) (ds : List Int) (H' : Hp), Same H H' → H p = none → H' p = some (.lst (ds.map V.int)) → Q (.ref p) H'
theorem mapS {es : List Int} {z : Int} : es.map V.int ++ [V.int z] = (es ++ [z]).map V.int := by rw [List.map_append]; rfl
theorem same_own {H H' : Hp} {p : Addr} (h : Same H H') (n : H p = none) (o : HO) : Same H (upd H' p o) := fun a u e => by
  rw [upd_ne (ne_of_none e n)]
  exact h a u e
theorem ok_digits (F : Fun K "_law_digits" "_law_digits" s_law_digits f fd) (T : Tx K w mg C W M) (G_law_cell : Cl P w K mg base 1 "_law_cell" P_law_cell (sp_cell K)) : FnOk P w K mg base CX0 2 f fd P_law_digits (sp_digits K) := by
  refine F.ok sc_law_digits (fun vs H Q E h => ?_) (fun cdv A outer s H vs Q E hr h => ?_)
  · obtain ⟨a, ns, rfl, _⟩ := h
    rfl
  obtain ⟨a, ns, rfl, hS, q⟩ := h
  refine ⟨_, (pss_cons (ps_set (i := 3) sc_law_digits.nd rfl (Or.inl rfl) (pe_lst pa_nil))
      (pss_cons (ps_for PassesOwn.never rfl (pi_range2 rfl T.f_range (pa_cons (pv 1) (pa_cons (pv 2) pa_nil))) (pg_name (i := 4) sc_law_digits.nd rfl (Or.inl rfl))
        (pss_cons (ps_set (i := 5) sc_law_digits.nd rfl (Or.inl rfl) (pcl G_law_cell hr (pa_cons (pv 0) (pa_cons (pv 4) pa_nil))))
        (pss_cons (ps_if (pt_cmpR op_lt (pv 5) pe_int (nomark _))
          (pss_one (ps_set (i := 5) sc_law_digits.nd rfl (Or.inl rfl) (pe_op op_sub pe_int (pe_op op_mul pe_int (pv 5)))))
          pss_nil)
        (pss_one (ps_if (pt_cmpR op_ge (pv 5) (pe_op op_pow pe_int pe_int) (nomark _))
          (pss_one (ps_for PassesOwn.never rfl (pi_range1 rfl T.f_range (pa_cons pe_int pa_nil)) (pg_name (i := 6) sc_law_digits.nd rfl (Or.inl rfl))
            (pss_one (ps_if (pt_cmpR op_gt (pv 5) pe_int (nomark _))
              (pss_cons (ps_expr (pe_bm PySem.F.plainAttrs_list PySem.F.slot_list_append PySem.F.type_list_append mt_append (pv 3) (pa_cons (pe_op op_mod (pe_callTy call_int1 rfl T.f_int (by decide +kernel) (pa_cons (pv 5) pa_nil)) pe_int) pa_nil)))
              (pss_one (ps_set (i := 5) sc_law_digits.nd rfl (Or.inl rfl) (pe_op op_fdiv (pv 5) pe_int))))
              pss_nil))))
          (pss_cons (ps_set (i := 7) sc_law_digits.nd rfl (Or.inl rfl) (pe_op op_mod (pe_callTy call_int1 rfl T.f_int (by decide +kernel) (pa_cons (pe_op op_add (pe_op op_add (pe_op op_mul (pv 5) pe_int) (pe_op op_mul (pv 4) pe_int)) pe_int) pa_nil)) pe_int))
          (pss_one (ps_for PassesOwn.never rfl (pi_range1 rfl T.f_range (pa_cons pe_int pa_nil)) (pg_name (i := 6) sc_law_digits.nd rfl (Or.inl rfl))
            (pss_cons (ps_set (i := 7) sc_law_digits.nd rfl (Or.inl rfl) (pe_op op_mod (pe_callTy call_int1 rfl T.f_int (by decide +kernel) (pa_cons (pe_op op_add (pe_op op_add (pe_op op_mul (pv 7) pe_int) (pe_op op_mul pe_int (pv 6))) pe_int) pa_nil)) pe_int))
            (pss_one (ps_expr (pe_bm PySem.F.plainAttrs_list PySem.F.slot_list_append PySem.F.type_list_append mt_append (pv 3) (pa_cons (pe_op op_mod (pe_callTy call_int1 rfl T.f_int (by decide +kernel) (pa_cons (pe_op op_fdiv (pv 7) pe_int) pa_nil)) pe_int) pa_nil)))))))))))))
      (pss_one (ps_ret (pv 3))))), ?_⟩
  walk_at "rd"
  refine ⟨Nat.zero_le _, fun p hp => ?_⟩
  walk_at "rd"
  refine ⟨by decide, f_rng (n := 63) (fun i σ H1 => ∃ (ds : List Int) (o1 o2 o3 o4 : Option V), σ = [some (.ref a), some (.int 0), some (.int 63), some (.ref p), o1, o2, o3, o4] ∧ Same H H1 ∧ H1 p = some (.lst (ds.map V.int)) ∧ ds.length ≤ 60 * i)
    ⟨[], none, none, none, none, rfl, same_own (Same.refl H) hp _, upd_same, Nat.le_refl _⟩ ?_ ?_⟩
  · rintro i σ H1 hi ⟨ds, o1, o2, o3, o4, rfl, hs, hd, hl⟩
    walk_at "rd"
    refine ⟨a, ns, i, (by rw [Int.zero_add]; rfl), hs.seq hS, fun r => ?_⟩
    walk_at "rd"
    refine ite2 (fun c => ?_) (fun c => ?_)
    all_goals walk_at "rd"
    all_goals refine ite2 (fun c2 => ?_) (fun c2 => ?_)
    all_goals walk_at "rd"
    all_goals refine ⟨by decide, by decide, ?_⟩
    all_goals first
      | (refine f_rng (n := 60) (fun j σ H2 => ∃ (es : List Int) (z : Int) (o3 o4 : Option V), σ = [some (.ref a), some (.int 0), some (.int 63), some (.ref p), some (.int (0 + (i : Int))), some (.int z), o3, o4] ∧ Same H H2 ∧ H2 p = some (.lst (es.map V.int)) ∧ es.length ≤ 60 * i + j)
          ⟨ds, _, _, _, rfl, hs, hd, hl⟩ ?_ ?_
         · rintro j σ H2 hj ⟨es, z, o5, o6, rfl, hs2, hd2, hl2⟩
           walk_at "rd"
           refine ite2 (fun c3 => ?_) (fun c3 => ?_)
           · walk_at "rd"
             refine r_tyL hd2 ?_
             walk_at "rd"
             refine r_app hd2 (by rw [List.length_map]; omega) ?_
             walk_at "rd"
             rw [mapS]
             exact ⟨_, _, _, _, rfl, same_own hs2 hp _, upd_same, by rw [List.length_append, List.length_singleton]; omega⟩
           · walk_at "rd"
             exact ⟨es, _, _, _, rfl, hs2, hd2, by omega⟩
         · rintro σ H2 ⟨es, z, o5, o6, rfl, hs2, hd2, hl2⟩
           exact ⟨es, _, _, _, _, rfl, hs2, hd2, by omega⟩)
      | (refine f_rng (n := 12) (fun j σ H2 => ∃ (es : List Int) (y : V) (z : Int) (o3 : Option V), σ = [some (.ref a), some (.int 0), some (.int 63), some (.ref p), some (.int (0 + (i : Int))), some y, o3, some (.int z)] ∧ Same H H2 ∧ H2 p = some (.lst (es.map V.int)) ∧ es.length ≤ 60 * i + j)
          ⟨ds, _, _, _, rfl, hs, hd, hl⟩ ?_ ?_
         · rintro j σ H2 hj ⟨es, y, z, o5, rfl, hs2, hd2, hl2⟩
           walk_at "rd"
           refine r_tyL hd2 ?_
           walk_at "rd"
           refine r_app hd2 (by rw [List.length_map]; omega) ?_
           rw [mapS]
           exact ⟨_, _, _, _, rfl, same_own hs2 hp _, upd_same, by rw [List.length_append, List.length_singleton]; omega⟩
         · rintro σ H2 ⟨es, y, z, o5, rfl, hs2, hd2, hl2⟩
           exact ⟨es, _, _, _, _, rfl, hs2, hd2, by omega⟩)
  · rintro σ H1 ⟨ds, o1, o2, o3, o4, rfl, hs, hd, hl⟩
    walk_at "rd"
    exact q p ds H1 hs hp hd
def WOk (r : Int) : Prop := -1048576 ≤ r ∧ r ≤ 1048576
def sp_weight : Sp := fun vs H Q _ => ∃ b : Addr, vs = [.ref b] ∧ Bx H b ∧ ∀ (r : Int) (H' : Hp), WOk r → Gn b H H' → Q (.int r) H'
theorem menu4 {v : V} (h : v ∈ ([.int 1, .int 8, .int 33, .int 300] : List V)) : ∃ d : Int, v = .int d ∧ 1 ≤ d ∧ d ≤ 300 := by
  simp only [List.mem_cons, List.mem_nil_iff, or_false] at h
  rcases h with h | h | h | h
  all_goals exact ⟨_, h, by decide, by decide⟩
theorem ok_weight (F : Fun K "_law_weight" "_law_weight" s_law_weight f fd) (T : Tx K w mg C W M) (G_law_draw : Cl P w K mg base 1 "_law_draw" P_law_draw sp_draw) (G_law_sign : Cl P w K mg base 2 "_law_sign" P_law_sign sp_sign) :
    FnOk P w K mg base CX0 3 f fd P_law_weight sp_weight := by
  refine F.ok sc_law_weight (fun vs H Q E h => ?_) (fun cdv A outer s H vs Q E hr h => ?_)
  · obtain ⟨b, rfl, _⟩ := h
    rfl
  obtain ⟨b, rfl, hb, q⟩ := h
  refine ⟨_, (pss_cons (ps_set (i := 1) sc_law_weight.nd rfl (Or.inl rfl) (pcl G_law_draw hr (pa_cons (pv 0) (pa_cons pe_int pa_nil))))
      (pss_cons (ps_if (pt_cmpR op_eq (pv 1) pe_int (nomark _))
        (pss_one (ps_ret pe_int))
        pss_nil)
      (pss_cons (ps_if (pt_cmpR op_eq (pv 1) pe_int (nomark _))
        (pss_one (ps_ret (pe_op op_mul (pcl G_law_sign hr (pa_cons (pv 0) pa_nil)) (pe_op op_sub pe_int (pcl G_law_draw hr (pa_cons (pv 0) (pa_cons pe_int pa_nil)))))))
        pss_nil)
      (pss_one (ps_ret (pe_op op_mul (pe_op op_mul (pcl G_law_sign hr (pa_cons (pv 0) pa_nil)) (pcl G_law_draw hr (pa_cons (pv 0) (pa_cons pe_int pa_nil)))) (pe_ix ix_list (pe_lst (pa_cons pe_int (pa_cons pe_int (pa_cons pe_int (pa_cons pe_int pa_nil))))) (pcl G_law_draw hr (pa_cons (pv 0) (pa_cons pe_int pa_nil))) (fun _ _ => rfl)))))))), ?_⟩
  walk_at "rd"
  refine ⟨b, 6, rfl, hb, by decide, fun k H1 k0 k6 g1 => ?_⟩
  walk_at "rd"
  refine ite2 (fun c1 => ?_) (fun c1 => ?_)
  · walk_at "rd"
    exact q 0 _ ⟨by decide, by decide⟩ g1
  walk_at "rd"
  refine ite2 (fun c2 => ?_) (fun c2 => ?_)
  · walk_at "rd"
    refine ⟨b, rfl, g1.bx', fun r H2 hr2 g2 => ?_⟩
    walk_at "rd"
    refine ⟨b, 3, rfl, g2.bx', by decide, fun d H3 d0 d3 g3 => ?_⟩
    walk_at "rd"
    refine r_I (Or.inl ⟨by omega, by omega⟩) ?_
    refine q _ _ ?_ ((g1.trans g2).trans g3)
    rcases hr2 with rfl | rfl
    · exact ⟨by omega, by omega⟩
    · exact ⟨by omega, by omega⟩
  walk_at "rd"
  refine ⟨b, rfl, g1.bx', fun r H2 hr2 g2 => ?_⟩
  walk_at "rd"
  refine ⟨b, 1000, rfl, g2.bx', by decide, fun d H3 d0 d3 g3 => ?_⟩
  walk_at "rd"
  refine r_I (Or.inl ⟨by omega, by omega⟩) ?_
  walk_at "rd"
  refine tup_small (by decide) fun p hp => ?_
  walk_at "rd"
  have g4 := ((g1.trans g2).trans g3).mk_new (.lst [.int 1, .int 8, .int 33, .int 300]) hp
  refine ⟨b, 4, rfl, g4.bx', by decide, fun i H4 i0 i4 g5 => ?_⟩
  obtain ⟨v, e1, e2⟩ := atI_mem (xs := [.int 1, .int 8, .int 33, .int 300]) i0 (by show i < 4; exact i4)
  refine r_ixL (g5.at (g3.bx'.ne hp) upd_same) e1 ?_
  obtain ⟨x, rfl, x1, x2⟩ := menu4 e2
  walk_at "rd"
  refine r_I (Or.inr ⟨by omega, by omega⟩) ?_
  refine q _ _ ?_ (g4.trans g5)
  have m1 : d * x ≤ 999 * 300 := Int.mul_le_mul (by omega) x2 (by omega) (by decide)
  have m0 : 0 ≤ d * x := Int.mul_nonneg d0 (by omega)
  rcases hr2 with rfl | rfl
  · rw [Int.one_mul]
    exact ⟨by omega, by omega⟩
  · rw [Int.neg_one_mul, Int.neg_mul]
    exact ⟨by omega, by omega⟩
end
end Wh

namespace Wh
section
variable {P : Program} {w : World} {K : PySem.W.Frag} {mg : Str → Option Value} {base : Heap} {C W M f : Addr} {fd : FuncData}
def RowOk (n : Nat) (r : List Int) : Prop := r.length = n ∧ ∀ w ∈ r, WOk w
def sp_weights : Sp := fun vs H Q _ => ∃ (b : Addr) (n : Nat), vs = [.ref b, .int n] ∧ Bx H b ∧ n ≤ 16 ∧ ∀ (v : V) (ws : List Int) (H' : Hp), Gn b H H' → Ints H' v ws → RowOk n ws → Q v H'
theorem ok_weights (F : Fun K "_law_weights" "_law_weights" s_law_weights f fd) (T : Tx K w mg C W M) (G_law_weight : Cl P w K mg base 3 "_law_weight" P_law_weight sp_weight) : FnOk P w K mg base CX0 4 f fd P_law_weights sp_weights := by
  refine F.ok sc_law_weights (fun vs H Q E h => ?_) (fun cdv A outer s H vs Q E hr h => ?_)
  · obtain ⟨b, n, rfl, _⟩ := h
    rfl
  obtain ⟨b, n, rfl, hb, hn, q⟩ := h
  refine ⟨_, (pss_one (ps_ret (pe_callTy call_tuple_of rfl T.f_tuple (by decide +kernel) (pa_cons (pe_lc (own := [("_law_k", 2)]) (g := gName 2) rfl sc_law_weights.nd (pi_range1 rfl T.f_range (pa_cons (pv 1) pa_nil)) (blkOk_by (N := N_law_weights) (sc := defScope s_law_weights) (by decide +kernel)) (fun _ _ _ _ _ => pg_name (i := 2) sc_law_weights.nd rfl (Or.inl rfl)) (fun _ _ _ _ _ => pts_nil) (fun _ _ _ _ _ => (pcl G_law_weight hr (pa_cons (pv 0) pa_nil)))) pa_nil)))), ?_⟩
  walk_at "rd"
  refine ⟨by omega, by omega, l_rng fun D hD => ⟨fun i H' => ∃ ws : List Int, Gn b H H' ∧ H' D = some (.lst (ws.map V.int)) ∧ RowOk i ws, ⟨[], Gn.new hb _ hD, upd_same, rfl, fun _ z => nomatch z⟩, ?_, ?_⟩⟩
  · rintro i H1 hi ⟨ws, g, hd, hw⟩
    walk_at "rd"
    refine ⟨b, rfl, g.bx', fun r H2 hr2 g2 => ?_⟩
    refine ⟨_, g2.at (hb.ne hD) hd, by rw [List.length_map, hw.1]; exact small1000 (by omega), ?_⟩
    rw [mapS]
    exact ⟨_, (g.trans g2).own _ hD, upd_same, by rw [List.length_append, hw.1]; rfl, fun z hz => by
      rcases List.mem_append.mp hz with hz | hz
      · exact hw.2 z hz
      · rw [List.mem_singleton] at hz
        rw [hz]
        exact hr2⟩
  · rintro H1 ⟨ws, g, hd, hw⟩
    walk_at "rd"
    refine ⟨D, _, rfl, .inl ⟨SqL.of hd, fun p hp => ?_⟩⟩
    exact q _ ws _ (g.mk_new _ hp) Tup.new (by
      rw [show (n : Int).toNat = n from rfl] at hw
      exact hw)
def RowsOk (m n : Nat) (rs : List (List Int)) : Prop := rs.length = m ∧ ∀ r ∈ rs, RowOk n r
def sp_rows : Sp := fun vs H Q _ => ∃ (b : Addr) (m n : Nat), vs = [.ref b, .int m, .int n] ∧ Bx H b ∧ m ≤ 16 ∧ n ≤ 16 ∧ ∀ (v : V) (rs : List (List Int)) (H' : Hp), Gn b H H' → Rows H' v rs → RowsOk m n rs → Q v H'
theorem ok_rows (F : Fun K "_law_rows" "_law_rows" s_law_rows f fd) (T : Tx K w mg C W M) (G_law_weights : Cl P w K mg base 4 "_law_weights" P_law_weights sp_weights) : FnOk P w K mg base CX0 5 f fd P_law_rows sp_rows := by
  refine F.ok sc_law_rows (fun vs H Q E h => ?_) (fun cdv A outer s H vs Q E hr h => ?_)
  · obtain ⟨b, m, n, rfl, _⟩ := h
    rfl
  obtain ⟨b, m, n, rfl, hb, hm, hn, q⟩ := h
  refine ⟨_, (pss_one (ps_ret (pe_callTy call_tuple_of rfl T.f_tuple (by decide +kernel) (pa_cons (pe_lc (own := [("_law_k", 3)]) (g := gName 3) rfl sc_law_rows.nd (pi_range1 rfl T.f_range (pa_cons (pv 1) pa_nil)) (blkOk_by (N := N_law_rows) (sc := defScope s_law_rows) (by decide +kernel)) (fun _ _ _ _ _ => pg_name (i := 3) sc_law_rows.nd rfl (Or.inl rfl)) (fun _ _ _ _ _ => pts_nil) (fun _ _ _ _ _ => (pcl G_law_weights hr (pa_cons (pv 0) (pa_cons (pv 2) pa_nil))))) pa_nil)))), ?_⟩
  walk_at "rd"
  refine ⟨by omega, by omega, l_rng fun D hD => ⟨fun i H' => ∃ (xs : List V) (rs : List (List Int)), Gn b H H' ∧ H' D = some (.lst xs) ∧ AllP (Ints H') xs rs ∧ RowsOk i n rs, ⟨[], [], Gn.new hb _ hD, upd_same, trivial, rfl, fun _ z => nomatch z⟩, ?_, ?_⟩⟩
  · rintro i H1 hi ⟨xs, rs, g, hd, ha, hw⟩
    walk_at "rd"
    refine ⟨b, n, rfl, g.bx', hn, fun v r H2 g2 hv hr2 => ?_⟩
    have hd2 := g2.at (hb.ne hD) hd
    have tk : TK H2 (upd H2 D (.lst (xs ++ [v]))) := TK.put hd2 (fun _ z => by cases z) _
    refine ⟨_, hd2, by rw [ha.len, hw.1]; exact small1000 (by omega), ?_⟩
    exact ⟨_, rs ++ [r], (g.trans g2).own _ hD, upd_same, (AllP.mono (fun _ _ z => Ints.mono (g2.tk.trans tk) z) ha).app ⟨hv.mono tk, trivial⟩, by rw [List.length_append, hw.1]; rfl, fun z hz => by
      rcases List.mem_append.mp hz with hz | hz
      · exact hw.2 z hz
      · rw [List.mem_singleton] at hz
        rw [hz]
        exact hr2⟩
  · rintro H1 ⟨xs, rs, g, hd, ha, hw⟩
    walk_at "rd"
    refine ⟨D, _, rfl, .inl ⟨SqL.of hd, fun p hp => ?_⟩⟩
    exact q _ rs _ (g.mk_new _ hp) ⟨xs, Tup.new, AllP.mono (fun _ _ z => Ints.mono (TK.new hp _) z) ha⟩ (by
      rw [show (m : Int).toNat = m from rfl] at hw
      exact hw)
end
end Wh

/-! Plain: what layers give, well-formed nets. -/
namespace Wh
def ksz (ks : List (List Int)) : Nat := (ks.headD []).length
def PL.gives (n : Nat) : PL → Nat
  | .dense _ bs => bs.length
  | .conv ks bs st => bs.length * ((n - ksz ks) / st + 1)
  | .relu => n
  | .clamp _ _ => n
  | .mx s => n / s
  | .mean s => n / s
def pgives : Nat → List PL → Nat
  | n, [] => n
  | n, l :: ls => pgives (l.gives n) ls
def LL.gives (n : Nat) : LL → Nat
  | .p l => l.gives n
  | .sm a _ => pgives n a
  | .fk a b => pgives n a + pgives n b
def lgives : Nat → List LL → Nat
  | n, [] => n
  | n, l :: ls => lgives (l.gives n) ls
def sizes : List Nat := [1, 2, 4, 8, 16]
def PL.wf (n : Nat) : PL → Prop
  | .dense rows bs => 1 ≤ bs.length ∧ bs.length ≤ 16 ∧ RowsOk bs.length n rows ∧ ∀ b ∈ bs, WOk b
  | .conv ks bs st => 1 ≤ bs.length ∧ bs.length ≤ 2 ∧ 1 ≤ ksz ks ∧ ksz ks ≤ 3 ∧ ksz ks ≤ n ∧ RowsOk bs.length (ksz ks) ks ∧ (∀ b ∈ bs, WOk b) ∧ 1 ≤ st ∧ st ≤ 3
  | .relu => True
  | .clamp lo hi => -60000 ≤ lo ∧ lo ≤ hi ∧ hi ≤ 200000
  | .mx s => s ∈ sizes ∧ n % s = 0
  | .mean s => s ∈ sizes ∧ n % s = 0
/-- each layer is well formed at what it takes -/
def pwf : Nat → List PL → Prop
  | _, [] => True
  | n, l :: ls => l.wf n ∧ pwf (l.gives n) ls
/-- .. and all rows have from 1 to 16 signals -/
def psm : Nat → List PL → Prop
  | n, [] => 1 ≤ n ∧ n ≤ 16
  | n, l :: ls => (1 ≤ n ∧ n ≤ 16) ∧ psm (l.gives n) ls
def LL.wf (n : Nat) : LL → Prop
  | .p l => l.wf n
  | .sm a b => (pwf n a ∧ psm n a) ∧ (pwf n b ∧ psm n b) ∧ pgives n a = pgives n b
  | .fk a b => (pwf n a ∧ psm n a) ∧ (pwf n b ∧ psm n b)
def lwf : Nat → List LL → Prop
  | _, [] => True
  | n, l :: ls => l.wf n ∧ lwf (l.gives n) ls
def lsm : Nat → List LL → Prop
  | n, [] => 1 ≤ n ∧ n ≤ 16
  | n, l :: ls => (1 ≤ n ∧ n ≤ 16) ∧ lsm (l.gives n) ls
theorem sizes_le {s : Nat} (h : s ∈ sizes) : 1 ≤ s ∧ s ≤ 16 := by
  simp only [sizes, List.mem_cons, List.mem_nil_iff, or_false] at h
  omega
theorem lgives_map : ∀ {ls : List PL} {n : Nat}, lgives n (ls.map LL.p) = pgives n ls
  | [], _ => rfl
  | l :: ls, n => lgives_map (ls := ls) (n := l.gives n)
theorem lwf_map : ∀ {ls : List PL} {n : Nat}, lwf n (ls.map LL.p) ↔ pwf n ls
  | [], _ => Iff.rfl
  | l :: ls, n => and_congr Iff.rfl (lwf_map (ls := ls) (n := l.gives n))
theorem lgives_take : ∀ {ls : List LL} {i n : Nat} {l : LL}, ls[i]? = some l → lgives n (ls.take (i + 1)) = l.gives (lgives n (ls.take i))
  | [], _, _, _, h => by simp at h
  | _ :: _, 0, _, _, h => by cases h; rfl
  | a :: ls, i + 1, n, l, h => lgives_take (ls := ls) (i := i) (n := a.gives n) (l := l) (by simpa using h)
theorem lwf_take : ∀ {ls : List LL} {i n : Nat} {l : LL}, ls[i]? = some l → lwf n ls → l.wf (lgives n (ls.take i))
  | [], _, _, _, h, _ => by simp at h
  | _ :: _, 0, _, _, h, w => by cases h; exact w.1
  | a :: ls, i + 1, n, l, h, w => lwf_take (ls := ls) (i := i) (n := a.gives n) (l := l) (by simpa using h) w.2
theorem lgives_app : ∀ {ls : List LL} {n : Nat} {l : LL}, lgives n (ls ++ [l]) = l.gives (lgives n ls)
  | [], _, _ => rfl
  | a :: ls, n, l => lgives_app (ls := ls) (n := a.gives n) (l := l)
theorem lwf_app : ∀ {ls : List LL} {n : Nat} {l : LL}, lwf n ls → l.wf (lgives n ls) → lwf n (ls ++ [l])
  | [], _, _, _, w => ⟨w, trivial⟩
  | a :: ls, n, l, h, w => ⟨h.1, lwf_app (ls := ls) (n := a.gives n) (l := l) h.2 w⟩
theorem lsm_app : ∀ {ls : List LL} {n : Nat} {l : LL}, lsm n ls → 1 ≤ l.gives (lgives n ls) ∧ l.gives (lgives n ls) ≤ 16 → lsm n (ls ++ [l])
  | [], _, _, h, w => ⟨h, w⟩
  | a :: ls, n, l, h, w => ⟨h.1, lsm_app (ls := ls) (n := a.gives n) (l := l) h.2 w⟩
theorem lsm_end : ∀ {ls : List LL} {n : Nat}, lsm n ls → 1 ≤ lgives n ls ∧ lgives n ls ≤ 16
  | [], _, h => h
  | a :: ls, n, h => lsm_end (ls := ls) (n := a.gives n) h.2
theorem pgives_app : ∀ {ls : List PL} {n : Nat} {l : PL}, pgives n (ls ++ [l]) = l.gives (pgives n ls)
  | [], _, _ => rfl
  | a :: ls, n, l => pgives_app (ls := ls) (n := a.gives n) (l := l)
theorem pwf_app : ∀ {ls : List PL} {n : Nat} {l : PL}, pwf n ls → l.wf (pgives n ls) → pwf n (ls ++ [l])
  | [], _, _, _, w => ⟨w, trivial⟩
  | a :: ls, n, l, h, w => ⟨h.1, pwf_app (ls := ls) (n := a.gives n) (l := l) h.2 w⟩
theorem psm_app : ∀ {ls : List PL} {n : Nat} {l : PL}, psm n ls → 1 ≤ l.gives (pgives n ls) ∧ l.gives (pgives n ls) ≤ 16 → psm n (ls ++ [l])
  | [], _, _, h, w => ⟨h, w⟩
  | a :: ls, n, l, h, w => ⟨h.1, psm_app (ls := ls) (n := a.gives n) (l := l) h.2 w⟩
theorem psm_end : ∀ {ls : List PL} {n : Nat}, psm n ls → 1 ≤ pgives n ls ∧ pgives n ls ≤ 16
  | [], _, h => h
  | a :: ls, n, h => psm_end (ls := ls) (n := a.gives n) h.2
theorem psm_beg : ∀ {ls : List PL} {n : Nat}, psm n ls → 1 ≤ n ∧ n ≤ 16
  | [], _, h => h
  | _ :: _, _, h => h.1
/-- what a well-formed layer gives, of up to 16 signals: at least one, at most 32 -/
theorem PL.gives_pos {n : Nat} (hn : 1 ≤ n ∧ n ≤ 16) : ∀ {l : PL}, l.wf n → 1 ≤ l.gives n ∧ l.gives n ≤ 32
  | .dense _ bs, h => ⟨h.1, Nat.le_trans h.2.1 (by decide)⟩
  | .conv ks bs st, ⟨h1, h2, k1, k3, kn, _, _, s1, s3⟩ => by
    show 1 ≤ bs.length * ((n - ksz ks) / st + 1) ∧ bs.length * ((n - ksz ks) / st + 1) ≤ 32
    have d1 : (n - ksz ks) / st ≤ n - ksz ks := Nat.div_le_self _ _
    have m1 : bs.length * ((n - ksz ks) / st + 1) ≤ 2 * 16 := Nat.mul_le_mul h2 (Nat.succ_le_succ (Nat.le_trans d1 (by omega)))
    have m2 : 1 * 1 ≤ bs.length * ((n - ksz ks) / st + 1) := Nat.mul_le_mul h1 (Nat.le_add_left 1 _)
    omega
  | .relu, _ => ⟨hn.1, by show n ≤ 32; omega⟩
  | .clamp _ _, _ => ⟨hn.1, by show n ≤ 32; omega⟩
  | .mx s, ⟨h, d⟩ => by
    show 1 ≤ n / s ∧ n / s ≤ 32
    obtain ⟨s1, s2⟩ := sizes_le h
    have q := Nat.div_le_self n s
    have e := Nat.div_add_mod n s
    rw [d] at e
    refine ⟨Nat.pos_of_ne_zero fun z => ?_, by omega⟩
    rw [z] at e
    omega
  | .mean s, ⟨h, d⟩ => by
    show 1 ≤ n / s ∧ n / s ≤ 32
    obtain ⟨s1, s2⟩ := sizes_le h
    have q := Nat.div_le_self n s
    have e := Nat.div_add_mod n s
    rw [d] at e
    refine ⟨Nat.pos_of_ne_zero fun z => ?_, by omega⟩
    rw [z] at e
    omega
theorem LL.gives_pos {n : Nat} (hn : 1 ≤ n ∧ n ≤ 16) : ∀ {l : LL}, l.wf n → 1 ≤ l.gives n ∧ l.gives n ≤ 32
  | .p l, h => PL.gives_pos hn (l := l) h
  | .sm a b, h => by
    have q := psm_end h.1.2
    exact ⟨q.1, Nat.le_trans q.2 (by decide)⟩
  | .fk a b, h => by
    have q := psm_end h.1.2
    have r := psm_end h.2.2
    show 1 ≤ pgives n a + pgives n b ∧ pgives n a + pgives n b ≤ 32
    omega
end Wh

namespace Wh
/-- levels: at level 1 plain layers alone -/
def Lev (j : Nat) (ls : List LL) : Prop := 1 ≤ j ∧ (2 ≤ j ∨ ∀ l ∈ ls, ∃ q, l = .p q)
theorem lev_map (j : Nat) (h : 1 ≤ j) (a : List PL) : Lev j (a.map LL.p) := ⟨h, .inr fun l hl => let ⟨q, _, e⟩ := List.mem_map.mp hl; ⟨q, e.symm⟩⟩
def sp_lgives (j : Nat) : Sp := fun vs H Q _ => ∃ (v : V) (n : Nat) (ls : List LL), vs = [v, .int n] ∧ LLs H v ls ∧ lwf n ls ∧ Lev j ls ∧ Q (.int (lgives n ls)) H
section
variable {P : Program} {w : World} {K : PySem.W.Frag} {mg : Str → Option Value} {base : Heap} {C W M f : Addr} {fd : FuncData}
theorem ok_lgives {k j : Nat} (F : Fun K "_law_gives" "_law_gives" s_law_gives f fd) (T : Tx K w mg C W M) (G_law_gives : Cl P w K mg base k "_law_gives" P_law_gives (sp_lgives j)) : FnOk P w K mg base CX0 (k + 1) f fd P_law_gives (sp_lgives (j + 1)) := by
  refine F.ok sc_law_gives (fun vs H Q E h => ?_) (fun cdv A outer s H vs Q E hr h => ?_)
  · obtain ⟨v, n, ls, rfl, _⟩ := h
    rfl
  obtain ⟨v, n, ls, rfl, ⟨xs, ⟨a, rfl, ha⟩, hxs⟩, hw, hlev, q⟩ := h
  refine ⟨_, (pss_cons (ps_for PassesOwn.never rfl (pi_tup (pv 0)) (pg_name (i := 2) sc_law_gives.nd rfl (Or.inl rfl))
        (pss_one (ps_if (pt_cmpR op_eq (pe_ix ix_tup (pv 2) pe_int (fun _ _ => rfl)) pe_str (nomark _))
          (pss_one (ps_set (i := 1) sc_law_gives.nd rfl (Or.inl rfl) (pe_callB call_len_seq rfl T.f_len PySem.boot_len (pa_cons (pe_ix ix_tup (pv 2) pe_int (fun _ _ => rfl)) pa_nil))))
          (pss_one (ps_if (pt_cmpR op_eq (pe_ix ix_tup (pv 2) pe_int (fun _ _ => rfl)) pe_str (nomark _))
            (pss_one (ps_set (i := 1) sc_law_gives.nd rfl (Or.inl rfl) (pe_op op_mul (pe_callB call_len_seq rfl T.f_len PySem.boot_len (pa_cons (pe_ix ix_tup (pv 2) pe_int (fun _ _ => rfl)) pa_nil)) (pe_op op_add (pe_op op_fdiv (pe_op op_sub (pv 1) (pe_callB call_len_seq rfl T.f_len PySem.boot_len (pa_cons (pe_ix ix_tup (pe_ix ix_tup (pv 2) pe_int (fun _ _ => rfl)) pe_int (fun _ _ => rfl)) pa_nil))) (pe_ix ix_tup (pv 2) pe_int (fun _ _ => rfl))) pe_int))))
            (pss_one (ps_if (PW.pt (pw_or (pt_cmpR op_eq (pe_ix ix_tup (pv 2) pe_int (fun _ _ => rfl)) pe_str (nomark _)) (pw_or1 (pt_cmpR op_eq (pe_ix ix_tup (pv 2) pe_int (fun _ _ => rfl)) pe_str (nomark _)))))
              (pss_one (ps_set (i := 1) sc_law_gives.nd rfl (Or.inl rfl) (pe_op op_fdiv (pv 1) (pe_ix ix_tup (pv 2) pe_int (fun _ _ => rfl)))))
              (pss_one (ps_if (pt_cmpR op_eq (pe_ix ix_tup (pv 2) pe_int (fun _ _ => rfl)) pe_str (nomark _))
                (pss_one (ps_set (i := 1) sc_law_gives.nd rfl (Or.inl rfl) (pe_op op_add (pcl G_law_gives hr (pa_cons (pe_ix ix_tup (pv 2) pe_int (fun _ _ => rfl)) (pa_cons (pv 1) pa_nil))) (pcl G_law_gives hr (pa_cons (pe_ix ix_tup (pv 2) pe_int (fun _ _ => rfl)) (pa_cons (pv 1) pa_nil))))))
                (pss_one (ps_if (pt_cmpR op_eq (pe_ix ix_tup (pv 2) pe_int (fun _ _ => rfl)) pe_str (nomark _))
                  (pss_one (ps_set (i := 1) sc_law_gives.nd rfl (Or.inl rfl) (pcl G_law_gives hr (pa_cons (pe_ix ix_tup (pv 2) pe_int (fun _ _ => rfl)) (pa_cons (pv 1) pa_nil)))))
                  pss_nil)))))))))))
      (pss_one (ps_ret (pv 1)))), ?_⟩
  walk_at "rd"
  refine ⟨a, rfl, ⟨_, SqT.of ha⟩, f_tup (xs := xs) (fun i σ H1 => H1 = H ∧ ∃ o, σ = [some (.ref a), some (.int (lgives n (ls.take i))), o]) ⟨rfl, none, rfl⟩ (fun i σ H1 _ ⟨e, _⟩ => by rw [e]; exact SqT.of ha) ?_ ?_⟩
  · rintro i x σ H1 hx ⟨rfl, o, rfl⟩
    obtain ⟨l, hl, hxl⟩ := hxs.at hx
    have lw := lwf_take hl hw
    have et := lgives_take (n := n) hl
    generalize lgives n (ls.take i) = m at *
    walk_at "rd"
    cases l with
    | p l =>
      cases l with
      | dense rows bs =>
        obtain ⟨y, z, ⟨p, rfl, hp⟩, hr, ⟨b, rfl, hb⟩⟩ := hxl
        walk_at "rt"
        exact ⟨rfl, _, by rw [et, List.length_map]; rfl⟩
      | conv ks bs st =>
        obtain ⟨y, z, ⟨p, rfl, hp⟩, ⟨zs, ⟨c, rfl, hc⟩, hr⟩, ⟨b, rfl, hb⟩⟩ := hxl
        obtain ⟨w1, w2, k1, k3, km, ⟨kl, _⟩, _, s1, s3⟩ := lw
        obtain ⟨k0, ks2, rfl⟩ : ∃ k0 ks2, ks = k0 :: ks2 := by
          cases ks with
          | nil =>
            have kl2 : 0 = bs.length := kl
            omega
          | cons k0 ks2 => exact ⟨k0, ks2, rfl⟩
        obtain ⟨z0, zs2, rfl⟩ : ∃ z0 zs2, zs = z0 :: zs2 := by
          cases zs with
          | nil => exact hr.elim
          | cons z0 zs2 => exact ⟨z0, zs2, rfl⟩
        obtain ⟨⟨d, rfl, hd⟩, _⟩ := hr
        have k1 : 1 ≤ k0.length := k1
        have k3 : k0.length ≤ 3 := k3
        have km : k0.length ≤ m := km
        walk_at "rt"
        refine r_I ⟨by omega, by omega⟩ ?_
        walk_at "rt"
        refine r_I ?_ ?_
        · exact Or.inl ⟨by omega, by rw [List.length_map]; omega⟩
        refine ⟨rfl, some (.ref p), ?_⟩
        rw [et, List.length_map, List.length_map]
        have e1 : ((m : Int) - (k0.length : Int)) / (st : Int) + 1 = (((m - k0.length) / st + 1 : Nat) : Int) := by
          rw [Int.natCast_add, Int.natCast_ediv, Int.ofNat_sub km]
          rfl
        rw [e1, ← Int.natCast_mul]
        rfl
      | relu =>
        obtain ⟨p, rfl, hp⟩ := hxl
        walk_at "rt"
        exact ⟨rfl, _, by rw [et]; rfl⟩
      | clamp lo hi =>
        obtain ⟨p, rfl, hp⟩ := hxl
        walk_at "rt"
        exact ⟨rfl, _, by rw [et]; rfl⟩
      | mx s =>
        obtain ⟨p, rfl, hp⟩ := hxl
        have sl := sizes_le lw.1
        walk_at "rt"
        refine r_I ⟨by omega, by omega⟩ ?_
        refine ⟨rfl, some (.ref p), ?_⟩
        rw [et, ← Int.natCast_ediv]
        rfl
      | mean s =>
        obtain ⟨p, rfl, hp⟩ := hxl
        have sl := sizes_le lw.1
        walk_at "rt"
        refine r_I ⟨by omega, by omega⟩ ?_
        refine ⟨rfl, some (.ref p), ?_⟩
        rw [et, ← Int.natCast_ediv]
        rfl
    | sm c d =>
      have j1 : 1 ≤ j := by
        rcases hlev.2 with h2 | h2
        · omega
        · obtain ⟨q, e⟩ := h2 _ (List.mem_of_getElem? hl)
          cases e
      obtain ⟨y, z, ⟨p, rfl, hp⟩, hc, hd⟩ := hxl
      walk_at "rt"
      refine ⟨y, m, c.map LL.p, rfl, hc.lls, lwf_map.mpr lw.1.1, lev_map j j1 c, ?_⟩
      exact ⟨rfl, _, by rw [et, lgives_map]; rfl⟩
    | fk c d =>
      have j1 : 1 ≤ j := by
        rcases hlev.2 with h2 | h2
        · omega
        · obtain ⟨q, e⟩ := h2 _ (List.mem_of_getElem? hl)
          cases e
      obtain ⟨y, z, ⟨p, rfl, hp⟩, hc, hd⟩ := hxl
      walk_at "rt"
      refine ⟨y, m, c.map LL.p, rfl, hc.lls, lwf_map.mpr lw.1.1, lev_map j j1 c, ?_⟩
      walk_at "rt"
      refine ⟨z, m, d.map LL.p, rfl, hd.lls, lwf_map.mpr lw.2.1, lev_map j j1 d, ?_⟩
      walk_at "rt"
      refine ⟨rfl, some (.ref p), ?_⟩
      rw [et, lgives_map, lgives_map, ← Int.natCast_add]
      rfl
  · rintro σ H1 ⟨rfl, o, rfl⟩
    walk_at "rd"
    rw [hxs.len, List.take_length]
    exact q
/-- nothing can be asked at level 0 -/
theorem no_lgives {ps : List Str} : FnOk P w K mg base CX0 0 f fd ps (sp_lgives 0) := by
  have no : ∀ vs H Q E, ¬ sp_lgives 0 vs H Q E := fun vs H Q E h => by
    obtain ⟨_, _, _, _, _, _, hl, _⟩ := h
    exact absurd hl.1 (by decide)
  exact ⟨fun vs H Q E h => absurd h (no vs H Q E), fun A outer s H args us vs Q E _ _ _ _ h => absurd h (no vs H Q E)⟩
end
end Wh

namespace Wh
def PL.nl : PL → Nat
  | .dense _ bs => 1 + bs.length
  | .conv _ bs _ => 1 + bs.length
  | _ => 1
def sp_pl : Sp := fun vs H Q _ => ∃ (b : Addr) (n : Nat), vs = [.ref b, .int n] ∧ Bx H b ∧ 1 ≤ n ∧ n ≤ 16 ∧ ∀ (v : V) (l : PL) (H' : Hp), Gn b H H' → PLAt H' v l → l.wf n → l.nl ≤ 5 → Q v H'
section
variable {P : Program} {w : World} {K : PySem.W.Frag} {mg : Str → Option Value} {base : Heap} {C W M f : Addr} {fd : FuncData}
theorem ksz_eq {m n : Nat} {rs : List (List Int)} (h : RowsOk m n rs) (hm : 1 ≤ m) : ksz rs = n := by
  cases rs with
  | nil =>
    have e : 0 = m := h.1
    omega
  | cons r rs => exact (h.2 r (List.mem_cons_self)).1
def sv (z : Nat) : V := .int z
theorem nat_of {r : Int} (h : 0 ≤ r) : ∃ k : Nat, r = k := ⟨r.toNat, by omega⟩
theorem ok_plain_layer (F : Fun K "_law_plain_layer" "_law_plain_layer" s_law_plain_layer f fd) (T : Tx K w mg C W M) (G_law_draw : Cl P w K mg base 1 "_law_draw" P_law_draw sp_draw)
    (G_law_rows : Cl P w K mg base 5 "_law_rows" P_law_rows sp_rows) (G_law_weights : Cl P w K mg base 4 "_law_weights" P_law_weights sp_weights) : FnOk P w K mg base CX0 6 f fd P_law_plain_layer sp_pl := by
  refine F.ok sc_law_plain_layer (fun vs H Q E h => ?_) (fun cdv A outer s H vs Q E hr h => ?_)
  · obtain ⟨b, n, rfl, _⟩ := h
    rfl
  obtain ⟨b, n, rfl, hb, hn1, hn2, q⟩ := h
  refine ⟨_, (pss_cons (ps_set (i := 2) sc_law_plain_layer.nd rfl (Or.inl rfl) (pcl G_law_draw hr (pa_cons (pv 0) (pa_cons pe_int pa_nil))))
      (pss_cons (ps_if (pt_cmpR op_eq (pv 2) pe_int (nomark _))
        (pss_one (ps_ret (pe_tup (pa_cons pe_str pa_nil))))
        pss_nil)
      (pss_cons (ps_if (pt_cmpR op_eq (pv 2) pe_int (nomark _))
        (pss_cons (ps_set (i := 3) sc_law_plain_layer.nd rfl (Or.inl rfl) (pe_op op_sub (pe_op op_mul (pcl G_law_draw hr (pa_cons (pv 0) (pa_cons pe_int pa_nil))) pe_int) pe_int))
        (pss_one (ps_ret (pe_tup (pa_cons pe_str (pa_cons (pv 3) (pa_cons (pe_op op_add (pv 3) (pe_op op_mul (pcl G_law_draw hr (pa_cons (pv 0) (pa_cons pe_int pa_nil))) pe_int)) pa_nil)))))))
        pss_nil)
      (pss_cons (ps_if (PW.pt (pw_or (pt_cmpR op_eq (pv 2) pe_int (nomark _)) (pw_or1 (pt_cmpR op_eq (pv 2) pe_int (nomark _)))))
        (pss_cons (ps_setLc (i := 4) (own := [("_law_size", 5)]) (g := gName 5) rfl sc_law_plain_layer.nd rfl rfl (sw_true rfl rfl rfl (by decide +kernel)) (pi_list (pe_lst (pa_cons pe_int (pa_cons pe_int (pa_cons pe_int (pa_cons pe_int (pa_cons pe_int pa_nil))))))) (blkOk_by (N := N_law_plain_layer) (sc := defScope s_law_plain_layer) (by decide +kernel)) (fun _ _ _ _ _ => pg_name (i := 5) sc_law_plain_layer.nd rfl (Or.inl rfl)) (fun _ _ _ _ _ => pts_one (pt_cmpR op_eq (pe_op op_mod (pe_callTy call_int1 rfl T.f_int (by decide +kernel) (pa_cons (pv 1) pa_nil)) (pv 5)) pe_int (nomark _))) (fun _ _ _ _ _ => (pv 5)))
        (pss_one (ps_ret (pe_tup (pa_cons (pe_ix ix_list (pe_lst (pa_cons pe_str (pa_cons pe_str pa_nil))) (pe_op op_sub (pv 2) pe_int) (fun _ _ => rfl)) (pa_cons (pe_ix ix_list (pv 4) (pe_op op_mod (pe_callTy call_int1 rfl T.f_int (by decide +kernel) (pa_cons (pcl G_law_draw hr (pa_cons (pv 0) (pa_cons pe_int pa_nil))) pa_nil)) (pe_callB call_len_seq rfl T.f_len PySem.boot_len (pa_cons (pv 4) pa_nil))) (fun _ _ => rfl)) pa_nil))))))
        pss_nil)
      (pss_cons (ps_if (PW.pt (pw_or (pt_cmpR op_eq (pv 2) pe_int (nomark _)) (pw_or1 (pt_cmpR op_eq (pv 2) pe_int (nomark _)))))
        (pss_cons (ps_set (i := 6) sc_law_plain_layer.nd rfl (Or.inl rfl) (pe_op op_add pe_int (pcl G_law_draw hr (pa_cons (pv 0) (pa_cons pe_int pa_nil)))))
        (pss_cons (ps_set (i := 5) sc_law_plain_layer.nd rfl (Or.inl rfl) (pe_op op_add pe_int (pcl G_law_draw hr (pa_cons (pv 0) (pa_cons (pe_callB (call_min2 rfl) rfl T.f_min (by decide +kernel) (pa_cons (pv 1) (pa_cons pe_int pa_nil))) pa_nil)))))
        (pss_one (ps_ret (pe_tup (pa_cons pe_str (pa_cons (pcl G_law_rows hr (pa_cons (pv 0) (pa_cons (pv 6) (pa_cons (pv 5) pa_nil)))) (pa_cons (pcl G_law_weights hr (pa_cons (pv 0) (pa_cons (pv 6) pa_nil))) (pa_cons (pe_op op_add pe_int (pcl G_law_draw hr (pa_cons (pv 0) (pa_cons pe_int pa_nil)))) pa_nil)))))))))
        pss_nil)
      (pss_cons (ps_set (i := 6) sc_law_plain_layer.nd rfl (Or.inl rfl) (pe_op op_add pe_int (pcl G_law_draw hr (pa_cons (pv 0) (pa_cons pe_int pa_nil)))))
      (pss_one (ps_ret (pe_tup (pa_cons pe_str (pa_cons (pcl G_law_rows hr (pa_cons (pv 0) (pa_cons (pv 6) (pa_cons (pv 1) pa_nil)))) (pa_cons (pcl G_law_weights hr (pa_cons (pv 0) (pa_cons (pv 6) pa_nil))) pa_nil)))))))))))), ?_⟩
  walk_at "rt"
  refine ⟨b, 8, rfl, hb, by decide, fun k H1 k0 k8 g1 => ?_⟩
  obtain ⟨k, rfl⟩ := nat_of k0
  have kk : k = 0 ∨ k = 1 ∨ (k = 2 ∨ k = 3) ∨ (k = 4 ∨ k = 5) ∨ k = 6 ∨ k = 7 := by omega
  rcases kk with rfl | rfl | kk | kk | kk
  · walk_at "rt"
    refine tup_s rfl fun p hp => ?_
    exact q _ .relu _ (g1.mk_new _ hp) Tup.new trivial (by decide)
  · walk_at "rt"
    refine ⟨b, 900, rfl, g1.bx', by decide, fun r H2 r0 r9 g2 => ?_⟩
    walk_at "rt"
    refine ⟨b, 900, rfl, g2.bx', by decide, fun t H3 t0 t9 g3 => ?_⟩
    walk_at "rt"
    refine tup_s rfl fun p hp => ?_
    exact q _ (.clamp (r * 100 - 60000) (r * 100 - 60000 + t * 90)) _ (((g1.trans g2).trans g3).mk_new _ hp) Tup.new ⟨by omega, by omega, by omega⟩ (show 1 ≤ 5 by decide)
  · -- max, mean
    rcases kk with rfl | rfl
    all_goals
      walk_at "rt"
      refine tup_s rfl fun p hp => ?_
      have g2 := g1.mk_new (.lst (sizes.map sv)) hp
      refine ⟨p, rfl, ⟨_, SqL.of upd_same⟩, l_lstT (xs := sizes.map sv) fun D hD => ⟨fun i H' => ∃ zs : List Nat, Gn b H H' ∧ H' p = some (.lst (sizes.map sv)) ∧ H' D = some (.lst (zs.map sv)) ∧ zs.length ≤ i ∧ (1 ≤ i → zs ≠ []) ∧ ∀ z ∈ zs, z ∈ sizes ∧ n % z = 0,
        ⟨[], g2.mk_new _ hD, by rw [upd_ne (fun z => by rw [← z, upd_same] at hD; cases hD)]; exact upd_same, upd_same, Nat.le_refl _, fun z => absurd z (by decide), fun _ z => nomatch z⟩, fun i H' _ ⟨_, _, h, _⟩ => SqL.of h, ?_, ?_⟩⟩
      · rintro i x H2 hx ⟨zs, g3, hp3, hd3, hl, hne, hz⟩
        obtain ⟨z, hz1, rfl⟩ : ∃ z, sizes[i]? = some z ∧ x = sv z := by
          rw [List.getElem?_map] at hx
          cases e : sizes[i]? with
          | none => rw [e] at hx; cases hx
          | some z => rw [e] at hx; exact ⟨z, rfl, (Option.some.inj hx).symm⟩
        have zm := List.mem_of_getElem? hz1
        have zl := sizes_le zm
        have nDp : D ≠ p := fun z => by rw [z, upd_same] at hD; cases hD
        have nD : H D = none := g2.free hD
        show tTest _ _ _ _
        walk_at "rt"
        refine r_I (show (0 : Int) < (z : Int) by omega) ?_
        walk_at "rt"
        refine ite2 (fun c => ?_) (fun c => ?_)
        · have c1 := V.int.inj (of_decide_eq_true c)
          have c2 : n % z = 0 := by omega
          walk_at "rt"
          refine ⟨_, hd3, by rw [List.length_map]; exact small1000 (by
            have : i < sizes.length := (List.getElem?_eq_some_iff.mp hz1).1
            have : sizes.length = 5 := rfl
            omega), zs ++ [z], g3.own _ nD, by rw [upd_ne nDp.symm]; exact hp3, by rw [upd_same, List.map_append]; rfl, by rw [List.length_append, List.length_singleton]; omega, fun _ => by simp, fun y hy => ?_⟩
          rcases List.mem_append.mp hy with hy | hy
          · exact hz y hy
          · rw [List.mem_singleton] at hy
            rw [hy]
            exact ⟨zm, c2⟩
        · refine ⟨zs, g3, hp3, hd3, by omega, fun _ => ?_, hz⟩
          by_cases i0 : i = 0
          · subst i0
            cases hz1
            exact absurd (decide_eq_true (congrArg V.int (Int.emod_one _))) c
          · exact hne (by omega)
      · rintro H2 ⟨zs, g3, hp3, hd3, hl, hne, hz⟩
        have zn : zs ≠ [] := hne (by decide)
        have zl : zs.length ≤ 5 := hl
        have zp : 0 < zs.length := List.length_pos_iff.mpr zn
        walk_at "rt"
        refine tup_s rfl fun p2 hp2 => ?_
        have g4 := g3.mk_new (.lst [.str "max", .str "mean"]) hp2
        walk_at "rd"
        refine r_ixL upd_same (by rfl) ?_
        walk_at "rd"
        refine ⟨b, 900, rfl, g4.bx', by decide, fun r H3 r0 r9 g5 => ?_⟩
        have hd5 : H3 D = some (.lst (zs.map sv)) := g5.at (g2.bx'.ne hD) (by rw [upd_ne (ne_of_none hd3 hp2)]; exact hd3)
        have zp2 : (0 : Int) < ((zs.map sv).length : Int) := by rw [List.length_map]; omega
        walk_at "rt"
        obtain ⟨v, e1, e2⟩ := atI_mem (xs := zs.map sv) (r := r % ((zs.map sv).length : Int)) (Int.emod_nonneg _ (by omega)) (Int.emod_lt_of_pos _ zp2)
        refine r_ixL hd5 e1 ?_
        obtain ⟨z, hzm, rfl⟩ := List.mem_map.mp e2
        walk_at "rt"
        refine tup_s rfl fun p3 hp3 => ?_
        first
          | exact q _ (.mx z) _ ((g4.trans g5).mk_new _ hp3) Tup.new (hz z hzm) (show 1 ≤ 5 by decide)
          | exact q _ (.mean z) _ ((g4.trans g5).mk_new _ hp3) Tup.new (hz z hzm) (show 1 ≤ 5 by decide)
  · -- conv
    rcases kk with rfl | rfl
    all_goals
      walk_at "rt"
      refine ⟨b, 2, rfl, g1.bx', by decide, fun r H2 r0 r2 g2 => ?_⟩
      obtain ⟨r, rfl⟩ := nat_of r0
      walk_at "rt"
      refine ⟨b, _, rfl, g2.bx', by split <;> omega, fun t H3 t0 tm g3 => ?_⟩
      obtain ⟨t, rfl⟩ := nat_of t0
      have t1 : t < 3 ∧ t < n := by split at tm <;> omega
      walk_at "rt"
      refine ⟨b, 1 + r, 1 + t, rfl, g3.bx', by omega, by omega, fun v rs H4 g4 hv hrs => ?_⟩
      walk_at "rt"
      refine ⟨b, 1 + r, rfl, g4.bx', by omega, fun v2 ws H5 g5 hv2 hws => ?_⟩
      walk_at "rt"
      refine ⟨b, 3, rfl, g5.bx', by decide, fun u H6 u0 u3 g6 => ?_⟩
      obtain ⟨u, rfl⟩ := nat_of u0
      walk_at "rt"
      refine tup_s rfl fun p hp => ?_
      have tk := g6.tk.trans (TK.new hp (.tup [.str "conv", v, v2, .int (1 + (u : Int))]))
      have ke := ksz_eq hrs (by omega)
      refine q _ (.conv rs ws (1 + u)) _ (((((g1.trans g2).trans g3).trans g4).trans (g5.trans g6)).mk_new _ hp) ⟨v, v2, Tup.new, hv.mono (g5.tk.trans tk), hv2.mono tk⟩ ⟨by rw [hws.1]; omega, by rw [hws.1]; omega, by rw [ke]; omega, by rw [ke]; omega, by rw [ke]; omega, by rw [ke, hws.1]; exact hrs, hws.2, by omega, by omega⟩ ?_
      show 1 + ws.length ≤ 5
      rw [hws.1]
      omega
  · -- dense
    rcases kk with rfl | rfl
    all_goals
      walk_at "rt"
      refine ⟨b, 4, rfl, g1.bx', by decide, fun r H2 r0 r2 g2 => ?_⟩
      obtain ⟨r, rfl⟩ := nat_of r0
      walk_at "rt"
      refine ⟨b, 1 + r, n, rfl, g2.bx', by omega, by omega, fun v rs H4 g4 hv hrs => ?_⟩
      walk_at "rt"
      refine ⟨b, 1 + r, rfl, g4.bx', by omega, fun v2 ws H5 g5 hv2 hws => ?_⟩
      walk_at "rt"
      refine tup_s rfl fun p hp => ?_
      have tk := TK.new hp (.tup [.str "dense", v, v2])
      refine q _ (.dense rs ws) _ ((((g1.trans g2).trans g4).trans g5).mk_new _ hp) ⟨v, v2, Tup.new, hv.mono (g5.tk.trans tk), hv2.mono tk⟩ ⟨by rw [hws.1]; omega, by rw [hws.1]; omega, by rw [hws.1]; exact hrs, hws.2⟩ ?_
      show 1 + ws.length ≤ 5
      rw [hws.1]
      omega
end
end Wh

namespace Wh
theorem r_catA {K : PySem.W.Frag} {H : Hp} {Q : VK} {a b : Addr} {xs ys : List V} (ha : H a = some (.tup xs)) (hb : H b = some (.tup ys)) (l : xs.length + ys.length ≤ 1000)
    (q : ∀ (p : Addr) (H2 : Hp), H2 p = some (.tup (xs ++ ys)) → (H2 = H ∨ (H p = none ∧ H2 = upd H p (.tup (xs ++ ys)))) → Q (.ref p) H2) : rCatA K (.ref a) (.ref b) H Q := by
  refine ⟨a, b, xs, ys, rfl, rfl, SqT.of ha, SqT.of hb, Nat.le_of_lt (small1000 l), fun e => ?_, fun _ e => ?_, fun _ _ p hp => q p _ upd_same (.inr ⟨hp, rfl⟩)⟩
  · subst e
    exact q b H hb (.inl rfl)
  · subst e
    exact q a H (by rw [List.append_nil]; exact ha) (.inl rfl)
theorem Gn.cat {b : Addr} {H H1 H2 : Hp} {p : Addr} {o : HO} (h : Gn b H H1) (c : H2 = H1 ∨ (H1 p = none ∧ H2 = upd H1 p o)) : Gn b H H2 := by
  rcases c with rfl | ⟨n, rfl⟩
  · exact h
  · exact h.mk_new o n
theorem TK.cat {H1 H2 : Hp} {p : Addr} {o : HO} (c : H2 = H1 ∨ (H1 p = none ∧ H2 = upd H1 p o)) : TK H1 H2 := by
  rcases c with rfl | ⟨n, rfl⟩
  · exact TK.refl _
  · exact TK.new n o
def pnl (ls : List PL) : Nat := (ls.map PL.nl).sum
theorem pnl_app (ls : List PL) (l : PL) : pnl (ls ++ [l]) = pnl ls + l.nl := by
  unfold pnl
  rw [List.map_append, List.sum_append]
  rfl
def LL.nl : LL → Nat
  | .p l => l.nl
  | .sm a b => 3 + pnl a + pnl b
  | .fk a b => 3 + pnl a + pnl b
def sp_pls : Sp := fun vs H Q _ => ∃ (b : Addr) (n m : Nat), vs = [.ref b, .int n, .int m] ∧ Bx H b ∧ 1 ≤ n ∧ n ≤ 16 ∧ m ≤ 2 ∧
  ∀ (v : V) (ls : List PL) (H' : Hp), Gn b H H' → PLs H' v ls → pwf n ls → psm n ls → ls.length ≤ 2 → pnl ls ≤ 10 → Q v H'
section
variable {P : Program} {w : World} {K : PySem.W.Frag} {mg : Str → Option Value} {base : Heap} {C W M f : Addr} {fd : FuncData}
theorem ok_plain_layers (F : Fun K "_law_plain_layers" "_law_plain_layers" s_law_plain_layers f fd) (T : Tx K w mg C W M) (G_law_plain_layer : Cl P w K mg base 6 "_law_plain_layer" P_law_plain_layer sp_pl)
    (G_law_gives : Cl P w K mg base 2 "_law_gives" P_law_gives (sp_lgives 2)) : FnOk P w K mg base CX0 7 f fd P_law_plain_layers sp_pls := by
  refine F.ok sc_law_plain_layers (fun vs H Q E h => ?_) (fun cdv A outer s H vs Q E hr h => ?_)
  · obtain ⟨b, n, m, rfl, _⟩ := h
    rfl
  obtain ⟨b, n, m, rfl, hb, hn1, hn2, hm, q⟩ := h
  refine ⟨_, (pss_cons (ps_set (i := 3) sc_law_plain_layers.nd rfl (Or.inl rfl) (pe_tup pa_nil))
      (pss_cons (ps_for PassesOwn.never rfl (pi_range1 rfl T.f_range (pa_cons (pv 2) pa_nil)) (pg_name (i := 4) sc_law_plain_layers.nd rfl (Or.inl rfl))
        (pss_cons (ps_set (i := 5) sc_law_plain_layers.nd rfl (Or.inl rfl) (pcl G_law_plain_layer hr (pa_cons (pv 0) (pa_cons (pcl G_law_gives hr (pa_cons (pv 3) (pa_cons (pv 1) pa_nil))) pa_nil))))
        (pss_cons (ps_if (pt_cmpR op_gt (pcl G_law_gives hr (pa_cons (pe_op op_catA (pv 3) (pe_tup (pa_cons (pv 5) pa_nil))) (pa_cons (pv 1) pa_nil))) pe_int (nomark _))
          (pss_one (ps_set (i := 5) sc_law_plain_layers.nd rfl (Or.inl rfl) (pe_tup (pa_cons pe_str pa_nil))))
          pss_nil)
        (pss_one (ps_set (i := 3) sc_law_plain_layers.nd rfl (Or.inl rfl) (pe_op op_catA (pv 3) (pe_tup (pa_cons (pv 5) pa_nil))))))))
      (pss_one (ps_ret (pv 3))))), ?_⟩
  walk_at "rt"
  refine tup_s rfl fun p hp => ?_
  walk_at "rt"
  refine ⟨by omega, by omega, f_rng (fun i σ H' => ∃ (v : V) (ls : List PL) (o1 o2 : Option V), σ = [some (.ref b), some (.int n), some (.int m), some v, o1, o2] ∧ Gn b H H' ∧ PLs H' v ls ∧ pwf n ls ∧ psm n ls ∧ ls.length = i ∧ pnl ls ≤ 5 * i)
    ⟨_, [], none, none, rfl, Gn.new hb _ hp, ⟨[], Tup.new, trivial⟩, trivial, ⟨hn1, hn2⟩, rfl, Nat.le_refl _⟩ ?_ ?_⟩
  · rintro i σ H1 hi ⟨v, ls, o1, o2, rfl, g, hv, hw, hsm, hl, hnl⟩
    have e16 := psm_end hsm
    walk_at "rt"
    refine ⟨v, n, ls.map LL.p, rfl, hv.lls, lwf_map.mpr hw, lev_map 2 (by decide) ls, ?_⟩
    walk_at "rt"
    rw [lgives_map]
    refine ⟨b, pgives n ls, rfl, g.bx', e16.1, e16.2, fun lv l H2 g2 hlv hlw hl5 => ?_⟩
    walk_at "rt"
    refine tup_s rfl fun p2 hp2 => ?_
    have hv2 := hv.mono (g2.tk.trans (TK.new hp2 (.tup [lv])))
    obtain ⟨xs, ⟨a, rfl, ha⟩, hxs⟩ := hv2
    have hlv2 := hlv.mono (TK.new hp2 (.tup [lv]))
    refine r_catA ha upd_same (by rw [hxs.len, hl]; show i + 1 ≤ 1000; omega) fun p3 H3 hp3 c3 => ?_
    walk_at "rt"
    have tk3 := TK.cat c3
    have g3 := ((g.trans g2).mk_new (.tup [lv]) hp2).cat c3
    have hcat : PLs H3 (.ref p3) (ls ++ [l]) := ⟨xs ++ [lv], ⟨p3, rfl, hp3⟩, (AllP.mono (fun _ _ z => PLAt.mono tk3 z) hxs).app ⟨hlv2.mono tk3, trivial⟩⟩
    refine ⟨.ref p3, n, (ls ++ [l]).map LL.p, rfl, hcat.lls, lwf_map.mpr (pwf_app hw hlw), lev_map 2 (by decide) _, ?_⟩
    walk_at "rt"
    rw [lgives_map, pgives_app]
    have ha3 := tk3 a xs ha
    have gp := PL.gives_pos e16 hlw
    -- what is put: the layer, or relu
    refine ite2 (fun c => ?_) (fun c => ?_)
    · walk_at "rt"
      refine tup_s rfl fun p4 hp4 => ?_
      have g4 := g3.mk_new (.tup [.str "relu"]) hp4
      walk_at "rt"
      refine tup_s rfl fun p5 hp5 => ?_
      have tk5 := (TK.new hp4 (.tup [.str "relu"])).trans (TK.new hp5 (.tup [.ref p4]))
      refine r_catA (tk5 _ _ ha3) upd_same (by rw [hxs.len, hl]; show i + 1 ≤ 1000; omega) fun p6 H6 hp6 c6 => ?_
      walk_at "rt"
      have tk6 := TK.cat c6
      refine ⟨_, ls ++ [.relu], _, _, rfl, (g4.mk_new _ hp5).cat c6, ⟨xs ++ [.ref p4], ⟨p6, rfl, hp6⟩, (AllP.mono (fun _ _ z => PLAt.mono ((tk3.trans tk5).trans tk6) z) hxs).app ⟨?_, trivial⟩⟩, pwf_app (l := .relu) hw trivial, psm_app (l := .relu) hsm e16, by rw [List.length_append, hl]; rfl, ?_⟩
      · exact Tup.mono ((TK.new hp5 (.tup [.ref p4])).trans tk6) Tup.new
      · rw [pnl_app]
        show pnl ls + 1 ≤ 5 * (i + 1)
        omega
    · have c1 : l.gives (pgives n ls) ≤ 16 := by
        have c2 := of_decide_eq_false (Bool.eq_false_iff.mpr c)
        omega
      walk_at "rt"
      refine tup_s rfl fun p5 hp5 => ?_
      have tk5 := TK.new hp5 (.tup [lv])
      refine r_catA (tk5 _ _ ha3) upd_same (by rw [hxs.len, hl]; show i + 1 ≤ 1000; omega) fun p6 H6 hp6 c6 => ?_
      walk_at "rt"
      have tk6 := TK.cat c6
      refine ⟨_, ls ++ [l], _, _, rfl, (g3.mk_new _ hp5).cat c6, ⟨xs ++ [lv], ⟨p6, rfl, hp6⟩, (AllP.mono (fun _ _ z => PLAt.mono ((tk3.trans tk5).trans tk6) z) hxs).app ⟨?_, trivial⟩⟩, pwf_app hw hlw, psm_app hsm ⟨gp.1, c1⟩, by rw [List.length_append, hl]; rfl, ?_⟩
      · exact hlv2.mono ((tk3.trans tk5).trans tk6)
      · rw [pnl_app]
        omega
  · rintro σ H1 ⟨v, ls, o1, o2, rfl, g, hv, hw, hsm, hl, hnl⟩
    rw [show (m : Int).toNat = m from rfl] at hl hnl
    walk_at "rt"
    exact q v ls H1 g hv hw hsm (by omega) (by omega)
/-- branches are short -/
def LL.few : LL → Prop
  | .p _ => True
  | .sm a b => a.length ≤ 2 ∧ b.length ≤ 2
  | .fk a b => a.length ≤ 2 ∧ b.length ≤ 2
def sp_layer : Sp := fun vs H Q _ => ∃ (b : Addr) (n : Nat), vs = [.ref b, .int n] ∧ Bx H b ∧ 1 ≤ n ∧ n ≤ 16 ∧ ∀ (v : V) (l : LL) (H' : Hp), Gn b H H' → LLAt H' v l → l.wf n → l.nl ≤ 30 → l.few → Q v H'
theorem ok_layer (F : Fun K "_law_layer" "_law_layer" s_law_layer f fd) (T : Tx K w mg C W M) (G_law_draw : Cl P w K mg base 1 "_law_draw" P_law_draw sp_draw) (G_law_plain_layer : Cl P w K mg base 6 "_law_plain_layer" P_law_plain_layer sp_pl)
    (G_law_plain_layers : Cl P w K mg base 7 "_law_plain_layers" P_law_plain_layers sp_pls) (G_law_rows : Cl P w K mg base 5 "_law_rows" P_law_rows sp_rows) (G_law_weights : Cl P w K mg base 4 "_law_weights" P_law_weights sp_weights)
    (G_law_gives : Cl P w K mg base 2 "_law_gives" P_law_gives (sp_lgives 2)) : FnOk P w K mg base CX0 8 f fd P_law_layer sp_layer := by
  refine F.ok sc_law_layer (fun vs H Q E h => ?_) (fun cdv A outer s H vs Q E hr h => ?_)
  · obtain ⟨b, n, rfl, _⟩ := h
    rfl
  obtain ⟨b, n, rfl, hb, hn1, hn2, q⟩ := h
  refine ⟨_, (pss_cons (ps_set (i := 2) sc_law_layer.nd rfl (Or.inl rfl) (pcl G_law_draw hr (pa_cons (pv 0) (pa_cons pe_int pa_nil))))
      (pss_cons (ps_if (pt_cmpR op_gt (pv 2) pe_int (nomark _))
        (pss_one (ps_ret (pcl G_law_plain_layer hr (pa_cons (pv 0) (pa_cons (pv 1) pa_nil)))))
        pss_nil)
      (pss_cons (ps_set (i := 3) sc_law_layer.nd rfl (Or.inl rfl) (pcl G_law_plain_layers hr (pa_cons (pv 0) (pa_cons (pv 1) (pa_cons (pcl G_law_draw hr (pa_cons (pv 0) (pa_cons pe_int pa_nil))) pa_nil)))))
      (pss_cons (ps_set (i := 4) sc_law_layer.nd rfl (Or.inl rfl) (pcl G_law_plain_layers hr (pa_cons (pv 0) (pa_cons (pv 1) (pa_cons (pcl G_law_draw hr (pa_cons (pv 0) (pa_cons pe_int pa_nil))) pa_nil)))))
      (pss_cons (ps_if (pt_cmpR op_eq (pv 2) pe_int (nomark _))
        (pss_one (ps_ret (pe_tup (pa_cons pe_str (pa_cons (pv 3) (pa_cons (pv 4) pa_nil))))))
        pss_nil)
      (pss_cons (ps_set (i := 5) sc_law_layer.nd rfl (Or.inl rfl) (pcl G_law_gives hr (pa_cons (pv 3) (pa_cons (pv 1) pa_nil))))
      (pss_cons (ps_if (pt_cmpR op_ne (pcl G_law_gives hr (pa_cons (pv 4) (pa_cons (pv 1) pa_nil))) (pv 5) (nomark _))
        (pss_cons (ps_set (i := 4) sc_law_layer.nd rfl (Or.inl rfl) (pe_tup (pa_cons pe_str (pa_cons (pcl G_law_rows hr (pa_cons (pv 0) (pa_cons (pe_callB (call_min2 rfl) rfl T.f_min (by decide +kernel) (pa_cons (pv 5) (pa_cons pe_int pa_nil))) (pa_cons (pv 1) pa_nil)))) (pa_cons (pcl G_law_weights hr (pa_cons (pv 0) (pa_cons (pe_callB (call_min2 rfl) rfl T.f_min (by decide +kernel) (pa_cons (pv 5) (pa_cons pe_int pa_nil))) pa_nil))) pa_nil)))))
        (pss_one (ps_set (i := 4) sc_law_layer.nd rfl (Or.inl rfl) (pe_tup (pa_cons (pv 4) pa_nil)))))
        pss_nil)
      (pss_cons (ps_if (pt_cmpR op_ne (pcl G_law_gives hr (pa_cons (pv 4) (pa_cons (pv 1) pa_nil))) (pv 5) (nomark _))
        (pss_one (ps_ret (pe_tup (pa_cons pe_str pa_nil))))
        pss_nil)
      (pss_one (ps_ret (pe_tup (pa_cons pe_str (pa_cons (pv 3) (pa_cons (pv 4) pa_nil)))))))))))))), ?_⟩
  walk_at "rt"
  refine ⟨b, 8, rfl, hb, by decide, fun k H1 k0 k8 g1 => ?_⟩
  walk_at "rt"
  refine ite2 (fun c => ?_) (fun c => ?_)
  · walk_at "rt"
    refine ⟨b, n, rfl, g1.bx', hn1, hn2, fun v l H2 g2 hv hw hl => ?_⟩
    walk_at "rt"
    exact q v (.p l) H2 (g1.trans g2) hv hw (Nat.le_trans hl (by decide)) trivial
  walk_at "rt"
  refine ⟨b, 3, rfl, g1.bx', by decide, fun r H2 r0 r3 g2 => ?_⟩
  obtain ⟨r, rfl⟩ := nat_of r0
  walk_at "rt"
  refine ⟨b, n, r, rfl, g2.bx', hn1, hn2, by omega, fun va as H3 g3 hva wa sa la na => ?_⟩
  walk_at "rt"
  refine ⟨b, 3, rfl, g3.bx', by decide, fun r2 H4 r20 r23 g4 => ?_⟩
  obtain ⟨r2, rfl⟩ := nat_of r20
  walk_at "rt"
  refine ⟨b, n, r2, rfl, g4.bx', hn1, hn2, by omega, fun vb bs H5 g5 hvb wb sb lb nb => ?_⟩
  walk_at "rt"
  have g := (((g1.trans g2).trans g3).trans g4).trans g5
  have hva5 := hva.mono (g4.tk.trans g5.tk)
  refine ite2 (fun c2 => ?_) (fun c2 => ?_)
  · walk_at "rt"
    refine tup_s rfl fun p hp => ?_
    have tk := TK.new hp (.tup [.str "fork", va, vb])
    refine q _ (.fk as bs) _ (g.mk_new _ hp) ⟨va, vb, Tup.new, hva5.mono tk, hvb.mono tk⟩ ⟨⟨wa, sa⟩, ⟨wb, sb⟩⟩ ?_ ⟨by omega, by omega⟩
    show 3 + pnl as + pnl bs ≤ 30
    omega
  walk_at "rt"
  refine ⟨va, n, as.map LL.p, rfl, hva5.lls, lwf_map.mpr wa, lev_map 2 (by decide) _, ?_⟩
  walk_at "rt"
  refine ⟨vb, n, bs.map LL.p, rfl, hvb.lls, lwf_map.mpr wb, lev_map 2 (by decide) _, ?_⟩
  walk_at "rt"
  rw [lgives_map, lgives_map]
  have ea := psm_end sa
  refine ite2 (fun c3 => ?_) (fun c3 => ?_)
  · have em : (if (16 : Int) < (pgives n as : Int) then (16 : Int) else (pgives n as : Int)) = (pgives n as : Int) := if_neg (by omega)
    walk_at "rt"
    rw [em]
    refine ⟨b, pgives n as, n, rfl, g.bx', ea.2, hn2, fun v rs H6 g6 hv hrs => ?_⟩
    walk_at "rt"
    rw [em]
    refine ⟨b, pgives n as, rfl, g6.bx', ea.2, fun v2 ws H7 g7 hv2 hws => ?_⟩
    walk_at "rt"
    refine tup_s rfl fun p hp => ?_
    walk_at "rt"
    refine tup_s rfl fun p2 hp2 => ?_
    walk_at "rt"
    have t1 := TK.new hp (.tup [.str "dense", v, v2])
    have t2 := TK.new hp2 (.tup [.ref p])
    have hd : PLAt (upd (upd H7 p (.tup [.str "dense", v, v2])) p2 (.tup [.ref p])) (.ref p) (.dense rs ws) := ⟨v, v2, Tup.new.mono t2, hv.mono (g7.tk.trans (t1.trans t2)), hv2.mono (t1.trans t2)⟩
    have wd : PL.wf n (.dense rs ws) := ⟨by rw [hws.1]; exact ea.1, by rw [hws.1]; exact ea.2, by rw [hws.1]; exact hrs, hws.2⟩
    have gd : PL.gives n (.dense rs ws) = pgives n as := hws.1
    have hbs : PLs (upd (upd H7 p (.tup [.str "dense", v, v2])) p2 (.tup [.ref p])) (.ref p2) [.dense rs ws] := ⟨[.ref p], Tup.new, hd, trivial⟩
    refine ⟨.ref p2, n, [PL.dense rs ws].map LL.p, rfl, hbs.lls, lwf_map.mpr ⟨wd, trivial⟩, lev_map 2 (by decide) _, ?_⟩
    walk_at "rt"
    rw [lgives_map]
    have e2 : pgives n [.dense rs ws] = pgives n as := gd
    rw [e2]
    refine itN (by simp) ?_
    walk_at "rt"
    refine tup_s rfl fun p3 hp3 => ?_
    have t3 := TK.new hp3 (.tup [.str "sum", va, .ref p2])
    refine q _ (.sm as [.dense rs ws]) _ ((((g.trans (g6.trans g7)).mk_new _ hp).mk_new _ hp2).mk_new _ hp3) ⟨va, .ref p2, Tup.new, hva5.mono ((g6.tk.trans g7.tk).trans ((t1.trans t2).trans t3)), hbs.mono t3⟩ ⟨⟨wa, sa⟩, ⟨⟨wd, trivial⟩, ⟨hn1, hn2⟩, by rw [gd]; exact ea⟩, e2.symm⟩ ?_ ⟨by omega, by show 1 ≤ 2; omega⟩
    show 3 + pnl as + (1 + ws.length + 0) ≤ 30
    rw [hws.1]
    omega
  · have e2 : pgives n bs = pgives n as := by
      have c4 := Bool.eq_false_iff.mpr c3
      have c5 : decide (V.int (pgives n bs : Int) = V.int (pgives n as : Int)) = true := by
        cases z : decide (V.int (pgives n bs : Int) = V.int (pgives n as : Int)) with
        | true => rfl
        | false => rw [z] at c4; cases c4
      have c6 := V.int.inj (of_decide_eq_true c5)
      omega
    walk_at "rt"
    refine ⟨vb, n, bs.map LL.p, rfl, hvb.lls, lwf_map.mpr wb, lev_map 2 (by decide) _, ?_⟩
    walk_at "rt"
    rw [lgives_map, e2]
    refine itN (by simp) ?_
    walk_at "rt"
    refine tup_s rfl fun p hp => ?_
    have tk := TK.new hp (.tup [.str "sum", va, vb])
    refine q _ (.sm as bs) _ (g.mk_new _ hp) ⟨va, vb, Tup.new, hva5.mono tk, hvb.mono tk⟩ ⟨⟨wa, sa⟩, ⟨wb, sb⟩, e2.symm⟩ ?_ ⟨by omega, by omega⟩
    show 3 + pnl as + pnl bs ≤ 30
    omega
end
end Wh

namespace Wh
structure NetOk (n : Nat) (ls : List LL) : Prop where
  n1 : 1 ≤ n
  n4 : n ≤ 4
  wf : lwf n ls
  sm : lsm n ls
  len : ls.length ≤ 4
  nl : ∀ l ∈ ls, l.nl ≤ 30
  few : ∀ l ∈ ls, l.few
def NetAt (H : Hp) (v : V) (n : Nat) (ls : List LL) : Prop := ∃ x, Tup H v [.str "net", .int n, x] ∧ LLs H x ls
theorem NetAt.mono {H H' : Hp} {v : V} {n : Nat} {ls : List LL} (k : TK H H') (h : NetAt H v n ls) : NetAt H' v n ls := let ⟨x, t, l⟩ := h; ⟨x, t.mono k, l.mono k⟩
def sp_net : Sp := fun vs H Q _ => ∃ b : Addr, vs = [.ref b] ∧ Bx H b ∧ ∀ (v : V) (n : Nat) (ls : List LL) (H' : Hp), Gn b H H' → NetAt H' v n ls → NetOk n ls → Q v H'
section
variable {P : Program} {w : World} {K : PySem.W.Frag} {mg : Str → Option Value} {base : Heap} {C W M f : Addr} {fd : FuncData}
theorem ok_net (F : Fun K "_law_net" "_law_net" s_law_net f fd) (T : Tx K w mg C W M) (G_law_draw : Cl P w K mg base 1 "_law_draw" P_law_draw sp_draw) (G_law_layer : Cl P w K mg base 8 "_law_layer" P_law_layer sp_layer)
    (G_law_gives : Cl P w K mg base 2 "_law_gives" P_law_gives (sp_lgives 2)) : FnOk P w K mg base CX0 9 f fd P_law_net sp_net := by
  refine F.ok sc_law_net (fun vs H Q E h => ?_) (fun cdv A outer s H vs Q E hr h => ?_)
  · obtain ⟨b, rfl, _⟩ := h
    rfl
  obtain ⟨b, rfl, hb, q⟩ := h
  refine ⟨_, (pss_cons (ps_set (i := 1) sc_law_net.nd rfl (Or.inl rfl) (pe_op op_add pe_int (pcl G_law_draw hr (pa_cons (pv 0) (pa_cons pe_int pa_nil)))))
      (pss_cons (ps_set (i := 2) sc_law_net.nd rfl (Or.inl rfl) (pe_tup pa_nil))
      (pss_cons (ps_for PassesOwn.never rfl (pi_range1 rfl T.f_range (pa_cons (pcl G_law_draw hr (pa_cons (pv 0) (pa_cons pe_int pa_nil))) pa_nil)) (pg_name (i := 3) sc_law_net.nd rfl (Or.inl rfl))
        (pss_cons (ps_set (i := 4) sc_law_net.nd rfl (Or.inl rfl) (pcl G_law_layer hr (pa_cons (pv 0) (pa_cons (pcl G_law_gives hr (pa_cons (pv 2) (pa_cons (pv 1) pa_nil))) pa_nil))))
        (pss_cons (ps_if (pt_cmpR op_gt (pcl G_law_gives hr (pa_cons (pe_op op_catA (pv 2) (pe_tup (pa_cons (pv 4) pa_nil))) (pa_cons (pv 1) pa_nil))) pe_int (nomark _))
          (pss_one (ps_set (i := 4) sc_law_net.nd rfl (Or.inl rfl) (pe_tup (pa_cons pe_str pa_nil))))
          pss_nil)
        (pss_one (ps_set (i := 2) sc_law_net.nd rfl (Or.inl rfl) (pe_op op_catA (pv 2) (pe_tup (pa_cons (pv 4) pa_nil))))))))
      (pss_one (ps_ret (pe_tup (pa_cons pe_str (pa_cons (pv 1) (pa_cons (pv 2) pa_nil))))))))), ?_⟩
  walk_at "rt"
  refine ⟨b, 4, rfl, hb, by decide, fun r H1 r0 r4 g1 => ?_⟩
  obtain ⟨r, rfl⟩ := nat_of r0
  walk_at "rt"
  refine tup_s rfl fun p hp => ?_
  walk_at "rt"
  have gp := g1.mk_new (.tup []) hp
  refine ⟨b, 5, rfl, gp.bx', by decide, fun m H2 m0 m5 g2 => ?_⟩
  obtain ⟨m, rfl⟩ := nat_of m0
  walk_at "rt"
  have hn1 : 1 ≤ 1 + r := by omega
  have hn2 : 1 + r ≤ 16 := by omega
  refine ⟨by omega, by omega, f_rng (fun i σ H' => ∃ (v : V) (ls : List LL) (o1 o2 : Option V), σ = [some (.ref b), some (.int ((1 + r : Nat) : Int)), some v, o1, o2] ∧ Gn b H H' ∧ LLs H' v ls ∧ lwf (1 + r) ls ∧ lsm (1 + r) ls ∧ ls.length = i ∧ (∀ l ∈ ls, l.nl ≤ 30) ∧ ∀ l ∈ ls, l.few)
    ⟨_, [], none, none, rfl, gp.trans g2, ⟨[], Tup.mono g2.tk Tup.new, trivial⟩, trivial, ⟨hn1, hn2⟩, rfl, (fun _ z => nomatch z), (fun _ z => nomatch z)⟩ ?_ ?_⟩
  · rintro i σ H1 hi ⟨v, ls, o1, o2, rfl, g, hv, hw, hsm, hl, hnl, hfw⟩
    have e16 := lsm_end hsm
    walk_at "rt"
    refine ⟨v, 1 + r, ls, rfl, hv, hw, ⟨by decide, .inl (by decide)⟩, ?_⟩
    walk_at "rt"
    refine ⟨b, lgives (1 + r) ls, rfl, g.bx', e16.1, e16.2, fun lv l H2 g2 hlv hlw hl30 hfl => ?_⟩
    walk_at "rt"
    refine tup_s rfl fun p2 hp2 => ?_
    have hv2 := hv.mono (g2.tk.trans (TK.new hp2 (.tup [lv])))
    obtain ⟨xs, ⟨a, rfl, ha⟩, hxs⟩ := hv2
    have hlv2 := hlv.mono (TK.new hp2 (.tup [lv]))
    refine r_catA ha upd_same (by rw [hxs.len, hl]; show i + 1 ≤ 1000; omega) fun p3 H3 hp3 c3 => ?_
    walk_at "rt"
    have tk3 := TK.cat c3
    have g3 := ((g.trans g2).mk_new (.tup [lv]) hp2).cat c3
    have hcat : LLs H3 (.ref p3) (ls ++ [l]) := ⟨xs ++ [lv], ⟨p3, rfl, hp3⟩, (AllP.mono (fun _ _ z => LLAt.mono tk3 z) hxs).app ⟨hlv2.mono tk3, trivial⟩⟩
    refine ⟨.ref p3, 1 + r, ls ++ [l], rfl, hcat, lwf_app hw hlw, ⟨by decide, .inl (by decide)⟩, ?_⟩
    walk_at "rt"
    rw [lgives_app]
    have ha3 := tk3 a xs ha
    have gpos := LL.gives_pos e16 hlw
    refine ite2 (fun c => ?_) (fun c => ?_)
    · walk_at "rt"
      refine tup_s rfl fun p4 hp4 => ?_
      have g4 := g3.mk_new (.tup [.str "relu"]) hp4
      walk_at "rt"
      refine tup_s rfl fun p5 hp5 => ?_
      have tk5 := (TK.new hp4 (.tup [.str "relu"])).trans (TK.new hp5 (.tup [.ref p4]))
      refine r_catA (tk5 _ _ ha3) upd_same (by rw [hxs.len, hl]; show i + 1 ≤ 1000; omega) fun p6 H6 hp6 c6 => ?_
      walk_at "rt"
      have tk6 := TK.cat c6
      refine ⟨_, ls ++ [.p .relu], _, _, rfl, (g4.mk_new _ hp5).cat c6, ⟨xs ++ [.ref p4], ⟨p6, rfl, hp6⟩, (AllP.mono (fun _ _ z => LLAt.mono ((tk3.trans tk5).trans tk6) z) hxs).app ⟨?_, trivial⟩⟩, lwf_app (l := .p .relu) hw trivial, lsm_app (l := .p .relu) hsm e16, by rw [List.length_append, hl]; rfl, fun y hy => ?_, fun y hy => ?_⟩
      · exact Tup.mono ((TK.new hp5 (.tup [.ref p4])).trans tk6) Tup.new
      · rcases List.mem_append.mp hy with hy | hy
        · exact hnl y hy
        · rw [List.mem_singleton] at hy
          rw [hy]
          decide
      · rcases List.mem_append.mp hy with hy | hy
        · exact hfw y hy
        · rw [List.mem_singleton] at hy
          rw [hy]
          trivial
    · have c1 : l.gives (lgives (1 + r) ls) ≤ 16 := by
        have c2 := of_decide_eq_false (Bool.eq_false_iff.mpr c)
        omega
      walk_at "rt"
      refine tup_s rfl fun p5 hp5 => ?_
      have tk5 := TK.new hp5 (.tup [lv])
      refine r_catA (tk5 _ _ ha3) upd_same (by rw [hxs.len, hl]; show i + 1 ≤ 1000; omega) fun p6 H6 hp6 c6 => ?_
      walk_at "rt"
      have tk6 := TK.cat c6
      refine ⟨_, ls ++ [l], _, _, rfl, (g3.mk_new _ hp5).cat c6, ⟨xs ++ [lv], ⟨p6, rfl, hp6⟩, (AllP.mono (fun _ _ z => LLAt.mono ((tk3.trans tk5).trans tk6) z) hxs).app ⟨?_, trivial⟩⟩, lwf_app hw hlw, lsm_app hsm ⟨gpos.1, c1⟩, by rw [List.length_append, hl]; rfl, fun y hy => ?_, fun y hy => ?_⟩
      · exact hlv2.mono ((tk3.trans tk5).trans tk6)
      · rcases List.mem_append.mp hy with hy | hy
        · exact hnl y hy
        · rw [List.mem_singleton] at hy
          rw [hy]
          exact hl30
      · rcases List.mem_append.mp hy with hy | hy
        · exact hfw y hy
        · rw [List.mem_singleton] at hy
          rw [hy]
          exact hfl
  · rintro σ H1 ⟨v, ls, o1, o2, rfl, g, hv, hw, hsm, hl, hnl, hfw⟩
    rw [show (m : Int).toNat = m from rfl] at hl
    walk_at "rt"
    refine tup_s rfl fun p9 hp9 => ?_
    exact q _ (1 + r) ls _ (g.mk_new _ hp9) ⟨v, Tup.new, hv.mono (TK.new hp9 _)⟩ ⟨hn1, by omega, hw, hsm, by omega, hnl, hfw⟩
end
end Wh

/-! Texts: words, lines, what loosening leaves. -/
namespace Wh
open TL
/-! ### cut at blanks -/
def sk (l : List Nat) : List (List Nat) := spl [32] 0 [] l
theorem pre1 (c : Nat) (r : List Nat) : pre [32] (c :: r) = decide (c = 32) := by
  show ((c :: r).take 1 == [32]) = decide (c = 32)
  rw [List.take_succ_cons, List.take_zero]
  by_cases h : c = 32
  · subst h
    rw [decide_eq_true rfl] <;> rfl
  · rw [decide_eq_false h]
    exact beq_eq_false_iff_ne.mpr fun e => h (List.cons.inj e).1
theorem sk_app_acc : ∀ (a acc r : List Nat), spl [32] 0 acc (a ++ 32 :: r) = spl [32] 0 acc a ++ sk r
  | [], acc, r => by
    rw [List.nil_append, spl_hit (by rw [pre1] <;> rfl), spl_nil]
    rfl
  | c :: a, acc, r => by
    by_cases h : c = 32
    · subst h
      rw [List.cons_append, spl_hit (by rw [pre1] <;> rfl), spl_hit (by rw [pre1] <;> rfl)]
      show acc :: spl [32] 0 [] (a ++ 32 :: r) = acc :: spl [32] 0 [] a ++ sk r
      rw [sk_app_acc a [] r]
      rfl
    · rw [List.cons_append, spl_miss (by rw [pre1]; exact decide_eq_false h), spl_miss (by rw [pre1]; exact decide_eq_false h)]
      exact sk_app_acc a (acc ++ [c]) r
theorem sk_app (a r : List Nat) : sk (a ++ 32 :: r) = sk a ++ sk r := sk_app_acc a [] r
theorem sk_one {p : List Nat} (h : 32 ∉ p) : sk p = [p] := spl_last1 (S := []) h
theorem sk_rep : ∀ m : Nat, sk (List.replicate m 32) = List.replicate (m + 1) []
  | 0 => rfl
  | m + 1 => by
    have e : List.replicate (m + 1) 32 = ([] : List Nat) ++ 32 :: List.replicate m 32 := rfl
    rw [e, sk_app, sk_rep m]
    rfl
/-! ### the words of a line: up to a remark, the empty ones left out -/
def nohash (w : List Nat) : Bool := !(w.take 1 == [35])
def full (w : List Nat) : Bool := !w.isEmpty
def wo (t : List Nat) : List (List Nat) := ((sk t).takeWhile nohash).filter full
def nh (t : List Nat) : Prop := ∀ w ∈ sk t, nohash w = true
def nz (t : List Nat) : List (List Nat) := (sk t).filter full
theorem tw_all {l m : List (List Nat)} (h : ∀ w ∈ l, nohash w = true) : (l ++ m).takeWhile nohash = l ++ m.takeWhile nohash := List.takeWhile_append_of_pos h
theorem wo_nz {t : List Nat} (h : nh t) : wo t = nz t := by
  unfold wo nz
  have e := tw_all (m := []) h
  rw [List.append_nil] at e
  rw [e, List.takeWhile_nil, List.append_nil]
theorem wo_app {a r : List Nat} (h : nh a) : wo (a ++ 32 :: r) = nz a ++ wo r := by
  unfold wo nz
  rw [sk_app, tw_all h, List.filter_append]
theorem nz_rep (m : Nat) : nz (List.replicate m 32) = [] := by
  unfold nz
  rw [sk_rep]
  refine List.filter_eq_nil_iff.mpr fun w hw => ?_
  rw [(List.mem_replicate.mp hw).2]
  decide
theorem nh_rep (m : Nat) : nh (List.replicate m 32) := fun w hw => by
  rw [sk_rep] at hw
  rw [(List.mem_replicate.mp hw).2]
  rfl
/-! ### a text that grows word by word -/
/-- t spells the words ws; it is empty or ends with a blank -/
def Bl (t : List Nat) (ws : List (List Nat)) : Prop := nh t ∧ nz t = ws ∧ (t = [] ∨ ∃ u, t = u ++ [32])
def Wd (w : List Nat) : Prop := w ≠ [] ∧ 32 ∉ w ∧ nohash w = true
theorem bl_rep (k : Nat) : Bl (List.replicate k 32) [] := by
  refine ⟨nh_rep k, nz_rep k, ?_⟩
  cases k with
  | zero => exact .inl rfl
  | succ k => exact .inr ⟨List.replicate k 32, List.replicate_succ'⟩
theorem bl_word {t w : List Nat} {ws : List (List Nat)} (h : Bl t ws) (hw : Wd w) (m : Nat) : Bl (t ++ w ++ List.replicate (m + 1) 32) (ws ++ [w]) := by
  obtain ⟨h1, h2, h3⟩ := h
  obtain ⟨w1, w2, w3⟩ := hw
  have fw : full w = true := by
    cases w with
    | nil => exact absurd rfl w1
    | cons c r => rfl
  have e : List.replicate (m + 1) 32 = 32 :: List.replicate m 32 := rfl
  have core : sk (w ++ List.replicate (m + 1) 32) = w :: sk (List.replicate m 32) := by
    rw [e, sk_app, sk_one w2]
    rfl
  have cz : nz (w ++ List.replicate (m + 1) 32) = [w] := by
    unfold nz
    rw [core, List.filter_cons, if_pos fw]
    show w :: nz (List.replicate m 32) = [w]
    rw [nz_rep]
  have ch : nh (w ++ List.replicate (m + 1) 32) := fun y hy => by
    rw [core] at hy
    rcases List.mem_cons.mp hy with hy | hy
    · rw [hy]; exact w3
    · exact nh_rep m y hy
  have last : ∃ u, t ++ w ++ List.replicate (m + 1) 32 = u ++ [32] := ⟨t ++ w ++ List.replicate m 32, by rw [List.replicate_succ', ← List.append_assoc]⟩
  rcases h3 with rfl | ⟨u, rfl⟩
  · have e0 : ws = [] := h2.symm
    rw [e0, List.nil_append, List.nil_append]
    rw [List.nil_append] at last
    exact ⟨ch, cz, .inr last⟩
  · have eu : u ++ [32] ++ w ++ List.replicate (m + 1) 32 = u ++ 32 :: (w ++ List.replicate (m + 1) 32) := by
      rw [List.append_assoc, List.append_assoc]
      rfl
    have su : sk (u ++ [32]) = sk u ++ sk [] := sk_app u []
    have nu : nz u = ws := by
      rw [← h2]
      unfold nz
      rw [su, List.filter_append]
      exact (List.append_nil _).symm
    refine ⟨?_, ?_, .inr last⟩
    · rw [eu]
      intro y hy
      rw [sk_app] at hy
      rcases List.mem_append.mp hy with hy | hy
      · exact h1 y (by rw [su]; exact List.mem_append_left _ hy)
      · exact ch y hy
    · rw [eu]
      unfold nz
      rw [sk_app, List.filter_append]
      show nz u ++ nz (w ++ List.replicate (m + 1) 32) = _
      rw [nu, cz]
/-- blanks taken off at the end -/
theorem bl_strip {t y : List Nat} {ws : List (List Nat)} {m : Nat} (h : Bl t ws) (e : t = y ++ List.replicate m 32) : nh y ∧ nz y = ws := by
  obtain ⟨h1, h2, _⟩ := h
  cases m with
  | zero =>
    rw [List.replicate_zero, List.append_nil] at e
    rw [← e]
    exact ⟨h1, h2⟩
  | succ m =>
    have s : sk t = sk y ++ sk (List.replicate m 32) := by
      rw [e]
      exact sk_app y _
    refine ⟨fun w hw => h1 w (by rw [s]; exact List.mem_append_left _ hw), ?_⟩
    rw [← h2]
    unfold nz
    rw [s, List.filter_append]
    show nz y = nz y ++ nz (List.replicate m 32)
    rw [nz_rep, List.append_nil]
/-- what may stand behind a line's words -/
def Tail (r : List Nat) : Prop := r = [] ∨ ∃ u, r = 32 :: u ∧ wo u = []
theorem wo_tail {y r : List Nat} (h : nh y) (t : Tail r) : wo (y ++ r) = nz y := by
  rcases t with rfl | ⟨u, rfl, e⟩
  · rw [List.append_nil]
    exact wo_nz h
  · rw [wo_app h, e, List.append_nil]
/-! ### the texts of the model -/
theorem tl_mulS {n : Int} (h0 : 0 ≤ n) (h1 : n ≤ 3) : tl (Txt.mul " " n) = List.replicate n.toNat 32 := by
  have h : n = 0 ∨ n = 1 ∨ n = 2 ∨ n = 3 := by omega
  rcases h with rfl | rfl | rfl | rfl
  all_goals decide +kernel
theorem tw_mem {p : Nat → Bool} : ∀ {l : List Nat} {c : Nat}, c ∈ l.takeWhile p → p c = true
  | [], _, h => nomatch h
  | a :: l, c, h => by
    rw [List.takeWhile_cons] at h
    by_cases q : p a = true
    · rw [if_pos q] at h
      rcases List.mem_cons.mp h with h | h
      · rw [h]; exact q
      · exact tw_mem h
    · rw [if_neg q] at h
      exact nomatch h
theorem tl_rstrip (x : Str) : ∃ m, tl x = tl (Txt.rstripChars x " ") ++ List.replicate m 32 := by
  unfold Txt.rstripChars Txt.stripBy
  by_cases h : stripSame (Str.cps " ").contains false true x = true
  · rw [if_pos h]
    exact ⟨0, by rw [List.replicate_zero, List.append_nil]⟩
  · rw [if_neg h]
    unfold stripped stripLo stripHi
    rw [if_neg Bool.false_ne_true, if_pos rfl, List.drop_zero]
    have el := len_tl x
    have e1 : tl (Builtin.Str.strSub x 0 (x.length - (x.cps.toList.reverse.takeWhile (Str.cps " ").contains).length)) = (tl x).take ((tl x).length - ((tl x).reverse.takeWhile (Str.cps " ").contains).length) := by
      rw [tl_strSub, List.drop_zero, Nat.sub_zero, el]
    rw [e1]
    refine ⟨((tl x).reverse.takeWhile (Str.cps " ").contains).length, ?_⟩
    have e2 : (tl x).reverse = (tl x).reverse.takeWhile (Str.cps " ").contains ++ (tl x).reverse.dropWhile (Str.cps " ").contains := (List.takeWhile_append_dropWhile).symm
    have e3 : (tl x).reverse.takeWhile (Str.cps " ").contains = List.replicate ((tl x).reverse.takeWhile (Str.cps " ").contains).length 32 := by
      refine List.eq_replicate_iff.mpr ⟨rfl, fun c hc => ?_⟩
      have h2 : (Str.cps " ").contains c = true := by
        exact tw_mem hc
      have h3 : (Str.cps " ") = #[32] := by decide +kernel
      rw [h3] at h2
      simpa using h2
    have e4 : tl x = ((tl x).reverse.dropWhile (Str.cps " ").contains).reverse ++ ((tl x).reverse.takeWhile (Str.cps " ").contains).reverse := by
      rw [← List.reverse_append, ← e2, List.reverse_reverse]
    have e5 : ((tl x).reverse.takeWhile (Str.cps " ").contains).reverse = List.replicate ((tl x).reverse.takeWhile (Str.cps " ").contains).length 32 := by
      conv => lhs; rw [e3]
      rw [List.reverse_replicate]
    rw [e5] at e4
    generalize ((tl x).reverse.takeWhile (Str.cps " ").contains).length = k at *
    generalize ((tl x).reverse.dropWhile (Str.cps " ").contains).reverse = y at *
    rw [e4, List.length_append, List.length_replicate, Nat.add_sub_cancel, List.take_left]
end Wh

/-! Lines of a net's text, their words. -/
namespace Wh
open TL
def numS (z : Int) : Str := Str.ofString (toString z)
def gc (c : Nat) : Prop := (48 ≤ c ∧ c ≤ 57) ∨ c = 45 ∨ (97 ≤ c ∧ c ≤ 122)
/-- a word of a net's text -/
def WdOk (w : Str) : Prop := tl w ≠ [] ∧ (∀ c ∈ tl w, gc c) ∧ (tl w).length ≤ 8
def Num (z : Int) : Prop := -9999999 ≤ z ∧ z ≤ 9999999
theorem tl_pos {z : Int} (h : 0 ≤ z) : tl (numS z) = numL z.toNat := by
  obtain ⟨n, rfl⟩ := Int.eq_ofNat_of_zero_le h
  exact tl_num n
theorem tl_neg {z : Int} (h : z < 0) : tl (numS z) = 45 :: numL (-z).toNat := by
  unfold numS
  rw [toString_neg h, tl_ofString, String.toList_append, List.map_append]
  have e : ((0 : Int) - z) = (((-z).toNat : Nat) : Int) := by omega
  rw [e]
  show [45] ++ (toString (((-z).toNat : Nat) : Int)).toList.map Char.toNat = _
  rw [← tl_ofString, tl_num]
  rfl
theorem numL_le {n : Nat} (h : n < 10 ^ 7) : (numL n).length ≤ 7 := numL_len (by decide) h
theorem numL_gc {n c : Nat} (h : c ∈ numL n) : gc c := .inl (numL_digits n c h)
theorem num_wd {z : Int} (h : Num z) : WdOk (numS z) := by
  by_cases hz : 0 ≤ z
  · have l := numL_le (n := z.toNat) (by have := h.2; omega)
    refine ⟨by rw [tl_pos hz]; exact numL_ne _, fun c hc => ?_, by rw [tl_pos hz]; omega⟩
    rw [tl_pos hz] at hc
    exact numL_gc hc
  · have l := numL_le (n := (-z).toNat) (by have := h.1; omega)
    refine ⟨by rw [tl_neg (by omega)]; exact List.cons_ne_nil _ _, fun c hc => ?_, by rw [tl_neg (by omega), List.length_cons]; omega⟩
    rw [tl_neg (by omega)] at hc
    rcases List.mem_cons.mp hc with hc | hc
    · exact .inr (.inl hc)
    · exact numL_gc hc
theorem WdOk.wd {w : Str} (h : WdOk w) : Wd (tl w) := by
  obtain ⟨h1, h2, _⟩ := h
  refine ⟨h1, fun hm => ?_, ?_⟩
  · have := h2 32 hm
    unfold gc at this
    omega
  · cases e : tl w with
    | nil => rfl
    | cons c r =>
      have g := h2 c (by rw [e]; exact List.mem_cons_self)
      unfold nohash
      rw [List.take_succ_cons, List.take_zero]
      have : ([c] == [35]) = false := beq_eq_false_iff_ne.mpr fun z => by
        have z2 := (List.cons.inj z).1
        rw [z2] at g
        unfold gc at g
        omega
      rw [this]
      rfl
theorem gc_dec {l : List Nat} (h : l.all (fun c => (decide (48 ≤ c) && decide (c ≤ 57)) || decide (c = 45) || (decide (97 ≤ c) && decide (c ≤ 122))) = true) : ∀ c ∈ l, gc c := fun c hc => by
  have q := List.all_eq_true.mp h c hc
  simp only [Bool.or_eq_true, Bool.and_eq_true, decide_eq_true_eq] at q
  unfold gc
  omega
theorem lit_wd {w : Str} (h1 : (tl w).isEmpty = false) (h2 : (tl w).all (fun c => (decide (48 ≤ c) && decide (c ≤ 57)) || decide (c = 45) || (decide (97 ≤ c) && decide (c ≤ 122))) = true) (h3 : Nat.ble (tl w).length 8 = true) : WdOk w :=
  ⟨fun e => (by rw [e] at h1; cases h1), gc_dec h2, Nat.le_of_ble_eq_true h3⟩
/-! ### lines -/
inductive Ln where
  | net (n : Nat)
  | dense
  | conv (s : Nat)
  | row (ws : List Int) (b : Int)
  | kernel (ws : List Int) (b : Int)
  | relu
  | clamp (lo hi : Int)
  | mx (s : Nat)
  | mean (s : Nat)
  | sum
  | fork
  | wth
  | fin
  | done
def rowW (w : Str) (ws : List Int) (b : Int) : List Str := w :: (ws.map numS ++ [("bias" : Str), numS b])
def Ln.words : Ln → List Str
  | .net n => ["net", numS n]
  | .dense => ["dense"]
  | .conv s => ["conv", numS s]
  | .row ws b => rowW "row" ws b
  | .kernel ws b => rowW "kernel" ws b
  | .relu => ["relu"]
  | .clamp lo hi => ["clamp", numS lo, numS hi]
  | .mx s => ["max", numS s]
  | .mean s => ["mean", numS s]
  | .sum => ["sum"]
  | .fork => ["fork"]
  | .wth => ["with"]
  | .fin => ["end"]
  | .done => ["done"]
def Ln.text (l : Ln) : Str := Txt.join " " l.words
/-- numbers small, rows short -/
def Ln.ok : Ln → Prop
  | .net n => n ≤ 999
  | .conv s => s ≤ 999
  | .mx s => s ≤ 999
  | .mean s => s ≤ 999
  | .clamp lo hi => Num lo ∧ Num hi
  | .row ws b => ws.length ≤ 16 ∧ ws ≠ [] ∧ (∀ w ∈ ws, Num w) ∧ Num b
  | .kernel ws b => ws.length ≤ 16 ∧ ws ≠ [] ∧ (∀ w ∈ ws, Num w) ∧ Num b
  | _ => True
theorem nat_num {n : Nat} (h : n ≤ 999) : Num n := ⟨by omega, by omega⟩
theorem two_wd {a b : Str} (ha : WdOk a) (hb : WdOk b) : ∀ w ∈ [a, b], WdOk w := fun w hw => by
  rcases List.mem_cons.mp hw with rfl | hw
  · exact ha
  · rw [List.mem_singleton] at hw
    rw [hw]
    exact hb
theorem one_wd {a : Str} (ha : WdOk a) : ∀ w ∈ [a], WdOk w := fun w hw => by
  rw [List.mem_singleton] at hw
  rw [hw]
  exact ha
theorem row_wd {a : Str} {ws : List Int} {b : Int} (ha : WdOk a) (h : ∀ w ∈ ws, Num w) (hb : Num b) : ∀ w ∈ rowW a ws b, WdOk w := fun w hw => by
  rcases List.mem_cons.mp hw with rfl | hw
  · exact ha
  rcases List.mem_append.mp hw with hw | hw
  · obtain ⟨z, hz, rfl⟩ := List.mem_map.mp hw
    exact num_wd (h z hz)
  · exact two_wd (lit_wd (by decide +kernel) (by decide +kernel) (by decide +kernel)) (num_wd hb) w hw
theorem Ln.wd : ∀ {l : Ln}, l.ok → ∀ w ∈ l.words, WdOk w
  | .net n, h => two_wd (lit_wd (by decide +kernel) (by decide +kernel) (by decide +kernel)) (num_wd (nat_num h))
  | .conv n, h => two_wd (lit_wd (by decide +kernel) (by decide +kernel) (by decide +kernel)) (num_wd (nat_num h))
  | .mx n, h => two_wd (lit_wd (by decide +kernel) (by decide +kernel) (by decide +kernel)) (num_wd (nat_num h))
  | .mean n, h => two_wd (lit_wd (by decide +kernel) (by decide +kernel) (by decide +kernel)) (num_wd (nat_num h))
  | .clamp lo hi, h => fun w hw => by
    rcases List.mem_cons.mp hw with rfl | hw
    · exact lit_wd (by decide +kernel) (by decide +kernel) (by decide +kernel)
    · exact two_wd (num_wd h.1) (num_wd h.2) w hw
  | .row ws b, h => row_wd (lit_wd (by decide +kernel) (by decide +kernel) (by decide +kernel)) h.2.2.1 h.2.2.2
  | .kernel ws b, h => row_wd (lit_wd (by decide +kernel) (by decide +kernel) (by decide +kernel)) h.2.2.1 h.2.2.2
  | .dense, _ => one_wd (lit_wd (by decide +kernel) (by decide +kernel) (by decide +kernel))
  | .relu, _ => one_wd (lit_wd (by decide +kernel) (by decide +kernel) (by decide +kernel))
  | .sum, _ => one_wd (lit_wd (by decide +kernel) (by decide +kernel) (by decide +kernel))
  | .fork, _ => one_wd (lit_wd (by decide +kernel) (by decide +kernel) (by decide +kernel))
  | .wth, _ => one_wd (lit_wd (by decide +kernel) (by decide +kernel) (by decide +kernel))
  | .fin, _ => one_wd (lit_wd (by decide +kernel) (by decide +kernel) (by decide +kernel))
  | .done, _ => one_wd (lit_wd (by decide +kernel) (by decide +kernel) (by decide +kernel))
theorem Ln.few : ∀ {l : Ln}, l.ok → l.words ≠ [] ∧ l.words.length ≤ 19
  | .row ws b, h => ⟨List.cons_ne_nil _ _, by
    show (ws.map numS ++ [("bias" : Str), numS b]).length + 1 ≤ 19
    rw [List.length_append, List.length_map]
    show ws.length + 2 + 1 ≤ 19
    have := h.1
    omega⟩
  | .kernel ws b, h => ⟨List.cons_ne_nil _ _, by
    show (ws.map numS ++ [("bias" : Str), numS b]).length + 1 ≤ 19
    rw [List.length_append, List.length_map]
    show ws.length + 2 + 1 ≤ 19
    have := h.1
    omega⟩
  | .net _, _ | .conv _, _ | .mx _, _ | .mean _, _ | .clamp _ _, _ | .dense, _ | .relu, _ | .sum, _ | .fork, _ | .wth, _ | .fin, _ | .done, _ => ⟨List.cons_ne_nil _ _, Nat.le_of_ble_eq_true rfl⟩
theorem tl_sp : tl (" " : Str) = [32] := by decide +kernel
/-- a line's text, cut at blanks: its words -/
theorem Ln.cut {l : Ln} (h : l.ok) : Txt.split l.text " " = l.words :=
  split_join tl_sp (by decide +kernel) (Ln.few h).1 fun w hw => ((Ln.wd h w hw).wd).2.1
def PL.lines : PL → List Ln
  | .dense rows bs => .dense :: List.zipWith Ln.row rows bs
  | .conv ks bs st => .conv st :: List.zipWith Ln.kernel ks bs
  | .relu => [.relu]
  | .clamp lo hi => [.clamp lo hi]
  | .mx s => [.mx s]
  | .mean s => [.mean s]
def plines (ls : List PL) : List Ln := ls.flatMap PL.lines
def LL.lines : LL → List Ln
  | .p l => l.lines
  | .sm a b => .sum :: (plines a ++ .wth :: (plines b ++ [.fin]))
  | .fk a b => .fork :: (plines a ++ .wth :: (plines b ++ [.fin]))
def llines (ls : List LL) : List Ln := ls.flatMap LL.lines
theorem PL.lines_nl (l : PL) : l.lines.length ≤ l.nl := by
  cases l with
  | dense rows bs =>
    show (List.zipWith Ln.row rows bs).length + 1 ≤ 1 + bs.length
    rw [List.length_zipWith]
    omega
  | conv ks bs st =>
    show (List.zipWith Ln.kernel ks bs).length + 1 ≤ 1 + bs.length
    rw [List.length_zipWith]
    omega
  | _ => exact Nat.le_refl 1
theorem plines_nl : ∀ ls : List PL, (plines ls).length ≤ pnl ls
  | [] => Nat.le_refl 0
  | l :: ls => by
    show (l.lines ++ plines ls).length ≤ l.nl + pnl ls
    rw [List.length_append]
    have a := PL.lines_nl l
    have b := plines_nl ls
    omega
theorem LL.lines_nl (l : LL) : l.lines.length ≤ l.nl := by
  cases l with
  | p l => exact PL.lines_nl l
  | sm a b =>
    have x := plines_nl a
    have y := plines_nl b
    show (plines a ++ Ln.wth :: (plines b ++ [Ln.fin])).length + 1 ≤ 3 + pnl a + pnl b
    rw [List.length_append, List.length_cons, List.length_append]
    show (plines a).length + ((plines b).length + 1 + 1) + 1 ≤ _
    omega
  | fk a b =>
    have x := plines_nl a
    have y := plines_nl b
    show (plines a ++ Ln.wth :: (plines b ++ [Ln.fin])).length + 1 ≤ 3 + pnl a + pnl b
    rw [List.length_append, List.length_cons, List.length_append]
    show (plines a).length + ((plines b).length + 1 + 1) + 1 ≤ _
    omega
theorem llines_nl : ∀ {ls : List LL}, (∀ l ∈ ls, l.nl ≤ 30) → (llines ls).length ≤ 30 * ls.length
  | [], _ => Nat.le_refl 0
  | l :: ls, h => by
    show (l.lines ++ llines ls).length ≤ 30 * (ls.length + 1)
    rw [List.length_append]
    have a := LL.lines_nl l
    have b := h l List.mem_cons_self
    have c := llines_nl (ls := ls) fun x hx => h x (List.mem_cons_of_mem _ hx)
    omega
theorem wok_num {z : Int} (h : WOk z) : Num z := ⟨by have := h.1; omega, by have := h.2; omega⟩
theorem zip_ok {f : List Int → Int → Ln} (hf : ∀ ws b, (f ws b).ok = (ws.length ≤ 16 ∧ ws ≠ [] ∧ (∀ w ∈ ws, Num w) ∧ Num b)) {n : Nat} (n1 : 1 ≤ n) (n2 : n ≤ 16) : ∀ {rows : List (List Int)} {bs : List Int}, (∀ r ∈ rows, RowOk n r) → (∀ b ∈ bs, WOk b) → ∀ l ∈ List.zipWith f rows bs, l.ok
  | [], _, _, _, l, h => by simp at h
  | _ :: _, [], _, _, l, h => by simp at h
  | r :: rows, b :: bs, hr, hb, l, h => by
    rcases List.mem_cons.mp h with rfl | h
    · have q := hr r List.mem_cons_self
      rw [hf]
      exact ⟨by rw [q.1]; exact n2, fun e => (by rw [e] at q; have := q.1; simp at this; omega), fun w hw => wok_num (q.2 w hw), wok_num (hb b List.mem_cons_self)⟩
    · exact zip_ok hf n1 n2 (fun r hr2 => hr r (List.mem_cons_of_mem _ hr2)) (fun b hb2 => hb b (List.mem_cons_of_mem _ hb2)) l h
theorem PL.lines_ok {n : Nat} (hn : 1 ≤ n ∧ n ≤ 16) : ∀ {l : PL}, l.wf n → ∀ x ∈ l.lines, x.ok
  | .dense rows bs, ⟨b1, b2, ⟨_, hr⟩, hb⟩, x, hx => by
    rcases List.mem_cons.mp hx with rfl | hx
    · trivial
    · exact zip_ok (fun _ _ => rfl) hn.1 hn.2 hr hb x hx
  | .conv ks bs st, ⟨b1, b2, k1, k3, kn, ⟨_, hr⟩, hb, s1, s3⟩, x, hx => by
    rcases List.mem_cons.mp hx with rfl | hx
    · show st ≤ 999
      omega
    · exact zip_ok (fun _ _ => rfl) k1 (by omega) hr hb x hx
  | .relu, _, x, hx => by
    rw [List.mem_singleton.mp hx]
    trivial
  | .clamp lo hi, ⟨a, b, c⟩, x, hx => by
    rw [List.mem_singleton.mp hx]
    exact ⟨⟨by omega, by omega⟩, ⟨by omega, by omega⟩⟩
  | .mx s, ⟨h, _⟩, x, hx => by
    rw [List.mem_singleton.mp hx]
    have := sizes_le h
    show s ≤ 999
    omega
  | .mean s, ⟨h, _⟩, x, hx => by
    rw [List.mem_singleton.mp hx]
    have := sizes_le h
    show s ≤ 999
    omega
theorem plines_ok : ∀ {ls : List PL} {n : Nat}, pwf n ls → psm n ls → ∀ x ∈ plines ls, x.ok
  | [], _, _, _, x, h => nomatch h
  | l :: ls, n, hw, hs, x, h => by
    rcases List.mem_append.mp (show x ∈ l.lines ++ plines ls from h) with h | h
    · exact PL.lines_ok hs.1 hw.1 x h
    · exact plines_ok hw.2 hs.2 x h
theorem LL.lines_ok {n : Nat} (hn : 1 ≤ n ∧ n ≤ 16) : ∀ {l : LL}, l.wf n → ∀ x ∈ l.lines, x.ok
  | .p l, h, x, hx => PL.lines_ok hn (l := l) h x hx
  | .sm a b, ⟨⟨a1, a2⟩, ⟨b1, b2⟩, _⟩, x, hx => by
    rcases List.mem_cons.mp hx with rfl | hx
    · trivial
    rcases List.mem_append.mp hx with hx | hx
    · exact plines_ok a1 a2 x hx
    rcases List.mem_cons.mp hx with rfl | hx
    · trivial
    rcases List.mem_append.mp hx with hx | hx
    · exact plines_ok b1 b2 x hx
    · rw [List.mem_singleton.mp hx]
      trivial
  | .fk a b, ⟨⟨a1, a2⟩, ⟨b1, b2⟩⟩, x, hx => by
    rcases List.mem_cons.mp hx with rfl | hx
    · trivial
    rcases List.mem_append.mp hx with hx | hx
    · exact plines_ok a1 a2 x hx
    rcases List.mem_cons.mp hx with rfl | hx
    · trivial
    rcases List.mem_append.mp hx with hx | hx
    · exact plines_ok b1 b2 x hx
    · rw [List.mem_singleton.mp hx]
      trivial
theorem llines_ok : ∀ {ls : List LL} {n : Nat}, lwf n ls → lsm n ls → ∀ x ∈ llines ls, x.ok
  | [], _, _, _, x, h => nomatch h
  | l :: ls, n, hw, hs, x, h => by
    rcases List.mem_append.mp (show x ∈ l.lines ++ llines ls from h) with h | h
    · exact LL.lines_ok hs.1 hw.1 x h
    · exact llines_ok hw.2 hs.2 x h
end Wh

namespace Wh
open TL
theorem joinL_app {S : List Nat} : ∀ {xs ys : List (List Nat)}, xs ≠ [] → ys ≠ [] → joinL S (xs ++ ys) = joinL S xs ++ (S ++ joinL S ys)
  | [], _, h, _ => absurd rfl h
  | [p], y :: ys, _, _ => rfl
  | [_], [], _, h => absurd rfl h
  | p :: q :: r, ys, _, h => by
    show p ++ (S ++ joinL S (q :: r ++ ys)) = p ++ (S ++ joinL S (q :: r)) ++ (S ++ joinL S ys)
    rw [joinL_app (xs := q :: r) (List.cons_ne_nil _ _) h, List.append_assoc, List.append_assoc]
theorem tl_bias : tl (" bias " : Str) = [32] ++ (tl ("bias" : Str) ++ [32]) := by decide +kernel
/-- the line that the law writes -/
theorem line_eq (w : Str) (ws : List Int) (b : Int) (h : ws ≠ []) : w ++ " " ++ Txt.join " " (ws.map numS) ++ " bias " ++ numS b = Txt.join " " (rowW w ws b) := by
  refine ext_tl ?_
  rw [tl_append, tl_append, tl_append, tl_append, join_eq, join_eq, tl_join, tl_join, tl_sp, tl_bias]
  unfold rowW
  rw [List.map_cons, List.map_append]
  have e1 : (ws.map numS).map tl ≠ [] := by simpa using h
  have e2 : ([("bias" : Str), numS b].map tl) ≠ [] := List.cons_ne_nil _ _
  have e3 : joinL [32] (tl w :: ((ws.map numS).map tl ++ [("bias" : Str), numS b].map tl)) = joinL [32] ([tl w] ++ ((ws.map numS).map tl ++ [("bias" : Str), numS b].map tl)) := rfl
  rw [e3, joinL_app (List.cons_ne_nil _ _) (by simp), joinL_app e1 e2]
  show tl w ++ [32] ++ _ ++ ([32] ++ (tl ("bias" : Str) ++ [32])) ++ tl (numS b) = tl w ++ ([32] ++ (_ ++ ([32] ++ (tl ("bias" : Str) ++ ([32] ++ tl (numS b))))))
  simp only [List.append_assoc]
theorem WdOk.len {w : Str} (h : WdOk w) : w.length ≤ 8 := by rw [len_tl]; exact h.2.2
theorem sum_lens : ∀ {ys : List Str}, (∀ y ∈ ys, y.length ≤ 8) → (ys.map (·.length)).sum ≤ 8 * ys.length
  | [], _ => Nat.le_refl 0
  | y :: ys, h => by
    rw [List.map_cons, List.sum_cons, List.length_cons]
    have a := h y List.mem_cons_self
    have b := sum_lens (ys := ys) fun z hz => h z (List.mem_cons_of_mem _ hz)
    omega
theorem joinL_len : ∀ {xs : List (List Nat)} {k : Nat}, (∀ x ∈ xs, x.length ≤ k) → (joinL [32] xs).length ≤ (k + 1) * xs.length
  | [], _, _ => Nat.le_refl 0
  | [x], k, h => by
    have := h x List.mem_cons_self
    show x.length ≤ (k + 1) * 1
    omega
  | x :: y :: r, k, h => by
    have a := h x List.mem_cons_self
    have b := joinL_len (xs := y :: r) (k := k) fun z hz => h z (List.mem_cons_of_mem _ hz)
    show (x ++ ([32] ++ joinL [32] (y :: r))).length ≤ (k + 1) * ((y :: r).length + 1)
    rw [List.length_append, List.length_append, Nat.mul_add]
    show x.length + (1 + _) ≤ _
    omega
theorem join_len {ys : List Str} (h : ∀ y ∈ ys, WdOk y) : (Txt.join " " ys).length ≤ 9 * ys.length := by
  rw [len_tl, join_eq, tl_join, tl_sp]
  have e := joinL_len (xs := ys.map tl) (k := 8) fun x hx => by
    obtain ⟨y, hy, rfl⟩ := List.mem_map.mp hx
    exact (h y hy).2.2
  rw [List.length_map] at e
  exact e
theorem len_cat (a b : Str) : (a ++ b).length = a.length + b.length := by rw [len_tl, tl_append, List.length_append, ← len_tl, ← len_tl]
theorem fit {n : Nat} (h : n ≤ 100000) : n ≤ sizeLine := Nat.le_trans h (by decide)
theorem log_small {z : Int} (h : Num z) : z.natAbs.log2 < 1920 := by
  have a : z.natAbs < 2 ^ 24 := by
    have := h.1
    have := h.2
    omega
  by_cases e : z.natAbs = 0
  · rw [e]
    decide
  · have := (Nat.log2_lt e).mpr a
    omega
def sp_line : Sp := fun vs H Q _ => ∃ (word : Str) (v : V) (ws : List Int) (b : Int), vs = [.str word, v, .int b] ∧ Ints H v ws ∧ WdOk word ∧ ws ≠ [] ∧ ws.length ≤ 16 ∧ (∀ z ∈ ws, Num z) ∧ Num b ∧
  ∀ H' : Hp, Same H H' → Q (.str (Txt.join " " (rowW word ws b))) H'
section
variable {P : Program} {w : World} {K : PySem.W.Frag} {mg : Str → Option Value} {base : Heap} {C W M f : Addr} {fd : FuncData}
theorem ok_line (F : Fun K "_law_line" "_law_line" s_law_line f fd) (T : Tx K w mg C W M) : FnOk P w K mg base CX0 1 f fd P_law_line sp_line := by
  refine F.ok sc_law_line (fun vs H Q E h => ?_) (fun cdv A outer s H vs Q E hr h => ?_)
  · obtain ⟨word, v, ws, b, rfl, _⟩ := h
    rfl
  obtain ⟨word, v, ws, b, rfl, ⟨a, rfl, ha⟩, hword, hne, hlen, hws, hb, q⟩ := h
  refine ⟨_, (pss_one (ps_ret (pe_op op_add_str (pe_op op_add_str (pe_op op_add_str (pe_op op_add_str (pv 0) pe_str) (pe_join pe_str (pe_lc (own := [("_law_weight_here", 3)]) (g := gName 3) rfl sc_law_line.nd (pi_tup (pv 1)) (blkOk_by (N := N_law_line) (sc := defScope s_law_line) (by decide +kernel)) (fun _ _ _ _ _ => pg_name (i := 3) sc_law_line.nd rfl (Or.inl rfl)) (fun _ _ _ _ _ => pts_nil) (fun _ _ _ _ _ => (pe_callTy call_str_int rfl T.f_str (by decide +kernel) (pa_cons (pv 3) pa_nil)))))) pe_str) (pe_callTy call_str_int rfl T.f_str (by decide +kernel) (pa_cons (pv 2) pa_nil))))), ?_⟩
  have lw := hword.len
  walk_at "rt"
  refine ⟨fit (by show word.length + 1 ≤ 100000; omega), ?_⟩
  walk_at "rt"
  refine ⟨a, rfl, ⟨_, SqT.of ha⟩, l_tup (xs := ws.map V.int) fun D hD => ⟨fun i H' => Same H H' ∧ H' D = some (.lst (((ws.take i).map numS).map V.str)), ⟨same_own (Same.refl H) hD _, upd_same⟩, fun i H' _ p => SqT.of (p.1 _ _ ha), ?_, ?_⟩⟩
  · rintro i x H1 hx ⟨sm, hd⟩
    rw [List.getElem?_map] at hx
    obtain ⟨z, hz, rfl⟩ : ∃ z, ws[i]? = some z ∧ x = .int z := by
      cases e : ws[i]? with
      | none => rw [e] at hx; cases hx
      | some z => rw [e] at hx; exact ⟨z, rfl, (Option.some.inj hx).symm⟩
    have hi := (List.getElem?_eq_some_iff.mp hz).1
    walk_at "rt"
    refine ⟨log_small (hws z (List.mem_of_getElem? hz)), ?_⟩
    refine ⟨_, hd, by rw [List.length_map, List.length_map, List.length_take]; exact small1000 (by omega), same_own sm hD _, ?_⟩
    rw [upd_same, List.take_add_one, hz, List.map_append, List.map_append]
    rfl
  · rintro H1 ⟨sm, hd⟩
    rw [List.length_map, List.take_length] at hd
    have l8 : ∀ y ∈ ws.map numS, y.length ≤ 8 := fun y hy => by
      obtain ⟨z, hz, rfl⟩ := List.mem_map.mp hy
      exact (num_wd (hws z hz)).len
    have s8 := sum_lens l8
    have j9 := join_len (ys := ws.map numS) fun y hy => by
      obtain ⟨z, hz, rfl⟩ := List.mem_map.mp hy
      exact num_wd (hws z hz)
    rw [List.length_map] at s8 j9
    have lb := (num_wd hb).len
    walk_at "rt"
    refine ⟨" ", D, ws.map numS, rfl, rfl, .inl (SqL.of hd), ?_, ?_⟩
    · rw [List.length_map]
      show _ + ws.length * 1 ≤ 16777216
      omega
    walk_at "rt"
    have l1 : (" " : Str).length = 1 := by decide +kernel
    have l6 : (" bias " : Str).length = 6 := by decide +kernel
    refine ⟨fit (by rw [len_cat, l1]; omega), ?_⟩
    walk_at "rt"
    refine ⟨fit (by rw [len_cat, len_cat, l1, l6]; omega), ?_⟩
    walk_at "rt"
    refine ⟨log_small hb, ?_⟩
    walk_at "rt"
    refine ⟨fit (by rw [len_cat, len_cat, len_cat, l1, l6]; show _ + (numS b).length ≤ _; omega), ?_⟩
    have e := line_eq word ws b hne
    unfold numS at e
    show Q (V.str _) H1
    rw [show word ++ (" " : Str) ++ Txt.join " " (ws.map numS) ++ " bias " ++ (Str.ofString (toString b)) = Txt.join " " (rowW word ws b) from line_eq word ws b hne]
    exact q H1 sm
end
end Wh

namespace Wh
open TL
def lnV (l : Ln) : V := .str l.text
theorem r_cat {H : Hp} {Q : VK} {l b : Addr} {xs zs : List V} (hl : H l = some (.lst xs)) (hb : H b = some (.lst zs)) (n : xs.length + zs.length ≤ 100000) (q : ∀ p, H p = none → Q (.ref p) (upd H p (.lst (xs ++ zs)))) : rCat (.ref l) (.ref b) H Q :=
  ⟨l, b, xs, zs, rfl, rfl, hl, hb, fit n, q⟩
theorem sm_new {H H1 : Hp} {p : Addr} (h : Same H H1) (o : HO) (n : H1 p = none) : Same H (upd H1 p o) := fun a u e => by
  rw [upd_ne (ne_of_none (h a u e) n)]
  exact h a u e
theorem sm_tk {H H1 : Hp} (h : Same H H1) : TK H H1 := fun a xs e => h a _ e
theorem get_zip {α β γ : Type} {f : α → β → γ} : ∀ {xs : List α} {ys : List β} {i : Nat} {x : α} {y : β}, xs[i]? = some x → ys[i]? = some y → (List.zipWith f xs ys)[i]? = some (f x y)
  | [], _, _, _, _, h, _ => by simp at h
  | _ :: _, [], _, _, _, _, h => by simp at h
  | _ :: _, _ :: _, 0, _, _, h, k => by cases h; cases k; rfl
  | _ :: xs, _ :: ys, i + 1, x, y, h, k => get_zip (xs := xs) (ys := ys) (i := i) (by simpa using h) (by simpa using k)
/-- a layer of one line: a word and numbers -/
def Simple (H : Hp) (x : V) (l : LL) : Prop := ∃ (kw : Str) (ns : List Int) (ln : Ln), (kw = "relu" ∨ kw = "clamp" ∨ kw = "max" ∨ kw = "mean") ∧ Tup H x (.str kw :: ns.map V.int) ∧ l.lines = [ln] ∧ ln.words = kw :: ns.map numS ∧ ns.length ≤ 2 ∧ ∀ z ∈ ns, Num z
theorem all1 {a : Int} (h : Num a) : ∀ z ∈ [a], Num z := fun z hz => by
  rw [List.mem_singleton.mp hz]
  exact h
theorem all2 {a b : Int} (h : Num a) (k : Num b) : ∀ z ∈ [a, b], Num z := fun z hz => by
  rcases List.mem_cons.mp hz with rfl | hz
  · exact h
  · exact all1 k z hz
/-- what a layer is, with what stands there -/
theorem shapes {H : Hp} {x : V} {l : LL} {n : Nat} (h : LLAt H x l) (w : l.wf n) : Simple H x l ∨ (∃ rows bs, l = .p (.dense rows bs)) ∨ (∃ ks bs st, l = .p (.conv ks bs st)) ∨ (∃ a b, l = .sm a b) ∨ ∃ a b, l = .fk a b := by
  cases l with
  | p l =>
    cases l with
    | dense rows bs => exact .inr (.inl ⟨_, _, rfl⟩)
    | conv ks bs st => exact .inr (.inr (.inl ⟨_, _, _, rfl⟩))
    | relu => exact .inl ⟨"relu", [], .relu, .inl rfl, h, rfl, rfl, by decide, fun _ z => nomatch z⟩
    | clamp lo hi =>
      obtain ⟨a, b, c⟩ := w
      exact .inl ⟨"clamp", [lo, hi], .clamp lo hi, .inr (.inl rfl), h, rfl, rfl, Nat.le_of_ble_eq_true rfl, all2 ⟨by omega, by omega⟩ ⟨by omega, by omega⟩⟩
    | mx s =>
      have q := sizes_le w.1
      exact .inl ⟨"max", [(s : Int)], .mx s, .inr (.inr (.inl rfl)), h, rfl, rfl, Nat.le_of_ble_eq_true rfl, all1 ⟨by omega, by omega⟩⟩
    | mean s =>
      have q := sizes_le w.1
      exact .inl ⟨"mean", [(s : Int)], .mean s, .inr (.inr (.inr rfl)), h, rfl, rfl, Nat.le_of_ble_eq_true rfl, all1 ⟨by omega, by omega⟩⟩
  | sm a b => exact .inr (.inr (.inr (.inl ⟨_, _, rfl⟩)))
  | fk a b => exact .inr (.inr (.inr (.inr ⟨_, _, rfl⟩)))
theorem llines_take {ls : List LL} {i : Nat} {l : LL} (h : ls[i]? = some l) : llines (ls.take (i + 1)) = llines (ls.take i) ++ l.lines := by
  unfold llines
  rw [List.take_add_one, h, List.flatMap_append]
  show _ ++ List.flatMap LL.lines [l] = _
  rw [List.flatMap_cons, List.flatMap_nil, List.append_nil]
theorem llines_part {ls : List LL} (i : Nat) : (llines (ls.take i)).length ≤ (llines ls).length := by
  have e : llines ls = llines (ls.take i) ++ llines (ls.drop i) := by
    unfold llines
    rw [← List.flatMap_append, List.take_append_drop]
  rw [e, List.length_append]
  omega
theorem llines_map {ls : List PL} : llines (ls.map LL.p) = plines ls := by
  unfold llines plines
  rw [List.flatMap_map]
  rfl
theorem cut1 {x : V} {xs : List V} : cutV (x :: xs) (some 1) none = xs ∧ HT.sIx (x :: xs).length 0 (some 1) = 1 := by
  have e : HT.sIx (x :: xs).length 0 (some 1) = 1 := by
    show min (1 : Int).toNat (xs.length + 1) = 1
    have : (1 : Int).toNat = 1 := rfl
    omega
  refine ⟨?_, e⟩
  unfold cutV
  rw [e]
  show (xs.drop 0).take ((xs.length + 1) - 1) = xs
  rw [List.drop_zero, Nat.add_sub_cancel, List.take_length]
theorem join2 (a b : Str) : Txt.join " " [a, b] = a ++ " " ++ b := by
  refine ext_tl ?_
  rw [join_eq, tl_join, tl_append, tl_append, List.append_assoc]
  rfl
theorem join1 (a : Str) : Txt.join " " [a] = a := by
  refine ext_tl ?_
  rw [join_eq, tl_join]
  rfl
/-- [str(n) for n in a tuple of ints] -/
theorem lc_nums {K : PySem.W.Frag} {σ : L2.St} {j : Nat} {Q : VK} {H : Hp} {a : Addr} {ns : List Int} (hj : j < σ.length) (ha : H a = some (.tup (ns.map V.int))) (hn : ∀ z ∈ ns, Num z) (hl : ns.length ≤ 16)
    (q : ∀ D H', H D = none → Same H H' → H' D = some (.lst ((ns.map numS).map V.str)) → Q (.ref D) H') :
    tLc (atIt (Itt K a)) (gName j) tYes (tCB (fun xs H Q => ∃ i, xs = [V.int i] ∧ i.natAbs.log2 < 1920 ∧ Q (V.str (Str.ofString (toString i))) H) (tCons (tVar j) tNil)) [j] σ H Q := by
  refine l_tup (xs := ns.map V.int) fun D hD => ⟨fun i H' => Same H H' ∧ H' D = some (.lst (((ns.take i).map numS).map V.str)), ⟨same_own (Same.refl H) hD _, upd_same⟩, fun i H' _ p => SqT.of (p.1 _ _ ha), ?_, ?_⟩
  · rintro i x H1 hx ⟨sm, hd⟩
    rw [List.getElem?_map] at hx
    obtain ⟨z, hz, rfl⟩ : ∃ z, ns[i]? = some z ∧ x = .int z := by
      cases e : ns[i]? with
      | none => rw [e] at hx; cases hx
      | some z => rw [e] at hx; exact ⟨z, rfl, (Option.some.inj hx).symm⟩
    have hi := (List.getElem?_eq_some_iff.mp hz).1
    refine r_CB (r_cons (r_var (List.getElem?_set_self (by rw [List.length_set]; exact hj)) (r_nil ⟨z, rfl, log_small (hn z (List.mem_of_getElem? hz)), ?_⟩)))
    refine ⟨_, hd, by rw [List.length_map, List.length_map, List.length_take]; exact small1000 (by omega), same_own sm hD _, ?_⟩
    rw [upd_same, List.take_add_one, hz, List.map_append, List.map_append]
    rfl
  · rintro H1 ⟨sm, hd⟩
    rw [List.length_map, List.take_length] at hd
    exact q D H1 hD sm hd
theorem lsm_map : ∀ {ls : List PL} {n : Nat}, lsm n (ls.map LL.p) ↔ psm n ls
  | [], _ => Iff.rfl
  | l :: ls, n => and_congr Iff.rfl (lsm_map (ls := ls) (n := l.gives n))
def sp_llines (j : Nat) : Sp := fun vs H Q _ => ∃ (v : V) (ls : List LL) (n : Nat), vs = [v] ∧ LLs H v ls ∧ lwf n ls ∧ lsm n ls ∧ Lev j ls ∧ (llines ls).length ≤ 1000 ∧
  ∀ (p : Addr) (H' : Hp), Same H H' → H p = none → H' p = some (.lst ((llines ls).map lnV)) → Q (.ref p) H'
theorem lsm_take : ∀ {ls : List LL} {i n : Nat}, i < ls.length → lsm n ls → 1 ≤ lgives n (ls.take i) ∧ lgives n (ls.take i) ≤ 16
  | [], _, _, h, _ => absurd h (Nat.not_lt_zero _)
  | _ :: _, 0, _, _, w => w.1
  | a :: ls, i + 1, n, h, w => lsm_take (ls := ls) (i := i) (n := a.gives n) (Nat.lt_of_succ_lt_succ h) w.2
section
variable {P : Program} {w : World} {K : PySem.W.Frag} {mg : Str → Option Value} {base : Heap} {C W M f : Addr} {fd : FuncData}
theorem ok_lines {k j : Nat} (hk : 1 ≤ k) (F : Fun K "_law_lines" "_law_lines" s_law_lines f fd) (T : Tx K w mg C W M) (G_law_line : Cl P w K mg base 1 "_law_line" P_law_line sp_line) (G_law_lines : Cl P w K mg base k "_law_lines" P_law_lines (sp_llines j)) :
    FnOk P w K mg base CX0 (k + 1) f fd P_law_lines (sp_llines (j + 1)) := by
  refine F.ok sc_law_lines (fun vs H Q E h => ?_) (fun cdv A outer s H vs Q E hr h => ?_)
  · obtain ⟨v, ls, n, rfl, _⟩ := h
    rfl
  obtain ⟨v, ls, n, rfl, ⟨xs, ⟨a, rfl, ha⟩, hxs⟩, hw, hsm, hlev, hmax, q⟩ := h
  refine ⟨_, (pss_cons (ps_set (i := 1) sc_law_lines.nd rfl (Or.inl rfl) (pe_lst pa_nil))
      (pss_cons (ps_for PassesOwn.never rfl (pi_tup (pv 0)) (pg_name (i := 2) sc_law_lines.nd rfl (Or.inr rfl))
        (pss_cons (ps_set (i := 3) sc_law_lines.nd rfl (Or.inl rfl) (pe_ix ix_tup (pv 2) pe_int (fun _ _ => rfl)))
        (pss_one (ps_if (pt_cmpR op_eq (pv 3) pe_str (nomark _))
          (pss_one (ps_set (i := 1) sc_law_lines.nd rfl (Or.inl rfl) (pe_op op_cat (pe_op op_cat (pv 1) (pe_lst (pa_cons (pv 3) pa_nil))) (pe_lc (own := [("_law_k", 4)]) (g := gName 4) rfl sc_law_lines.nd (pi_range1 rfl T.f_range (pa_cons (pe_callB call_len_seq rfl T.f_len PySem.boot_len (pa_cons (pe_ix ix_tup (pv 2) pe_int (fun _ _ => rfl)) pa_nil)) pa_nil)) (blkOk_by (N := N_law_lines) (sc := defScope s_law_lines) (by decide +kernel)) (fun _ _ _ _ _ => pg_name (i := 4) sc_law_lines.nd rfl (Or.inl rfl)) (fun _ _ _ _ _ => pts_nil) (fun _ _ _ _ _ => (pcl G_law_line hr (pa_cons pe_str (pa_cons (pe_ix (r := rIxT K) ix_tup (pe_ix (r := rIxT K) ix_tup (pv 2) pe_int (fun _ _ => rfl)) (pv 4) (fun _ _ => rfl)) (pa_cons (pe_ix (r := rIxT K) ix_tup (pe_ix (r := rIxT K) ix_tup (pv 2) pe_int (fun _ _ => rfl)) (pv 4) (fun _ _ => rfl)) pa_nil)))))))))
          (pss_one (ps_if (pt_cmpR op_eq (pv 3) pe_str (nomark _))
            (pss_cons (ps_set (i := 1) sc_law_lines.nd rfl (Or.inl rfl) (pe_op op_cat (pv 1) (pe_lst (pa_cons (pe_op op_add_str (pe_op op_add_str (pv 3) pe_str) (pe_callTy call_str_int rfl T.f_str (by decide +kernel) (pa_cons (pe_ix ix_tup (pv 2) pe_int (fun _ _ => rfl)) pa_nil))) pa_nil))))
            (pss_one (ps_set (i := 1) sc_law_lines.nd rfl (Or.inl rfl) (pe_op op_cat (pv 1) (pe_lc (own := [("_law_k", 4)]) (g := gName 4) rfl sc_law_lines.nd (pi_range1 rfl T.f_range (pa_cons (pe_callB call_len_seq rfl T.f_len PySem.boot_len (pa_cons (pe_ix ix_tup (pv 2) pe_int (fun _ _ => rfl)) pa_nil)) pa_nil)) (blkOk_by (N := N_law_lines) (sc := defScope s_law_lines) (by decide +kernel)) (fun _ _ _ _ _ => pg_name (i := 4) sc_law_lines.nd rfl (Or.inl rfl)) (fun _ _ _ _ _ => pts_nil) (fun _ _ _ _ _ => (pcl G_law_line hr (pa_cons pe_str (pa_cons (pe_ix (r := rIxT K) ix_tup (pe_ix (r := rIxT K) ix_tup (pv 2) pe_int (fun _ _ => rfl)) (pv 4) (fun _ _ => rfl)) (pa_cons (pe_ix (r := rIxT K) ix_tup (pe_ix (r := rIxT K) ix_tup (pv 2) pe_int (fun _ _ => rfl)) (pv 4) (fun _ _ => rfl)) pa_nil))))))))))
            (pss_one (ps_if (PW.pt (pw_or (pt_cmpR op_eq (pv 3) pe_str (nomark _)) (pw_or1 (pt_cmpR op_eq (pv 3) pe_str (nomark _)))))
              (pss_one (ps_set (i := 1) sc_law_lines.nd rfl (Or.inl rfl) (pe_op op_cat (pe_op op_cat (pe_op op_cat (pe_op op_cat (pe_op op_cat (pv 1) (pe_lst (pa_cons (pv 3) pa_nil))) (pcl G_law_lines hr (pa_cons (pe_ix ix_tup (pv 2) pe_int (fun _ _ => rfl)) pa_nil))) (pe_lst (pa_cons pe_str pa_nil))) (pcl G_law_lines hr (pa_cons (pe_ix ix_tup (pv 2) pe_int (fun _ _ => rfl)) pa_nil))) (pe_lst (pa_cons pe_str pa_nil)))))
              (pss_one (ps_expr (pe_bm PySem.F.plainAttrs_list PySem.F.slot_list_append PySem.F.type_list_append mt_append (pv 1) (pa_cons (pe_join pe_str (pe_op op_cat (pe_lst (pa_cons (pv 3) pa_nil)) (pe_lc (own := [("_law_number", 5)]) (g := gName 5) rfl sc_law_lines.nd (pi_tup (pe_slice sl_tupA (pv 2) (po_some pe_int) po_none)) (blkOk_by (N := N_law_lines) (sc := defScope s_law_lines) (by decide +kernel)) (fun _ _ _ _ _ => pg_name (i := 5) sc_law_lines.nd rfl (Or.inl rfl)) (fun _ _ _ _ _ => pts_nil) (fun _ _ _ _ _ => (pe_callTy call_str_int rfl T.f_str (by decide +kernel) (pa_cons (pv 5) pa_nil)))))) pa_nil))))))))))))
      (pss_one (ps_ret (pv 1))))), ?_⟩
  walk_at "rt"
  refine tup_s rfl fun q0 hq0 => ?_
  walk_at "rt"
  refine ⟨a, rfl, ⟨_, SqT.of (by rw [upd_ne (ne_of_none ha hq0)]; exact ha)⟩, f_tup (xs := xs) (fun i σ H1 => ∃ (p : Addr) (o2 o3 o4 o5 : Option V), σ = [some (.ref a), some (.ref p), o2, o3, o4, o5] ∧ Same H H1 ∧ H p = none ∧ H1 p = some (.lst ((llines (ls.take i)).map lnV)))
    ⟨q0, none, none, none, none, rfl, sm_new (Same.refl H) _ hq0, hq0, upd_same⟩ (fun i σ H1 _ ⟨_, _, _, _, _, _, sm, _⟩ => SqT.of (sm _ _ ha)) ?_ ?_⟩
  · rintro i x σ H1 hx ⟨p, o2, o3, o4, o5, rfl, sm, hp0, hpl⟩
    obtain ⟨l, hl, hxl⟩ := (AllP.mono (fun _ _ z => LLAt.mono (sm_tk sm) z) hxs).at hx
    have lw := lwf_take hl hw
    have l16 := lsm_take (List.getElem?_eq_some_iff.mp hl).1 hsm
    have et := llines_take hl
    have hmi := llines_part (ls := ls) (i + 1)
    rw [et, List.length_append] at hmi
    generalize lgives n (ls.take i) = m at *
    walk_at "rd"
    rcases shapes hxl lw with ⟨kw, ns, ln, hkw, ⟨c, rfl, hc⟩, ell, ewd, hn2, hnn⟩ | ⟨rows, bs, rfl⟩ | ⟨ks, bs, st, rfl⟩ | ⟨u, y, rfl⟩ | ⟨u, y, rfl⟩
    · rcases hkw with rfl | rfl | rfl | rfl
      all_goals
        walk_at "rt"
        refine r_tyL hpl ?_
        walk_at "rt"
        refine tup_s rfl fun p1 hp1 => ?_
        have s1 : ∀ o, Same H1 (upd H1 p1 o) := fun o => sm_new (Same.refl H1) o hp1
        walk_at "rd"
        refine ⟨c, _, rfl, SqT.of (s1 _ _ _ hc), fun z => absurd (z.1.symm.trans cut1.2) (by decide), fun _ p2 hp2 => ?_⟩
        have s2 : ∀ u, Same H1 (upd (upd H1 p1 _) p2 u) := fun u => sm_new (s1 _) u hp2
        rw [cut1.1]
        refine ⟨p2, rfl, ⟨_, SqT.of upd_same⟩, lc_nums (ns := ns) (by show 5 < 6; decide) upd_same hnn (by omega) fun D H3 hD s3 hd => ?_⟩
        have hp3 := s3 _ _ (show upd (upd H1 p1 _) p2 _ p1 = _ by rw [upd_ne (ne_of_none upd_same hp2)]; exact upd_same)
        refine r_cat hp3 hd (by rw [List.length_map, List.length_map]; show 1 + ns.length ≤ _; omega) fun p4 hp4 => ?_
        have s4 : ∀ o, Same H1 (upd H3 p4 o) := fun o => sm_new (fun a o e => s3 _ _ (s2 _ _ _ e)) o hp4
        have w8 : ∀ y ∈ ln.words, WdOk y := by
          rw [ewd]
          intro y hy
          rcases List.mem_cons.mp hy with rfl | hy
          · exact lit_wd (by decide +kernel) (by decide +kernel) (by decide +kernel)
          · obtain ⟨z, hz, rfl⟩ := List.mem_map.mp hy
            exact num_wd (hnn z hz)
        have l3 : ln.words.length ≤ 3 := by
          rw [ewd, List.length_cons, List.length_map]
          omega
        have lsum := sum_lens (ys := ln.words) fun y hy => (w8 y hy).len
        refine ⟨" ", p4, ln.words, rfl, rfl, .inl (SqL.of (by rw [ewd]; exact upd_same)), ?_, ?_⟩
        · show _ + ln.words.length * 1 ≤ 16777216
          omega
        walk_at "rd"
        refine r_app (s4 _ _ _ hpl) (by rw [List.length_map]; omega) ?_
        refine ⟨p, _, _, _, _, rfl, same_own (sm.trans (s4 _)) hp0 _, hp0, ?_⟩
        rw [upd_same, et, ell, List.map_append]
        rfl
    · -- dense
      obtain ⟨y, z, ⟨c, rfl, hc⟩, ⟨zs, ⟨d, rfl, hd⟩, hr⟩, ⟨b, rfl, hb⟩⟩ := hxl
      obtain ⟨b1, b2, ⟨rl, rok⟩, bok⟩ := lw
      walk_at "rt"
      refine tup_s rfl fun p1 hp1 => ?_
      have s1 := sm_new (Same.refl H1) (.lst [.str "dense"]) hp1
      walk_at "rt"
      refine r_cat (s1 _ _ hpl) upd_same (by rw [List.length_map]; show _ + 1 ≤ _; omega) fun p2 hp2 => ?_
      have s2 := sm_new s1 (.lst ((llines (ls.take i)).map lnV ++ [.str "dense"])) hp2
      have hp2l : upd (upd H1 p1 (.lst [.str "dense"])) p2 (.lst ((llines (ls.take i)).map lnV ++ [.str "dense"])) p2 = some (.lst ((llines (ls.take i)).map lnV ++ [.str "dense"])) := upd_same
      generalize upd (upd H1 p1 (.lst [.str "dense"])) p2 (.lst ((llines (ls.take i)).map lnV ++ [.str "dense"])) = H2 at *
      have hc2 := s2 _ _ hc
      have hb2 := s2 _ _ hb
      have hd2 := s2 _ _ hd
      have hr2 := AllP.mono (fun _ _ z => Ints.mono (sm_tk s2) z) hr
      clear hc hb hd hr
      walk_at "rt"
      refine ⟨by omega, by rw [List.length_map]; omega, l_rng fun D hD => ⟨fun t H' => Same H2 H' ∧ H' D = some (.lst (((List.zipWith Ln.row rows bs).take t).map lnV)), ⟨same_own (Same.refl H2) hD _, upd_same⟩, ?_, ?_⟩⟩
      · rintro t H3 ht ⟨s3, hD3⟩
        have ht2 : t < bs.length := by
          rw [List.length_map] at ht
          omega
        have er := List.getElem?_eq_getElem (l := rows) (i := t) (by omega)
        have eb := List.getElem?_eq_getElem (l := bs) (i := t) ht2
        obtain ⟨rv, hrv, rints⟩ := hr2.get er
        have hc3 := s3 _ _ hc2
        have hb3 := s3 _ _ hb2
        have hd3 := s3 _ _ hd2
        walk_at "rt"
        refine r_ixT hd3 (at_of (j := t) (by omega) hrv) ?_
        walk_at "rt"
        refine r_ixT hb3 (at_of (j := t) (by omega) (by rw [List.getElem?_map, eb]; rfl)) ?_
        walk_at "rt"
        have rk := rok _ (List.mem_of_getElem? er)
        refine ⟨"row", rv, rows[t]'(by omega), bs[t], rfl, rints.mono (sm_tk s3), lit_wd (by decide +kernel) (by decide +kernel) (by decide +kernel), fun e => ?_, by rw [rk.1]; omega, fun z hz => wok_num (rk.2 z hz), wok_num (bok _ (List.mem_of_getElem? eb)), fun H4 s4 => ?_⟩
        · have := rk.1
          rw [e] at this
          simp at this
          omega
        · refine ⟨_, s4 _ _ hD3, by rw [List.length_map, List.length_take, List.length_zipWith]; exact small1000 (by omega), same_own (s3.trans s4) hD _, ?_⟩
          rw [upd_same, List.take_add_one, get_zip er eb, List.map_append]
          rfl
      · rintro H3 ⟨s3, hD3⟩
        rw [List.length_map, show ((bs.length : Nat) : Int).toNat = bs.length from rfl, List.take_of_length_le (by rw [List.length_zipWith]; omega)] at hD3
        refine r_cat (s3 _ _ hp2l) hD3 (by rw [List.length_append, List.length_map, List.length_map, List.length_zipWith]; show _ + 1 + _ ≤ _; omega) fun p4 hp4 => ?_
        refine ⟨p4, _, _, _, _, rfl, sm_new ((sm.trans s2).trans s3) _ hp4, sm.free (s2.free (s3.free hp4)), ?_⟩
        rw [upd_same, et, List.map_append]
        show _ = some (HO.lst (_ ++ lnV .dense :: _))
        rw [show lnV .dense = V.str "dense" from congrArg V.str (join1 _), List.append_assoc]
        rfl
    · -- conv
      obtain ⟨y, z, ⟨c, rfl, hc⟩, ⟨zs, ⟨d, rfl, hd⟩, hr⟩, ⟨b, rfl, hb⟩⟩ := hxl
      obtain ⟨b1, b2, k1, k3, km, ⟨rl, rok⟩, bok, st1, st3⟩ := lw
      have nst : Num (st : Int) := ⟨by omega, by omega⟩
      have l8 := (num_wd nst).len
      walk_at "rt"
      refine ⟨fit (by decide +kernel), ?_⟩
      walk_at "rt"
      refine ⟨log_small nst, ?_⟩
      walk_at "rt"
      refine ⟨fit (by show (("conv" : Str) ++ (" " : Str)).length + (numS st).length ≤ 100000; rw [show (("conv" : Str) ++ (" " : Str)).length = 5 by decide +kernel]; omega), ?_⟩
      walk_at "rt"
      refine tup_s rfl fun p1 hp1 => ?_
      have s1 := sm_new (Same.refl H1) (.lst [lnV (.conv st)]) hp1
      have ecv : lnV (.conv st) = V.str (("conv" : Str) ++ (" " : Str) ++ Str.ofString (toString (st : Int))) := congrArg V.str (join2 _ _)
      rw [← ecv]
      walk_at "rt"
      refine r_cat (s1 _ _ hpl) upd_same (by rw [List.length_map]; show _ + 1 ≤ _; omega) fun p2 hp2 => ?_
      have s2 := sm_new s1 (.lst ((llines (ls.take i)).map lnV ++ [lnV (.conv st)])) hp2
      have hp2l : upd (upd H1 p1 (.lst [lnV (.conv st)])) p2 (.lst ((llines (ls.take i)).map lnV ++ [lnV (.conv st)])) p2 = some (.lst ((llines (ls.take i)).map lnV ++ [lnV (.conv st)])) := upd_same
      generalize upd (upd H1 p1 (.lst [lnV (.conv st)])) p2 (.lst ((llines (ls.take i)).map lnV ++ [lnV (.conv st)])) = H2 at *
      have hc2 := s2 _ _ hc
      have hb2 := s2 _ _ hb
      have hd2 := s2 _ _ hd
      have hr2 := AllP.mono (fun _ _ z => Ints.mono (sm_tk s2) z) hr
      clear hc hb hd hr
      walk_at "rt"
      refine ⟨by omega, by rw [List.length_map]; omega, l_rng fun D hD => ⟨fun t H' => Same H2 H' ∧ H' D = some (.lst (((List.zipWith Ln.kernel ks bs).take t).map lnV)), ⟨same_own (Same.refl H2) hD _, upd_same⟩, ?_, ?_⟩⟩
      · rintro t H3 ht ⟨s3, hD3⟩
        have ht2 : t < bs.length := by
          rw [List.length_map] at ht
          omega
        have er := List.getElem?_eq_getElem (l := ks) (i := t) (by omega)
        have eb := List.getElem?_eq_getElem (l := bs) (i := t) ht2
        obtain ⟨rv, hrv, rints⟩ := hr2.get er
        have hc3 := s3 _ _ hc2
        have hb3 := s3 _ _ hb2
        have hd3 := s3 _ _ hd2
        walk_at "rt"
        refine r_ixT hd3 (at_of (j := t) (by omega) hrv) ?_
        walk_at "rt"
        refine r_ixT hb3 (at_of (j := t) (by omega) (by rw [List.getElem?_map, eb]; rfl)) ?_
        walk_at "rt"
        have rk := rok _ (List.mem_of_getElem? er)
        refine ⟨"kernel", rv, ks[t]'(by omega), bs[t], rfl, rints.mono (sm_tk s3), lit_wd (by decide +kernel) (by decide +kernel) (by decide +kernel), fun e => ?_, by rw [rk.1]; omega, fun z hz => wok_num (rk.2 z hz), wok_num (bok _ (List.mem_of_getElem? eb)), fun H4 s4 => ?_⟩
        · have := rk.1
          rw [e] at this
          simp at this
          omega
        · refine ⟨_, s4 _ _ hD3, by rw [List.length_map, List.length_take, List.length_zipWith]; exact small1000 (by omega), same_own (s3.trans s4) hD _, ?_⟩
          rw [upd_same, List.take_add_one, get_zip er eb, List.map_append]
          rfl
      · rintro H3 ⟨s3, hD3⟩
        rw [List.length_map, show ((bs.length : Nat) : Int).toNat = bs.length from rfl, List.take_of_length_le (by rw [List.length_zipWith]; omega)] at hD3
        refine r_cat (s3 _ _ hp2l) hD3 (by rw [List.length_append, List.length_map, List.length_map, List.length_zipWith]; show _ + 1 + _ ≤ _; omega) fun p4 hp4 => ?_
        refine ⟨p4, _, _, _, _, rfl, sm_new ((sm.trans s2).trans s3) _ hp4, sm.free (s2.free (s3.free hp4)), ?_⟩
        rw [upd_same, et, List.map_append]
        show _ = some (HO.lst (_ ++ lnV (.conv st) :: _))
        rw [List.append_assoc]
        rfl
    · -- sum
      have j1 : 1 ≤ j := by
        rcases hlev.2 with h2 | h2
        · omega
        · obtain ⟨z, e⟩ := h2 _ (List.mem_of_getElem? hl)
          cases e
      obtain ⟨ya, yb, ⟨c, rfl, hc⟩, hca, hcb⟩ := hxl
      obtain ⟨⟨wa, sa⟩, ⟨wb, sb⟩, _⟩ := lw
      have eln : LL.lines (.sm u y) = .sum :: (plines u ++ .wth :: (plines y ++ [.fin])) := rfl
      rw [eln, List.length_cons, List.length_append, List.length_cons, List.length_append] at hmi
      have lfin : ([Ln.fin] : List Ln).length = 1 := rfl
      rw [lfin] at hmi
      walk_at "rt"
      refine tup_s rfl fun p1 hp1 => ?_
      have s1 : ∀ o, Same H1 (upd H1 p1 o) := fun o => sm_new (Same.refl H1) o hp1
      walk_at "rt"
      refine r_cat (s1 _ _ _ hpl) upd_same (by rw [List.length_map]; show _ + 1 ≤ _; omega) fun p2 hp2 => ?_
      have s2 : ∀ u, Same H1 (upd (upd H1 p1 _) p2 u) := fun u => sm_new (s1 _) u hp2
      walk_at "rd"
      refine r_ixT (s2 _ _ _ hc) (by rfl) ?_
      walk_at "rd"
      refine ⟨ya, u.map LL.p, m, rfl, PLs.lls (hca.mono (sm_tk (s2 _))), lwf_map.mpr wa, lsm_map.mpr sa, lev_map j j1 u, by rw [llines_map]; omega, fun p3 H3 s3 _ hp3 => ?_⟩
      rw [llines_map] at hp3
      refine r_cat (s3 _ _ upd_same) hp3 (by rw [List.length_append, List.length_map, List.length_map]; show _ + 1 + _ ≤ _; omega) fun p4 hp4 => ?_
      have s4 : ∀ o, Same H1 (upd H3 p4 o) := fun o => sm_new ((s2 _).trans s3) o hp4
      walk_at "rd"
      refine tup_s rfl fun p5 hp5 => ?_
      have s5 : ∀ o, Same H1 (upd (upd H3 p4 _) p5 o) := fun o => sm_new (s4 _) o hp5
      refine r_cat ((sm_new (Same.refl _) _ hp5) _ _ upd_same) upd_same (by rw [List.length_append, List.length_append, List.length_map, List.length_map]; show _ + 1 + _ + 1 ≤ _; omega) fun p6 hp6 => ?_
      have s6 : ∀ o, Same H1 (upd (upd (upd H3 p4 _) p5 _) p6 o) := fun o => sm_new (s5 _) o hp6
      walk_at "rd"
      refine r_ixT (s6 _ _ _ hc) (by rfl) ?_
      walk_at "rd"
      refine ⟨yb, y.map LL.p, m, rfl, PLs.lls (hcb.mono (sm_tk (s6 _))), lwf_map.mpr wb, lsm_map.mpr sb, lev_map j j1 y, by rw [llines_map]; omega, fun p7 H7 s7 _ hp7 => ?_⟩
      rw [llines_map] at hp7
      refine r_cat (s7 _ _ upd_same) hp7 (by simp only [List.length_append, List.length_map, List.length_cons, List.length_nil]; omega) fun p8 hp8 => ?_
      have s8 : ∀ o, Same H1 (upd H7 p8 o) := fun o => sm_new ((s6 _).trans s7) o hp8
      walk_at "rd"
      refine tup_s rfl fun p9 hp9 => ?_
      have s9 : ∀ o, Same H1 (upd (upd H7 p8 _) p9 o) := fun o => sm_new (s8 _) o hp9
      refine r_cat ((sm_new (Same.refl _) _ hp9) _ _ upd_same) upd_same (by simp only [List.length_append, List.length_map, List.length_cons, List.length_nil]; omega) fun pa hpa => ?_
      have sA : ∀ o, Same H1 (upd (upd (upd H7 p8 _) p9 _) pa o) := fun o => sm_new (s9 _) o hpa
      refine ⟨pa, _, _, _, _, rfl, sm.trans (sA _), ?_, ?_⟩
      · exact sm.free ((s9 _).free hpa)
      · rw [upd_same, et, eln, List.map_append, List.map_cons, List.map_append, List.map_cons, List.map_append]
        rw [show lnV .sum = V.str "sum" from congrArg V.str (join1 _), show lnV .wth = V.str "with" from congrArg V.str (join1 _)]
        show _ = some (HO.lst (_ ++ _ :: (_ ++ _ :: (_ ++ [lnV .fin]))))
        rw [show lnV .fin = V.str "end" from congrArg V.str (join1 _)]
        simp only [List.append_assoc, List.cons_append, List.nil_append]
    · -- fork
      have j1 : 1 ≤ j := by
        rcases hlev.2 with h2 | h2
        · omega
        · obtain ⟨z, e⟩ := h2 _ (List.mem_of_getElem? hl)
          cases e
      obtain ⟨ya, yb, ⟨c, rfl, hc⟩, hca, hcb⟩ := hxl
      obtain ⟨⟨wa, sa⟩, ⟨wb, sb⟩⟩ := lw
      have eln : LL.lines (.fk u y) = .fork :: (plines u ++ .wth :: (plines y ++ [.fin])) := rfl
      rw [eln, List.length_cons, List.length_append, List.length_cons, List.length_append] at hmi
      have lfin : ([Ln.fin] : List Ln).length = 1 := rfl
      rw [lfin] at hmi
      walk_at "rt"
      refine tup_s rfl fun p1 hp1 => ?_
      have s1 : ∀ o, Same H1 (upd H1 p1 o) := fun o => sm_new (Same.refl H1) o hp1
      walk_at "rt"
      refine r_cat (s1 _ _ _ hpl) upd_same (by rw [List.length_map]; show _ + 1 ≤ _; omega) fun p2 hp2 => ?_
      have s2 : ∀ u, Same H1 (upd (upd H1 p1 _) p2 u) := fun u => sm_new (s1 _) u hp2
      walk_at "rd"
      refine r_ixT (s2 _ _ _ hc) (by rfl) ?_
      walk_at "rd"
      refine ⟨ya, u.map LL.p, m, rfl, PLs.lls (hca.mono (sm_tk (s2 _))), lwf_map.mpr wa, lsm_map.mpr sa, lev_map j j1 u, by rw [llines_map]; omega, fun p3 H3 s3 _ hp3 => ?_⟩
      rw [llines_map] at hp3
      refine r_cat (s3 _ _ upd_same) hp3 (by rw [List.length_append, List.length_map, List.length_map]; show _ + 1 + _ ≤ _; omega) fun p4 hp4 => ?_
      have s4 : ∀ o, Same H1 (upd H3 p4 o) := fun o => sm_new ((s2 _).trans s3) o hp4
      walk_at "rd"
      refine tup_s rfl fun p5 hp5 => ?_
      have s5 : ∀ o, Same H1 (upd (upd H3 p4 _) p5 o) := fun o => sm_new (s4 _) o hp5
      refine r_cat ((sm_new (Same.refl _) _ hp5) _ _ upd_same) upd_same (by rw [List.length_append, List.length_append, List.length_map, List.length_map]; show _ + 1 + _ + 1 ≤ _; omega) fun p6 hp6 => ?_
      have s6 : ∀ o, Same H1 (upd (upd (upd H3 p4 _) p5 _) p6 o) := fun o => sm_new (s5 _) o hp6
      walk_at "rd"
      refine r_ixT (s6 _ _ _ hc) (by rfl) ?_
      walk_at "rd"
      refine ⟨yb, y.map LL.p, m, rfl, PLs.lls (hcb.mono (sm_tk (s6 _))), lwf_map.mpr wb, lsm_map.mpr sb, lev_map j j1 y, by rw [llines_map]; omega, fun p7 H7 s7 _ hp7 => ?_⟩
      rw [llines_map] at hp7
      refine r_cat (s7 _ _ upd_same) hp7 (by simp only [List.length_append, List.length_map, List.length_cons, List.length_nil]; omega) fun p8 hp8 => ?_
      have s8 : ∀ o, Same H1 (upd H7 p8 o) := fun o => sm_new ((s6 _).trans s7) o hp8
      walk_at "rd"
      refine tup_s rfl fun p9 hp9 => ?_
      have s9 : ∀ o, Same H1 (upd (upd H7 p8 _) p9 o) := fun o => sm_new (s8 _) o hp9
      refine r_cat ((sm_new (Same.refl _) _ hp9) _ _ upd_same) upd_same (by simp only [List.length_append, List.length_map, List.length_cons, List.length_nil]; omega) fun pa hpa => ?_
      have sA : ∀ o, Same H1 (upd (upd (upd H7 p8 _) p9 _) pa o) := fun o => sm_new (s9 _) o hpa
      refine ⟨pa, _, _, _, _, rfl, sm.trans (sA _), ?_, ?_⟩
      · exact sm.free ((s9 _).free hpa)
      · rw [upd_same, et, eln, List.map_append, List.map_cons, List.map_append, List.map_cons, List.map_append]
        rw [show lnV .fork = V.str "fork" from congrArg V.str (join1 _), show lnV .wth = V.str "with" from congrArg V.str (join1 _)]
        show _ = some (HO.lst (_ ++ _ :: (_ ++ _ :: (_ ++ [lnV .fin]))))
        rw [show lnV .fin = V.str "end" from congrArg V.str (join1 _)]
        simp only [List.append_assoc, List.cons_append, List.nil_append]
  · rintro σ H1 ⟨p, o2, o3, o4, o5, rfl, sm, hp0, hpl⟩
    rw [hxs.len, List.take_length] at hpl
    walk_at "rt"
    exact q p H1 sm hp0 hpl
theorem no_llines {ps : List Str} : FnOk P w K mg base CX0 0 f fd ps (sp_llines 0) := by
  have no : ∀ vs H Q E, ¬ sp_llines 0 vs H Q E := fun vs H Q E h => by
    obtain ⟨_, _, _, _, _, _, _, hl, _⟩ := h
    exact absurd hl.1 (by decide)
  exact ⟨fun vs H Q E h => absurd h (no vs H Q E), fun A outer s H args us vs Q E _ _ _ _ h => absurd h (no vs H Q E)⟩
end
end Wh

namespace Wh
open TL
/-! ### numbers as words -/
theorem tl_zero : tl ("0" : Str) = [48] := by decide +kernel
theorem tl_minus : tl ("-" : Str) = [45] := by decide +kernel
theorem tl_digS : tl digS = [48, 49, 50, 51, 52, 53, 54, 55, 56, 57] := by decide +kernel
theorem one_tl (c : Nat) : tl (⟨#[c]⟩ : Str) = [c] := rfl
theorem str_ne {a b : Str} (h : tl a ≠ tl b) : decide (V.str a = V.str b) = false := decide_eq_false fun e => h (congrArg tl (V.str.inj e))
theorem str_eq {a b : Str} (h : tl a = tl b) : decide (V.str a = V.str b) = true := decide_eq_true (congrArg V.str (ext_tl h))
theorem numL_head : ∀ {n : Nat}, 1 ≤ n → ∃ c r, numL n = c :: r ∧ c ≠ 48 := by
  intro n
  induction n using Nat.strongRecOn with
  | _ n ih =>
    intro h
    by_cases h10 : n < 10
    · rw [numL_lt h10]
      exact ⟨_, _, rfl, by omega⟩
    · obtain ⟨c, r, e, nc⟩ := ih (n / 10) (by omega) (by omega)
      rw [numL_step (by omega), e]
      exact ⟨c, _, rfl, nc⟩
/-- the digits of a number's word, with what stands ahead of them -/
theorem num_shape {z : Int} (h : Num z) : ∃ n : Nat, n < 10 ^ 7 ∧ ((0 ≤ z ∧ tl (numS z) = numL n ∧ z = n) ∨ (1 ≤ n ∧ tl (numS z) = 45 :: numL n ∧ z = -(n : Int))) := by
  by_cases hz : 0 ≤ z
  · exact ⟨z.toNat, by have := h.2; omega, .inl ⟨hz, tl_pos hz, by omega⟩⟩
  · exact ⟨(-z).toNat, by have := h.1; omega, .inr ⟨by omega, tl_neg (by omega), by omega⟩⟩
theorem num_int {z : Int} (h : Num z) : PySem.intText? (numS z) = some z := by
  obtain ⟨n, hn, c⟩ := num_shape h
  have l7 := numL_le hn
  rcases c with ⟨h0, e, ez⟩ | ⟨h1, e, ez⟩
  · have q := int_num (n := n) (by omega)
    rw [← ez] at q
    exact q
  · have q := intText_neg (x := numS z) (cs := numL n) e (numL_digits n) (numL_ne n) (by rw [len_tl, e, List.length_cons]; omega)
    rw [numL_val, ← ez] at q
    exact q
theorem r_ixS {H : Hp} {Q : VK} {z : Str} {i : Int} {c : Nat} (l : z.length ≤ 100000) (e : atI z.cps.toList i = some c) (q : Q (.str ⟨#[c]⟩) H) : rIxS (.str z) (.int i) H Q := ⟨z, i, c, rfl, rfl, fit l, e, q⟩
theorem r_slS {H : Hp} {Q : VK} {z : Str} {lo hi : Option Int} (l : z.length ≤ 100000) (q : Q (.str (cutS z lo hi)) H) : rSlS (.str z) lo hi H Q := ⟨z, rfl, fit l, q⟩
theorem at0 {c : Nat} {r : List Nat} : atI (c :: r) 0 = some c := by
  unfold atI ixN
  rw [if_pos (Int.le_refl 0), if_pos (by rw [List.length_cons]; omega)]
  rfl
theorem at0V {c : V} {r : List V} : atI (c :: r) 0 = some c := at_of (j := 0) rfl rfl
theorem tl_cut1 {z : Str} {c : Nat} {r : List Nat} (e : tl z = c :: r) : tl (cutS z (some 1) none) = r := by
  show (((tl z).drop (HT.sIx z.length 0 (some 1))).take (HT.sIx z.length z.length none - HT.sIx z.length 0 (some 1))) = r
  have l : z.length = r.length + 1 := by rw [len_tl, e, List.length_cons]
  have e1 : HT.sIx z.length 0 (some 1) = 1 := by
    rw [l]
    show min (1 : Int).toNat (r.length + 1) = 1
    have : (1 : Int).toNat = 1 := rfl
    omega
  have e2 : HT.sIx z.length z.length none = r.length + 1 := by rw [l]; rfl
  rw [e1, e2, e]
  show (r.drop 0).take (r.length + 1 - 1) = r
  rw [List.drop_zero, Nat.add_sub_cancel, List.take_length]
def sp_isnum : Sp := fun vs H Q _ => ∃ z : Int, vs = [.str (numS z)] ∧ Num z ∧ Q (.bl true) H
def sp_within : Sp := fun vs H Q _ => ∃ x m : Int, vs = [.int x, .int m] ∧ -m ≤ x ∧ x ≤ m ∧ Q (.bl true) H
theorem r_notInS {H : Hp} {Q : VK} {c : Nat} {z : Str} (q : Q (.bl (!decide (c ∈ z.cps.toList))) H) : ∃ (d : Nat) (y : Str), V.str ⟨#[c]⟩ = .str ⟨#[d]⟩ ∧ V.str z = .str y ∧ Q (.bl (!decide (d ∈ y.cps.toList))) H := ⟨c, z, rfl, rfl, q⟩
section
variable {P : Program} {w : World} {K : PySem.W.Frag} {mg : Str → Option Value} {base : Heap} {C W M f : Addr} {fd : FuncData}
theorem ok_within (F : Fun K "within" "within" s_within f fd) (T : Tx K w mg C W M) : FnOk P w K mg base CX0 1 f fd P_within sp_within := by
  refine F.ok sc_within (fun vs H Q E h => ?_) (fun cdv A outer s H vs Q E hr h => ?_)
  · obtain ⟨x, m, rfl, _⟩ := h
    rfl
  obtain ⟨x, m, rfl, h1, h2, q⟩ := h
  refine ⟨_, (pss_one (ps_ret (pe_chain op_le op_le (pe_un un_neg (pv 1)) (pv 0) (pv 1)))), ?_⟩
  walk_at "rt"
  refine itY (decide_eq_true h1) ?_
  walk_at "rt"
  rw [decide_eq_true h2]
  exact q
theorem ok_isnum (F : Fun K "is_number" "is_number" s_is_number f fd) (T : Tx K w mg C W M) : FnOk P w K mg base CX0 1 f fd P_is_number sp_isnum := by
  refine F.ok sc_is_number (fun vs H Q E h => ?_) (fun cdv A outer s H vs Q E hr h => ?_)
  · obtain ⟨z, rfl, _⟩ := h
    rfl
  obtain ⟨z, rfl, hz, q⟩ := h
  refine ⟨_, (pss_cons (ps_set (i := 1) sc_is_number.nd rfl (Or.inl rfl) (pv 0))
      (pss_cons (ps_if (pt_cmpR op_eq (pe_ix ix_str (pv 0) pe_int (fun _ _ => rfl)) pe_str (nomark _))
        (pss_one (ps_set (i := 1) sc_is_number.nd rfl (Or.inl rfl) (pe_slice sl_str (pv 0) (po_some pe_int) po_none)))
        pss_nil)
      (pss_cons (ps_if (PW.pt (pw_or (pt_cmpR op_eq (pv 1) pe_str (nomark _)) (pw_or1 (pt_cmpR op_gt (pe_callB call_len_str rfl T.f_len PySem.boot_len (pa_cons (pv 1) pa_nil)) (pgi T.c_MOST_DIGITS) (nomark _)))))
        (pss_one (ps_ret pe_bl))
        pss_nil)
      (pss_cons (ps_for PassesOwn.never rfl (pi_str (pv 1)) (pg_name (i := 2) sc_is_number.nd rfl (Or.inl rfl))
        (pss_one (ps_if (pt_cmpR op_notIn_sign (pv 2) (pgs T.c_DIGITS) rfl)
          (pss_one (ps_ret pe_bl))
          pss_nil)))
      (pss_one (ps_ret (pe_or (pe_cmpR op_eq (pv 0) pe_str (nomark _)) (pe_one (pe_cmpR op_ne (pe_ix ix_str (pv 1) pe_int (fun _ _ => rfl)) pe_str (nomark _)))))))))), ?_⟩
  obtain ⟨n, hn, hc⟩ := num_shape hz
  have l7 := numL_le hn
  have lz := (num_wd hz).len
  have dg := numL_digits n
  rcases hc with ⟨h0, ez, ezn⟩ | ⟨h1, ez, ezn⟩
  · have ex := ez
    obtain ⟨d0, r0, e0⟩ := List.exists_cons_of_ne_nil (numL_ne n)
    have d48 := dg d0 (by rw [e0]; exact List.mem_cons_self)
    walk_at "rt"
    refine r_ixS (by omega) (by rw [show (numS z).cps.toList = _ from ez, e0]; exact at0) ?_
    walk_at "rd"
    refine itN (str_ne (by rw [one_tl, tl_minus]; exact fun e => absurd (List.cons.inj e).1 (by omega))) ?_
    have ne0 : numL n ≠ [] := numL_ne n
    walk_at "rd"
    refine itN (str_ne (by rw [ex, show tl ("" : Str) = [] by decide +kernel]; exact ne0)) ?_
    walk_at "rd"
    refine ⟨_, rfl, fit (by rw [len_tl, ex]; omega), ?_⟩
    walk_at "rd"
    refine itN (decide_eq_false (by rw [len_tl, ex]; omega)) ?_
    walk_at "rt"
    refine f_str (fun i σ H' => H' = H ∧ ∃ o, σ = [some (.str (numS z)), some (.str (numS z)), o]) ⟨rfl, none, rfl⟩ ?_ ?_
    · rintro i c σ H1 hcc ⟨rfl, o, rfl⟩
      have cm : c ∈ numL n := by
        rw [← ex]
        exact List.mem_of_getElem? (by rw [Array.getElem?_toList]; exact hcc)
      have cd := dg c cm
      walk_at "rd"
      refine ⟨c, digS, rfl, rfl, ?_⟩
      walk_at "rd"
      refine itN ?_ ?_
      · rw [show digS.cps.toList = _ from tl_digS, decide_eq_true (by simp only [List.mem_cons, List.mem_nil_iff, or_false]; omega)]
        rfl
      walk_at "rd"
      exact ⟨rfl, _, rfl⟩
    · rintro σ H1 ⟨rfl, o, rfl⟩
      walk_at "rd"
      refine ite2 (fun _ => q) (fun c0 => ?_)
      obtain ⟨d, r, ed, nd⟩ : ∃ d r, numL n = d :: r ∧ d ≠ 48 := by
        refine numL_head (Nat.pos_of_ne_zero fun n0 => ?_)
        subst n0
        exact c0 (str_eq (by rw [ez, numL_lt (by decide), tl_zero]))
      walk_at "rd"
      refine r_ixS (by rw [len_tl, ex]; omega) (by rw [show (numS z).cps.toList = _ from ex, ed]; exact at0) ?_
      walk_at "rd"
      rw [str_ne (a := ⟨#[d]⟩) (by rw [one_tl, tl_zero]; exact fun e => nd (List.cons.inj e).1)]
      exact q
  · have ex := tl_cut1 ez
    have lcut : (cutS (numS z) (some 1) none).length ≤ 7 := by rw [len_tl, ex]; exact l7
    walk_at "rt"
    refine r_ixS (by omega) (by rw [show (numS z).cps.toList = _ from ez]; exact at0) ?_
    walk_at "rd"
    refine itY (str_eq (by rw [one_tl, tl_minus])) ?_
    walk_at "rd"
    refine r_slS (by omega) ?_
    have ne0 : numL n ≠ [] := numL_ne n
    walk_at "rd"
    refine itN (str_ne (by rw [ex, show tl ("" : Str) = [] by decide +kernel]; exact ne0)) ?_
    walk_at "rd"
    refine ⟨_, rfl, fit (by rw [len_tl, ex]; omega), ?_⟩
    walk_at "rd"
    refine itN (decide_eq_false (by rw [len_tl, ex]; omega)) ?_
    walk_at "rt"
    refine f_str (fun i σ H' => H' = H ∧ ∃ o, σ = [some (.str (numS z)), some (.str (cutS (numS z) (some 1) none)), o]) ⟨rfl, none, rfl⟩ ?_ ?_
    · rintro i c σ H1 hcc ⟨rfl, o, rfl⟩
      have cm : c ∈ numL n := by
        rw [← ex]
        exact List.mem_of_getElem? (by rw [Array.getElem?_toList]; exact hcc)
      have cd := dg c cm
      walk_at "rd"
      refine ⟨c, digS, rfl, rfl, ?_⟩
      walk_at "rd"
      refine itN ?_ ?_
      · rw [show digS.cps.toList = _ from tl_digS, decide_eq_true (by simp only [List.mem_cons, List.mem_nil_iff, or_false]; omega)]
        rfl
      walk_at "rd"
      exact ⟨rfl, _, rfl⟩
    · rintro σ H1 ⟨rfl, o, rfl⟩
      walk_at "rd"
      refine ite2 (fun _ => q) (fun c0 => ?_)
      obtain ⟨d, r, ed, nd⟩ : ∃ d r, numL n = d :: r ∧ d ≠ 48 := by
        refine numL_head (Nat.pos_of_ne_zero fun n0 => ?_)
        omega
      walk_at "rd"
      refine r_ixS (by rw [len_tl, ex]; omega) (by rw [show (cutS (numS z) (some 1) none).cps.toList = _ from ex, ed]; exact at0) ?_
      walk_at "rd"
      rw [str_ne (a := ⟨#[d]⟩) (by rw [one_tl, tl_zero]; exact fun e => nd (List.cons.inj e).1)]
      exact q
def sp_rnums : Sp := fun vs H Q _ => ∃ (line most : Int) (a : Addr) (zs : List Int), vs = [.int line, .ref a, .int most] ∧ H a = some (.lst ((zs.map numS).map V.str)) ∧ zs.length ≤ 100 ∧ (∀ z ∈ zs, Num z ∧ -most ≤ z ∧ z ≤ most) ∧
  ∀ (p : Addr) (H' : Hp), Same H H' → H p = none → H' p = some (.lst (zs.map V.int)) → Q (.ref p) H'
theorem ok_rnums (F : Fun K "read_numbers" "read_numbers" s_read_numbers f fd) (T : Tx K w mg C W M) (G_is_number : Cl P w K mg base 1 "is_number" P_is_number sp_isnum) (G_within : Cl P w K mg base 1 "within" P_within sp_within) :
    FnOk P w K mg base CX0 2 f fd P_read_numbers sp_rnums := by
  refine F.ok sc_read_numbers (fun vs H Q E h => ?_) (fun cdv A outer s H vs Q E hr h => ?_)
  · obtain ⟨line, most, a, zs, rfl, _⟩ := h
    rfl
  obtain ⟨line, most, a, zs, rfl, ha, hl, hz, q⟩ := h
  refine ⟨_, (pss_cons (ps_set (i := 3) sc_read_numbers.nd rfl (Or.inl rfl) (pe_lst pa_nil))
      (pss_cons (ps_for PassesOwn.never rfl (pi_list (pv 1)) (pg_name (i := 4) sc_read_numbers.nd rfl (Or.inl rfl))
        (pss_cons (ps_if (pt_not (pt_val (pcl G_is_number hr (pa_cons (pv 4) pa_nil))))
          (pss_one ps_never)
          pss_nil)
        (pss_cons (ps_if (pt_not (pt_val (pcl G_within hr (pa_cons (pe_callTy call_int_str rfl T.f_int (by decide +kernel) (pa_cons (pv 4) pa_nil)) (pa_cons (pv 2) pa_nil)))))
          (pss_one ps_never)
          pss_nil)
        (pss_one (ps_expr (pe_bm PySem.F.plainAttrs_list PySem.F.slot_list_append PySem.F.type_list_append mt_append (pv 3) (pa_cons (pe_callTy call_int_str rfl T.f_int (by decide +kernel) (pa_cons (pv 4) pa_nil)) pa_nil)))))))
      (pss_one (ps_ret (pv 3))))), ?_⟩
  walk_at "rt"
  refine tup_s rfl fun p hp => ?_
  walk_at "rt"
  refine ⟨a, rfl, ⟨_, SqL.of (by rw [upd_ne (ne_of_none ha hp)]; exact ha)⟩, f_lst (xs := (zs.map numS).map V.str) (fun i σ H' => ∃ o, σ = [some (.int line), some (.ref a), some (.int most), some (.ref p), o] ∧ Same H H' ∧ H' p = some (.lst ((zs.take i).map V.int)))
    ⟨none, rfl, sm_new (Same.refl H) _ hp, upd_same⟩ (fun i σ H' _ ⟨_, _, sm, _⟩ => SqL.of (sm _ _ ha)) ?_ ?_⟩
  · rintro i x σ H1 hx ⟨o, rfl, sm, hd⟩
    rw [List.map_map, List.getElem?_map] at hx
    obtain ⟨z, hzi, rfl⟩ : ∃ z, zs[i]? = some z ∧ x = .str (numS z) := by
      cases e : zs[i]? with
      | none => rw [e] at hx; cases hx
      | some z => rw [e] at hx; exact ⟨z, rfl, (Option.some.inj hx).symm⟩
    obtain ⟨nz, z1, z2⟩ := hz z (List.mem_of_getElem? hzi)
    have hi := (List.getElem?_eq_some_iff.mp hzi).1
    walk_at "rt"
    refine ⟨z, rfl, nz, ?_⟩
    walk_at "rt"
    have li : (numS z).length ≤ 640 := Nat.le_trans (num_wd nz).len (by decide)
    refine ⟨numS z, z, rfl, num_int nz, li, ?_⟩
    walk_at "rt"
    refine ⟨z, most, rfl, z1, z2, ?_⟩
    walk_at "rt"
    refine r_tyL hd ?_
    walk_at "rt"
    refine ⟨numS z, z, rfl, num_int nz, li, ?_⟩
    walk_at "rt"
    refine r_app hd (by rw [List.length_map, List.length_take]; omega) ?_
    refine ⟨_, rfl, same_own sm hp _, ?_⟩
    rw [upd_same, List.take_add_one, hzi, List.map_append]
    rfl
  · rintro σ H1 ⟨o, rfl, sm, hd⟩
    rw [List.length_map, List.length_map, List.take_length] at hd
    walk_at "rt"
    exact q p H1 sm hp hd
def sp_rcount : Sp := fun vs H Q _ => ∃ (line lo hi z : Int), vs = [.int line, .str (numS z), .int lo, .int hi] ∧ Num z ∧ lo ≤ z ∧ z ≤ hi ∧ ∀ H' : Hp, Same H H' → Q (.int z) H'
theorem ok_rcount (F : Fun K "read_count" "read_count" s_read_count f fd) (T : Tx K w mg C W M) (G_read_numbers : Cl P w K mg base 2 "read_numbers" P_read_numbers sp_rnums) : FnOk P w K mg base CX0 3 f fd P_read_count sp_rcount := by
  refine F.ok sc_read_count (fun vs H Q E h => ?_) (fun cdv A outer s H vs Q E hr h => ?_)
  · obtain ⟨line, lo, hi, z, rfl, _⟩ := h
    rfl
  obtain ⟨line, lo, hi, z, rfl, nz, h1, h2, q⟩ := h
  refine ⟨_, (pss_cons (ps_set (i := 4) sc_read_count.nd rfl (Or.inl rfl) (pe_ix ix_list (pcl G_read_numbers hr (pa_cons (pv 0) (pa_cons (pe_lst (pa_cons (pv 1) pa_nil)) (pa_cons pe_int pa_nil)))) pe_int (fun _ _ => rfl)))
      (pss_cons (ps_if (PW.pt (pw_or (pt_cmpR op_lt (pv 4) (pv 2) (nomark _)) (pw_or1 (pt_cmpR op_gt (pv 4) (pv 3) (nomark _)))))
        (pss_one ps_never)
        pss_nil)
      (pss_one (ps_ret (pv 4))))), ?_⟩
  walk_at "rt"
  refine tup_s rfl fun p hp => ?_
  walk_at "rt"
  refine ⟨line, 999999999, p, [z], rfl, upd_same, by show 1 ≤ 100; decide, fun y hy => ?_, fun r H' sm hr0 hr1 => ?_⟩
  · rw [List.mem_singleton.mp hy]
    exact ⟨nz, by have := nz.1; omega, by have := nz.2; omega⟩
  · refine r_ixL hr1 at0V ?_
    walk_at "rt"
    refine itN (decide_eq_false (by omega)) ?_
    walk_at "rt"
    refine itN (decide_eq_false (by omega)) ?_
    walk_at "rt"
    exact q H' ((sm_new (Same.refl H) _ hp).trans sm)
/-! ### words of a line -/
def SV (l : List Nat) : V := .str ⟨l.toArray⟩
theorem split_sk (t : Str) : (Txt.split t " ").map V.str = (sk (tl t)).map SV := by
  have e := split_spl t " " (by rw [tl_sp]; decide) (kind_ok (by decide +kernel))
  rw [tl_sp] at e
  have e2 : Txt.split t " " = (sk (tl t)).map (fun l => (⟨l.toArray⟩ : Str)) := by
    refine map_tl_inj ?_
    rw [e, List.map_map]
    exact (List.map_id _).symm
  rw [e2, List.map_map]
  rfl
theorem sk_len_acc : ∀ (t acc : List Nat), (spl [32] 0 acc t).length ≤ t.length + 1
  | [], acc => by rw [spl_nil]; exact Nat.le_refl 1
  | c :: t, acc => by
    by_cases h : c = 32
    · subst h
      rw [spl_hit (by rw [pre1] <;> rfl)]
      show (spl [32] 0 [] t).length + 1 ≤ _
      have := sk_len_acc t []
      rw [List.length_cons]
      omega
    · rw [spl_miss (by rw [pre1]; exact decide_eq_false h)]
      have := sk_len_acc t (acc ++ [c])
      rw [List.length_cons]
      omega
theorem sk_len (t : List Nat) : (sk t).length ≤ t.length + 1 := sk_len_acc t []
theorem spl_part_len : ∀ (t acc : List Nat), ∀ p ∈ spl [32] 0 acc t, p.length ≤ acc.length + t.length
  | [], acc, p, h => by
    rw [spl_nil] at h
    rw [List.mem_singleton.mp h]
    exact Nat.le_refl _
  | c :: t, acc, p, h => by
    by_cases hc : c = 32
    · subst hc
      rw [spl_hit (by rw [pre1] <;> rfl)] at h
      rcases List.mem_cons.mp h with rfl | h
      · omega
      · have := spl_part_len t [] p h
        rw [List.length_cons]
        show _ ≤ acc.length + (t.length + 1)
        have z : ([] : List Nat).length = 0 := rfl
        omega
    · rw [spl_miss (by rw [pre1]; exact decide_eq_false hc)] at h
      have := spl_part_len t (acc ++ [c]) p h
      rw [List.length_append, List.length_singleton] at this
      rw [List.length_cons]
      omega
def sp_wordsof : Sp := fun vs H Q _ => ∃ t : Str, vs = [.str t] ∧ t.length ≤ 1000 ∧ ∀ (p : Addr) (H' : Hp), Same H H' → H p = none → H' p = some (.lst ((wo (tl t)).map SV)) → Q (.ref p) H'
theorem cut01 (l : List Nat) : tl (cutS ⟨l.toArray⟩ none (some 1)) = l.take 1 := by
  have e : tl (⟨l.toArray⟩ : Str) = l := rfl
  have el : (⟨l.toArray⟩ : Str).length = l.length := by rw [len_tl]
  show (((tl (⟨l.toArray⟩ : Str)).drop (HT.sIx (⟨l.toArray⟩ : Str).length 0 none)).take (HT.sIx (⟨l.toArray⟩ : Str).length (⟨l.toArray⟩ : Str).length (some 1) - HT.sIx (⟨l.toArray⟩ : Str).length 0 none)) = l.take 1
  rw [e, el]
  show (l.drop 0).take (min (1 : Int).toNat l.length - 0) = l.take 1
  rw [List.drop_zero, Nat.sub_zero]
  cases l with
  | nil => rfl
  | cons c r =>
    rw [List.length_cons, show min (1 : Int).toNat (r.length + 1) = 1 by have : (1 : Int).toNat = 1 := rfl; omega]
theorem tl_hash : tl ("#" : Str) = [35] := by decide +kernel
theorem tl_empty : tl ("" : Str) = [] := by decide +kernel
theorem hash_dec (l : List Nat) : decide (V.str (cutS ⟨l.toArray⟩ none (some 1)) = V.str "#") = !nohash l := by
  unfold nohash
  rw [Bool.not_not]
  by_cases h : l.take 1 = [35]
  · rw [str_eq (by rw [cut01, tl_hash]; exact h), h]
    rfl
  · rw [str_ne (by rw [cut01, tl_hash]; exact h)]
    exact (beq_eq_false_iff_ne.mpr h).symm
theorem empty_dec (l : List Nat) : (!decide (SV l = V.str "")) = full l := by
  unfold full SV
  cases l with
  | nil => rw [str_eq (b := "") (by rw [tl_empty])] <;> rfl
  | cons c r => rw [str_ne (b := "") (by rw [tl_empty]; exact List.cons_ne_nil _ _)] <;> rfl
theorem tw_take {p : List Nat → Bool} : ∀ {l : List (List Nat)} {i : Nat} {x : List Nat}, (∀ w ∈ l.take i, p w = true) → l[i]? = some x → p x = false → l.takeWhile p = l.take i
  | [], _, _, _, h, _ => by simp at h
  | a :: l, 0, x, _, h, hx => by
    cases h
    rw [List.takeWhile_cons, if_neg (by rw [hx]; exact Bool.false_ne_true)]
    rfl
  | a :: l, i + 1, x, ha, h, hx => by
    have h1 := ha a (by rw [List.take_succ_cons]; exact List.mem_cons_self)
    rw [List.takeWhile_cons, if_pos h1, List.take_succ_cons, tw_take (l := l) (i := i) (x := x) (fun w hw => ha w (by rw [List.take_succ_cons]; exact List.mem_cons_of_mem _ hw)) (by simpa using h) hx]
theorem ok_wordsof (F : Fun K "words_of" "words_of" s_words_of f fd) (T : Tx K w mg C W M) : FnOk P w K mg base CX0 1 f fd P_words_of sp_wordsof := by
  refine F.ok sc_words_of (fun vs H Q E h => ?_) (fun cdv A outer s H vs Q E hr h => ?_)
  · obtain ⟨t, rfl, _⟩ := h
    rfl
  obtain ⟨t, rfl, ht, q⟩ := h
  refine ⟨_, (pss_cons (ps_set (i := 1) sc_words_of.nd rfl (Or.inl rfl) (pe_lst pa_nil))
      (pss_cons (ps_for PassesOwn.never rfl (pi_list (pe_split (pv 0) pe_str)) (pg_name (i := 2) sc_words_of.nd rfl (Or.inl rfl))
        (pss_cons (ps_if (pt_cmpR op_eq (pe_slice sl_str (pv 2) po_none (po_some pe_int)) pe_str (nomark _))
          (pss_one ps_break)
          pss_nil)
        (pss_one (ps_if (pt_cmpR op_ne (pv 2) pe_str (nomark _))
          (pss_one (ps_expr (pe_bm PySem.F.plainAttrs_list PySem.F.slot_list_append PySem.F.type_list_append mt_append (pv 1) (pa_cons (pv 2) pa_nil))))
          pss_nil))))
      (pss_one (ps_ret (pv 1))))), ?_⟩
  walk_at "rt"
  refine tup_s rfl fun p hp => ?_
  walk_at "rt"
  have lt := len_tl t
  have ls := sk_len (tl t)
  refine ⟨t, " ", rfl, rfl, by decide +kernel, by rw [sizeLine_eq]; omega, fun p2 hp2 => ?_⟩
  have s2 := sm_new (sm_new (Same.refl H) (.lst []) hp) (.lst ((Txt.split t " ").map V.str)) hp2
  rw [split_sk] at s2 ⊢
  have e2 : upd (upd H p (.lst [])) p2 (.lst ((sk (tl t)).map SV)) p = some (.lst []) := by rw [upd_ne (ne_of_none upd_same hp2)]; exact upd_same
  have np : p2 ≠ p := fun z => by rw [z, upd_same] at hp2; cases hp2
  refine ⟨p2, rfl, ⟨_, SqL.of upd_same⟩, f_lst (xs := (sk (tl t)).map SV) (fun i σ H' => ∃ o, σ = [some (.str t), some (.ref p), o] ∧ Same H H' ∧ H' p2 = some (.lst ((sk (tl t)).map SV)) ∧ H' p = some (.lst ((((sk (tl t)).take i).filter full).map SV)) ∧ ∀ y ∈ (sk (tl t)).take i, nohash y = true)
    ⟨none, rfl, s2, upd_same, e2, fun _ z => nomatch z⟩ (fun i σ H' _ ⟨_, _, _, h, _⟩ => SqL.of h) ?_ ?_⟩
  · rintro i x σ H1 hx ⟨o, rfl, sm, h2, hd, hn⟩
    rw [List.getElem?_map] at hx
    obtain ⟨l, hl, rfl⟩ : ∃ l, (sk (tl t))[i]? = some l ∧ x = SV l := by
      cases e : (sk (tl t))[i]? with
      | none => rw [e] at hx; cases hx
      | some z => rw [e] at hx; exact ⟨z, rfl, (Option.some.inj hx).symm⟩
    have hi := (List.getElem?_eq_some_iff.mp hl).1
    have ll := spl_part_len (tl t) [] l (List.mem_of_getElem? hl)
    have z0 : ([] : List Nat).length = 0 := rfl
    walk_at "rd"
    refine r_slS (by rw [len_tl]; show l.length ≤ _; omega) ?_
    walk_at "rd"
    rw [hash_dec]
    by_cases hh : nohash l = true
    · rw [hh]
      walk_at "rt"
      rw [empty_dec]
      by_cases hf : full l = true
      · rw [hf]
        walk_at "rt"
        refine r_tyL hd ?_
        walk_at "rt"
        refine r_app hd ?_ ?_
        · rw [List.length_map]
          have a := List.length_filter_le full ((sk (tl t)).take i)
          have b := List.length_take_le i (sk (tl t))
          omega
        refine ⟨_, rfl, same_own sm hp _, by rw [upd_ne np]; exact h2, ?_, fun y hy => ?_⟩
        · rw [upd_same, List.take_add_one, hl, List.filter_append, List.map_append]
          show _ = some (HO.lst (_ ++ List.map SV (List.filter full [l])))
          rw [List.filter_cons, if_pos hf]
          rfl
        · rw [List.take_add_one, hl] at hy
          rcases List.mem_append.mp hy with hy | hy
          · exact hn y hy
          · rw [List.mem_singleton.mp hy]
            exact hh
      · rw [Bool.eq_false_iff.mpr hf]
        walk_at "rt"
        refine ⟨_, rfl, sm, h2, ?_, fun y hy => ?_⟩
        · rw [List.take_add_one, hl, List.filter_append]
          show _ = some (HO.lst (List.map SV (_ ++ List.filter full [l])))
          rw [List.filter_cons, if_neg hf, hd]
          show _ = some (HO.lst (List.map SV (_ ++ [])))
          rw [List.append_nil]
        · rw [List.take_add_one, hl] at hy
          rcases List.mem_append.mp hy with hy | hy
          · exact hn y hy
          · rw [List.mem_singleton.mp hy]
            exact hh
    · rw [Bool.eq_false_iff.mpr hh]
      walk_at "rt"
      refine q p H1 sm hp ?_
      rw [hd]
      unfold wo
      rw [tw_take hn hl (Bool.eq_false_iff.mpr hh)]
  · rintro σ H1 ⟨o, rfl, sm, h2, hd, hn⟩
    rw [List.length_map, List.take_length] at hd hn
    walk_at "rt"
    refine q p H1 sm hp ?_
    rw [hd]
    unfold wo
    have e := tw_all (m := []) hn
    rw [List.append_nil, List.takeWhile_nil, List.append_nil] at e
    rw [e]
def sp_ctext : Sp := fun vs H Q _ => ∃ t : Str, vs = [.str t] ∧ t.length ≤ 60000 ∧ (∀ c ∈ tl t, c ∈ tl chrS) ∧ Q .non H
theorem ok_ctext (F : Fun K "check_text" "check_text" s_check_text f fd) (T : Tx K w mg C W M) : FnOk P w K mg base CX0 1 f fd P_check_text sp_ctext := by
  refine F.ok sc_check_text (fun vs H Q E h => ?_) (fun cdv A outer s H vs Q E hr h => ?_)
  · obtain ⟨t, rfl, _⟩ := h
    rfl
  obtain ⟨t, rfl, ht, hc, q⟩ := h
  refine ⟨_, (pss_cons (ps_if (pt_cmpR op_gt (pe_callB call_len_str rfl T.f_len PySem.boot_len (pa_cons (pv 0) pa_nil)) (pgi T.c_MOST_CHARACTERS) (nomark _))
        (pss_one ps_never)
        pss_nil)
      (pss_cons (ps_set (i := 1) sc_check_text.nd rfl (Or.inl rfl) pe_int)
      (pss_one (ps_for PassesOwn.never rfl (pi_str (pv 0)) (pg_name (i := 2) sc_check_text.nd rfl (Or.inl rfl))
        (pss_cons (ps_if (pt_cmpR op_notIn_sign (pv 2) (pgs T.c_CHARACTERS) rfl)
          (pss_one ps_never)
          pss_nil)
        (pss_one (ps_if (pt_cmpR op_eq (pv 2) pe_str (nomark _))
          (pss_one (ps_set (i := 1) sc_check_text.nd rfl (Or.inl rfl) (pe_op op_add (pv 1) pe_int)))
          pss_nil))))))), ?_⟩
  walk_at "rd"
  refine ⟨t, rfl, fit (by omega), ?_⟩
  walk_at "rd"
  refine itN (decide_eq_false (by omega)) ?_
  walk_at "rt"
  refine f_str (fun i σ H' => H' = H ∧ ∃ (n : Int) (o : Option V), σ = [some (.str t), some (.int n), o]) ⟨rfl, 1, none, rfl⟩ ?_ ?_
  · rintro i c σ H1 hcc ⟨rfl, n, o, rfl⟩
    have cm : c ∈ tl t := List.mem_of_getElem? (by rw [Array.getElem?_toList]; exact hcc)
    walk_at "rd"
    refine ⟨c, chrS, rfl, rfl, ?_⟩
    walk_at "rd"
    refine itN ?_ ?_
    · rw [decide_eq_true (show c ∈ chrS.cps.toList from hc c cm)]
      rfl
    walk_at "rt"
    refine ite2 (fun _ => ?_) (fun _ => ?_)
    · walk_at "rt"
      exact ⟨rfl, _, _, rfl⟩
    · walk_at "rt"
      exact ⟨rfl, _, _, rfl⟩
  · rintro σ H1 ⟨rfl, n, o, rfl⟩
    exact q
end
end Wh

namespace Wh
theorem small_all : ∀ j ∈ List.range 17, ∀ c ∈ ([1, 2, 3] : List Nat), Builtin.Range.small 0 (j : Int) (c : Int) = true := by decide +kernel
theorem rsize_all : ∀ j ∈ List.range 17, ∀ c ∈ ([1, 2, 3] : List Nat), Builtin.Range.rangeSize 0 ((j + 1 : Nat) : Int) (c : Int) = ((j / c + 1 : Nat) : Int) := by decide +kernel
theorem rgc {j c : Nat} (hj : j ≤ 15) (hc : 1 ≤ c ∧ c ≤ 3) : RgC 0 ((j + 1 : Nat) : Int) (c : Int) (j / c + 1) := by
  have mc : c ∈ ([1, 2, 3] : List Nat) := by simp only [List.mem_cons, List.mem_nil_iff, or_false]; omega
  exact ⟨by omega, by omega, small_all (j + 1) (List.mem_range.mpr (by omega)) c mc, rsize_all j (List.mem_range.mpr (by omega)) c mc⟩
def sp_places : Sp := fun vs H Q _ => ∃ (v : V) (ks : List (List Int)) (bs : List Int) (st n : Nat), vs = [v, .int n] ∧ PLAt H v (.conv ks bs st) ∧ PL.wf n (.conv ks bs st) ∧ n ≤ 16 ∧
  ∀ (p : Addr) (xs : List V) (H' : Hp), Same H H' → H p = none → H' p = some (.lst xs) → xs.length = (n - ksz ks) / st + 1 → Q (.ref p) H'
def sp_gall (j : Nat) : Sp := fun vs H Q _ => ∃ (v : V) (n : Nat) (ls : List LL), vs = [v, .int n] ∧ LLs H v ls ∧ lwf n ls ∧ lsm n ls ∧ Lev j ls ∧ ∀ H' : Hp, Same H H' → Q (.int (lgives n ls)) H'
def sp_g (j : Nat) : Sp := fun vs H Q _ => ∃ (v : V) (n : Nat) (l : LL), vs = [v, .int n] ∧ LLAt H v l ∧ l.wf n ∧ 1 ≤ n ∧ n ≤ 16 ∧ Lev j [l] ∧ ∀ H' : Hp, Same H H' → Q (.int (l.gives n)) H'
section
variable {P : Program} {w : World} {K : PySem.W.Frag} {mg : Str → Option Value} {base : Heap} {C W M f : Addr} {fd : FuncData}
theorem ks_cons {n : Nat} {m : Nat} {ks : List (List Int)} {H : Hp} {zs : List V} (h : RowsOk m n ks) (hm : 1 ≤ m) (hr : AllP (Ints H) zs ks) : ∃ k0 ks2 z0 zs2, ks = k0 :: ks2 ∧ zs = z0 :: zs2 ∧ Ints H z0 k0 := by
  cases ks with
  | nil =>
    have e : 0 = m := h.1
    omega
  | cons k0 ks2 =>
    cases zs with
    | nil => exact hr.elim
    | cons z0 zs2 => exact ⟨k0, ks2, z0, zs2, rfl, rfl, hr.1⟩
theorem ok_places (F : Fun K "places" "places" s_places f fd) (T : Tx K w mg C W M) : FnOk P w K mg base CX0 1 f fd P_places sp_places := by
  refine F.ok sc_places (fun vs H Q E h => ?_) (fun cdv A outer s H vs Q E hr h => ?_)
  · obtain ⟨v, ks, bs, st, n, rfl, _⟩ := h
    rfl
  obtain ⟨v, ks, bs, st, n, rfl, hv, hw, hn, q⟩ := h
  obtain ⟨y, z, ⟨p, rfl, hp⟩, ⟨zs, ⟨c, rfl, hc⟩, hr⟩, ⟨b, rfl, hb⟩⟩ := hv
  obtain ⟨w1, w2, k1, k3, km, kl, _, s1, s3⟩ := hw
  obtain ⟨k0, ks2, z0, zs2, rfl, rfl, ⟨d, rfl, hd⟩⟩ := ks_cons kl w1 hr
  have k1 : 1 ≤ k0.length := k1
  have k3 : k0.length ≤ 3 := k3
  have km : k0.length ≤ n := km
  refine ⟨_, (pss_one (ps_ret (pe_listRg3 rfl rfl rfl T.f_list T.f_range pe_int (pe_op op_add (pe_op op_sub (pv 1) (pe_callB call_len_seq rfl T.f_len PySem.boot_len (pa_cons (pe_ix ix_tup (pe_ix ix_tup (pv 0) pe_int (fun _ _ => rfl)) pe_int (fun _ _ => rfl)) pa_nil))) pe_int) (pe_ix ix_tup (pv 0) pe_int (fun _ _ => rfl))))), ?_⟩
  walk_at "rt"
  refine r_rg3 ?_
  walk_at "rt"
  rw [List.length_map]
  refine ⟨0, ((n - k0.length + 1 : Nat) : Int), st, (n - k0.length) / st + 1, rfl, by congr 1; omega, rfl, rgc (by omega) ⟨s1, s3⟩, ?_, fun r hr0 => ?_⟩
  · have := Nat.div_le_self (n - k0.length) st
    omega
  · exact q r _ _ (sm_new (Same.refl H) _ hr0) hr0 upd_same (lr3_length _ _ _)
theorem ok_gall {k j : Nat} (F : Fun K "gives_all" "gives_all" s_gives_all f fd) (T : Tx K w mg C W M) (G_gives : Cl P w K mg base k "gives" P_gives (sp_g j)) : FnOk P w K mg base CX0 (k + 1) f fd P_gives_all (sp_gall j) := by
  refine F.ok sc_gives_all (fun vs H Q E h => ?_) (fun cdv A outer s H vs Q E hr h => ?_)
  · obtain ⟨v, n, ls, rfl, _⟩ := h
    rfl
  obtain ⟨v, n, ls, rfl, ⟨xs, ⟨a, rfl, ha⟩, hxs⟩, hw, hsm, hlev, q⟩ := h
  refine ⟨_, (pss_cons (ps_for PassesOwn.never rfl (pi_tup (pv 0)) (pg_name (i := 2) sc_gives_all.nd rfl (Or.inl rfl))
        (pss_one (ps_set (i := 1) sc_gives_all.nd rfl (Or.inl rfl) (pcl G_gives hr (pa_cons (pv 2) (pa_cons (pv 1) pa_nil))))))
      (pss_one (ps_ret (pv 1)))), ?_⟩
  walk_at "rd"
  refine ⟨a, rfl, ⟨_, SqT.of ha⟩, f_tup (xs := xs) (fun i σ H1 => Same H H1 ∧ ∃ o, σ = [some (.ref a), some (.int (lgives n (ls.take i))), o]) ⟨Same.refl H, none, rfl⟩ (fun i σ H1 _ ⟨e, _⟩ => SqT.of (e _ _ ha)) ?_ ?_⟩
  · rintro i x σ H1 hx ⟨sm, o, rfl⟩
    obtain ⟨l, hl, hxl⟩ := (AllP.mono (fun _ _ z => LLAt.mono (sm_tk sm) z) hxs).at hx
    have lw := lwf_take hl hw
    have l16 := lsm_take (List.getElem?_eq_some_iff.mp hl).1 hsm
    have et := lgives_take (n := n) hl
    generalize lgives n (ls.take i) = m at *
    walk_at "rt"
    refine ⟨x, m, l, rfl, hxl, lw, l16.1, l16.2, ⟨hlev.1, ?_⟩, fun H2 s2 => ⟨sm.trans s2, _, by rw [et]; rfl⟩⟩
    rcases hlev.2 with h2 | h2
    · exact .inl h2
    · refine .inr fun y hy => ?_
      rw [List.mem_singleton.mp hy]
      exact h2 l (List.mem_of_getElem? hl)
  · rintro σ H1 ⟨sm, o, rfl⟩
    rw [hxs.len, List.take_length]
    walk_at "rt"
    exact q H1 sm
theorem ok_g {k j : Nat} (hk : 1 ≤ k) (F : Fun K "gives" "gives" s_gives f fd) (T : Tx K w mg C W M) (G_places : Cl P w K mg base 1 "places" P_places sp_places) (G_gives_all : Cl P w K mg base k "gives_all" P_gives_all (sp_gall j)) :
    FnOk P w K mg base CX0 (k + 1) f fd P_gives (sp_g (j + 1)) := by
  refine F.ok sc_gives (fun vs H Q E h => ?_) (fun cdv A outer s H vs Q E hr h => ?_)
  · obtain ⟨v, n, l, rfl, _⟩ := h
    rfl
  obtain ⟨v, m, l, rfl, hxl, lw, m1, m16, hlev, q⟩ := h
  refine ⟨_, (pss_cons (ps_set (i := 2) sc_gives.nd rfl (Or.inl rfl) (pe_ix ix_tup (pv 0) pe_int (fun _ _ => rfl)))
      (pss_cons (ps_if (pt_cmpR op_eq (pv 2) pe_str (nomark _))
        (pss_one (ps_ret (pe_callB call_len_seq rfl T.f_len PySem.boot_len (pa_cons (pe_ix ix_tup (pv 0) pe_int (fun _ _ => rfl)) pa_nil))))
        pss_nil)
      (pss_cons (ps_if (pt_cmpR op_eq (pv 2) pe_str (nomark _))
        (pss_one (ps_ret (pe_op op_mul (pe_callB call_len_seq rfl T.f_len PySem.boot_len (pa_cons (pe_ix ix_tup (pv 0) pe_int (fun _ _ => rfl)) pa_nil)) (pe_callB call_len_seq rfl T.f_len PySem.boot_len (pa_cons (pcl G_places hr (pa_cons (pv 0) (pa_cons (pv 1) pa_nil))) pa_nil)))))
        pss_nil)
      (pss_cons (ps_if (PW.pt (pw_or (pt_cmpR op_eq (pv 2) pe_str (nomark _)) (pw_or1 (pt_cmpR op_eq (pv 2) pe_str (nomark _)))))
        (pss_one (ps_ret (pe_op op_fdiv (pv 1) (pe_ix ix_tup (pv 0) pe_int (fun _ _ => rfl)))))
        pss_nil)
      (pss_cons (ps_if (pt_cmpR op_eq (pv 2) pe_str (nomark _))
        (pss_one (ps_ret (pcl G_gives_all hr (pa_cons (pe_ix ix_tup (pv 0) pe_int (fun _ _ => rfl)) (pa_cons (pv 1) pa_nil)))))
        pss_nil)
      (pss_cons (ps_if (pt_cmpR op_eq (pv 2) pe_str (nomark _))
        (pss_one (ps_ret (pe_op op_add (pcl G_gives_all hr (pa_cons (pe_ix ix_tup (pv 0) pe_int (fun _ _ => rfl)) (pa_cons (pv 1) pa_nil))) (pcl G_gives_all hr (pa_cons (pe_ix ix_tup (pv 0) pe_int (fun _ _ => rfl)) (pa_cons (pv 1) pa_nil))))))
        pss_nil)
      (pss_one (ps_ret (pv 1))))))))), ?_⟩
  walk_at "rd"
  cases l with
  | p l =>
    cases l with
    | dense rows bs =>
      obtain ⟨y, z, ⟨p, rfl, hp⟩, hr, ⟨b, rfl, hb⟩⟩ := hxl
      walk_at "rt"
      rw [List.length_map]
      exact q H (Same.refl H)
    | conv ks bs st =>
      have hxl0 := hxl
      have lw0 := lw
      obtain ⟨y, z, ⟨p, rfl, hp⟩, ⟨zs, ⟨c, rfl, hc⟩, hr⟩, ⟨b, rfl, hb⟩⟩ := hxl
      obtain ⟨w1, w2, k1, k3, km, kl, _, s1, s3⟩ := lw
      walk_at "rt"
      refine ⟨.ref p, ks, bs, st, m, rfl, hxl0, lw0, m16, fun r xs H2 sm _ hr2 hl2 => ?_⟩
      walk_at "rt"
      refine r_I (Or.inl ⟨by omega, by rw [hr.len, kl.1]; omega⟩) ?_
      rw [hr.len, kl.1, hl2, ← Int.natCast_mul]
      exact q H2 sm
    | relu =>
      obtain ⟨p, rfl, hp⟩ := hxl
      walk_at "rt"
      exact q H (Same.refl H)
    | clamp lo hi =>
      obtain ⟨p, rfl, hp⟩ := hxl
      walk_at "rt"
      exact q H (Same.refl H)
    | mx s =>
      obtain ⟨p, rfl, hp⟩ := hxl
      have sl := sizes_le lw.1
      walk_at "rt"
      refine r_I ⟨by omega, by omega⟩ ?_
      rw [← Int.natCast_ediv]
      exact q H (Same.refl H)
    | mean s =>
      obtain ⟨p, rfl, hp⟩ := hxl
      have sl := sizes_le lw.1
      walk_at "rt"
      refine r_I ⟨by omega, by omega⟩ ?_
      rw [← Int.natCast_ediv]
      exact q H (Same.refl H)
  | sm c d =>
    have j1 : 1 ≤ j := by
      rcases hlev.2 with h2 | h2
      · omega
      · obtain ⟨q, e⟩ := h2 _ (List.mem_singleton.mpr rfl)
        cases e
    obtain ⟨y, z, ⟨p, rfl, hp⟩, hc, hd⟩ := hxl
    obtain ⟨⟨wa, sa⟩, _, _⟩ := lw
    walk_at "rt"
    refine ⟨y, m, c.map LL.p, rfl, hc.lls, lwf_map.mpr wa, lsm_map.mpr sa, lev_map j j1 c, fun H2 s2 => ?_⟩
    rw [lgives_map]
    exact q H2 s2
  | fk c d =>
    have j1 : 1 ≤ j := by
      rcases hlev.2 with h2 | h2
      · omega
      · obtain ⟨q, e⟩ := h2 _ (List.mem_singleton.mpr rfl)
        cases e
    obtain ⟨y, z, ⟨p, rfl, hp⟩, hc, hd⟩ := hxl
    obtain ⟨⟨wa, sa⟩, ⟨wb, sb⟩⟩ := lw
    walk_at "rt"
    refine ⟨y, m, c.map LL.p, rfl, hc.lls, lwf_map.mpr wa, lsm_map.mpr sa, lev_map j j1 c, fun H2 s2 => ?_⟩
    walk_at "rt"
    refine r_ixT (s2 _ _ hp) (by rfl) ?_
    walk_at "rt"
    refine ⟨z, m, d.map LL.p, rfl, (hd.mono (sm_tk s2)).lls, lwf_map.mpr wb, lsm_map.mpr sb, lev_map j j1 d, fun H3 s3 => ?_⟩
    walk_at "rt"
    rw [lgives_map, lgives_map, ← Int.natCast_add]
    exact q H3 (s2.trans s3)
theorem no_gall {ps : List Str} : FnOk P w K mg base CX0 0 f fd ps (sp_gall 0) := by
  have no : ∀ vs H Q E, ¬ sp_gall 0 vs H Q E := fun vs H Q E h => by
    obtain ⟨_, _, _, _, _, _, _, hl, _⟩ := h
    exact absurd hl.1 (by decide)
  exact ⟨fun vs H Q E h => absurd h (no vs H Q E), fun A outer s H args us vs Q E _ _ _ _ h => absurd h (no vs H Q E)⟩
end
end Wh

/-! The builder's states, plain: what each line does to them; a net's lines, one after the other. -/
namespace Wh
inductive Pend where
  | no
  | some (cv : Bool) (st : Nat) (rows : List (List Int)) (bs : List Int)
inductive Br where
  | no
  | one (fk : Bool) (b0 : Nat) (a : List PL)
  | two (fk : Bool) (b0 : Nat) (a b : List PL)
structure Bs where
  inp : Nat
  done : Bool
  base : List LL
  n : Nat
  pend : Pend
  br : Br
def Bs.put (s : Bs) (l : PL) : Bs :=
  match s.br with
  | .no => { s with base := s.base ++ [.p l], n := l.gives s.n }
  | .one fk b0 a => { s with br := .one fk b0 (a ++ [l]), n := l.gives s.n }
  | .two fk b0 a b => { s with br := .two fk b0 a (b ++ [l]), n := l.gives s.n }
def mkB (fk : Bool) (a b : List PL) : LL := if fk = true then .fk a b else .sm a b
def Bs.size (s : Bs) : Nat :=
  match s.br with
  | .no => s.base.length
  | .one _ _ a => a.length
  | .two _ _ _ b => b.length
def mkP (cv : Bool) (st : Nat) (rows : List (List Int)) (bs : List Int) : PL := if cv = true then .conv rows bs st else .dense rows bs
def Bs.fini (s : Bs) : Bs :=
  match s.pend with
  | .no => s
  | .some cv st rows bs => Bs.put { s with pend := .no } (mkP cv st rows bs)
/-- a layer may be put -/
def putOk (n : Nat) (l : PL) : Prop := l.wf n ∧ 1 ≤ n ∧ n ≤ 16 ∧ l.gives n ≤ 16
def Bs.finOk (s : Bs) : Prop :=
  match s.pend with
  | .no => True
  | .some cv st rows bs => s.size < 12 ∧ rows ≠ [] ∧ rows.length ≤ 16 ∧ bs.length ≤ 16 ∧ (∀ r ∈ rows, r.length ≤ 16) ∧ putOk s.n (mkP cv st rows bs)
/-- what a line may do, all rows being put -/
def Bs.ok (s : Bs) : Ln → Prop
  | .dense => s.size < 12
  | .conv st => 1 ≤ st ∧ st ≤ 3 ∧ s.size < 12
  | .relu => s.size < 12 ∧ putOk s.n .relu
  | .clamp lo hi => s.size < 12 ∧ putOk s.n (.clamp lo hi)
  | .mx d => s.size < 12 ∧ putOk s.n (.mx d)
  | .mean d => s.size < 12 ∧ putOk s.n (.mean d)
  | .sum => s.size < 12 ∧ s.br = .no
  | .fork => s.size < 12 ∧ s.br = .no
  | .wth => ∃ fk b0 a, s.br = .one fk b0 a
  | .fin => ∃ fk b0 a b, s.br = .two fk b0 a b ∧ s.base.length < 100 ∧ a.length ≤ 12 ∧ b.length ≤ 12 ∧ (mkB fk a b).wf b0 ∧ 1 ≤ b0 ∧ b0 ≤ 16
  | .done => s.br = .no
  | _ => False
def Bs.act (s : Bs) : Ln → Bs
  | .dense => { s with pend := .some false 0 [] [] }
  | .conv st => { s with pend := .some true st [] [] }
  | .relu => s.put .relu
  | .clamp lo hi => s.put (.clamp lo hi)
  | .mx d => s.put (.mx d)
  | .mean d => s.put (.mean d)
  | .sum => { s with br := .one false s.n [] }
  | .fork => { s with br := .one true s.n [] }
  | .wth => match s.br with
    | .one fk b0 a => { s with br := .two fk b0 a [], n := b0 }
    | _ => s
  | .fin => match s.br with
    | .two fk b0 a b => { s with br := .no, base := s.base ++ [mkB fk a b], n := (mkB fk a b).gives b0 }
    | _ => s
  | .done => { s with done := true }
  | _ => s
/-- one line from s to t -/
inductive Step : Bs → Ln → Bs → Prop
  | row {s : Bs} {rows : List (List Int)} {bs ws : List Int} {b : Int} (d : s.done = false) (p : s.pend = .some false 0 rows bs) (l : ws.length = s.n) (r : rows.length < 16) (n : s.n ≤ 16) (e : rows.length = bs.length) (o : ∀ w ∈ ws, WOk w) (ob : WOk b) :
      Step s (.row ws b) { s with pend := .some false 0 (rows ++ [ws]) (bs ++ [b]) }
  | ker {s : Bs} {st : Nat} {rows : List (List Int)} {bs ws : List Int} {b : Int} (d : s.done = false) (p : s.pend = .some true st rows bs) (l : ws.length ≤ s.n) (r : rows.length < 4) (n : s.n ≤ 16) (h : ∀ x ∈ rows, x.length = ws.length) (e : rows.length = bs.length) (o : ∀ w ∈ ws, WOk w) (ob : WOk b) :
      Step s (.kernel ws b) { s with pend := .some true st (rows ++ [ws]) (bs ++ [b]) }
  | oth {s : Bs} {l : Ln} (d : s.done = false) (f : s.finOk) (o : s.fini.ok l) : Step s l (s.fini.act l)
inductive Runs : Bs → List Ln → Bs → Prop
  | nil {s : Bs} : Runs s [] s
  | cons {s t u : Bs} {l : Ln} {ls : List Ln} (h : Step s l t) (r : Runs t ls u) : Runs s (l :: ls) u
theorem Runs.app {s t u : Bs} {a b : List Ln} (h : Runs s a t) (k : Runs t b u) : Runs s (a ++ b) u := by
  induction h with
  | nil => exact k
  | cons x _ ih => exact .cons x (ih k)
/-- s, once its rows are put, is t -/
structure Is (s t : Bs) : Prop where
  f : s.fini = t
  ok : s.finOk
  d : s.done = false
theorem fini_no {s : Bs} (h : s.pend = .no) : s.fini = s := by unfold Bs.fini; rw [h]
theorem finOk_no {s : Bs} (h : s.pend = .no) : s.finOk := by unfold Bs.finOk; rw [h]; trivial
theorem is_no {s : Bs} (h : s.pend = .no) (d : s.done = false) : Is s s := ⟨fini_no h, finOk_no h, d⟩
theorem put_pend (s : Bs) (l : PL) : (s.put l).pend = s.pend := by cases s with | mk i d b n p r => cases r <;> rfl
theorem put_done (s : Bs) (l : PL) : (s.put l).done = s.done := by cases s with | mk i d b n p r => cases r <;> rfl
theorem put_size (s : Bs) (l : PL) : (s.put l).size = s.size + 1 := by cases s with | mk i d b n p r => cases r <;> exact List.length_append
theorem put_n (s : Bs) (l : PL) : (s.put l).n = l.gives s.n := by cases s with | mk i d b n p r => cases r <;> rfl
theorem put_no {s : Bs} (h : s.br = .no) (l : PL) : s.put l = { s with base := s.base ++ [.p l], n := l.gives s.n } := by unfold Bs.put; rw [h]
/-- the rows of a dense layer -/
theorem run_rows : ∀ {rs : List (List Int)} {cs : List Int} {s : Bs} {rows : List (List Int)} {bs : List Int}, s.done = false → s.pend = .some false 0 rows bs → s.n ≤ 16 → rs.length = cs.length → rows.length = bs.length → rows.length + rs.length ≤ 16 →
    (∀ r ∈ rs, RowOk s.n r) → (∀ c ∈ cs, WOk c) → Runs s (List.zipWith Ln.row rs cs) { s with pend := .some false 0 (rows ++ rs) (bs ++ cs) }
  | [], [], s, rows, bs, _, p, _, _, _, _, _, _ => by
    rw [List.append_nil, List.append_nil, ← p]
    exact .nil
  | [], _ :: _, _, _, _, _, _, _, h, _, _, _, _ => by simp at h
  | _ :: _, [], _, _, _, _, _, _, h, _, _, _, _ => by simp at h
  | r :: rs, c :: cs, s, rows, bs, d, p, n, h, e, l, hr, hc => by
    have l2 : rows.length + (rs.length + 1) ≤ 16 := l
    refine .cons (.row d p (hr r List.mem_cons_self).1 (by omega) n e (hr r List.mem_cons_self).2 (hc c List.mem_cons_self)) ?_
    have := run_rows (rs := rs) (cs := cs) (s := { s with pend := .some false 0 (rows ++ [r]) (bs ++ [c]) }) (rows := rows ++ [r]) (bs := bs ++ [c]) d rfl n (by simpa using h) (by rw [List.length_append, List.length_append, e]; rfl)
      (by rw [List.length_append]; show rows.length + 1 + rs.length ≤ 16; omega) (fun x hx => hr x (List.mem_cons_of_mem _ hx)) fun x hx => hc x (List.mem_cons_of_mem _ hx)
    rw [List.append_assoc, List.append_assoc] at this
    exact this
theorem run_kers : ∀ {rs : List (List Int)} {cs : List Int} {s : Bs} {rows : List (List Int)} {bs : List Int} {st k : Nat}, s.done = false → s.pend = .some true st rows bs → s.n ≤ 16 → rs.length = cs.length → rows.length = bs.length → rows.length + rs.length ≤ 4 →
    k ≤ s.n → (∀ r ∈ rows, r.length = k) → (∀ r ∈ rs, RowOk k r) → (∀ c ∈ cs, WOk c) → Runs s (List.zipWith Ln.kernel rs cs) { s with pend := .some true st (rows ++ rs) (bs ++ cs) }
  | [], [], s, rows, bs, _, _, _, p, _, _, _, _, _, _, _, _ => by
    rw [List.append_nil, List.append_nil, ← p]
    exact .nil
  | [], _ :: _, _, _, _, _, _, _, _, _, h, _, _, _, _, _, _ => by simp at h
  | _ :: _, [], _, _, _, _, _, _, _, _, h, _, _, _, _, _, _ => by simp at h
  | r :: rs, c :: cs, s, rows, bs, st, k, d, p, n, h, e, l, kn, h1, hr, hc => by
    have l2 : rows.length + (rs.length + 1) ≤ 4 := l
    have rk := (hr r List.mem_cons_self).1
    refine .cons (.ker d p (by rw [rk]; exact kn) (by omega) n (fun x hx => by rw [rk]; exact h1 x hx) e (hr r List.mem_cons_self).2 (hc c List.mem_cons_self)) ?_
    have := run_kers (rs := rs) (cs := cs) (s := { s with pend := .some true st (rows ++ [r]) (bs ++ [c]) }) (rows := rows ++ [r]) (bs := bs ++ [c]) (k := k) d rfl n (by simpa using h) (by rw [List.length_append, List.length_append, e]; rfl)
      (by rw [List.length_append]; show rows.length + 1 + rs.length ≤ 4; omega) kn (fun x hx => by
        rcases List.mem_append.mp hx with hx | hx
        · exact h1 x hx
        · rw [List.mem_singleton.mp hx]; exact rk) (fun x hx => hr x (List.mem_cons_of_mem _ hx)) fun x hx => hc x (List.mem_cons_of_mem _ hx)
    rw [List.append_assoc, List.append_assoc] at this
    exact this
/-- the lines of one plain layer put it -/
theorem run_pl {s t : Bs} (h : Is s t) (tp : t.pend = .no) (td : t.done = false) (z : t.size < 12) {l : PL} (o : putOk t.n l) : ∃ u, Runs s l.lines u ∧ Is u (t.put l) := by
  have one : ∀ x : Ln, t.ok x → t.act x = t.put l → ∃ u, Runs s [x] u ∧ Is u (t.put l) := fun x hx ha => by
    refine ⟨t.put l, .cons (t := t.put l) ?_ .nil, is_no (by rw [put_pend]; exact tp) (by rw [put_done]; exact td)⟩
    have q := Step.oth (l := x) h.d h.ok (by rw [h.f]; exact hx)
    rw [h.f, ha] at q
    exact q
  cases l with
  | relu => exact one .relu ⟨z, o⟩ rfl
  | clamp lo hi => exact one (.clamp lo hi) ⟨z, o⟩ rfl
  | mx d => exact one (.mx d) ⟨z, o⟩ rfl
  | mean d => exact one (.mean d) ⟨z, o⟩ rfl
  | dense rows bs =>
    obtain ⟨⟨b1, b2, ⟨rl, hr⟩, hb⟩, n1, n2, g⟩ := o
    have q := Step.oth (l := .dense) h.d h.ok (by rw [h.f]; exact z)
    rw [h.f] at q
    have r := run_rows (rs := rows) (cs := bs) (s := t.act .dense) (rows := []) (bs := []) td rfl n2 (by omega) rfl (by show 0 + rows.length ≤ 16; omega) hr hb
    refine ⟨_, .cons q r, ?_, ?_, td⟩
    · show Bs.put { t with pend := .no } _ = _
      rw [← tp]
      rfl
    · exact ⟨z, fun e => (by rw [show rows = [] from e] at rl; have : (0 : Nat) = bs.length := rl; omega), by show rows.length ≤ 16; omega, b2, fun r hr2 => (by rw [(hr r hr2).1]; exact n2), ⟨⟨b1, b2, ⟨rl, hr⟩, hb⟩, n1, n2, g⟩⟩
  | conv ks bs st =>
    have o0 := o
    obtain ⟨⟨b1, b2, k1, k3, kn, ⟨rl, hr⟩, hb, s1, s3⟩, n1, n2, g⟩ := o
    have q := Step.oth (l := .conv st) h.d h.ok (by rw [h.f]; exact ⟨s1, s3, z⟩)
    rw [h.f] at q
    have r := run_kers (rs := ks) (cs := bs) (s := t.act (.conv st)) (rows := []) (bs := []) (k := ksz ks) td rfl n2 (by omega) rfl (by show 0 + ks.length ≤ 4; omega) kn (fun _ z => nomatch z) hr hb
    refine ⟨_, .cons q r, ?_, ?_, td⟩
    · show Bs.put { t with pend := .no } _ = _
      rw [← tp]
      rfl
    · exact ⟨z, fun e => (by rw [show ks = [] from e] at rl; have : (0 : Nat) = bs.length := rl; omega), by show ks.length ≤ 16; omega, by show bs.length ≤ 16; omega, fun r hr2 => (by rw [(hr r hr2).1]; omega), o0⟩
/-- put, layer by layer -/
def puts : Bs → List PL → Bs
  | s, [] => s
  | s, l :: ls => puts (s.put l) ls
theorem run_pls : ∀ {ls : List PL} {s t : Bs}, Is s t → t.pend = .no → t.done = false → t.size + ls.length ≤ 12 → pwf t.n ls → psm t.n ls → ∃ u, Runs s (plines ls) u ∧ Is u (puts t ls)
  | [], s, t, h, _, _, _, _, _ => ⟨s, .nil, h⟩
  | l :: ls, s, t, h, tp, td, z, hw, hs => by
    have z2 : t.size + (ls.length + 1) ≤ 12 := z
    have nb := psm_beg hs.2
    obtain ⟨u, r1, i1⟩ := run_pl h tp td (by omega) (l := l) ⟨hw.1, hs.1.1, hs.1.2, nb.2⟩
    obtain ⟨v, r2, i2⟩ := run_pls (ls := ls) i1 (by rw [put_pend]; exact tp) (by rw [put_done]; exact td) (by rw [put_size]; omega) (by rw [put_n]; exact hw.2) (by rw [put_n]; exact hs.2)
    exact ⟨v, r1.app r2, i2⟩
theorem puts_one : ∀ {ls a : List PL} {s : Bs} {fk : Bool} {b0 : Nat}, s.br = .one fk b0 a → puts s ls = { s with br := .one fk b0 (a ++ ls), n := pgives s.n ls }
  | [], a, s, fk, b0, h => by
    rw [List.append_nil, ← h]
    rfl
  | l :: ls, a, s, fk, b0, h => by
    have e : s.put l = { s with br := .one fk b0 (a ++ [l]), n := l.gives s.n } := by unfold Bs.put; rw [h]
    show puts (s.put l) ls = _
    rw [e, puts_one (ls := ls) (a := a ++ [l]) rfl, List.append_assoc]
    rfl
theorem puts_two : ∀ {ls a b : List PL} {s : Bs} {fk : Bool} {b0 : Nat}, s.br = .two fk b0 a b → puts s ls = { s with br := .two fk b0 a (b ++ ls), n := pgives s.n ls }
  | [], a, b, s, fk, b0, h => by
    rw [List.append_nil, ← h]
    rfl
  | l :: ls, a, b, s, fk, b0, h => by
    have e : s.put l = { s with br := .two fk b0 a (b ++ [l]), n := l.gives s.n } := by unfold Bs.put; rw [h]
    show puts (s.put l) ls = _
    rw [e, puts_two (ls := ls) (a := a) (b := b ++ [l]) rfl, List.append_assoc]
    rfl
/-- a branching layer -/
theorem run_two {s t : Bs} (h : Is s t) (tp : t.pend = .no) (td : t.done = false) (tb : t.br = .no) (z : t.size < 12) {a b : List PL} {fk : Bool} {x : Ln} (hx : x = if fk = true then Ln.fork else .sum) (ha : a.length ≤ 2) (hb : b.length ≤ 2)
    (wa : pwf t.n a) (sa : psm t.n a) (wb : pwf t.n b) (sb : psm t.n b) (hw : (mkB fk a b).wf t.n) :
    ∃ u, Runs s (x :: (plines a ++ .wth :: (plines b ++ [.fin]))) u ∧ Is u { t with base := t.base ++ [mkB fk a b], n := (mkB fk a b).gives t.n } := by
  have q : Step s x { t with br := .one fk t.n [] } := by
    subst hx
    cases fk with
    | true =>
      have q := Step.oth (l := .fork) h.d h.ok (by rw [h.f]; exact ⟨z, tb⟩)
      rw [h.f] at q
      exact q
    | false =>
      have q := Step.oth (l := .sum) h.d h.ok (by rw [h.f]; exact ⟨z, tb⟩)
      rw [h.f] at q
      exact q
  obtain ⟨u, r1, i1⟩ := run_pls (ls := a) (t := { t with br := .one fk t.n [] }) (is_no tp td) tp td (by show 0 + a.length ≤ 12; omega) wa sa
  rw [puts_one (a := []) rfl] at i1
  have q2 := Step.oth (l := .wth) i1.d i1.ok (by rw [i1.f]; exact ⟨_, _, _, rfl⟩)
  rw [i1.f] at q2
  obtain ⟨v, r2, i2⟩ := run_pls (ls := b) (t := { t with br := .two fk t.n a [], n := t.n }) (is_no tp td) tp td (by show 0 + b.length ≤ 12; omega) wb sb
  rw [puts_two (b := []) rfl] at i2
  have q3 := Step.oth (l := .fin) i2.d i2.ok (by rw [i2.f]; exact ⟨_, _, _, _, rfl, (by have zz : t.size = t.base.length := (by unfold Bs.size; rw [tb]); show t.base.length < 100; omega), by omega, by show b.length ≤ 12; omega, hw, (psm_beg sa).1, (psm_beg sa).2⟩)
  rw [i2.f] at q3
  refine ⟨_, .cons q (r1.app (.cons q2 (r2.app (.cons q3 .nil)))), ?_⟩
  have e : Bs.act { t with br := .two fk t.n a ([] ++ b), n := pgives t.n b } .fin = { t with base := t.base ++ [mkB fk a b], n := (mkB fk a b).gives t.n } := by
    show ({ t with br := .no, base := t.base ++ [mkB fk a b], n := (mkB fk a b).gives t.n } : Bs) = _
    rw [← tb]
  show Is (Bs.act { t with br := .two fk t.n a ([] ++ b), n := pgives t.n b } .fin) _
  rw [e]
  exact is_no tp td
theorem run_ll {s t : Bs} (h : Is s t) (tp : t.pend = .no) (td : t.done = false) (tb : t.br = .no) (z : t.size < 12) {l : LL} (hw : l.wf t.n) (n1 : 1 ≤ t.n) (n2 : t.n ≤ 16) (g : l.gives t.n ≤ 16) (f : l.few) :
    ∃ u, Runs s l.lines u ∧ Is u { t with base := t.base ++ [l], n := l.gives t.n } := by
  cases l with
  | p l =>
    obtain ⟨u, r, i⟩ := run_pl h tp td z (l := l) ⟨hw, n1, n2, g⟩
    rw [put_no tb] at i
    exact ⟨u, r, i⟩
  | sm a b => exact run_two h tp td tb z (fk := false) rfl f.1 f.2 hw.1.1 hw.1.2 hw.2.1.1 hw.2.1.2 hw
  | fk a b => exact run_two h tp td tb z (fk := true) rfl f.1 f.2 hw.1.1 hw.1.2 hw.2.1 hw.2.2 hw
theorem run_lls : ∀ {ls : List LL} {s t : Bs}, Is s t → t.pend = .no → t.done = false → t.br = .no → t.base.length + ls.length ≤ 12 → lwf t.n ls → lsm t.n ls → (∀ l ∈ ls, l.few) →
    ∃ u, Runs s (llines ls) u ∧ Is u { t with base := t.base ++ ls, n := lgives t.n ls }
  | [], s, t, h, _, _, _, _, _, _, _ => ⟨s, .nil, by rw [List.append_nil]; exact h⟩
  | l :: ls, s, t, h, tp, td, tb, z, hw, hs, hf => by
    have z2 : t.base.length + (ls.length + 1) ≤ 12 := z
    have nb : 1 ≤ l.gives t.n ∧ l.gives t.n ≤ 16 := by
      cases ls with
      | nil => exact hs.2
      | cons _ _ => exact hs.2.1
    have zz : t.size = t.base.length := by unfold Bs.size; rw [tb]
    obtain ⟨u, r1, i1⟩ := run_ll h tp td tb (by omega) (l := l) hw.1 hs.1.1 hs.1.2 nb.2 (hf l List.mem_cons_self)
    obtain ⟨v, r2, i2⟩ := run_lls (ls := ls) i1 tp td tb (by show (t.base ++ [l]).length + ls.length ≤ 12; rw [List.length_append]; show t.base.length + 1 + _ ≤ 12; omega) hw.2 hs.2 fun x hx => hf x (List.mem_cons_of_mem _ hx)
    refine ⟨v, r1.app r2, ?_⟩
    have e : (t.base ++ [l]) ++ ls = t.base ++ (l :: ls) := by rw [List.append_assoc]; rfl
    rw [← e]
    exact i2
def Bs.start (n : Nat) : Bs := ⟨n, false, [], n, .no, .no⟩
/-- the text of a net: all its layers, and done -/
theorem run_net {n : Nat} {ls : List LL} (h : NetOk n ls) : ∃ u, Runs (.start n) (llines ls ++ [.done]) u ∧ u.pend = .no ∧ u.done = true ∧ u.base = ls ∧ u.inp = n := by
  obtain ⟨u, r, i⟩ := run_lls (ls := ls) (s := .start n) (is_no rfl rfl) rfl rfl rfl (by have := h.len; show 0 + ls.length ≤ 12; omega) h.wf h.sm h.few
  have q := Step.oth (l := .done) i.d i.ok (by rw [i.f]; rfl)
  rw [i.f] at q
  exact ⟨_, r.app (.cons q .nil), rfl, rfl, rfl, rfl⟩
end Wh

/-! The builder in the heap; reading and writing it. -/
namespace Wh
/-! ### the data of layers -/
def iD (ns : List Int) : PyData := .tuple (ns.map PyData.int)
def PL.d : PL → PyData
  | .dense rows bs => .tuple [.str "dense", .tuple (rows.map iD), iD bs]
  | .conv ks bs st => .tuple [.str "conv", .tuple (ks.map iD), iD bs, .int st]
  | .relu => .tuple [.str "relu"]
  | .clamp lo hi => .tuple [.str "clamp", .int lo, .int hi]
  | .mx s => .tuple [.str "max", .int s]
  | .mean s => .tuple [.str "mean", .int s]
def LL.d : LL → PyData
  | .p l => l.d
  | .sm a b => .tuple [.str "sum", .tuple (a.map PL.d), .tuple (b.map PL.d)]
  | .fk a b => .tuple [.str "fork", .tuple (a.map PL.d), .tuple (b.map PL.d)]
section
variable {K : PySem.W.Frag} {H : Hp}
theorem dp_intAll : ∀ {ns : List Int}, DpAll K H (ns.map V.int) (ns.map PyData.int)
  | [] => .nil
  | n :: _ => .cons (.int n) dp_intAll
theorem dp_tup {v : V} {xs : List V} {ds : List PyData} (h : Tup H v xs) (a : DpAll K H xs ds) : Dp K H v (.tuple ds) := by
  obtain ⟨p, rfl, hp⟩ := h
  exact .tup (SqT.of hp) a
theorem dp_ints {v : V} {ns : List Int} (h : Ints H v ns) : Dp K H v (iD ns) := dp_tup h dp_intAll
theorem dp_all {α : Type} {R : V → α → Prop} {g : α → PyData} (f : ∀ x d, R x d → Dp K H x (g d)) : ∀ {xs : List V} {ds : List α}, AllP R xs ds → DpAll K H xs (ds.map g)
  | [], [], _ => .nil
  | _ :: _, _ :: _, h => .cons (f _ _ h.1) (dp_all f h.2)
  | [], _ :: _, h => h.elim
  | _ :: _, [], h => h.elim
theorem dp_rows {v : V} {rows : List (List Int)} (h : Rows H v rows) : Dp K H v (.tuple (rows.map iD)) := let ⟨_, t, a⟩ := h; dp_tup t (dp_all (fun _ _ z => dp_ints z) a)
theorem dp_pl {v : V} : ∀ {l : PL}, PLAt H v l → Dp K H v l.d
  | .dense _ _, ⟨_, _, t, r, i⟩ => dp_tup t (.cons (.str _) (.cons (dp_rows r) (.cons (dp_ints i) .nil)))
  | .conv _ _ _, ⟨_, _, t, r, i⟩ => dp_tup t (.cons (.str _) (.cons (dp_rows r) (.cons (dp_ints i) (.cons (.int _) .nil))))
  | .relu, h => dp_tup h (.cons (.str _) .nil)
  | .clamp _ _, h => dp_tup h (.cons (.str _) (.cons (.int _) (.cons (.int _) .nil)))
  | .mx _, h => dp_tup h (.cons (.str _) (.cons (.int _) .nil))
  | .mean _, h => dp_tup h (.cons (.str _) (.cons (.int _) .nil))
theorem dp_pls {v : V} {ls : List PL} (h : PLs H v ls) : Dp K H v (.tuple (ls.map PL.d)) := let ⟨_, t, a⟩ := h; dp_tup t (dp_all (fun _ _ z => dp_pl z) a)
theorem dp_ll {v : V} : ∀ {l : LL}, LLAt H v l → Dp K H v l.d
  | .p l, h => dp_pl (l := l) h
  | .sm _ _, ⟨_, _, t, a, b⟩ => dp_tup t (.cons (.str _) (.cons (dp_pls a) (.cons (dp_pls b) .nil)))
  | .fk _ _, ⟨_, _, t, a, b⟩ => dp_tup t (.cons (.str _) (.cons (dp_pls a) (.cons (dp_pls b) .nil)))
end
/-- it may be laid, its depth -/
def Sh (k : Nat) (d : PyData) : Prop := d.canLay0 = true ∧ d.depth ≤ k
theorem sh_int (k : Nat) (i : Int) : Sh k (.int i) := ⟨by simp [PyData.canLay0], by simp [PyData.depth]⟩
theorem sh_str (k : Nat) {x : Str} (h : PyData.strOk x = true) : Sh k (.str x) := ⟨by simpa [PyData.canLay0] using h, by simp [PyData.depth]⟩
theorem sh_all {k : Nat} : ∀ {ds : List PyData}, (∀ d ∈ ds, Sh k d) → PyData.canLayAll0 ds = true ∧ PyData.depthAll ds ≤ k
  | [], _ => ⟨by simp [PyData.canLayAll0], by simp [PyData.depthAll]⟩
  | d :: ds, h => by
    have a := h d List.mem_cons_self
    have b := sh_all (ds := ds) fun x hx => h x (List.mem_cons_of_mem _ hx)
    exact ⟨by rw [PyData.canLayAll0, a.1, b.1]; rfl, by rw [PyData.depthAll]; exact Nat.max_le.mpr ⟨a.2, b.2⟩⟩
theorem sh_tup {k : Nat} {ds : List PyData} (h : ∀ d ∈ ds, Sh k d) : Sh (k + 1) (.tuple ds) := ⟨by rw [PyData.canLay0]; exact (sh_all h).1, by rw [PyData.depth]; exact Nat.succ_le_succ (sh_all h).2⟩
theorem sh_lst {k : Nat} {ds : List PyData} (h : ∀ d ∈ ds, Sh k d) : Sh (k + 1) (.list ds) := ⟨by rw [PyData.canLay0]; exact (sh_all h).1, by rw [PyData.depth]; exact Nat.succ_le_succ (sh_all h).2⟩
theorem sh_map {α : Type} {k : Nat} {g : α → PyData} {ds : List α} (h : ∀ d, Sh k (g d)) : ∀ d ∈ ds.map g, Sh k d := fun d hd => by
  obtain ⟨x, _, rfl⟩ := List.mem_map.mp hd
  exact h x
theorem Sh.up {k j : Nat} {d : PyData} (h : Sh k d) (l : k ≤ j) : Sh j d := ⟨h.1, Nat.le_trans h.2 l⟩
theorem al1 {P : PyData → Prop} {a : PyData} (h : P a) : ∀ d ∈ [a], P d := fun d hd => by rw [List.mem_singleton.mp hd]; exact h
theorem alc {P : PyData → Prop} {a : PyData} {ds : List PyData} (h : P a) (k : ∀ d ∈ ds, P d) : ∀ d ∈ a :: ds, P d := fun d hd => by
  rcases List.mem_cons.mp hd with rfl | hd
  · exact h
  · exact k d hd
theorem sh_iD (ns : List Int) : Sh 1 (iD ns) := sh_tup (sh_map (sh_int 0))
theorem sh_pl (l : PL) : Sh 3 l.d := by
  cases l with
  | dense rows bs => exact sh_tup (alc (sh_str _ (by decide +kernel)) (alc (sh_tup (sh_map fun r => sh_iD r)) (al1 ((sh_iD _).up (j := 2) (by decide)))))
  | conv ks bs st => exact sh_tup (alc (sh_str _ (by decide +kernel)) (alc (sh_tup (sh_map fun r => sh_iD r)) (alc ((sh_iD _).up (j := 2) (by decide)) (al1 (sh_int _ _)))))
  | relu => exact sh_tup (al1 (sh_str _ (by decide +kernel)))
  | clamp lo hi => exact sh_tup (alc (sh_str _ (by decide +kernel)) (alc (sh_int _ _) (al1 (sh_int _ _))))
  | mx s => exact sh_tup (alc (sh_str _ (by decide +kernel)) (al1 (sh_int _ _)))
  | mean s => exact sh_tup (alc (sh_str _ (by decide +kernel)) (al1 (sh_int _ _)))
theorem Sh.shaped {k : Nat} {d : PyData} (h : Sh k d) (l : k ≤ 64 := by decide) : SeqAt.shaped d = true := by
  unfold SeqAt.shaped
  rw [h.1, decide_eq_true (Nat.le_trans h.2 l)]
  rfl
/-! ### the builder -/
def flds (i : Nat) (d : Bool) (la : Addr) (n : Nat) (pv bv fv : V) : List (Str × V) := [("inputs", .int i), ("done", .bl d), ("layers", .ref la), ("n", .int n), ("pending", pv), ("branch", bv), ("first", fv)]
section
variable {i n : Nat} {d : Bool} {la : Addr} {pv bv fv : V}
theorem lk_inputs : (flds i d la n pv bv fv).lookup ("inputs" : Str) = some (.int i) := by rfl
theorem lk_done : (flds i d la n pv bv fv).lookup ("done" : Str) = some (.bl d) := by rfl
theorem lk_layers : (flds i d la n pv bv fv).lookup ("layers" : Str) = some (.ref la) := by rfl
theorem lk_n : (flds i d la n pv bv fv).lookup ("n" : Str) = some (.int n) := by rfl
theorem lk_pending : (flds i d la n pv bv fv).lookup ("pending" : Str) = some pv := by rfl
theorem lk_branch : (flds i d la n pv bv fv).lookup ("branch" : Str) = some bv := by rfl
theorem lk_first : (flds i d la n pv bv fv).lookup ("first" : Str) = some fv := by rfl
theorem lk_put : (flds i d la n pv bv fv).lookup ("put_layer" : Str) = none := by rfl
theorem lk_pres : (flds i d la n pv bv fv).lookup ("present" : Str) = none := by rfl
theorem lk_fin : (flds i d la n pv bv fv).lookup ("finish" : Str) = none := by rfl
theorem pf_inputs {j : Nat} : putF "inputs" (.int j) (flds i d la n pv bv fv) = flds j d la n pv bv fv := by rfl
theorem pf_done {j : Bool} : putF "done" (.bl j) (flds i d la n pv bv fv) = flds i j la n pv bv fv := by rfl
theorem pf_n {j : Nat} : putF "n" (.int j) (flds i d la n pv bv fv) = flds i d la j pv bv fv := by rfl
theorem pf_pending {j : V} : putF "pending" j (flds i d la n pv bv fv) = flds i d la n j bv fv := by rfl
theorem pf_branch {j : V} : putF "branch" j (flds i d la n pv bv fv) = flds i d la n pv j fv := by rfl
theorem pf_first {j : V} : putF "first" j (flds i d la n pv bv fv) = flds i d la n pv bv j := by rfl
end
def kwP (cv : Bool) : Str := if cv = true then "conv" else "dense"
def kwB (fk : Bool) : Str := if fk = true then "fork" else "sum"
def PendAt (H : Hp) (pv : V) : Pend → Prop
  | .no => Tup H pv []
  | .some cv st rows bs => ∃ (rl bl : Addr) (ln : Int) (rvs : List V), Tup H pv [.str (kwP cv), .int st, .ref rl, .ref bl, .int ln] ∧ H rl = some (.lst rvs) ∧ AllP (Ints H) rvs rows ∧ H bl = some (.lst (bs.map V.int))
def BrAt (H0 H : Hp) (la : Addr) (bv fv : V) : Br → Prop
  | .no => ∃ ba, bv = .ref ba ∧ H ba = some (.lst []) ∧ ba ≠ la
  | .one fk b0 a => ∃ ba i xs, bv = .ref ba ∧ H ba = some (.lst [.str (kwB fk), .ref i]) ∧ H i = some (.lst xs) ∧ AllP (PLAt H) xs a ∧ ba ≠ la ∧ i ≠ la ∧ i ≠ ba ∧ Tup H fv [.str (kwB fk), .int b0] ∧ H0 i = none
  | .two fk b0 a b => ∃ ba i j xs ys, bv = .ref ba ∧ H ba = some (.lst [.str (kwB fk), .ref i, .ref j]) ∧ H i = some (.lst xs) ∧ AllP (PLAt H) xs a ∧ H j = some (.lst ys) ∧ AllP (PLAt H) ys b ∧ ba ≠ la ∧ i ≠ la ∧ i ≠ ba ∧ j ≠ la ∧ j ≠ ba ∧ i ≠ j ∧
    Tup H fv [.str (kwB fk), .int b0] ∧ H0 i = none ∧ H0 j = none
/-- tuples and lists stand -/
def LK (H H' : Hp) : Prop := TK H H' ∧ ∀ a xs, H a = some (.lst xs) → H' a = some (.lst xs)
theorem LK.same {H H' : Hp} (h : Same H H') : LK H H' := ⟨sm_tk h, fun a xs e => h a _ e⟩
theorem LK.ins {H : Hp} {p C dx : Addr} {fs : List (Str × V)} (h : H p = some (.ins C dx fs)) (fs2 : List (Str × V)) : LK H (upd H p (.ins C dx fs2)) :=
  ⟨TK.put h (fun _ z => nomatch z) _, fun a xs e => by rw [upd_ne (ne_of e h (fun z => nomatch z))]; exact e⟩
theorem PendAt.mono {H H' : Hp} (k : LK H H') {pv : V} : ∀ {s : Pend}, PendAt H pv s → PendAt H' pv s
  | .no, h => Tup.mono k.1 h
  | .some _ _ _ _, ⟨rl, bl, ln, rvs, t, h1, a, h2⟩ => ⟨rl, bl, ln, rvs, t.mono k.1, k.2 _ _ h1, a.mono (fun _ _ z => z.mono k.1), k.2 _ _ h2⟩
theorem BrAt.mono {H0 H H' : Hp} (k : LK H H') {la : Addr} {bv fv : V} : ∀ {s : Br}, BrAt H0 H la bv fv s → BrAt H0 H' la bv fv s
  | .no, ⟨ba, e, h, n⟩ => ⟨ba, e, k.2 _ _ h, n⟩
  | .one _ _ _, ⟨ba, i, xs, e, h, hi, a, n1, n2, n3, t, z⟩ => ⟨ba, i, xs, e, k.2 _ _ h, k.2 _ _ hi, a.mono (fun _ _ z => PLAt.mono k.1 z), n1, n2, n3, t.mono k.1, z⟩
  | .two _ _ _ _, ⟨ba, i, j, xs, ys, e, h, hi, a, hj, b, n1, n2, n3, n4, n5, n6, t, z, z2⟩ =>
    ⟨ba, i, j, xs, ys, e, k.2 _ _ h, k.2 _ _ hi, a.mono (fun _ _ z => PLAt.mono k.1 z), k.2 _ _ hj, b.mono (fun _ _ z => PLAt.mono k.1 z), n1, n2, n3, n4, n5, n6, t.mono k.1, z, z2⟩
structure BIn (C : Addr) (H0 H : Hp) (p : Addr) (s : Bs) (dx la : Addr) (xs : List V) (pv bv fv : V) : Prop where
  sm : Same H0 H
  p0 : H0 p = none
  l0 : H0 la = none
  hp : H p = some (.ins C dx (flds s.inp s.done la s.n pv bv fv))
  hl : H la = some (.lst xs)
  al : AllP (LLAt H) xs s.base
  pd : PendAt H pv s.pend
  br : BrAt H0 H la bv fv s.br
def BAt (C : Addr) (H0 H : Hp) (p : Addr) (s : Bs) : Prop := ∃ dx la xs pv bv fv, BIn C H0 H p s dx la xs pv bv fv
section
variable {C p dx la : Addr} {H0 H H' : Hp} {s : Bs} {xs : List V} {pv bv fv : V}
theorem BIn.same (b : BIn C H0 H p s dx la xs pv bv fv) (h : Same H H') : BIn C H0 H' p s dx la xs pv bv fv :=
  ⟨b.sm.trans h, b.p0, b.l0, h _ _ b.hp, h _ _ b.hl, b.al.mono (fun _ _ z => LLAt.mono (sm_tk h) z), b.pd.mono (LK.same h), b.br.mono (LK.same h)⟩
theorem BIn.at (b : BIn C H0 H p s dx la xs pv bv fv) : BAt C H0 H p s := ⟨_, _, _, _, _, _, b⟩
theorem BAt.same (b : BAt C H0 H p s) (h : Same H H') : BAt C H0 H' p s := let ⟨_, _, _, _, _, _, b⟩ := b; (b.same h).at
/-- its fields are set anew -/
theorem BIn.setp (b : BIn C H0 H p s dx la xs pv bv fv) (t : Bs) {pv' bv' fv' : V} (eb : t.base = s.base) (hpd : PendAt H pv' t.pend) (hbr : BrAt H0 H la bv' fv' t.br) :
    BIn C H0 (upd H p (.ins C dx (flds t.inp t.done la t.n pv' bv' fv'))) p t dx la xs pv' bv' fv' := by
  have k := LK.ins b.hp (flds t.inp t.done la t.n pv' bv' fv')
  refine ⟨fun a o e => ?_, b.p0, b.l0, upd_same, k.2 _ _ b.hl, by rw [eb]; exact b.al.mono (fun _ _ z => LLAt.mono k.1 z), hpd.mono k, hbr.mono k⟩
  rw [upd_ne (ne_of_none e b.p0)]
  exact b.sm a o e
theorem sm_up {q : Addr} (h : Same H0 H) (z : H0 q = none) (o : HO) : Same H0 (upd H q o) := fun a u e => by
  rw [upd_ne (ne_of_none e z)]
  exact h a u e
theorem lst_ne {q : Addr} {ys : List V} {C' dx' : Addr} {fs : List (Str × V)} (hp : H p = some (.ins C' dx' fs)) (hq : H q = some (.lst ys)) : p ≠ q := ne_of hp hq (fun z => nomatch z)
/-- a layer at the end of the net -/
theorem BIn.app_no (b : BIn C H0 H p s dx la xs pv bv fv) (e1 : s.pend = .no) (e2 : s.br = .no) {v : V} {l : LL} (h : LLAt H v l) :
    BIn C H0 (upd H la (.lst (xs ++ [v]))) p { s with base := s.base ++ [l] } dx la (xs ++ [v]) pv bv fv := by
  have k : TK H (upd H la (.lst (xs ++ [v]))) := TK.put b.hl (fun _ z => nomatch z) _
  have hb := b.br
  have hp := b.pd
  refine ⟨sm_up b.sm b.l0 _, b.p0, b.l0, ?_, upd_same, ?_, ?_, ?_⟩
  · rw [upd_ne (lst_ne b.hp b.hl)]
    exact b.hp
  · exact (b.al.mono (fun _ _ z => LLAt.mono k z)).app ⟨h.mono k, trivial⟩
  · rw [e1] at hp
    show PendAt _ pv s.pend
    rw [e1]
    exact Tup.mono k hp
  · rw [e2] at hb
    obtain ⟨ba, e, h1, n⟩ := hb
    show BrAt _ _ la bv fv s.br
    rw [e2]
    exact ⟨ba, e, by rw [upd_ne n]; exact h1, n⟩
theorem BIn.app_one (b : BIn C H0 H p s dx la xs pv bv fv) (e1 : s.pend = .no) {fk : Bool} {b0 : Nat} {a : List PL} {ba i : Addr} {ys : List V} (ev : bv = .ref ba) (hba : H ba = some (.lst [.str (kwB fk), .ref i])) (hi : H i = some (.lst ys)) (ha : AllP (PLAt H) ys a)
    (n1 : ba ≠ la) (n2 : i ≠ la) (n3 : i ≠ ba) (ht : Tup H fv [.str (kwB fk), .int b0]) (z : H0 i = none) {v : V} {l : PL} (h : PLAt H v l) :
    BIn C H0 (upd H i (.lst (ys ++ [v]))) p { s with br := .one fk b0 (a ++ [l]) } dx la xs pv bv fv := by
  have k : TK H (upd H i (.lst (ys ++ [v]))) := TK.put hi (fun _ z => nomatch z) _
  have hp := b.pd
  refine ⟨sm_up b.sm z _, b.p0, b.l0, ?_, ?_, b.al.mono (fun _ _ z => LLAt.mono k z), ?_, ?_⟩
  · rw [upd_ne (lst_ne b.hp hi)]
    exact b.hp
  · rw [upd_ne n2.symm]
    exact b.hl
  · rw [e1] at hp
    show PendAt _ pv s.pend
    rw [e1]
    exact Tup.mono k hp
  · exact ⟨ba, i, ys ++ [v], ev, by rw [upd_ne n3.symm]; exact hba, upd_same, (ha.mono (fun _ _ z => PLAt.mono k z)).app ⟨h.mono k, trivial⟩, n1, n2, n3, ht.mono k, z⟩
theorem BIn.app_two (b : BIn C H0 H p s dx la xs pv bv fv) (e1 : s.pend = .no) {fk : Bool} {b0 : Nat} {a a2 : List PL} {ba i j : Addr} {ys zs : List V} (ev : bv = .ref ba) (hba : H ba = some (.lst [.str (kwB fk), .ref i, .ref j])) (hi : H i = some (.lst ys)) (ha : AllP (PLAt H) ys a)
    (hj : H j = some (.lst zs)) (hb : AllP (PLAt H) zs a2) (n1 : ba ≠ la) (n2 : i ≠ la) (n3 : i ≠ ba) (n4 : j ≠ la) (n5 : j ≠ ba) (n6 : i ≠ j) (ht : Tup H fv [.str (kwB fk), .int b0]) (z : H0 i = none) (z2 : H0 j = none) {v : V} {l : PL} (h : PLAt H v l) :
    BIn C H0 (upd H j (.lst (zs ++ [v]))) p { s with br := .two fk b0 a (a2 ++ [l]) } dx la xs pv bv fv := by
  have k : TK H (upd H j (.lst (zs ++ [v]))) := TK.put hj (fun _ z => nomatch z) _
  have hp := b.pd
  refine ⟨sm_up b.sm z2 _, b.p0, b.l0, ?_, ?_, b.al.mono (fun _ _ z => LLAt.mono k z), ?_, ?_⟩
  · rw [upd_ne (lst_ne b.hp hj)]
    exact b.hp
  · rw [upd_ne n4.symm]
    exact b.hl
  · rw [e1] at hp
    show PendAt _ pv s.pend
    rw [e1]
    exact Tup.mono k hp
  · exact ⟨ba, i, j, ys, zs ++ [v], ev, by rw [upd_ne n5.symm]; exact hba, by rw [upd_ne n6]; exact hi, ha.mono (fun _ _ z => PLAt.mono k z), upd_same, (hb.mono (fun _ _ z => PLAt.mono k z)).app ⟨h.mono k, trivial⟩, n1, n2, n3, n4, n5, n6, ht.mono k, z, z2⟩
end
/-! ### readings of it -/
def Pend.is : Pend → Bool
  | .no => true
  | _ => false
def Br.is : Br → Bool
  | .no => true
  | _ => false
theorem eqv_tn {a : PyData} {ds : List PyData} : PyData.eqv (.tuple (a :: ds)) (.tuple []) = false := by rw [PyData.eqv, PyData.eqvAll]
theorem eqv_ln {a : PyData} {ds : List PyData} : PyData.eqv (.list (a :: ds)) (.list []) = false := by rw [PyData.eqv, PyData.eqvAll]
theorem eqv_t0 : PyData.eqv (.tuple []) (.tuple []) = true := by rw [PyData.eqv, PyData.eqvAll]
theorem eqv_l0 : PyData.eqv (.list []) (.list []) = true := by rw [PyData.eqv, PyData.eqvAll]
theorem sh_t0 : SeqAt.shaped (.tuple []) = true := (sh_tup (k := 0) (ds := []) fun _ z => nomatch z).shaped
theorem sh_l0 : SeqAt.shaped (.list []) = true := (sh_lst (k := 0) (ds := []) fun _ z => nomatch z).shaped
theorem sh_kwP (k : Nat) (cv : Bool) : Sh k (.str (kwP cv)) := by cases cv <;> exact sh_str k (by decide +kernel)
theorem sh_kwB (k : Nat) (cv : Bool) : Sh k (.str (kwB cv)) := by cases cv <;> exact sh_str k (by decide +kernel)
section
variable {K : PySem.W.Frag} {w : World} {mg : Str → Option Value} {C W M p dx la : Addr} {H0 H : Hp} {s : Bs} {xs : List V} {pv bv fv : V} {σ : L2.St} {Q : VK} {i : Nat}
theorem pend_dp : ∀ {s : Pend}, PendAt H pv s → ∃ d, Dp K H pv d ∧ SeqAt.shaped d = true ∧ PyData.eqv d (.tuple []) = s.is
  | .no, h => ⟨.tuple [], dp_tup h .nil, sh_t0, eqv_t0⟩
  | .some cv st rows bs, ⟨rl, bl, ln, rvs, t, h1, a, h2⟩ =>
    ⟨.tuple [.str (kwP cv), .int st, .list (rows.map iD), .list (bs.map PyData.int), .int ln], dp_tup t (.cons (.str _) (.cons (.int _) (.cons (.lst (SqL.of h1) (dp_all (fun _ _ z => dp_ints z) a)) (.cons (.lst (SqL.of h2) dp_intAll) (.cons (.int _) .nil))))),
      (sh_tup (k := 2) (alc (sh_kwP _ _) (alc (sh_int _ _) (alc (sh_lst (sh_map sh_iD)) (alc ((sh_lst (k := 0) (sh_map (sh_int _))).up (by decide)) (al1 (sh_int _ _))))))).shaped, eqv_tn⟩
theorem br_dp : ∀ {s : Br}, BrAt H0 H la bv fv s → ∃ d, Dp K H bv d ∧ SeqAt.shaped d = true ∧ PyData.eqv d (.list []) = s.is
  | .no, ⟨ba, e, h, n⟩ => ⟨.list [], by rw [e]; exact .lst (SqL.of h) .nil, sh_l0, eqv_l0⟩
  | .one fk b0 a, ⟨ba, i, xs, e, h, hi, ha, n1, n2, n3, t, z⟩ => ⟨.list [.str (kwB fk), .list (a.map PL.d)], by
      rw [e]
      exact .lst (SqL.of h) (.cons (.str _) (.cons (.lst (SqL.of hi) (dp_all (fun _ _ z => dp_pl z) ha)) .nil)), (sh_lst (k := 4) (alc (sh_kwB _ _) (al1 (sh_lst (sh_map sh_pl))))).shaped, eqv_ln⟩
  | .two fk b0 a b, ⟨ba, i, j, xs, ys, e, h, hi, ha, hj, hb, n1, n2, n3, n4, n5, n6, t, z, z2⟩ => ⟨.list [.str (kwB fk), .list (a.map PL.d), .list (b.map PL.d)], by
      rw [e]
      exact .lst (SqL.of h) (.cons (.str _) (.cons (.lst (SqL.of hi) (dp_all (fun _ _ z => dp_pl z) ha)) (.cons (.lst (SqL.of hj) (dp_all (fun _ _ z => dp_pl z) hb)) .nil))), (sh_lst (k := 4) (alc (sh_kwB _ _) (alc (sh_lst (sh_map sh_pl)) (al1 (sh_lst (sh_map sh_pl)))))).shaped, eqv_ln⟩
theorem t_fld {f : Str} {v : V} (e : σ[i]? = some (some (.ref p))) (b : BIn C H0 H p s dx la xs pv bv fv) (c : Cls K C) (n : NoAttr K C f) (l : (flds s.inp s.done la s.n pv bv fv).lookup f = some v) (q : Q v H) : tFld K (tVar i) f σ H Q :=
  ⟨.ref p, e, p, C, dx, _, v, rfl, b.hp, c, n, l, q⟩
theorem t_inputs (e : σ[i]? = some (some (.ref p))) (b : BIn C H0 H p s dx la xs pv bv fv) (T : Tx K w mg C W M) (q : Q (.int s.inp) H) : tFld K (tVar i) "inputs" σ H Q := t_fld e b T.cl T.n_inputs lk_inputs q
theorem t_done (e : σ[i]? = some (some (.ref p))) (b : BIn C H0 H p s dx la xs pv bv fv) (T : Tx K w mg C W M) (q : Q (.bl s.done) H) : tFld K (tVar i) "done" σ H Q := t_fld e b T.cl T.n_done lk_done q
theorem t_layers (e : σ[i]? = some (some (.ref p))) (b : BIn C H0 H p s dx la xs pv bv fv) (T : Tx K w mg C W M) (q : Q (.ref la) H) : tFld K (tVar i) "layers" σ H Q := t_fld e b T.cl T.n_layers lk_layers q
theorem t_n (e : σ[i]? = some (some (.ref p))) (b : BIn C H0 H p s dx la xs pv bv fv) (T : Tx K w mg C W M) (q : Q (.int s.n) H) : tFld K (tVar i) "n" σ H Q := t_fld e b T.cl T.n_n lk_n q
theorem t_pend (e : σ[i]? = some (some (.ref p))) (b : BIn C H0 H p s dx la xs pv bv fv) (T : Tx K w mg C W M) (q : Q pv H) : tFld K (tVar i) "pending" σ H Q := t_fld e b T.cl T.n_pending lk_pending q
theorem t_br (e : σ[i]? = some (some (.ref p))) (b : BIn C H0 H p s dx la xs pv bv fv) (T : Tx K w mg C W M) (q : Q bv H) : tFld K (tVar i) "branch" σ H Q := t_fld e b T.cl T.n_branch lk_branch q
theorem t_first (e : σ[i]? = some (some (.ref p))) (b : BIn C H0 H p s dx la xs pv bv fv) (T : Tx K w mg C W M) (q : Q fv H) : tFld K (tVar i) "first" σ H Q := t_fld e b T.cl T.n_first lk_first q
theorem t_pendEq (e : σ[i]? = some (some (.ref p))) (b : BIn C H0 H p s dx la xs pv bv fv) (T : Tx K w mg C W M) (q : ∀ H', Same H H' → Q (.bl s.pend.is) H') : tFld K (tVar i) "pending" σ H fun x H1 => tTup tNil σ H1 fun y H2 => rEqD K x y H2 Q := by
  refine t_pend e b T ⟨Nat.zero_le _, fun r hr => ?_⟩
  have s1 := sm_new (Same.refl H) (.tup []) hr
  obtain ⟨d, hd, sh, ee⟩ := pend_dp (K := K) (b.same s1).pd
  exact ⟨d, .tuple [], hd, .tup (SqT.of upd_same) .nil, sh, sh_t0, by rw [ee]; exact q _ s1⟩
theorem t_pendNe (e : σ[i]? = some (some (.ref p))) (b : BIn C H0 H p s dx la xs pv bv fv) (T : Tx K w mg C W M) (q : ∀ H', Same H H' → Q (.bl (!s.pend.is)) H') : tFld K (tVar i) "pending" σ H fun x H1 => tTup tNil σ H1 fun y H2 => rNeD K x y H2 Q := by
  refine t_pend e b T ⟨Nat.zero_le _, fun r hr => ?_⟩
  have s1 := sm_new (Same.refl H) (.tup []) hr
  obtain ⟨d, hd, sh, ee⟩ := pend_dp (K := K) (b.same s1).pd
  exact ⟨d, .tuple [], hd, .tup (SqT.of upd_same) .nil, sh, sh_t0, by rw [ee]; exact q _ s1⟩
theorem t_brNe (e : σ[i]? = some (some (.ref p))) (b : BIn C H0 H p s dx la xs pv bv fv) (T : Tx K w mg C W M) (q : ∀ H', Same H H' → Q (.bl (!s.br.is)) H') : tFld K (tVar i) "branch" σ H fun x H1 => tLst tNil σ H1 fun y H2 => rNeD K x y H2 Q := by
  refine t_br e b T ⟨Nat.zero_le _, fun r hr => ?_⟩
  have s1 := sm_new (Same.refl H) (.lst []) hr
  obtain ⟨d, hd, sh, ee⟩ := br_dp (K := K) (b.same s1).br
  exact ⟨d, .list [], hd, .lst (SqL.of upd_same) .nil, sh, sh_l0, by rw [ee]; exact q _ s1⟩
/-- a field is set -/
theorem s_fld {f : Str} {y : V} {D : Ends} {fs : List (Str × V)} {te : TE} (e : σ[i]? = some (some (.ref p))) (hn : ∀ {R : VK}, R y H → te σ H R) (hp : H p = some (.ins C dx fs)) (c : Cls K C) (n : NoAttr K C f) (l : fs.length < 1000) (q : D.nx σ (upd H p (.ins C dx (putF f y fs)))) :
    sFld K (tVar i) te f D σ H := hn ⟨.ref p, e, p, C, dx, fs, rfl, hp, c, n, l, q⟩
end
theorem r_sfld {K : PySem.W.Frag} {ta tv : TE} {f : Str} {D : Ends} {σ : L2.St} {H : Hp} (h : tv σ H fun y H1 => ta σ H1 fun x H2 => ∃ a C dx fs, x = .ref a ∧ H2 a = some (.ins C dx fs) ∧ Cls K C ∧ NoAttr K C f ∧ fs.length < 1000 ∧ D.nx σ (upd H2 a (.ins C dx (putF f y fs)))) :
    sFld K ta tv f D σ H := h
section
variable {σ : L2.St} {H : Hp} {K : PySem.W.Frag} {Q : VK} {R : L2.St → Hp → Prop}
theorem r_meth {C : Addr} {m : Str} {sp : Sp} {dvs : List V} {E : XK} {ta : TE} {t : TA} (h : ta σ H fun x H1 => ∃ a dx fs, x = .ref a ∧ H1 a = some (.ins C dx fs) ∧ fs.lookup m = none ∧ t σ H1 fun vs H2 => sp (x :: (vs ++ dvs)) H2 Q E) :
    tMeth C m sp dvs E ta t σ H Q := h
theorem r_gtup {p : Addr} {xs : List V} {n : Nat} {t : TGs} (hp : H p = some (.tup xs)) (l : xs.length = n) (h : t xs σ H R) : gTup K n t (.ref p) σ H R := ⟨p, xs, rfl, SqT.of hp, l, h⟩
theorem r_gcons {t : TG} {u : TGs} {v : V} {vr : List V} (h : t v σ H fun σ1 H1 => u vr σ1 H1 R) : gCons t u (v :: vr) σ H R := ⟨v, vr, rfl, h⟩
theorem r_gnil (h : R σ H) : gNil [] σ H R := ⟨rfl, h⟩
theorem LK.trans {H H1 H2 : Hp} (a : LK H H1) (b : LK H1 H2) : LK H H2 := ⟨a.1.trans b.1, fun c xs e => b.2 c xs (a.2 c xs e)⟩
theorem r_toTup {p : Addr} {ys : List V} {Q' : VK} (hp : H p = some (.lst ys)) (h : ∀ l, H l = none → Q' (.ref l) (upd H l (.tup ys))) : ∃ q zs, [V.ref p] = [V.ref q] ∧ ((SqL K H q zs ∧ ∀ l, H l = none → Q' (.ref l) (upd H l (.tup zs))) ∨ (SqT K H q zs ∧ Q' (.ref q) H)) :=
  ⟨p, ys, rfl, .inl ⟨SqL.of hp, h⟩⟩
end
end Wh

/-! Walks: the builder's methods. -/
local macro_rules | `(tactic| walk_at "rb1") => `(tactic| (first
  | walk_at "rd1" | walk_at "rx" | walk_at "rs" | (with_reducible refine r_sfld ?_) | (with_reducible refine r_meth ?_) | (with_reducible refine r_gcons ?_) | (with_reducible refine r_gnil ?_)
  | ((with_reducible refine' t_brNe ?rbE ?rbB ?rbT ?_); (case rbE => exact rfl); (case rbB => assumption); (case rbT => assumption))
  | ((with_reducible refine' t_pendNe ?rbE ?rbB ?rbT ?_); (case rbE => exact rfl); (case rbB => assumption); (case rbT => assumption))
  | ((with_reducible refine' t_pendEq ?rbE ?rbB ?rbT ?_); (case rbE => exact rfl); (case rbB => assumption); (case rbT => assumption))
  | ((with_reducible refine' t_n ?rbE ?rbB ?rbT ?_); (case rbE => exact rfl); (case rbB => assumption); (case rbT => assumption))
  | ((with_reducible refine' t_br ?rbE ?rbB ?rbT ?_); (case rbE => exact rfl); (case rbB => assumption); (case rbT => assumption))
  | ((with_reducible refine' t_pend ?rbE ?rbB ?rbT ?_); (case rbE => exact rfl); (case rbB => assumption); (case rbT => assumption))
  | ((with_reducible refine' t_layers ?rbE ?rbB ?rbT ?_); (case rbE => exact rfl); (case rbB => assumption); (case rbT => assumption))
  | ((with_reducible refine' t_first ?rbE ?rbB ?rbT ?_); (case rbE => exact rfl); (case rbB => assumption); (case rbT => assumption))
  | ((with_reducible refine' t_done ?rbE ?rbB ?rbT ?_); (case rbE => exact rfl); (case rbB => assumption); (case rbT => assumption))
  | ((with_reducible refine' t_inputs ?rbE ?rbB ?rbT ?_); (case rbE => exact rfl); (case rbB => assumption); (case rbT => assumption))))
local macro_rules | `(tactic| walk_at "rb") => `(tactic| (repeat walk_at "rb1"))

namespace Wh
section
variable {P : Program} {w : World} {K : PySem.W.Frag} {mg : Str → Option Value} {base : Heap} {C W M f : Addr} {fd : FuncData}
def Bs.new : Bs := ⟨0, false, [], 0, .no, .no⟩
def sp_init (C : Addr) : Sp := fun vs H Q _ => ∃ (p dx : Addr) (H0 : Hp), vs = [.ref p] ∧ H p = some (.ins C dx []) ∧ Same H0 H ∧ H0 p = none ∧ ∀ H' : Hp, BAt C H0 H' p .new → Q .non H'
theorem ok_init (F : Fun K "__init__" "Builder.__init__" s_init f fd) (T : Tx K w mg C W M) : FnOk P w K mg base CX0 1 f fd P_init (sp_init C) := by
  refine F.ok sc_init (fun vs H Q E h => ?_) (fun cdv A outer s H vs Q E hr h => ?_)
  · obtain ⟨p, dx, H0, rfl, _⟩ := h
    rfl
  obtain ⟨p, dx, H0, rfl, hp, sm, p0, q⟩ := h
  refine ⟨_, (pss_cons (ps_fld (pv 0) pe_int rfl)
      (pss_cons (ps_fld (pv 0) pe_bl rfl)
      (pss_cons (ps_fld (pv 0) (pe_lst pa_nil) rfl)
      (pss_cons (ps_fld (pv 0) pe_int rfl)
      (pss_cons (ps_fld (pv 0) (pe_tup pa_nil) rfl)
      (pss_cons (ps_fld (pv 0) (pe_lst pa_nil) rfl)
      (pss_one (ps_fld (pv 0) (pe_tup pa_nil) rfl)))))))), ?_⟩
  walk_at "rb"
  refine ⟨p, C, dx, _, rfl, hp, T.cl, T.n_inputs, Nat.le_of_ble_eq_true (by rfl), ?_⟩
  have sm1 := sm_up sm p0 (.ins C dx (putF "inputs" (V.int 0) []))
  have hp1 : upd H p (.ins C dx (putF "inputs" (V.int 0) [])) p = _ := upd_same
  generalize upd H p (.ins C dx (putF "inputs" (V.int 0) [])) = H1 at *
  walk_at "rb"
  refine ⟨p, C, dx, _, rfl, hp1, T.cl, T.n_done, Nat.le_of_ble_eq_true (by rfl), ?_⟩
  have sm2 := sm_up sm1 p0 (.ins C dx (putF "done" (V.bl false) (putF "inputs" (V.int 0) [])))
  have hp2 : upd H1 p (.ins C dx (putF "done" (V.bl false) (putF "inputs" (V.int 0) []))) p = _ := upd_same
  generalize upd H1 p (.ins C dx (putF "done" (V.bl false) (putF "inputs" (V.int 0) []))) = H2 at *
  walk_at "rb"
  refine tup_s rfl fun la hla => ?_
  have l0 := Same.free sm2 hla
  walk_at "rb"
  refine ⟨p, C, dx, _, rfl, by rw [upd_ne (ne_of_none hp2 hla)]; exact hp2, T.cl, T.n_layers, Nat.le_of_ble_eq_true (by rfl), ?_⟩
  have nl : p ≠ la := ne_of_none hp2 hla
  have sm3 := sm_up (sm_up sm2 l0 (.lst [])) p0 (.ins C dx (putF "layers" (V.ref la) (putF "done" (V.bl false) (putF "inputs" (V.int 0) []))))
  have hp3 : upd (upd H2 la (.lst [])) p (.ins C dx (putF "layers" (V.ref la) (putF "done" (V.bl false) (putF "inputs" (V.int 0) [])))) p = _ := upd_same
  have hl3 : upd (upd H2 la (.lst [])) p (.ins C dx (putF "layers" (V.ref la) (putF "done" (V.bl false) (putF "inputs" (V.int 0) [])))) la = some (.lst []) := by rw [upd_ne nl.symm]; exact upd_same
  generalize upd (upd H2 la (.lst [])) p (.ins C dx (putF "layers" (V.ref la) (putF "done" (V.bl false) (putF "inputs" (V.int 0) [])))) = H3 at *
  walk_at "rb"
  refine ⟨p, C, dx, _, rfl, hp3, T.cl, T.n_n, Nat.le_of_ble_eq_true (by rfl), ?_⟩
  have sm4 := sm_up sm3 p0 (.ins C dx (putF "n" (V.int 0) (putF "layers" (V.ref la) (putF "done" (V.bl false) (putF "inputs" (V.int 0) [])))))
  have hp4 : upd H3 p (.ins C dx (putF "n" (V.int 0) (putF "layers" (V.ref la) (putF "done" (V.bl false) (putF "inputs" (V.int 0) []))))) p = _ := upd_same
  have hl4 : upd H3 p (.ins C dx (putF "n" (V.int 0) (putF "layers" (V.ref la) (putF "done" (V.bl false) (putF "inputs" (V.int 0) []))))) la = some (.lst []) := by rw [upd_ne nl.symm]; exact hl3
  generalize upd H3 p (.ins C dx (putF "n" (V.int 0) (putF "layers" (V.ref la) (putF "done" (V.bl false) (putF "inputs" (V.int 0) []))))) = H4 at *
  walk_at "rb"
  refine tup_s rfl fun pv hpv => ?_
  walk_at "rb"
  refine ⟨p, C, dx, _, rfl, by rw [upd_ne (ne_of_none hp4 hpv)]; exact hp4, T.cl, T.n_pending, Nat.le_of_ble_eq_true (by rfl), ?_⟩
  have sm5 := sm_up (sm_new sm4 (.tup []) hpv) p0 (.ins C dx (putF "pending" (V.ref pv) (putF "n" (V.int 0) (putF "layers" (V.ref la) (putF "done" (V.bl false) (putF "inputs" (V.int 0) []))))))
  have hp5 : upd (upd H4 pv (.tup [])) p (.ins C dx (putF "pending" (V.ref pv) (putF "n" (V.int 0) (putF "layers" (V.ref la) (putF "done" (V.bl false) (putF "inputs" (V.int 0) [])))))) p = _ := upd_same
  have hl5 : upd (upd H4 pv (.tup [])) p (.ins C dx (putF "pending" (V.ref pv) (putF "n" (V.int 0) (putF "layers" (V.ref la) (putF "done" (V.bl false) (putF "inputs" (V.int 0) [])))))) la = some (.lst []) := by
    rw [upd_ne nl.symm, upd_ne (ne_of_none hl4 hpv)]; exact hl4
  have hv5 : upd (upd H4 pv (.tup [])) p (.ins C dx (putF "pending" (V.ref pv) (putF "n" (V.int 0) (putF "layers" (V.ref la) (putF "done" (V.bl false) (putF "inputs" (V.int 0) [])))))) pv = some (.tup []) := by
    rw [upd_ne (ne_of_none hp4 hpv).symm]; exact upd_same
  generalize upd (upd H4 pv (.tup [])) p (.ins C dx (putF "pending" (V.ref pv) (putF "n" (V.int 0) (putF "layers" (V.ref la) (putF "done" (V.bl false) (putF "inputs" (V.int 0) [])))))) = H5 at *
  walk_at "rb"
  refine tup_s rfl fun ba hba => ?_
  walk_at "rb"
  refine ⟨p, C, dx, _, rfl, by rw [upd_ne (ne_of_none hp5 hba)]; exact hp5, T.cl, T.n_branch, Nat.le_of_ble_eq_true (by rfl), ?_⟩
  have hp6 : upd H5 ba (.lst []) p = _ := (upd_ne (ne_of_none hp5 hba)).trans hp5
  have sm6 := sm_new sm5 (.lst []) hba
  have hl6 : upd H5 ba (.lst []) la = _ := (upd_ne (ne_of_none hl5 hba)).trans hl5
  have hv6 : upd H5 ba (.lst []) pv = _ := (upd_ne (ne_of_none hv5 hba)).trans hv5
  have hb6 : upd H5 ba (.lst []) ba = some (.lst []) := upd_same
  have nb := ne_of_none hl5 hba
  generalize upd H5 ba (.lst []) = H6 at *
  have k6 := LK.ins hp6 (putF "branch" (V.ref ba) (putF "pending" (V.ref pv) (putF "n" (V.int 0) (putF "layers" (V.ref la) (putF "done" (V.bl false) (putF "inputs" (V.int 0) []))))))
  have sm7 := sm_up sm6 p0 (.ins C dx (putF "branch" (V.ref ba) (putF "pending" (V.ref pv) (putF "n" (V.int 0) (putF "layers" (V.ref la) (putF "done" (V.bl false) (putF "inputs" (V.int 0) [])))))))
  have hp7 : upd H6 p (.ins C dx (putF "branch" (V.ref ba) (putF "pending" (V.ref pv) (putF "n" (V.int 0) (putF "layers" (V.ref la) (putF "done" (V.bl false) (putF "inputs" (V.int 0) []))))))) p = _ := upd_same
  generalize upd H6 p (.ins C dx (putF "branch" (V.ref ba) (putF "pending" (V.ref pv) (putF "n" (V.int 0) (putF "layers" (V.ref la) (putF "done" (V.bl false) (putF "inputs" (V.int 0) []))))))) = H7 at *
  walk_at "rb"
  refine tup_s rfl fun fv hfv => ?_
  walk_at "rb"
  have s8 := sm_new (Same.refl H7) (.tup []) hfv
  refine ⟨p, C, dx, _, rfl, s8 _ _ hp7, T.cl, T.n_first, Nat.le_of_ble_eq_true (by rfl), ?_⟩
  walk_at "rb"
  have k8 := LK.same s8
  have b : BIn C H0 (upd (upd H7 fv (.tup [])) p (.ins C dx (flds 0 false la 0 (.ref pv) (.ref ba) (.ref fv)))) p .new dx la [] (.ref pv) (.ref ba) (.ref fv) := by
    have k9 := LK.ins (s8 _ _ hp7) (flds 0 false la 0 (.ref pv) (.ref ba) (.ref fv))
    have k := k6.trans (k8.trans k9)
    exact ⟨sm_up (sm7.trans s8) p0 _, p0, l0, upd_same, k.2 _ _ hl6, trivial, ⟨pv, rfl, k.1 _ _ hv6⟩, ⟨ba, rfl, k.2 _ _ hb6, nb.symm⟩⟩
  exact q _ b.at
/-! put a layer -/
def sp_put (C : Addr) : Sp := fun vs H Q _ => ∃ (p : Addr) (line : Int) (v : V) (H0 : Hp) (s : Bs), vs = [.ref p, .int line, v] ∧ BAt C H0 H p s ∧ s.pend = .no ∧ 1 ≤ s.n ∧ s.n ≤ 16 ∧
  ((s.br = .no ∧ s.base.length < 1000 ∧ ∃ l : LL, LLAt H v l ∧ l.wf s.n ∧ ∀ H', BAt C H0 H' p { s with base := s.base ++ [l], n := l.gives s.n } → Q .non H') ∨
   (s.br.is = false ∧ s.size < 1000 ∧ ∃ l : PL, PLAt H v l ∧ l.wf s.n ∧ ∀ H', BAt C H0 H' p (s.put l) → Q .non H'))
theorem br_or : ∀ r : Br, r = .no ∨ r.is = false
  | .no => .inl rfl
  | .one _ _ _ => .inr rfl
  | .two _ _ _ _ => .inr rfl
theorem put_ask {C p : Addr} {line : Int} {v : V} {H0 H : Hp} {s : Bs} {Q : VK} {E : XK} {l : PL} (b : BAt C H0 H p s) (h1 : s.pend = .no) (h2 : putOk s.n l) (h3 : s.size < 1000) (h4 : PLAt H v l) (q : ∀ H', BAt C H0 H' p (s.put l) → Q .non H') : sp_put C [.ref p, .int line, v] H Q E := by
  refine ⟨p, line, v, H0, s, rfl, b, h1, h2.2.1, h2.2.2.1, ?_⟩
  rcases br_or s.br with e | e
  · exact .inl ⟨e, by unfold Bs.size at h3; rw [e] at h3; exact h3, .p l, h4, h2.1, fun H' b2 => q H' (by rw [put_no e]; exact b2)⟩
  · exact .inr ⟨e, h3, l, h4, h2.1, q⟩
theorem ok_put (F : Fun K "put_layer" "Builder.put_layer" s_put_layer f fd) (T : Tx K w mg C W M) (G_gives : Cl P w K mg base 4 "gives" P_gives (sp_g 2)) : FnOk P w K mg base CX0 5 f fd P_put_layer (sp_put C) := by
  refine F.ok sc_put_layer (fun vs H Q E h => ?_) (fun cdv A outer s H vs Q E hr h => ?_)
  · obtain ⟨p, line, v, H0, s, rfl, _⟩ := h
    rfl
  obtain ⟨p, line, v, H0, t, rfl, ⟨dx, la, xs, gv, bv, fv, b⟩, hpd, n1, n16, h⟩ := h
  refine ⟨_, (pss_cons (ps_set (i := 3) sc_put_layer.nd rfl (Or.inl rfl) (pe_fld (pv 0) rfl))
      (pss_cons (ps_if (pt_cmpR (op_neD hr.units) (pe_fld (pv 0) rfl) (pe_lst pa_nil) (nomark _))
        (pss_one (ps_set (i := 3) sc_put_layer.nd rfl (Or.inl rfl) (pe_ix ix_list (pe_fld (pv 0) rfl) (pe_un un_neg pe_int) (fun _ _ => rfl))))
        pss_nil)
      (pss_cons (ps_set (i := 4) sc_put_layer.nd rfl (Or.inl rfl) (pcl G_gives hr (pa_cons (pv 2) (pa_cons (pe_fld (pv 0) rfl) pa_nil))))
      (pss_cons (ps_if (pt_cmpR op_gt (pv 4) (pgi T.c_MOST_SIGNALS) (nomark _))
        (pss_one ps_never)
        pss_nil)
      (pss_cons (ps_expr (pe_bm PySem.F.plainAttrs_list PySem.F.slot_list_append PySem.F.type_list_append mt_append (pv 3) (pa_cons (pv 2) pa_nil)))
      (pss_one (ps_fld (pv 0) (pv 4) rfl))))))), ?_⟩
  walk_at "rb"
  walk_at "rb"
  refine fun H1 s1 => ?_
  have b1 := b.same s1
  rcases h with ⟨e, hlen, l, hl, hw, q⟩ | ⟨e, hlen, l, hl, hw, q⟩
  · have eN : (!t.br.is) = false := by rw [e]; rfl
    walk_at "rb"
    refine itN eN ?_
    walk_at "rb"
    refine ⟨v, t.n, l, rfl, hl.mono (sm_tk s1), hw, n1, n16, ⟨by decide, .inl (by decide)⟩, fun H2 s2 => ?_⟩
    have b2 := b1.same s2
    have gp := LL.gives_pos ⟨n1, n16⟩ hw
    walk_at "rb"
    refine itN (decide_eq_false (by omega)) ?_
    walk_at "rb"
    refine r_tyL b2.hl ?_
    walk_at "rb"
    refine r_app b2.hl (by rw [b2.al.len]; omega) ?_
    have b3 := b2.app_no hpd e (hl.mono (sm_tk (s1.trans s2)))
    walk_at "rb"
    refine ⟨p, C, dx, _, rfl, b3.hp, T.cl, T.n_n, Nat.le_of_ble_eq_true (by rfl), ?_⟩
    walk_at "rb"
    exact q _ (b3.setp { t with base := t.base ++ [l], n := l.gives t.n } rfl b3.pd b3.br).at
  · have hb := b1.br
    cases hbr : t.br with
    | no => rw [hbr] at e; cases e
    | one fk b0 a =>
      walk_at "rb"
      refine itY rfl ?_
      rw [hbr] at hb
      obtain ⟨ba, i, ys, rfl, hba, hi, ha, m1, m2, m3, ht, z⟩ := hb
      walk_at "rb"
      walk_at "rb"
      refine ⟨v, t.n, .p l, rfl, hl.mono (sm_tk s1), hw, n1, n16, ⟨by decide, .inl (by decide)⟩, fun H2 s2 => ?_⟩
      have b2 := b1.same s2
      have gp := PL.gives_pos ⟨n1, n16⟩ hw
      walk_at "rb"
      refine itN (decide_eq_false (by show ¬ (((l.gives t.n : Nat) : Int) > 64); omega)) ?_
      walk_at "rb"
      refine r_tyL (s2 _ _ hi) ?_
      walk_at "rb"
      refine r_app (s2 _ _ hi) (by rw [ha.len]; unfold Bs.size at hlen; rw [hbr] at hlen; have hl2 : a.length < 1000 := hlen; omega) ?_
      have b3 := b2.app_one hpd rfl (s2 _ _ hba) (s2 _ _ hi) (ha.mono fun _ _ z => PLAt.mono (sm_tk s2) z) m1 m2 m3 (ht.mono (sm_tk s2)) z (hl.mono (sm_tk (s1.trans s2)))
      walk_at "rb"
      refine ⟨p, C, dx, _, rfl, b3.hp, T.cl, T.n_n, Nat.le_of_ble_eq_true (by rfl), ?_⟩
      walk_at "rb"
      have b4 := b3.setp (t.put l) (by unfold Bs.put; rw [hbr]) (by rw [put_pend]; exact b3.pd) (show BrAt _ _ _ _ _ (t.put l).br by unfold Bs.put; rw [hbr]; exact b3.br)
      have e4 : (t.put l).inp = t.inp ∧ (t.put l).done = t.done ∧ (t.put l).n = l.gives t.n := by unfold Bs.put; rw [hbr]; exact ⟨rfl, rfl, rfl⟩
      rw [e4.1, e4.2.1, e4.2.2] at b4
      exact q _ b4.at
    | two fk b0 a a2 =>
      walk_at "rb"
      refine itY rfl ?_
      rw [hbr] at hb
      obtain ⟨ba, i, j, ys, zs, rfl, hba, hi, ha, hj, hb2, m1, m2, m3, m4, m5, m6, ht, z, z2⟩ := hb
      walk_at "rb"
      walk_at "rb"
      refine ⟨v, t.n, .p l, rfl, hl.mono (sm_tk s1), hw, n1, n16, ⟨by decide, .inl (by decide)⟩, fun H2 s2 => ?_⟩
      have b2 := b1.same s2
      have gp := PL.gives_pos ⟨n1, n16⟩ hw
      walk_at "rb"
      refine itN (decide_eq_false (by show ¬ (((l.gives t.n : Nat) : Int) > 64); omega)) ?_
      walk_at "rb"
      refine r_tyL (s2 _ _ hj) ?_
      walk_at "rb"
      refine r_app (s2 _ _ hj) (by rw [hb2.len]; unfold Bs.size at hlen; rw [hbr] at hlen; have hl2 : a2.length < 1000 := hlen; omega) ?_
      have b3 := b2.app_two hpd rfl (s2 _ _ hba) (s2 _ _ hi) (ha.mono fun _ _ z => PLAt.mono (sm_tk s2) z) (s2 _ _ hj) (hb2.mono fun _ _ z => PLAt.mono (sm_tk s2) z) m1 m2 m3 m4 m5 m6 (ht.mono (sm_tk s2)) z z2 (hl.mono (sm_tk (s1.trans s2)))
      walk_at "rb"
      refine ⟨p, C, dx, _, rfl, b3.hp, T.cl, T.n_n, Nat.le_of_ble_eq_true (by rfl), ?_⟩
      walk_at "rb"
      have b4 := b3.setp (t.put l) (by unfold Bs.put; rw [hbr]) (by rw [put_pend]; exact b3.pd) (show BrAt _ _ _ _ _ (t.put l).br by unfold Bs.put; rw [hbr]; exact b3.br)
      have e4 : (t.put l).inp = t.inp ∧ (t.put l).done = t.done ∧ (t.put l).n = l.gives t.n := by unfold Bs.put; rw [hbr]; exact ⟨rfl, rfl, rfl⟩
      rw [e4.1, e4.2.1, e4.2.2] at b4
      exact q _ b4.at
end
end Wh

/-! Walks: present, finish, the checks. -/

namespace Wh
section
variable {P : Program} {w : World} {K : PySem.W.Frag} {mg : Str → Option Value} {base : Heap} {C W M f : Addr} {fd : FuncData}
def sp_pres (C : Addr) : Sp := fun vs H Q _ => ∃ (p : Addr) (H0 : Hp) (s : Bs), vs = [.ref p] ∧ BAt C H0 H p s ∧ ∀ H', Same H H' → Q (.int s.size) H'
theorem ok_pres (F : Fun K "present" "Builder.present" s_present f fd) (T : Tx K w mg C W M) : FnOk P w K mg base CX0 1 f fd P_present (sp_pres C) := by
  refine F.ok sc_present (fun vs H Q E h => ?_) (fun cdv A outer s H vs Q E hr h => ?_)
  · obtain ⟨p, H0, s, rfl, _⟩ := h
    rfl
  obtain ⟨p, H0, t, rfl, ⟨dx, la, xs, gv, bv, fv, b⟩, q⟩ := h
  refine ⟨_, (pss_cons (ps_if (pt_cmpR (op_neD hr.units) (pe_fld (pv 0) rfl) (pe_lst pa_nil) (nomark _))
        (pss_one (ps_ret (pe_callB call_len_seq rfl T.f_len PySem.boot_len (pa_cons (pe_ix ix_list (pe_fld (pv 0) rfl) (pe_un un_neg pe_int) (fun _ _ => rfl)) pa_nil))))
        pss_nil)
      (pss_one (ps_ret (pe_callB call_len_seq rfl T.f_len PySem.boot_len (pa_cons (pe_fld (pv 0) rfl) pa_nil))))), ?_⟩
  walk_at "rb"
  intro H1 s1
  have b1 := b.same s1
  have hb := b1.br
  have eq : ∃ r, t.br = r := ⟨_, rfl⟩
  obtain ⟨r, hbr⟩ := eq
  cases r with
  | no =>
    have e : t.size = t.base.length := by unfold Bs.size; rw [hbr]
    rw [hbr] at hb ⊢
    have hl1 := b1.hl
    walk_at "rb"
    have q2 := q H1 s1
    rw [e, ← b1.al.len] at q2
    exact q2
  | one fk b0 a =>
    have e : t.size = a.length := by unfold Bs.size; rw [hbr]
    rw [hbr] at hb ⊢
    obtain ⟨ba, i, ys, rfl, hba, hi, ha, m1, m2, m3, ht, z⟩ := hb
    walk_at "rb"
    refine itY rfl ?_
    walk_at "rb"
    have q2 := q H1 s1
    rw [e, ← ha.len] at q2
    exact q2
  | two fk b0 a a2 =>
    have e : t.size = a2.length := by unfold Bs.size; rw [hbr]
    rw [hbr] at hb ⊢
    obtain ⟨ba, i, j, ys, zs, rfl, hba, hi, ha, hj, hb2, m1, m2, m3, m4, m5, m6, ht, z, z2⟩ := hb
    walk_at "rb"
    refine itY rfl ?_
    walk_at "rb"
    have q2 := q H1 s1
    rw [e, ← hb2.len] at q2
    exact q2
def sp_cc (C : Addr) : Sp := fun vs H Q _ => ∃ (p : Addr) (line : Int) (H0 : Hp) (s : Bs), vs = [.ref p, .int line] ∧ BAt C H0 H p s ∧ s.size < 12 ∧ ∀ H', Same H H' → Q .non H'
theorem ok_cc (F : Fun K "check_count" "check_count" s_check_count f fd) (T : Tx K w mg C W M) (G_present : Ml P w K mg base C 1 "present" P_present (sp_pres C)) : FnOk P w K mg base CX0 2 f fd P_check_count (sp_cc C) := by
  refine F.ok sc_check_count (fun vs H Q E h => ?_) (fun cdv A outer s H vs Q E hr h => ?_)
  · obtain ⟨p, line, H0, s, rfl, _⟩ := h
    rfl
  obtain ⟨p, line, H0, t, rfl, ⟨dx, la, xs, gv, bv, fv, b⟩, hz, q⟩ := h
  refine ⟨_, (pss_one (ps_if (pt_cmpR op_eq (pml0 (pv 0) T.cl G_present hr) (pgi T.c_MOST_LAYERS) (nomark _))
        (pss_one ps_never)
        pss_nil)), ?_⟩
  walk_at "rb"
  refine ⟨p, dx, _, rfl, b.hp, lk_pres, ?_⟩
  walk_at "rb"
  refine ⟨p, H0, t, rfl, b.at, fun H1 s1 => ?_⟩
  walk_at "rb"
  refine itN (decide_eq_false fun e => by have e2 := V.int.inj e; omega) ?_
  walk_at "rb"
  exact q H1 s1
def sp_fin (C : Addr) : Sp := fun vs H Q _ => ∃ (p : Addr) (H0 : Hp) (s : Bs), vs = [.ref p] ∧ BAt C H0 H p s ∧ s.finOk ∧ ∀ H', BAt C H0 H' p s.fini → Q .non H'
theorem ok_fin (F : Fun K "finish" "Builder.finish" s_finish f fd) (T : Tx K w mg C W M) (G_put_layer : Ml P w K mg base C 5 "put_layer" P_put_layer (sp_put C)) : FnOk P w K mg base CX0 6 f fd P_finish (sp_fin C) := by
  refine F.ok sc_finish (fun vs H Q E h => ?_) (fun cdv A outer s H vs Q E hr h => ?_)
  · obtain ⟨p, H0, s, rfl, _⟩ := h
    rfl
  obtain ⟨p, H0, t, rfl, ⟨dx, la, xs, gv, bv, fv, b⟩, hok, q⟩ := h
  refine ⟨_, (pss_cons (ps_if (pt_cmpR (op_eqD hr.units) (pe_fld (pv 0) rfl) (pe_tup pa_nil) (nomark _))
        (pss_one ps_retN)
        pss_nil)
      (pss_cons (ps_asg (pe_fld (pv 0) rfl) (pg_tup rfl (pgs_cons (pg_name (i := 1) sc_finish.nd rfl (Or.inl rfl)) (pgs_cons (pg_name (i := 2) sc_finish.nd rfl (Or.inl rfl)) (pgs_cons (pg_name (i := 3) sc_finish.nd rfl (Or.inl rfl)) (pgs_cons (pg_name (i := 4) sc_finish.nd rfl (Or.inl rfl)) (pgs_cons (pg_name (i := 5) sc_finish.nd rfl (Or.inl rfl)) pgs_nil)))))))
      (pss_cons (ps_fld (pv 0) (pe_tup pa_nil) rfl)
      (pss_one (ps_if (pt_cmpR op_eq (pv 1) pe_str (nomark _))
        (pss_one (ps_expr (pml (pv 0) T.cl G_put_layer hr (pa_cons (pv 5) (pa_cons (pe_tup (pa_cons pe_str (pa_cons (pe_callTy call_tuple_of rfl T.f_tuple (by decide +kernel) (pa_cons (pv 3) pa_nil)) (pa_cons (pe_callTy call_tuple_of rfl T.f_tuple (by decide +kernel) (pa_cons (pv 4) pa_nil)) pa_nil)))) pa_nil)))))
        (pss_one (ps_expr (pml (pv 0) T.cl G_put_layer hr (pa_cons (pv 5) (pa_cons (pe_tup (pa_cons pe_str (pa_cons (pe_callTy call_tuple_of rfl T.f_tuple (by decide +kernel) (pa_cons (pv 3) pa_nil)) (pa_cons (pe_callTy call_tuple_of rfl T.f_tuple (by decide +kernel) (pa_cons (pv 4) pa_nil)) (pa_cons (pv 2) pa_nil))))) pa_nil)))))))))), ?_⟩
  walk_at "rb"
  intro H1 s1
  have b1 := b.same s1
  have hpd := b1.pd
  have eq : ∃ r, t.pend = r := ⟨_, rfl⟩
  obtain ⟨r, hp⟩ := eq
  cases r with
  | no =>
    rw [hp]
    walk_at "rb"
    have q2 := q H1
    rw [fini_no hp] at q2
    exact q2 b1.at
  | some cv st rows bs =>
    have e1 : t.fini = Bs.put { t with pend := .no } (mkP cv st rows bs) := by unfold Bs.fini; rw [hp]
    unfold Bs.finOk at hok
    rw [hp] at hpd hok ⊢
    obtain ⟨rl, bl, ln, rvs, ⟨tp, rfl, htp⟩, hrl, har, hbl⟩ := hpd
    obtain ⟨zz, rne, r16, b16, rr16, po⟩ := hok
    walk_at "rb"
    refine itN rfl ?_
    walk_at "rb"
    refine r_gtup htp rfl ?_
    walk_at "rb"
    refine tup_s rfl fun ev hev => ?_
    have s2 := sm_new (Same.refl H1) (.tup []) hev
    have b2 := b1.same s2
    walk_at "rb"
    refine ⟨p, C, dx, _, rfl, b2.hp, T.cl, T.n_pending, Nat.le_of_ble_eq_true (by rfl), ?_⟩
    rw [pf_pending]
    have b3 := b2.setp { t with pend := .no } rfl (pv' := .ref ev) ⟨ev, rfl, upd_same⟩ b2.br
    have k3 := (LK.same s2).trans (LK.ins b2.hp (flds t.inp t.done la t.n (.ref ev) bv fv))
    have hrl3 := k3.2 _ _ hrl
    have hbl3 := k3.2 _ _ hbl
    have har3 := har.mono fun _ _ z => Ints.mono k3.1 z
    generalize upd (upd H1 ev (HO.tup [])) p (HO.ins C dx (flds t.inp t.done la t.n (V.ref ev) bv fv)) = H3 at *
    have hd : ∀ (H5 : Hp) (r1 r2 : Addr), TK H3 H5 → H5 r1 = some (.tup rvs) → H5 r2 = some (.tup (bs.map V.int)) → Rows H5 (.ref r1) rows ∧ Ints H5 (.ref r2) bs := fun H5 r1 r2 k h1 h2 => ⟨⟨rvs, ⟨r1, rfl, h1⟩, har3.mono fun _ _ z => Ints.mono k z⟩, ⟨r2, rfl, h2⟩⟩
    cases cv with
    | false =>
      walk_at "rb"
      refine ⟨p, dx, _, rfl, b3.hp, lk_put, ?_⟩
      walk_at "rb"
      refine ⟨_, _, rfl, .inl ⟨SqL.of hrl3, fun r1 hr1 => ?_⟩⟩
      have s4 := sm_new (Same.refl H3) (.tup rvs) hr1
      walk_at "rb"
      refine ⟨_, _, rfl, .inl ⟨SqL.of (s4 _ _ hbl3), fun r2 hr2 => ?_⟩⟩
      have s5 := sm_new s4 (.tup (bs.map V.int)) hr2
      walk_at "rb"
      refine tup_s rfl fun r3 hr3 => ?_
      have s6 := sm_new s5 (.tup [.str "dense", .ref r1, .ref r2]) hr3
      have d5 := hd _ r1 r2 (sm_tk s5) (sm_new (Same.refl _) _ hr2 _ _ upd_same) upd_same
      walk_at "rb"
      have k6 := sm_tk (sm_new (Same.refl _) (.tup [.str "dense", .ref r1, .ref r2]) hr3)
      refine put_ask (l := .dense rows bs) (b3.same s6).at rfl po (Nat.lt_of_lt_of_le zz (by decide)) ⟨_, _, Tup.new, d5.1.mono k6, d5.2.mono k6⟩ fun H7 b7 => ?_
      walk_at "rb"
      have q2 := q H7
      rw [e1] at q2
      exact q2 b7
    | true =>
      walk_at "rb"
      refine ⟨p, dx, _, rfl, b3.hp, lk_put, ?_⟩
      walk_at "rb"
      refine ⟨_, _, rfl, .inl ⟨SqL.of hrl3, fun r1 hr1 => ?_⟩⟩
      have s4 := sm_new (Same.refl H3) (.tup rvs) hr1
      walk_at "rb"
      refine ⟨_, _, rfl, .inl ⟨SqL.of (s4 _ _ hbl3), fun r2 hr2 => ?_⟩⟩
      have s5 := sm_new s4 (.tup (bs.map V.int)) hr2
      walk_at "rb"
      refine tup_s rfl fun r3 hr3 => ?_
      have s6 := sm_new s5 (.tup [.str "conv", .ref r1, .ref r2, .int st]) hr3
      have d5 := hd _ r1 r2 (sm_tk s5) (sm_new (Same.refl _) _ hr2 _ _ upd_same) upd_same
      walk_at "rb"
      have k6 := sm_tk (sm_new (Same.refl _) (.tup [.str "conv", .ref r1, .ref r2, .int st]) hr3)
      refine put_ask (l := .conv rows bs st) (b3.same s6).at rfl po (Nat.lt_of_lt_of_le zz (by decide)) ⟨_, _, Tup.new, d5.1.mono k6, d5.2.mono k6⟩ fun H7 b7 => ?_
      walk_at "rb"
      have q2 := q H7
      rw [e1] at q2
      exact q2 b7
end
end Wh

/-! Walks: check_place, check_words. -/

namespace Wh
section
variable {σ : L2.St} {H : Hp} {K : PySem.W.Frag} {Q : VK}
def kk : List (Key × V) := [(.inr "row", .str "dense"), (.inr "kernel", .str "conv")]
theorem t_kind {i : Nat} {wd v : Str} (e : σ[i]? = some (some (.str wd))) (hv : valV (mergeK [] kk) (.inr wd) = some (.str v)) (q : ∀ H', Same H H' → Q (.str v) H') :
    tDGet (tDisp [(tC (.str "row"), tC (.str "dense")), (tC (.str "kernel"), tC (.str "conv"))]) (tVar i) σ H Q := by
  intro p hp
  refine ⟨upd_same, kk, rfl, by decide, ⟨.str wd, e, p, .str v, rfl, ?_, ?_⟩⟩
  · rw [← hv]
    exact DGet.k (k := .inr wd) upd_same
  · rw [upd_upd]
    exact q _ (sm_new (Same.refl H) _ hp)
theorem r_in {p : Addr} {xs : List V} {x : V} {neg : Bool} (hp : H p = some (.tup xs)) (h1 : flatV x = true) (h2 : xs.all flatV = true) (q : Q (.bl (if neg then !inV x xs else inV x xs)) H) : rIn K neg x (.ref p) H Q := ⟨p, xs, rfl, .inr (SqT.of hp), h1, h2, q⟩
end
inductive PlaceOk (s : Bs) : Str → Prop
  | row {st : Nat} {rows : List (List Int)} {bs : List Int} (h : s.pend = .some false st rows bs) : PlaceOk s "row"
  | ker {st : Nat} {rows : List (List Int)} {bs : List Int} (h : s.pend = .some true st rows bs) : PlaceOk s "kernel"
  | wth {fk : Bool} {b0 : Nat} {a : List PL} (h : s.pend = .no) (e : s.br = .one fk b0 a) : PlaceOk s "with"
  | fin {fk : Bool} {b0 : Nat} {a b : List PL} (h : s.pend = .no) (e : s.br = .two fk b0 a b) : PlaceOk s "end"
  | top {x : Str} (h : s.pend = .no) (e : s.br = .no) (hx : x = "sum" ∨ x = "fork" ∨ x = "done") : PlaceOk s x
  | oth {x : Str} (h : s.pend = .no) (hx : x = "dense" ∨ x = "conv" ∨ x = "relu" ∨ x = "clamp" ∨ x = "max" ∨ x = "mean") : PlaceOk s x
section
variable {P : Program} {w : World} {K : PySem.W.Frag} {mg : Str → Option Value} {base : Heap} {C W M f : Addr} {fd : FuncData}
def sp_place (C : Addr) : Sp := fun vs H Q _ => ∃ (p : Addr) (line : Int) (x : Str) (H0 : Hp) (s : Bs), vs = [.ref p, .int line, .str x] ∧ BAt C H0 H p s ∧ s.done = false ∧ PlaceOk s x ∧ ∀ H', Same H H' → Q .non H'
theorem ok_place (F : Fun K "check_place" "check_place" s_check_place f fd) (T : Tx K w mg C W M) : FnOk P w K mg base CX0 1 f fd P_check_place (sp_place C) := by
  refine F.ok sc_check_place (fun vs H Q E h => ?_) (fun cdv A outer s H vs Q E hr h => ?_)
  · obtain ⟨p, line, x, H0, s, rfl, _⟩ := h
    rfl
  obtain ⟨p, line, x, H0, t, rfl, ⟨dx, la, xs, gv, bv, fv, b⟩, hd, hpl, q⟩ := h
  refine ⟨_, (pss_cons (ps_set (i := 3) sc_check_place.nd rfl (Or.inl rfl) (pe_or (pe_fld (pv 0) rfl) (pe_one (pe_cmpR op_eq (pv 2) pe_str (nomark _)))))
      (pss_cons (ps_if (PW.pt (pw_or (pt_cmpR op_eq (pv 2) pe_str (nomark _)) (pw_or1 (pt_cmpR op_eq (pv 2) pe_str (nomark _)))))
        (pss_cons (ps_set (i := 4) sc_check_place.nd rfl (Or.inl rfl) (pe_dget (hu_of hr) (pe_disp (pps_cons pe_str pe_str (pps_cons pe_str pe_str pps_nil)) (by rfl) (by rfl) (fun z => by cases z) (by decide)) (pv 2) (fun _ _ => rfl)))
        (pss_one (ps_set (i := 3) sc_check_place.nd rfl (Or.inl rfl) (pe_or (pv 3) (pe_or (pe_cmpR (op_eqD hr.units) (pe_fld (pv 0) rfl) (pe_tup pa_nil) (nomark _)) (pe_one (pe_cmpR op_ne (pe_ix ix_tup (pe_fld (pv 0) rfl) pe_int (fun _ _ => rfl)) (pv 4) (nomark _))))))))
        (pss_one (ps_if (PW.pt (pw_and (pt_cmpR (op_neD hr.units) (pe_fld (pv 0) rfl) (pe_tup pa_nil) (nomark _)) (pw_and1 (pt_cmpR op_eq (pe_callB call_len_seq rfl T.f_len PySem.boot_len (pa_cons (pe_ix ix_tup (pe_fld (pv 0) rfl) pe_int (fun _ _ => rfl)) pa_nil)) pe_int (nomark _)))))
          (pss_one (ps_set (i := 3) sc_check_place.nd rfl (Or.inl rfl) pe_bl))
          pss_nil)))
      (pss_cons (ps_if (pt_cmpR op_eq (pv 2) pe_str (nomark _))
        (pss_one (ps_set (i := 3) sc_check_place.nd rfl (Or.inl rfl) (pe_or (pv 3) (pe_one (pe_cmpR op_ne (pe_callB call_len_seq rfl T.f_len PySem.boot_len (pa_cons (pe_fld (pv 0) rfl) pa_nil)) pe_int (nomark _))))))
        (pss_one (ps_if (pt_cmpR op_eq (pv 2) pe_str (nomark _))
          (pss_one (ps_set (i := 3) sc_check_place.nd rfl (Or.inl rfl) (pe_or (pv 3) (pe_one (pe_cmpR op_ne (pe_callB call_len_seq rfl T.f_len PySem.boot_len (pa_cons (pe_fld (pv 0) rfl) pa_nil)) pe_int (nomark _))))))
          (pss_one (ps_if (pt_cmpR op_in_seq (pv 2) (pe_tup (pa_cons pe_str (pa_cons pe_str (pa_cons pe_str pa_nil)))) (by with_unfolding_all rfl))
            (pss_one (ps_set (i := 3) sc_check_place.nd rfl (Or.inl rfl) (pe_or (pv 3) (pe_one (pe_cmpR (op_neD hr.units) (pe_fld (pv 0) rfl) (pe_lst pa_nil) (nomark _))))))
            pss_nil)))))
      (pss_one (ps_if (pt_val (pv 3))
        (pss_one ps_never)
        pss_nil))))), ?_⟩
  walk_at "rb"
  refine itN hd ?_
  cases hpl with
  | row hp =>
    have hpd := b.pd
    rw [hp] at hpd
    obtain ⟨rl, bl, ln, rvs, ⟨tp, rfl, htp⟩, _⟩ := hpd
    walk_at "rb"
    refine t_kind rfl rfl fun H1 s1 => ?_
    have b1 := b.same s1
    walk_at "rb"
    intro H2 s2
    have b2 := b1.same s2
    have htp2 := s2 _ _ (s1 _ _ htp)
    walk_at "rb"
    have eN : t.pend.is = false := by rw [hp]; rfl
    refine itN eN ?_
    walk_at "rb"
    refine tup_s rfl fun r3 hr3 => ?_
    have s3 := sm_new (s1.trans s2) (.tup [.str "sum", .str "fork", .str "done"]) hr3
    walk_at "rb"
    refine r_in upd_same rfl rfl ?_
    walk_at "rb"
    exact q _ s3
  | ker hp =>
    have hpd := b.pd
    rw [hp] at hpd
    obtain ⟨rl, bl, ln, rvs, ⟨tp, rfl, htp⟩, _⟩ := hpd
    walk_at "rb"
    refine t_kind rfl rfl fun H1 s1 => ?_
    have b1 := b.same s1
    walk_at "rb"
    intro H2 s2
    have b2 := b1.same s2
    have htp2 := s2 _ _ (s1 _ _ htp)
    walk_at "rb"
    have eN : t.pend.is = false := by rw [hp]; rfl
    refine itN eN ?_
    walk_at "rb"
    refine tup_s rfl fun r3 hr3 => ?_
    have s3 := sm_new (s1.trans s2) (.tup [.str "sum", .str "fork", .str "done"]) hr3
    walk_at "rb"
    refine r_in upd_same rfl rfl ?_
    walk_at "rb"
    exact q _ s3
  | wth hp e =>
    walk_at "rb"
    intro H1 s1
    have b1 := b.same s1
    have hb := b1.br
    rw [e] at hb
    obtain ⟨ba, i, ys, rfl, hba, _⟩ := hb
    have eN : (!t.pend.is) = false := by rw [hp]; rfl
    walk_at "rb"
    refine itN eN ?_
    walk_at "rb"
    exact q _ s1
  | fin hp e =>
    walk_at "rb"
    intro H1 s1
    have b1 := b.same s1
    have hb := b1.br
    rw [e] at hb
    obtain ⟨ba, i, j, ys, zs, rfl, hba, _⟩ := hb
    have eN : (!t.pend.is) = false := by rw [hp]; rfl
    walk_at "rb"
    refine itN eN ?_
    walk_at "rb"
    exact q _ s1
  | top hp e hx =>
    have eN : (!t.pend.is) = false := by rw [hp]; rfl
    have eM : (!t.br.is) = false := by rw [e]; rfl
    rcases hx with rfl | rfl | rfl <;>
    · walk_at "rb"
      intro H1 s1
      have b1 := b.same s1
      walk_at "rb"
      refine itN eN ?_
      walk_at "rb"
      refine tup_s rfl fun r3 hr3 => ?_
      have s3 := sm_new s1 (.tup [.str "sum", .str "fork", .str "done"]) hr3
      have b3 := b.same s3
      walk_at "rb"
      refine r_in upd_same rfl rfl ?_
      walk_at "rb"
      intro H4 s4
      have b4 := b3.same s4
      walk_at "rb"
      refine itN eM ?_
      walk_at "rb"
      exact q _ (s3.trans s4)
  | oth hp hx =>
    have eN : (!t.pend.is) = false := by rw [hp]; rfl
    rcases hx with rfl | rfl | rfl | rfl | rfl | rfl <;>
    · walk_at "rb"
      intro H1 s1
      have b1 := b.same s1
      walk_at "rb"
      refine itN eN ?_
      walk_at "rb"
      refine tup_s rfl fun r3 hr3 => ?_
      have s3 := sm_new s1 (.tup [.str "sum", .str "fork", .str "done"]) hr3
      walk_at "rb"
      refine r_in upd_same rfl rfl ?_
      walk_at "rb"
      exact q _ s3
end
end Wh

/-! Walks: check_words, read_row. -/

namespace Wh
/-! ### cuts -/
theorem cut_mid {x y z : V} {m : List V} : cutV (x :: (m ++ [y, z])) (some 1) (some (-2)) = m := by
  have e1 : HT.sIx (x :: (m ++ [y, z])).length 0 (some 1) = 1 := by
    show min (1 : Int).toNat (x :: (m ++ [y, z])).length = 1
    have : (1 : Int).toNat = 1 := rfl
    rw [this, List.length_cons]
    omega
  have e2 : HT.sIx (x :: (m ++ [y, z])).length (x :: (m ++ [y, z])).length (some (-2)) = m.length + 1 := by
    show ((-2 : Int) + ((x :: (m ++ [y, z])).length : Int)).toNat = _
    rw [List.length_cons, List.length_append]
    show ((-2 : Int) + ((m.length + 2 + 1 : Nat) : Int)).toNat = _
    omega
  unfold cutV
  rw [e1, e2, List.drop_succ_cons, List.drop_zero, Nat.add_sub_cancel, List.take_left]
theorem cut_end {z : V} {m : List V} : cutV (m ++ [z]) (some (-1)) none = [z] := by
  have e1 : HT.sIx (m ++ [z]).length 0 (some (-1)) = m.length := by
    show ((-1 : Int) + ((m ++ [z]).length : Int)).toNat = _
    rw [List.length_append]
    show ((-1 : Int) + ((m.length + 1 : Nat) : Int)).toNat = _
    omega
  unfold cutV
  rw [e1, List.drop_left]
  show List.take ((m ++ [z]).length - m.length) [z] = [z]
  rw [List.length_append, Nat.add_sub_cancel_left]
  rfl
theorem cut_ini {z : V} {m : List V} : cutV (m ++ [z]) none (some (-1)) = m := by
  have e1 : HT.sIx (m ++ [z]).length (m ++ [z]).length (some (-1)) = m.length := by
    show ((-1 : Int) + ((m ++ [z]).length : Int)).toNat = _
    rw [List.length_append]
    show ((-1 : Int) + ((m.length + 1 : Nat) : Int)).toNat = _
    omega
  unfold cutV
  rw [e1]
  show List.take (m.length - 0) (List.drop 0 (m ++ [z])) = m
  rw [List.drop_zero, Nat.sub_zero, List.take_left]
theorem cut_tl {z : V} {m : List V} : cutV (z :: m) (some 1) none = m := by
  have e1 : HT.sIx (z :: m).length 0 (some 1) = 1 := by
    show min (1 : Int).toNat (z :: m).length = 1
    have : (1 : Int).toNat = 1 := rfl
    rw [this, List.length_cons]
    omega
  unfold cutV
  rw [e1]
  show List.take (m.length + 1 - 1) m = m
  rw [Nat.add_sub_cancel, List.take_length]
theorem at_m2 {y z : V} {m : List V} : atI (m ++ [y, z]) (-2) = some y := by
  unfold atI ixN
  have l : (m ++ [y, z]).length = m.length + 2 := by rw [List.length_append]; rfl
  rw [l, if_neg (by decide), if_pos (by omega)]
  show (m ++ [y, z])[(-2 + ((m.length + 2 : Nat) : Int)).toNat]? = some y
  have e : (-2 + ((m.length + 2 : Nat) : Int)).toNat = m.length := by omega
  rw [e, List.getElem?_append_right (Nat.le_refl _), Nat.sub_self]
  rfl
theorem at_m1 {z : V} {m : List V} : atI (m ++ [z]) (-1) = some z := by
  unfold atI ixN
  have l : (m ++ [z]).length = m.length + 1 := by rw [List.length_append]; rfl
  rw [l, if_neg (by decide), if_pos (by omega)]
  show (m ++ [z])[(-1 + ((m.length + 1 : Nat) : Int)).toNat]? = some z
  have e : (-1 + ((m.length + 1 : Nat) : Int)).toNat = m.length := by omega
  rw [e, List.getElem?_append_right (Nat.le_refl _), Nat.sub_self]
  rfl
theorem if_same {b : Bool} {t : TE} {σ : L2.St} {H : Hp} {Q : VK} {z : V} (h1 : b = true → ∀ Q2 : VK, Q2 z H → t σ H Q2) (h2 : Q z H) : if b = true then t σ H Q else Q z H := by
  cases b with
  | true => exact h1 rfl Q h2
  | false => exact iteF h2
theorem nd {x y : V} (h : x = y) : (!decide (x = y)) = false := by rw [decide_eq_true h]; rfl
theorem ni {x y : Int} (h : x ≠ y) : decide (V.int x = V.int y) = false := decide_eq_false fun e => h (V.int.inj e)
def rowV (x : Str) (ws : List Int) (b : Int) : List V := .str x :: ((ws.map numS).map V.str ++ [.str "bias", .str (numS b)])
theorem rowV_eq (x : Str) (ws : List Int) (b : Int) : (rowW x ws b).map V.str = rowV x ws b := by
  show V.str x :: (ws.map numS ++ [("bias" : Str), numS b]).map V.str = _
  rw [List.map_append]
  rfl
theorem rowV_len (x : Str) (ws : List Int) (b : Int) : (rowV x ws b).length = ws.length + 3 := by
  unfold rowV
  rw [List.length_cons, List.length_append, List.length_map, List.length_map]
  rfl
def notNet : Ln → Prop
  | .net _ => False
  | _ => True
section
variable {P : Program} {w : World} {K : PySem.W.Frag} {mg : Str → Option Value} {base : Heap} {C W M f : Addr} {fd : FuncData}
theorem Tx.kdct (T : Tx K w mg C W M) {x : Str} {i : Int} (h : (x, i) ∈ wordsZ) : KDct K w W x (.int i) := by
  obtain ⟨es, n, D⟩ := T.kd
  obtain ⟨u, e, r⟩ := T.wv _ h
  exact ⟨es, n, u, D.at_, D.lit, e, r⟩
theorem r_kd {H : Hp} {Q : VK} {x : Str} {i : Int} (T : Tx K w mg C W M) (h : (x, i) ∈ wordsZ) (q : Q (.int i) H) : rIxD K w (.ref W) (.str x) H Q := ⟨W, x, _, rfl, rfl, T.kdct h, q⟩
def sp_cwords : Sp := fun vs H Q _ => ∃ (line : Int) (a : Addr) (l : Ln), vs = [.int line, .ref a] ∧ H a = some (.lst (l.words.map V.str)) ∧ l.ok ∧ notNet l ∧ Q .non H
theorem ok_cwords (F : Fun K "check_words" "check_words" s_check_words f fd) (T : Tx K w mg C W M) : FnOk P w K mg base CX0 1 f fd P_check_words sp_cwords := by
  refine F.ok sc_check_words (fun vs H Q E h => ?_) (fun cdv A outer s H vs Q E hr h => ?_)
  · obtain ⟨line, a, l, rfl, _⟩ := h
    rfl
  obtain ⟨line, a, l, rfl, ha, hl, hnn, q⟩ := h
  refine ⟨_, (pss_cons (ps_set (i := 2) sc_check_words.nd rfl (Or.inl rfl) (pe_ix ix_kdict (pgr T.c_WORDS) (pe_ix ix_list (pv 1) pe_int (fun _ _ => rfl)) (fun _ _ => rfl)))
      (pss_cons (ps_if (PW.pt (pw_and (pt_cmpR op_gt (pv 2) pe_int (nomark _)) (pw_and1 (pt_cmpR op_ne (pe_callB call_len_seq rfl T.f_len PySem.boot_len (pa_cons (pv 1) pa_nil)) (pv 2) (nomark _)))))
        (pss_one ps_never)
        pss_nil)
      (pss_one (ps_if (PW.pt (pw_and (pt_cmpR op_eq (pv 2) pe_int (nomark _)) (pw_and1 (PW.pt (pw_or (pt_cmpR op_lt (pe_callB call_len_seq rfl T.f_len PySem.boot_len (pa_cons (pv 1) pa_nil)) pe_int (nomark _)) (pw_or1 (pt_cmpR op_ne (pe_ix ix_list (pv 1) (pe_un un_neg pe_int) (fun _ _ => rfl)) pe_str (nomark _))))))))
        (pss_one ps_never)
        pss_nil)))), ?_⟩
  walk_at "rb"
  cases l with
  | net n => exact hnn.elim
  | row ws b =>
    have ha : H a = some (.lst (rowV "row" ws b)) := by rw [ha, ← rowV_eq]; rfl
    have h0 : 1 ≤ ws.length := List.length_pos_iff.mpr hl.2.1
    refine r_ixL ha at0V ?_
    refine r_kd T (i := 0) (by decide +kernel) ?_
    walk_at "rb"
    rw [rowV_len]
    refine itN (decide_eq_false (by omega)) ?_
    walk_at "rb"
    refine r_ixL ha (at_m2 (m := .str "row" :: (ws.map numS).map V.str)) ?_
    walk_at "rb"
    exact q
  | kernel ws b =>
    have ha : H a = some (.lst (rowV "kernel" ws b)) := by rw [ha, ← rowV_eq]; rfl
    have h0 : 1 ≤ ws.length := List.length_pos_iff.mpr hl.2.1
    refine r_ixL ha at0V ?_
    refine r_kd T (i := 0) (by decide +kernel) ?_
    walk_at "rb"
    rw [rowV_len]
    refine itN (decide_eq_false (by omega)) ?_
    walk_at "rb"
    refine r_ixL ha (at_m2 (m := .str "kernel" :: (ws.map numS).map V.str)) ?_
    walk_at "rb"
    exact q
  | conv n | mx n | mean n =>
    refine r_ixL ha at0V ?_
    refine r_kd T (i := 2) (by decide +kernel) ?_
    walk_at "rb"
    refine itN (nd rfl) ?_
    walk_at "rb"
    exact q
  | clamp lo hi =>
    refine r_ixL ha at0V ?_
    refine r_kd T (i := 3) (by decide +kernel) ?_
    walk_at "rb"
    refine itN (nd rfl) ?_
    walk_at "rb"
    exact q
  | dense | relu | sum | fork | wth | fin | done =>
    refine r_ixL ha at0V ?_
    refine r_kd T (i := 1) (by decide +kernel) ?_
    walk_at "rb"
    exact q
def sp_row (C : Addr) : Sp := fun vs H Q _ => ∃ (p : Addr) (line : Int) (a : Addr) (x : Str) (H0 : Hp) (s : Bs) (cv : Bool) (st : Nat) (rows : List (List Int)) (bs ws : List Int) (b : Int), vs = [.ref p, .int line, .ref a] ∧ BAt C H0 H p s ∧ H a = some (.lst (rowV x ws b)) ∧
  s.pend = .some cv st rows bs ∧ 1 ≤ ws.length ∧ ws.length ≤ 16 ∧ rows.length = bs.length ∧ (∀ w ∈ ws, WOk w) ∧ WOk b ∧ (if cv = true then rows.length < 4 ∧ ws.length ≤ s.n ∧ ∀ x ∈ rows, x.length = ws.length else rows.length < 16 ∧ ws.length = s.n) ∧
  ∀ H', BAt C H0 H' p { s with pend := .some cv st (rows ++ [ws]) (bs ++ [b]) } → Q .non H'
theorem ok_row (F : Fun K "read_row" "read_row" s_read_row f fd) (T : Tx K w mg C W M) (G_read_numbers : Cl P w K mg base 2 "read_numbers" P_read_numbers sp_rnums) : FnOk P w K mg base CX0 3 f fd P_read_row (sp_row C) := by
  refine F.ok sc_read_row (fun vs H Q E h => ?_) (fun cdv A outer s H vs Q E hr h => ?_)
  · obtain ⟨p, line, a, x, H0, s, cv, st, rows, bs, ws, b, rfl, _⟩ := h
    rfl
  obtain ⟨p, line, a, x, H0, t, cv, st, rows, bs, ws, bi, rfl, ⟨dx, la, xs, gv, bv, fv, b⟩, ha, hp, w1, w16, rbl, how, hob, hcv, q⟩ := h
  have hpd := b.pd
  rw [hp] at hpd
  obtain ⟨rl, bl, ln, rvs, ⟨tp, rfl, htp⟩, hrl, har, hbl⟩ := hpd
  have r16 : rows.length < 16 := by
    cases cv with
    | true => exact Nat.lt_of_lt_of_le hcv.1 (by decide)
    | false => exact hcv.1
  refine ⟨_, (pss_cons (ps_asg (pe_fld (pv 0) rfl) (pg_tup rfl (pgs_cons (pg_name (i := 3) sc_read_row.nd rfl (Or.inl rfl)) (pgs_cons (pg_name (i := 4) sc_read_row.nd rfl (Or.inl rfl)) (pgs_cons (pg_name (i := 5) sc_read_row.nd rfl (Or.inl rfl)) (pgs_cons (pg_name (i := 6) sc_read_row.nd rfl (Or.inl rfl)) (pgs_cons (pg_name (i := 7) sc_read_row.nd rfl (Or.inl rfl)) pgs_nil)))))))
      (pss_cons (ps_set (i := 8) sc_read_row.nd rfl (Or.inl rfl) (pcl G_read_numbers hr (pa_cons (pv 1) (pa_cons (pe_op op_cat (pe_slice sl_list (pv 2) (po_some pe_int) (po_some (pe_un un_neg pe_int))) (pe_slice sl_list (pv 2) (po_some (pe_un un_neg pe_int)) po_none)) (pa_cons (pgi T.c_MOST_WEIGHT) pa_nil)))))
      (pss_cons (ps_set (i := 9) sc_read_row.nd rfl (Or.inl rfl) (pe_callTy call_tuple_of rfl T.f_tuple (by decide +kernel) (pa_cons (pe_slice sl_list (pv 8) po_none (po_some (pe_un un_neg pe_int))) pa_nil)))
      (pss_cons (ps_set (i := 10) sc_read_row.nd rfl (Or.inl rfl) (pgi T.c_MOST_ROWS))
      (pss_cons (ps_set (i := 11) sc_read_row.nd rfl (Or.inl rfl) (pe_cmpR op_ne (pe_callB call_len_seq rfl T.f_len PySem.boot_len (pa_cons (pv 9) pa_nil)) (pe_fld (pv 0) rfl) (nomark _)))
      (pss_cons (ps_if (pt_cmpR op_eq (pv 3) pe_str (nomark _))
        (pss_cons (ps_set (i := 10) sc_read_row.nd rfl (Or.inl rfl) (pgi T.c_MOST_KERNELS))
        (pss_one (ps_set (i := 11) sc_read_row.nd rfl (Or.inl rfl) (pe_or (pe_cmpR op_gt (pe_callB call_len_seq rfl T.f_len PySem.boot_len (pa_cons (pv 9) pa_nil)) (pe_fld (pv 0) rfl) (nomark _)) (pe_one (pe_and (pe_cmpR op_gt (pe_callB call_len_seq rfl T.f_len PySem.boot_len (pa_cons (pv 5) pa_nil)) pe_int (nomark _)) (pe_one (pe_cmpR op_ne (pe_callB call_len_seq rfl T.f_len PySem.boot_len (pa_cons (pv 9) pa_nil)) (pe_callB call_len_seq rfl T.f_len PySem.boot_len (pa_cons (pe_ix ix_list (pv 5) pe_int (fun _ _ => rfl)) pa_nil)) (nomark _)))))))))
        pss_nil)
      (pss_cons (ps_if (pt_cmpR op_eq (pe_callB call_len_seq rfl T.f_len PySem.boot_len (pa_cons (pv 5) pa_nil)) (pv 10) (nomark _))
        (pss_one ps_never)
        pss_nil)
      (pss_cons (ps_if (pt_val (pv 11))
        (pss_one ps_never)
        pss_nil)
      (pss_one (ps_fld (pv 0) (pe_tup (pa_cons (pv 3) (pa_cons (pv 4) (pa_cons (pe_op op_cat (pv 5) (pe_lst (pa_cons (pv 9) pa_nil))) (pa_cons (pe_op op_cat (pv 6) (pe_lst (pa_cons (pe_ix ix_list (pv 8) (pe_un un_neg pe_int) (fun _ _ => rfl)) pa_nil))) (pa_cons (pv 1) pa_nil)))))) rfl)))))))))), ?_⟩
  walk_at "rb"
  refine r_gtup htp rfl ?_
  walk_at "rb"
  refine ⟨a, _, rfl, SqL.of ha, fun p1 hp1 => ?_⟩
  rw [show cutV (rowV x ws bi) (some 1) (some (-2)) = (ws.map numS).map V.str from cut_mid]
  have s1 := sm_new (Same.refl H) (.lst ((ws.map numS).map V.str)) hp1
  have hp1' : upd H p1 (.lst ((ws.map numS).map V.str)) p1 = _ := upd_same
  generalize upd H p1 (.lst ((ws.map numS).map V.str)) = H1 at *
  walk_at "rb"
  refine ⟨a, _, rfl, SqL.of (s1 _ _ ha), fun p2 hp2 => ?_⟩
  rw [show cutV (rowV x ws bi) (some (-1)) none = [.str (numS bi)] from cut_end (m := .str x :: ((ws.map numS).map V.str ++ [.str "bias"])) ▸ (by unfold rowV; rw [show ([V.str "bias", V.str (numS bi)] : List V) = [V.str "bias"] ++ [V.str (numS bi)] from rfl, ← List.append_assoc]; rfl)]
  have s2 := sm_new s1 (.lst [.str (numS bi)]) hp2
  have s12 := sm_new (Same.refl H1) (.lst [.str (numS bi)]) hp2
  have hp2' : upd H1 p2 (.lst [.str (numS bi)]) p2 = _ := upd_same
  generalize upd H1 p2 (.lst [.str (numS bi)]) = H2 at *
  refine r_cat (s12 _ _ hp1') hp2' (by rw [List.length_map, List.length_map]; show _ + 1 ≤ _; omega) fun p3 hp3 => ?_
  have s3 := sm_new s2 (.lst ((ws.map numS).map V.str ++ [.str (numS bi)])) hp3
  have hp3' : upd H2 p3 (.lst ((ws.map numS).map V.str ++ [.str (numS bi)])) p3 = _ := upd_same
  generalize upd H2 p3 (.lst ((ws.map numS).map V.str ++ [.str (numS bi)])) = H3 at *
  walk_at "rb"
  refine ⟨line, 1048576, p3, ws ++ [bi], rfl, by rw [hp3', List.map_append, List.map_append]; rfl, by rw [List.length_append]; show _ + 1 ≤ 100; omega, fun z hz => ?_, fun p4 H4 s34 h04 hp4 => ?_⟩
  · have hz2 : WOk z := by
      rcases List.mem_append.mp hz with hz | hz
      · exact how z hz
      · rw [List.mem_singleton.mp hz]; exact hob
    exact ⟨wok_num hz2, hz2.1, hz2.2⟩
  have s4 := s3.trans s34
  walk_at "rb"
  refine ⟨p4, _, rfl, SqL.of hp4, fun p5 hp5 => ?_⟩
  rw [show cutV ((ws ++ [bi]).map V.int) none (some (-1)) = ws.map V.int from by rw [List.map_append]; exact cut_ini]
  have s5 := sm_new s4 (.lst (ws.map V.int)) hp5
  have s45 := sm_new (Same.refl H4) (.lst (ws.map V.int)) hp5
  have hp5' : upd H4 p5 (.lst (ws.map V.int)) p5 = _ := upd_same
  generalize upd H4 p5 (.lst (ws.map V.int)) = H5 at *
  walk_at "rb"
  refine ⟨_, _, rfl, .inl ⟨SqL.of hp5', fun p6 hp6 => ?_⟩⟩
  have s6 := sm_new s5 (.tup (ws.map V.int)) hp6
  have s46 := s45.trans (sm_new (Same.refl H5) (.tup (ws.map V.int)) hp6)
  have hp6' : upd H5 p6 (.tup (ws.map V.int)) p6 = _ := upd_same
  generalize upd H5 p6 (.tup (ws.map V.int)) = H6 at *
  have b6 := b.same s6
  have hrl6 := s6 _ _ hrl
  have hbl6 := s6 _ _ hbl
  have hp46 := s46 _ _ hp4
  rw [List.map_append] at hp46
  -- the rest, the row being checked
  walk_at "rb"
  cases cv with
  | false =>
    have hcv : rows.length < 16 ∧ ws.length = t.n := hcv
    walk_at "rb"
    refine itN (ni (by rw [har.len]; omega)) ?_
    walk_at "rb"
    refine itN (nd (by rw [List.length_map, hcv.2])) ?_
    walk_at "rb"
    refine tup_s rfl fun p7 hp7 => ?_
    have s7 := sm_new s6 (.lst [.ref p6]) hp7
    have s67 := sm_new (Same.refl H6) (.lst [.ref p6]) hp7
    have hp7' : upd H6 p7 (.lst [.ref p6]) p7 = _ := upd_same
    generalize upd H6 p7 (.lst [.ref p6]) = H7 at *
    walk_at "rb"
    refine r_cat (s67 _ _ hrl6) hp7' (by rw [har.len]; show _ + 1 ≤ _; omega) fun p8 hp8 => ?_
    have s8 := sm_new s7 (.lst (rvs ++ [.ref p6])) hp8
    have s68 := s67.trans (sm_new (Same.refl H7) (.lst (rvs ++ [.ref p6])) hp8)
    have hp8' : upd H7 p8 (.lst (rvs ++ [.ref p6])) p8 = _ := upd_same
    generalize upd H7 p8 (.lst (rvs ++ [.ref p6])) = H8 at *
    walk_at "rb"
    refine r_ixL (s68 _ _ hp46) at_m1 ?_
    walk_at "rb"
    refine tup_s rfl fun p9 hp9 => ?_
    have s9 := sm_new s8 (.lst [.int bi]) hp9
    have s89 := sm_new (Same.refl H8) (.lst [.int bi]) hp9
    have s69 := s68.trans s89
    have hp9' : upd H8 p9 (.lst [.int bi]) p9 = _ := upd_same
    generalize upd H8 p9 (.lst [.int bi]) = H9 at *
    walk_at "rb"
    refine r_cat (s69 _ _ hbl6) hp9' (by rw [List.length_map]; show _ + 1 ≤ _; omega) fun pa hpa => ?_
    have sa := sm_new s9 (.lst (bs.map V.int ++ [.int bi])) hpa
    have s8a := s89.trans (sm_new (Same.refl H9) (.lst (bs.map V.int ++ [.int bi])) hpa)
    have s6a := s69.trans (sm_new (Same.refl H9) (.lst (bs.map V.int ++ [.int bi])) hpa)
    have hpa' : upd H9 pa (.lst (bs.map V.int ++ [.int bi])) pa = _ := upd_same
    generalize upd H9 pa (.lst (bs.map V.int ++ [.int bi])) = Ha at *
    walk_at "rb"
    refine tup_s rfl fun pb hpb => ?_
    have sb := sm_new sa (.tup [.str (kwP false), .int st, .ref p8, .ref pa, .int line]) hpb
    have sab := sm_new (Same.refl Ha) (.tup [.str (kwP false), .int st, .ref p8, .ref pa, .int line]) hpb
    have hpb' : upd Ha pb (.tup [.str (kwP false), .int st, .ref p8, .ref pa, .int line]) pb = _ := upd_same
    generalize upd Ha pb (.tup [.str (kwP false), .int st, .ref p8, .ref pa, .int line]) = Hb at *
    have bb := b.same sb
    walk_at "rb"
    refine ⟨p, C, dx, _, rfl, bb.hp, T.cl, T.n_pending, Nat.le_of_ble_eq_true (by rfl), ?_⟩
    rw [pf_pending]
    walk_at "rb"
    refine q _ (bb.setp { t with pend := .some false st (rows ++ [ws]) (bs ++ [bi]) } rfl ⟨p8, pa, line, rvs ++ [.ref p6], ⟨pb, rfl, hpb'⟩, (s8a.trans sab) _ _ hp8', ?_, ?_⟩ bb.br).at
    · exact (har.mono fun _ _ z => Ints.mono (sm_tk sb) z).app ⟨⟨p6, rfl, (s6a.trans sab) _ _ hp6'⟩, trivial⟩
    · rw [sab _ _ hpa', List.map_append]
      rfl
  | true =>
    have hcv : rows.length < 4 ∧ ws.length ≤ t.n ∧ ∀ x ∈ rows, x.length = ws.length := hcv
    walk_at "rb"
    refine itN (decide_eq_false (by rw [List.length_map]; omega)) ?_
    walk_at "rb"
    refine if_same (z := .bl false) (fun c Q2 q2 => ?_) ?_
    · have c2 := of_decide_eq_true c
      cases rvs with
      | nil => simp at c2
      | cons r0 rest =>
        cases rows with
        | nil => exact har.elim
        | cons w0 rest2 =>
          obtain ⟨q0, rfl, hq0⟩ := har.1
          have hq06 := s6 _ _ hq0
          have lw := hcv.2.2 w0 List.mem_cons_self
          walk_at "rb"
          rw [nd (by rw [List.length_map, List.length_map, lw])]
          exact q2
    walk_at "rb"
    refine itN (ni (by rw [har.len]; omega)) ?_
    walk_at "rb"
    refine tup_s rfl fun p7 hp7 => ?_
    have s7 := sm_new s6 (.lst [.ref p6]) hp7
    have s67 := sm_new (Same.refl H6) (.lst [.ref p6]) hp7
    have hp7' : upd H6 p7 (.lst [.ref p6]) p7 = _ := upd_same
    generalize upd H6 p7 (.lst [.ref p6]) = H7 at *
    walk_at "rb"
    refine r_cat (s67 _ _ hrl6) hp7' (by rw [har.len]; show _ + 1 ≤ _; omega) fun p8 hp8 => ?_
    have s8 := sm_new s7 (.lst (rvs ++ [.ref p6])) hp8
    have s68 := s67.trans (sm_new (Same.refl H7) (.lst (rvs ++ [.ref p6])) hp8)
    have hp8' : upd H7 p8 (.lst (rvs ++ [.ref p6])) p8 = _ := upd_same
    generalize upd H7 p8 (.lst (rvs ++ [.ref p6])) = H8 at *
    walk_at "rb"
    refine r_ixL (s68 _ _ hp46) at_m1 ?_
    walk_at "rb"
    refine tup_s rfl fun p9 hp9 => ?_
    have s9 := sm_new s8 (.lst [.int bi]) hp9
    have s89 := sm_new (Same.refl H8) (.lst [.int bi]) hp9
    have s69 := s68.trans s89
    have hp9' : upd H8 p9 (.lst [.int bi]) p9 = _ := upd_same
    generalize upd H8 p9 (.lst [.int bi]) = H9 at *
    walk_at "rb"
    refine r_cat (s69 _ _ hbl6) hp9' (by rw [List.length_map]; show _ + 1 ≤ _; omega) fun pa hpa => ?_
    have sa := sm_new s9 (.lst (bs.map V.int ++ [.int bi])) hpa
    have s8a := s89.trans (sm_new (Same.refl H9) (.lst (bs.map V.int ++ [.int bi])) hpa)
    have s6a := s69.trans (sm_new (Same.refl H9) (.lst (bs.map V.int ++ [.int bi])) hpa)
    have hpa' : upd H9 pa (.lst (bs.map V.int ++ [.int bi])) pa = _ := upd_same
    generalize upd H9 pa (.lst (bs.map V.int ++ [.int bi])) = Ha at *
    walk_at "rb"
    refine tup_s rfl fun pb hpb => ?_
    have sb := sm_new sa (.tup [.str (kwP true), .int st, .ref p8, .ref pa, .int line]) hpb
    have sab := sm_new (Same.refl Ha) (.tup [.str (kwP true), .int st, .ref p8, .ref pa, .int line]) hpb
    have hpb' : upd Ha pb (.tup [.str (kwP true), .int st, .ref p8, .ref pa, .int line]) pb = _ := upd_same
    generalize upd Ha pb (.tup [.str (kwP true), .int st, .ref p8, .ref pa, .int line]) = Hb at *
    have bb := b.same sb
    walk_at "rb"
    refine ⟨p, C, dx, _, rfl, bb.hp, T.cl, T.n_pending, Nat.le_of_ble_eq_true (by rfl), ?_⟩
    rw [pf_pending]
    walk_at "rb"
    refine q _ (bb.setp { t with pend := .some true st (rows ++ [ws]) (bs ++ [bi]) } rfl ⟨p8, pa, line, rvs ++ [.ref p6], ⟨pb, rfl, hpb'⟩, (s8a.trans sab) _ _ hp8', ?_, ?_⟩ bb.br).at
    · exact (har.mono fun _ _ z => Ints.mono (sm_tk sb) z).app ⟨⟨p6, rfl, (s6a.trans sab) _ _ hp6'⟩, trivial⟩
    · rw [sab _ _ hpa', List.map_append]
      rfl
end
end Wh

/-! What the readers of lines are asked for. -/
namespace Wh
def Ln.kw : Ln → Str
  | .net _ => "net"
  | .dense => "dense"
  | .conv _ => "conv"
  | .row _ _ => "row"
  | .kernel _ _ => "kernel"
  | .relu => "relu"
  | .clamp _ _ => "clamp"
  | .mx _ => "max"
  | .mean _ => "mean"
  | .sum => "sum"
  | .fork => "fork"
  | .wth => "with"
  | .fin => "end"
  | .done => "done"
inductive IsBr : Ln → Prop
  | sum : IsBr .sum
  | fork : IsBr .fork
  | wth : IsBr .wth
  | fin : IsBr .fin
def sp_branch (C : Addr) : Sp := fun vs H Q _ => ∃ (p : Addr) (line : Int) (l : Ln) (H0 : Hp) (s : Bs), vs = [.ref p, .int line, .str l.kw] ∧ BAt C H0 H p s ∧ s.pend = .no ∧ IsBr l ∧ s.ok l ∧ ∀ H', BAt C H0 H' p (s.act l) → Q .non H'
def szL (mn : Bool) (d : Nat) : PL := if mn = true then .mean d else .mx d
def szW (mn : Bool) : Str := if mn = true then "mean" else "max"
def sp_size (C : Addr) : Sp := fun vs H Q _ => ∃ (p : Addr) (line : Int) (a : Addr) (mn : Bool) (d : Nat) (H0 : Hp) (s : Bs), vs = [.ref p, .int line, .ref a] ∧ BAt C H0 H p s ∧ H a = some (.lst [.str (szW mn), .str (numS d)]) ∧ s.pend = .no ∧ s.size < 12 ∧ putOk s.n (szL mn d) ∧
  ∀ H', BAt C H0 H' p (s.put (szL mn d)) → Q .non H'
inductive IsLy : Ln → Prop
  | dense : IsLy .dense
  | conv (s : Nat) : IsLy (.conv s)
  | relu : IsLy .relu
  | clamp (lo hi : Int) : IsLy (.clamp lo hi)
  | mx (d : Nat) : IsLy (.mx d)
  | mean (d : Nat) : IsLy (.mean d)
  | sum : IsLy .sum
  | fork : IsLy .fork
def sp_rlayer (C : Addr) : Sp := fun vs H Q _ => ∃ (p : Addr) (line : Int) (a : Addr) (l : Ln) (H0 : Hp) (s : Bs), vs = [.ref p, .int line, .ref a] ∧ BAt C H0 H p s ∧ H a = some (.lst (l.words.map V.str)) ∧ s.pend = .no ∧ IsLy l ∧ s.ok l ∧ ∀ H', BAt C H0 H' p (s.act l) → Q .non H'
def sp_line2 (C : Addr) : Sp := fun vs H Q _ => ∃ (p : Addr) (line : Int) (a : Addr) (l : Ln) (H0 : Hp) (s t : Bs), vs = [.ref p, .int line, .ref a] ∧ BAt C H0 H p s ∧ H0 a = some (.lst (l.words.map V.str)) ∧ l.ok ∧ Step s l t ∧ ∀ H', BAt C H0 H' p t → Q .non H'
theorem lev_any (ls : List LL) : Lev 2 ls := ⟨by decide, .inl (by decide)⟩
theorem r_ifcut {c : TT} {t u : TS} {D : Ends} {σ : L2.St} {H : Hp} (R : Hp → Prop) (h1 : ∀ D' : Ends, (∀ H2, R H2 → D'.nx σ H2) → tIfS c t u D' σ H) (h2 : ∀ H2, R H2 → D.nx σ H2) : tIfS c t u D σ H := h1 D h2
theorem sizes_in {d : Nat} (h : d ∈ sizes) : (!inV (V.int d) ([1, 2, 4, 8, 16, 32, 64].map V.int)) = false := by
  simp only [sizes, List.mem_cons, List.mem_nil_iff, or_false] at h
  rcases h with rfl | rfl | rfl | rfl | rfl <;> rfl
theorem modz {n d : Nat} (h : n % d = 0) : ((n : Int) % (d : Int)) = 0 := by rw [← Int.natCast_emod, h]; rfl
end Wh

/-! Walks: read_branch, read_size. -/

namespace Wh
section
variable {P : Program} {w : World} {K : PySem.W.Frag} {mg : Str → Option Value} {base : Heap} {C W M f : Addr} {fd : FuncData}
theorem ok_branch (F : Fun K "read_branch" "read_branch" s_read_branch f fd) (T : Tx K w mg C W M) (G_gives_all : Cl P w K mg base 5 "gives_all" P_gives_all (sp_gall 2)) (G_put_layer : Ml P w K mg base C 5 "put_layer" P_put_layer (sp_put C)) :
    FnOk P w K mg base CX0 6 f fd P_read_branch (sp_branch C) := by
  refine F.ok sc_read_branch (fun vs H Q E h => ?_) (fun cdv A outer s H vs Q E hr h => ?_)
  · obtain ⟨p, line, l, H0, s, rfl, _⟩ := h
    rfl
  obtain ⟨p, line, l, H0, t, rfl, ⟨dx, la, xs, gv, bv, fv, b⟩, hp, hl, hok, q⟩ := h
  refine ⟨_, (pss_one (ps_if (PW.pt (pw_or (pt_cmpR op_eq (pv 2) pe_str (nomark _)) (pw_or1 (pt_cmpR op_eq (pv 2) pe_str (nomark _)))))
        (pss_cons (ps_fld (pv 0) (pe_tup (pa_cons (pv 2) (pa_cons (pe_fld (pv 0) rfl) pa_nil))) rfl)
        (pss_one (ps_fld (pv 0) (pe_lst (pa_cons (pv 2) (pa_cons (pe_lst pa_nil) pa_nil))) rfl)))
        (pss_one (ps_if (pt_cmpR op_eq (pv 2) pe_str (nomark _))
          (pss_cons (ps_fld (pv 0) (pe_op op_cat (pe_fld (pv 0) rfl) (pe_lst (pa_cons (pe_lst pa_nil) pa_nil))) rfl)
          (pss_one (ps_fld (pv 0) (pe_ix ix_tup (pe_fld (pv 0) rfl) pe_int (fun _ _ => rfl)) rfl)))
          (pss_cons (ps_set (i := 3) sc_read_branch.nd rfl (Or.inl rfl) (pe_ix ix_list (pe_fld (pv 0) rfl) pe_int (fun _ _ => rfl)))
          (pss_cons (ps_set (i := 4) sc_read_branch.nd rfl (Or.inl rfl) (pe_tup (pa_cons (pv 3) (pa_cons (pe_callTy call_tuple_of rfl T.f_tuple (by decide +kernel) (pa_cons (pe_ix ix_list (pe_fld (pv 0) rfl) pe_int (fun _ _ => rfl)) pa_nil)) (pa_cons (pe_callTy call_tuple_of rfl T.f_tuple (by decide +kernel) (pa_cons (pe_ix ix_list (pe_fld (pv 0) rfl) pe_int (fun _ _ => rfl)) pa_nil)) pa_nil)))))
          (pss_cons (ps_fld (pv 0) (pe_lst pa_nil) rfl)
          (pss_cons (ps_fld (pv 0) (pe_ix ix_tup (pe_fld (pv 0) rfl) pe_int (fun _ _ => rfl)) rfl)
          (pss_cons (ps_if (PW.pt (pw_and (pt_cmpR op_eq (pv 3) pe_str (nomark _)) (pw_and1 (pt_cmpR op_ne (pcl G_gives_all hr (pa_cons (pe_ix ix_tup (pv 4) pe_int (fun _ _ => rfl)) (pa_cons (pe_fld (pv 0) rfl) pa_nil))) (pcl G_gives_all hr (pa_cons (pe_ix ix_tup (pv 4) pe_int (fun _ _ => rfl)) (pa_cons (pe_fld (pv 0) rfl) pa_nil))) (nomark _)))))
            (pss_one ps_never)
            pss_nil)
          (pss_one (ps_expr (pml (pv 0) T.cl G_put_layer hr (pa_cons (pv 1) (pa_cons (pv 4) pa_nil)))))))))))))), ?_⟩
  have open2 : ∀ (x : Str) (fk : Bool), x = kwB fk → t.br = .no → ∀ (H1 H2 H3 : Hp) (fa i ba : Addr), H fa = none → H1 = upd H fa (.tup [.str x, .int t.n]) →
      H2 = upd H1 p (.ins C dx (flds t.inp t.done la t.n gv bv (.ref fa))) → H2 i = none → upd H2 i (.lst []) ba = none → H3 = upd (upd H2 i (.lst [])) ba (.lst [.str x, .ref i]) →
      BAt C H0 (upd H3 p (.ins C dx (flds t.inp t.done la t.n gv (.ref ba) (.ref fa)))) p { t with br := .one fk t.n [] } := by
    intro x fk hx hbr H1 H2 H3 fa i ba hfa e1 e2 hi hba e3
    have s1 := sm_new (Same.refl H) (.tup [.str x, .int t.n]) hfa
    rw [← e1] at s1
    have b1 := b.same s1
    have hb1 := b1.br
    rw [hbr] at hb1
    have hf1 : H1 fa = some (.tup [.str x, .int t.n]) := by rw [e1]; exact upd_same
    have b2 := b1.setp (fv' := .ref fa) t rfl b1.pd (by rw [hbr]; exact hb1)
    have hf2 := (LK.ins b1.hp (flds t.inp t.done la t.n gv bv (.ref fa))).1 _ _ hf1
    rw [← e2] at b2 hf2
    have s3a := sm_new (Same.refl H2) (.lst []) hi
    have s3b := sm_new (Same.refl (upd H2 i (.lst []))) (.lst [.str x, .ref i]) hba
    rw [← e3] at s3b
    have s3 := s3a.trans s3b
    have b3 := b2.same s3
    have hba3 : H3 ba = some (.lst [.str x, .ref i]) := by rw [e3]; exact upd_same
    have hi3 : H3 i = some (.lst []) := s3b _ _ upd_same
    have n1 : la ≠ ba := ne_of_none (s3a _ _ b2.hl) hba
    have n2 : la ≠ i := ne_of_none b2.hl hi
    have n3 : i ≠ ba := ne_of_none (H := upd H2 i (.lst [])) upd_same hba
    refine (b3.setp (pv' := gv) (bv' := .ref ba) (fv' := .ref fa) { t with br := .one fk t.n [] } rfl b3.pd ?_).at
    exact ⟨ba, i, [], rfl, by rw [← hx]; exact hba3, hi3, trivial, n1.symm, n2.symm, n3, ⟨fa, rfl, by rw [← hx]; exact s3 _ _ hf2⟩, Same.free b2.sm hi⟩
  cases hl with
  | sum =>
    walk_at "rb"
    refine tup_s rfl fun fa hfa => ?_
    walk_at "rb"
    refine ⟨p, C, dx, _, rfl, (b.same (sm_new (Same.refl H) _ hfa)).hp, T.cl, T.n_first, Nat.le_of_ble_eq_true (by rfl), ?_⟩
    rw [pf_first]
    walk_at "rb"
    refine tup_s rfl fun i hi => ?_
    walk_at "rb"
    refine tup_s rfl fun ba hba => ?_
    walk_at "rb"
    have hp2 : upd (upd H fa (.tup [.str "sum", .int t.n])) p (.ins C dx (flds t.inp t.done la t.n gv bv (.ref fa))) p = _ := upd_same
    refine ⟨p, C, dx, _, rfl, (sm_new (sm_new (Same.refl _) _ hi) _ hba) _ _ hp2, T.cl, T.n_branch, Nat.le_of_ble_eq_true (by rfl), ?_⟩
    rw [pf_branch]
    walk_at "rb"
    exact q _ (open2 "sum" false rfl hok.2 _ _ _ fa i ba hfa rfl rfl hi hba rfl)
  | fork =>
    walk_at "rb"
    refine tup_s rfl fun fa hfa => ?_
    walk_at "rb"
    refine ⟨p, C, dx, _, rfl, (b.same (sm_new (Same.refl H) _ hfa)).hp, T.cl, T.n_first, Nat.le_of_ble_eq_true (by rfl), ?_⟩
    rw [pf_first]
    walk_at "rb"
    refine tup_s rfl fun i hi => ?_
    walk_at "rb"
    refine tup_s rfl fun ba hba => ?_
    walk_at "rb"
    have hp2 : upd (upd H fa (.tup [.str "fork", .int t.n])) p (.ins C dx (flds t.inp t.done la t.n gv bv (.ref fa))) p = _ := upd_same
    refine ⟨p, C, dx, _, rfl, (sm_new (sm_new (Same.refl _) _ hi) _ hba) _ _ hp2, T.cl, T.n_branch, Nat.le_of_ble_eq_true (by rfl), ?_⟩
    rw [pf_branch]
    walk_at "rb"
    exact q _ (open2 "fork" true rfl hok.2 _ _ _ fa i ba hfa rfl rfl hi hba rfl)
  | wth =>
    obtain ⟨fk, b0, a, hbr⟩ := hok
    have hb := b.br
    rw [hbr] at hb
    obtain ⟨ba, i, ys, rfl, hba, hi, ha, m1, m2, m3, ⟨fa, rfl, hfa⟩, z⟩ := hb
    walk_at "rb"
    refine tup_s rfl fun j hj => ?_
    have s1 := sm_new (Same.refl H) (.lst []) hj
    have hj1 : upd H j (.lst []) j = _ := upd_same
    have jl : la ≠ j := ne_of_none b.hl hj
    have ji : i ≠ j := ne_of_none hi hj
    have j0 := Same.free b.sm hj
    generalize upd H j (.lst []) = H1 at *
    walk_at "rb"
    refine tup_s rfl fun o ho => ?_
    have s2 := sm_new s1 (.lst [.ref j]) ho
    have s12 := sm_new (Same.refl H1) (.lst [.ref j]) ho
    have ho2 : upd H1 o (.lst [.ref j]) o = _ := upd_same
    generalize upd H1 o (.lst [.ref j]) = H2 at *
    walk_at "rb"
    refine r_cat (s2 _ _ hba) ho2 (Nat.le_of_ble_eq_true (by rfl)) fun nb hnb => ?_
    have s23 := sm_new (Same.refl H2) (.lst ([.str (kwB fk), .ref i] ++ [.ref j])) hnb
    have s3 := s2.trans s23
    have s13 := s12.trans s23
    have hnb3 : upd H2 nb (.lst ([.str (kwB fk), .ref i] ++ [.ref j])) nb = some (.lst [.str (kwB fk), .ref i, .ref j]) := upd_same
    have nl : la ≠ nb := ne_of_none (s2 _ _ b.hl) hnb
    have ni : i ≠ nb := ne_of_none (s2 _ _ hi) hnb
    have nj : j ≠ nb := ne_of_none (s12 _ _ hj1) hnb
    have b3 := b.same s3
    generalize upd H2 nb (.lst ([.str (kwB fk), .ref i] ++ [.ref j])) = H3 at *
    walk_at "rb"
    refine ⟨p, C, dx, _, rfl, b3.hp, T.cl, T.n_branch, Nat.le_of_ble_eq_true (by rfl), ?_⟩
    rw [pf_branch]
    have b4 := b3.setp (bv' := .ref nb) { t with br := .two fk b0 a [] } rfl b3.pd ⟨nb, i, j, ys, [], rfl, hnb3, s3 _ _ hi, ha.mono (fun _ _ z => PLAt.mono (sm_tk s3) z), s13 _ _ hj1, trivial, nl.symm, m2, ni, jl.symm, nj, ji, ⟨fa, rfl, s3 _ _ hfa⟩, z, j0⟩
    have hfa4 := (LK.ins b3.hp (flds t.inp t.done la t.n gv (.ref nb) (.ref fa))).1 _ _ (s3 _ _ hfa)
    generalize upd H3 p (.ins C dx (flds t.inp t.done la t.n gv (.ref nb) (.ref fa))) = H4 at *
    walk_at "rb"
    refine ⟨p, C, dx, _, rfl, b4.hp, T.cl, T.n_n, Nat.le_of_ble_eq_true (by rfl), ?_⟩
    rw [pf_n]
    walk_at "rb"
    have e : t.act .wth = { t with br := .two fk b0 a [], n := b0 } := by unfold Bs.act; rw [hbr]
    have q2 := q (upd H4 p (.ins C dx (flds t.inp t.done la b0 gv (.ref nb) (.ref fa))))
    rw [e] at q2
    exact q2 (b4.setp { t with br := .two fk b0 a [], n := b0 } rfl b4.pd b4.br).at
  | fin =>
    obtain ⟨fk, b0, a, a2, hbr, bl, la1, la2, hw, n1, n16⟩ := hok
    have hb := b.br
    rw [hbr] at hb
    obtain ⟨ba, i, j, ys, zs, rfl, hba, hi, ha, hj, ha2, m1, m2, m3, m4, m5, m6, ⟨fa, rfl, hfa⟩, z, z2⟩ := hb
    have e : t.act .fin = { t with br := .no, base := t.base ++ [mkB fk a a2], n := (mkB fk a a2).gives b0 } := by unfold Bs.act; rw [hbr]
    walk_at "rb"
    refine ⟨_, _, rfl, .inl ⟨SqL.of hi, fun r1 hr1 => ?_⟩⟩
    have s1 := sm_new (Same.refl H) (.tup ys) hr1
    have hr1' : upd H r1 (.tup ys) r1 = _ := upd_same
    generalize upd H r1 (.tup ys) = H1 at *
    have b1 := b.same s1
    have hba1 := s1 _ _ hba
    have hj1 := s1 _ _ hj
    walk_at "rb"
    refine ⟨_, _, rfl, .inl ⟨SqL.of hj1, fun r2 hr2 => ?_⟩⟩
    have s2 := sm_new s1 (.tup zs) hr2
    have s12 := sm_new (Same.refl H1) (.tup zs) hr2
    have hr2' : upd H1 r2 (.tup zs) r2 = _ := upd_same
    generalize upd H1 r2 (.tup zs) = H2 at *
    walk_at "rb"
    refine tup_s rfl fun r3 hr3 => ?_
    have s3 := sm_new s2 (.tup [.str (kwB fk), .ref r1, .ref r2]) hr3
    have s23 := sm_new (Same.refl H2) (.tup [.str (kwB fk), .ref r1, .ref r2]) hr3
    have hr3' : upd H2 r3 (.tup [.str (kwB fk), .ref r1, .ref r2]) r3 = _ := upd_same
    generalize upd H2 r3 (.tup [.str (kwB fk), .ref r1, .ref r2]) = H3 at *
    have pl1 : PLs H3 (.ref r1) a := ⟨ys, ⟨r1, rfl, (s12.trans s23) _ _ hr1'⟩, ha.mono (fun _ _ z => PLAt.mono (sm_tk s3) z)⟩
    have pl2 : PLs H3 (.ref r2) a2 := ⟨zs, ⟨r2, rfl, s23 _ _ hr2'⟩, ha2.mono (fun _ _ z => PLAt.mono (sm_tk s3) z)⟩
    walk_at "rb"
    refine tup_s rfl fun b2 hb2 => ?_
    have s4 := sm_new s3 (.lst []) hb2
    have s34 := sm_new (Same.refl H3) (.lst []) hb2
    have hb2' : upd H3 b2 (.lst []) b2 = _ := upd_same
    have nb : la ≠ b2 := ne_of_none (s3 _ _ b.hl) hb2
    generalize upd H3 b2 (.lst []) = H4 at *
    have b4 := b.same s4
    walk_at "rb"
    refine ⟨p, C, dx, _, rfl, b4.hp, T.cl, T.n_branch, Nat.le_of_ble_eq_true (by rfl), ?_⟩
    rw [pf_branch]
    have b5 := b4.setp (bv' := .ref b2) (fv' := .ref fa) { t with br := .no } rfl b4.pd ⟨b2, rfl, hb2', nb.symm⟩
    have k5 := (LK.ins b4.hp (flds t.inp t.done la t.n gv (.ref b2) (.ref fa)))
    have k45 := (LK.same s34).trans k5
    have hfa5 := k5.1 _ _ (s4 _ _ hfa)
    generalize upd H4 p (.ins C dx (flds t.inp t.done la t.n gv (.ref b2) (.ref fa))) = H5 at *
    walk_at "rb"
    refine ⟨p, C, dx, _, rfl, b5.hp, T.cl, T.n_n, Nat.le_of_ble_eq_true (by rfl), ?_⟩
    rw [pf_n]
    have b6 := b5.setp { t with br := .no, n := b0 } rfl b5.pd b5.br
    have k6 := k45.trans (LK.ins b5.hp (flds t.inp t.done la b0 gv (.ref b2) (.ref fa)))
    have hr6 := k6.1 _ _ hr3'
    have p61 := pl1.mono k6.1
    have p62 := pl2.mono k6.1
    have hl6 : LLAt (upd H5 p (.ins C dx (flds t.inp t.done la b0 gv (.ref b2) (.ref fa)))) (.ref r3) (mkB fk a a2) := by
      cases fk with
      | true => exact ⟨_, _, ⟨r3, rfl, hr6⟩, p61, p62⟩
      | false => exact ⟨_, _, ⟨r3, rfl, hr6⟩, p61, p62⟩
    generalize upd H5 p (.ins C dx (flds t.inp t.done la b0 gv (.ref b2) (.ref fa))) = H6 at *
    walk_at "rb"
    cases fk with
    | true =>
      walk_at "rb"
      refine ⟨p, dx, _, rfl, b6.hp, lk_put, ?_⟩
      walk_at "rb"
      refine ⟨p, line, .ref r3, H0, _, rfl, b6.at, hp, n1, n16, .inl ⟨rfl, Nat.lt_of_lt_of_le bl (by decide), mkB true a a2, hl6, hw, fun H7 b7 => ?_⟩⟩
      walk_at "rb"
      have q2 := q H7
      rw [e] at q2
      exact q2 b7
    | false =>
      have hw' : (pwf b0 a ∧ psm b0 a) ∧ (pwf b0 a2 ∧ psm b0 a2) ∧ pgives b0 a = pgives b0 a2 := hw
      walk_at "rb"
      refine ⟨.ref r1, b0, a.map LL.p, rfl, p61.lls, lwf_map.mpr hw'.1.1, lsm_map.mpr hw'.1.2, lev_any _, fun H7 s7 => ?_⟩
      have b7 := b6.same s7
      have hr7 := s7 _ _ hr6
      walk_at "rb"
      refine ⟨.ref r2, b0, a2.map LL.p, rfl, (p62.mono (sm_tk s7)).lls, lwf_map.mpr hw'.2.1.1, lsm_map.mpr hw'.2.1.2, lev_any _, fun H8 s8 => ?_⟩
      have b8 := b7.same s8
      walk_at "rb"
      refine itN (nd (by rw [lgives_map, lgives_map, hw'.2.2])) ?_
      walk_at "rb"
      refine ⟨p, dx, _, rfl, b8.hp, lk_put, ?_⟩
      walk_at "rb"
      refine ⟨p, line, .ref r3, H0, _, rfl, b8.at, hp, n1, n16, .inl ⟨rfl, Nat.lt_of_lt_of_le bl (by decide), mkB false a a2, hl6.mono (sm_tk (s7.trans s8)), hw, fun H9 b9 => ?_⟩⟩
      walk_at "rb"
      have q2 := q H9
      rw [e] at q2
      exact q2 b9
theorem ok_size (F : Fun K "read_size" "read_size" s_read_size f fd) (T : Tx K w mg C W M) (G_read_count : Cl P w K mg base 3 "read_count" P_read_count sp_rcount) (G_check_count : Cl P w K mg base 2 "check_count" P_check_count (sp_cc C)) (G_put_layer : Ml P w K mg base C 5 "put_layer" P_put_layer (sp_put C)) :
    FnOk P w K mg base CX0 6 f fd P_read_size (sp_size C) := by
  refine F.ok sc_read_size (fun vs H Q E h => ?_) (fun cdv A outer s H vs Q E hr h => ?_)
  · obtain ⟨p, line, a, mn, d, H0, s, rfl, _⟩ := h
    rfl
  obtain ⟨p, line, a, mn, d, H0, t, rfl, ⟨dx, la, xs, gv, bv, fv, b⟩, ha, hp, hz, po, q⟩ := h
  refine ⟨_, (pss_cons (ps_set (i := 3) sc_read_size.nd rfl (Or.inl rfl) (pcl G_read_count hr (pa_cons (pv 1) (pa_cons (pe_ix ix_list (pv 2) pe_int (fun _ _ => rfl)) (pa_cons pe_int (pa_cons pe_int pa_nil))))))
      (pss_cons (ps_if (PW.pt (pw_and (pt_cmpR op_eq (pe_ix ix_list (pv 2) pe_int (fun _ _ => rfl)) pe_str (nomark _)) (pw_and1 (pt_cmpR op_notIn_seq (pv 3) (pgr T.c_MEANS) (by with_unfolding_all rfl)))))
        (pss_one ps_never)
        pss_nil)
      (pss_cons (ps_expr (pcl G_check_count hr (pa_cons (pv 0) (pa_cons (pv 1) pa_nil))))
      (pss_cons (ps_if (pt_cmpR op_ne (pe_op op_mod (pe_callTy call_int1 rfl T.f_int (by decide +kernel) (pa_cons (pe_fld (pv 0) rfl) pa_nil)) (pv 3)) pe_int (nomark _))
        (pss_one ps_never)
        pss_nil)
      (pss_one (ps_expr (pml (pv 0) T.cl G_put_layer hr (pa_cons (pv 1) (pa_cons (pe_tup (pa_cons (pe_ix ix_list (pv 2) pe_int (fun _ _ => rfl)) (pa_cons (pv 3) pa_nil))) pa_nil))))))))), ?_⟩
  have hs : d ∈ sizes ∧ t.n % d = 0 := by cases mn <;> exact po.1
  have hd := sizes_le hs.1
  walk_at "rb"
  refine ⟨line, 1, 999999999, d, rfl, nat_num (by omega), by omega, by omega, fun H1 s1 => ?_⟩
  have ha1 := s1 _ _ ha
  have b1 := b.same s1
  cases mn with
  | true =>
    walk_at "rb"
    refine ⟨M, _, rfl, .inr (T.means _), rfl, rfl, ?_⟩
    walk_at "rb"
    refine itN (sizes_in hs.1) ?_
    walk_at "rb"
    refine ⟨p, line, H0, t, rfl, b1.at, hz, fun H2 s2 => ?_⟩
    have ha2 := s2 _ _ ha1
    have b2 := b1.same s2
    walk_at "rb"
    refine r_I (show (0 : Int) < (d : Int) by omega) ?_
    walk_at "rb"
    refine itN (nd (by rw [modz hs.2])) ?_
    walk_at "rb"
    refine ⟨p, dx, _, rfl, b2.hp, lk_put, ?_⟩
    walk_at "rb"
    refine tup_s rfl fun r hr => ?_
    walk_at "rb"
    refine put_ask (l := .mean d) (b2.same (sm_new (Same.refl H2) _ hr)).at hp po (Nat.lt_of_lt_of_le hz (by decide)) Tup.new fun H3 b3 => ?_
    walk_at "rb"
    exact q H3 b3
  | false =>
    walk_at "rb"
    refine ⟨p, line, H0, t, rfl, b1.at, hz, fun H2 s2 => ?_⟩
    have ha2 := s2 _ _ ha1
    have b2 := b1.same s2
    walk_at "rb"
    refine r_I (show (0 : Int) < (d : Int) by omega) ?_
    walk_at "rb"
    refine itN (nd (by rw [modz hs.2])) ?_
    walk_at "rb"
    refine ⟨p, dx, _, rfl, b2.hp, lk_put, ?_⟩
    walk_at "rb"
    refine tup_s rfl fun r hr => ?_
    walk_at "rb"
    refine put_ask (l := .mx d) (b2.same (sm_new (Same.refl H2) _ hr)).at hp po (Nat.lt_of_lt_of_le hz (by decide)) Tup.new fun H3 b3 => ?_
    walk_at "rb"
    exact q H3 b3
end
end Wh

/-! Walk: read_layer. -/

namespace Wh
section
variable {P : Program} {w : World} {K : PySem.W.Frag} {mg : Str → Option Value} {base : Heap} {C W M f : Addr} {fd : FuncData}
theorem ok_rlayer (F : Fun K "read_layer" "read_layer" s_read_layer f fd) (T : Tx K w mg C W M) (G_read_size : Cl P w K mg base 6 "read_size" P_read_size (sp_size C)) (G_read_count : Cl P w K mg base 3 "read_count" P_read_count sp_rcount)
    (G_read_numbers : Cl P w K mg base 2 "read_numbers" P_read_numbers sp_rnums) (G_check_count : Cl P w K mg base 2 "check_count" P_check_count (sp_cc C)) (G_read_branch : Cl P w K mg base 6 "read_branch" P_read_branch (sp_branch C))
    (G_put_layer : Ml P w K mg base C 5 "put_layer" P_put_layer (sp_put C)) : FnOk P w K mg base CX0 7 f fd P_read_layer (sp_rlayer C) := by
  refine F.ok sc_read_layer (fun vs H Q E h => ?_) (fun cdv A outer s H vs Q E hr h => ?_)
  · obtain ⟨p, line, a, l, H0, s, rfl, _⟩ := h
    rfl
  obtain ⟨p, line, a, l, H0, t, rfl, ⟨dx, la, xs, gv, bv, fv, b⟩, ha, hp, hl, hok, q⟩ := h
  refine ⟨_, (pss_cons (ps_set (i := 3) sc_read_layer.nd rfl (Or.inl rfl) (pe_ix ix_list (pv 2) pe_int (fun _ _ => rfl)))
      (pss_cons (ps_if (PW.pt (pw_or (pt_cmpR op_eq (pv 3) pe_str (nomark _)) (pw_or1 (pt_cmpR op_eq (pv 3) pe_str (nomark _)))))
        (pss_cons (ps_expr (pcl G_read_size hr (pa_cons (pv 0) (pa_cons (pv 1) (pa_cons (pv 2) pa_nil)))))
        (pss_one ps_retN))
        pss_nil)
      (pss_cons (ps_if (pt_cmpR op_eq (pv 3) pe_str (nomark _))
        (pss_one (ps_set (i := 4) sc_read_layer.nd rfl (Or.inl rfl) (pe_lst (pa_cons (pcl G_read_count hr (pa_cons (pv 1) (pa_cons (pe_ix ix_list (pv 2) pe_int (fun _ _ => rfl)) (pa_cons pe_int (pa_cons (pgi T.c_MOST_SIGNALS) pa_nil))))) pa_nil))))
        (pss_one (ps_set (i := 4) sc_read_layer.nd rfl (Or.inl rfl) (pcl G_read_numbers hr (pa_cons (pv 1) (pa_cons (pe_slice sl_list (pv 2) (po_some pe_int) po_none) (pa_cons (pgi T.c_MOST_SIGNAL) pa_nil)))))))
      (pss_cons (ps_if (PW.pt (pw_and (pt_cmpR op_eq (pv 3) pe_str (nomark _)) (pw_and1 (pt_cmpR op_gt (pe_ix ix_list (pv 4) pe_int (fun _ _ => rfl)) (pe_ix ix_list (pv 4) pe_int (fun _ _ => rfl)) (nomark _)))))
        (pss_one ps_never)
        pss_nil)
      (pss_cons (ps_expr (pcl G_check_count hr (pa_cons (pv 0) (pa_cons (pv 1) pa_nil))))
      (pss_one (ps_if (pt_cmpR op_eq (pv 3) pe_str (nomark _))
        (pss_one (ps_fld (pv 0) (pe_tup (pa_cons pe_str (pa_cons pe_int (pa_cons (pe_lst pa_nil) (pa_cons (pe_lst pa_nil) (pa_cons (pv 1) pa_nil)))))) rfl))
        (pss_one (ps_if (pt_cmpR op_eq (pv 3) pe_str (nomark _))
          (pss_one (ps_fld (pv 0) (pe_tup (pa_cons pe_str (pa_cons (pe_ix ix_list (pv 4) pe_int (fun _ _ => rfl)) (pa_cons (pe_lst pa_nil) (pa_cons (pe_lst pa_nil) (pa_cons (pv 1) pa_nil)))))) rfl))
          (pss_one (ps_if (pt_cmpR op_in_seq (pv 3) (pe_tup (pa_cons pe_str (pa_cons pe_str pa_nil))) (by with_unfolding_all rfl))
            (pss_one (ps_expr (pcl G_read_branch hr (pa_cons (pv 0) (pa_cons (pv 1) (pa_cons (pv 3) pa_nil))))))
            (pss_one (ps_expr (pml (pv 0) T.cl G_put_layer hr (pa_cons (pv 1) (pa_cons (pe_op op_catA (pe_tup (pa_cons (pv 3) pa_nil)) (pe_callTy call_tuple_of rfl T.f_tuple (by decide +kernel) (pa_cons (pv 4) pa_nil))) pa_nil)))))))))))))))), ?_⟩
  walk_at "rb"
  cases hl with
  | mx d =>
    refine r_ixL ha at0V ?_
    walk_at "rb"
    refine ⟨p, line, a, false, d, H0, t, rfl, b.at, ha, hp, hok.1, hok.2, fun H1 b1 => ?_⟩
    walk_at "rb"
    exact q H1 b1
  | mean d =>
    refine r_ixL ha at0V ?_
    walk_at "rb"
    refine ⟨p, line, a, true, d, H0, t, rfl, b.at, ha, hp, hok.1, hok.2, fun H1 b1 => ?_⟩
    walk_at "rb"
    exact q H1 b1
  | conv st =>
    have ha : H a = some (.lst [.str "conv", .str (numS st)]) := ha
    obtain ⟨st1, st3, hz⟩ := hok
    walk_at "rb"
    refine ⟨line, 1, 64, st, rfl, nat_num (by omega), by omega, by omega, fun H1 s1 => ?_⟩
    walk_at "rb"
    refine tup_s rfl fun p1 hp1 => ?_
    have s2 := sm_new s1 (.lst [.int st]) hp1
    have hp1' : upd H1 p1 (.lst [.int st]) p1 = _ := upd_same
    generalize upd H1 p1 (.lst [.int st]) = H2 at *
    walk_at "rb"
    refine ⟨p, line, H0, t, rfl, (b.same s2).at, hz, fun H3 s3 => ?_⟩
    have hp3 := s3 _ _ hp1'
    have s03 := s2.trans s3
    walk_at "rb"
    refine tup_s rfl fun p4 hp4 => ?_
    have s4 := sm_new s03 (.lst []) hp4
    have hp4' : upd H3 p4 (.lst []) p4 = _ := upd_same
    generalize upd H3 p4 (.lst []) = H4 at *
    walk_at "rb"
    refine tup_s rfl fun p5 hp5 => ?_
    have s5 := sm_new s4 (.lst []) hp5
    have hp45 := sm_new (Same.refl H4) (.lst []) hp5 _ _ hp4'
    have hp5' : upd H4 p5 (.lst []) p5 = _ := upd_same
    generalize upd H4 p5 (.lst []) = H5 at *
    walk_at "rb"
    refine tup_s rfl fun p6 hp6 => ?_
    have s6 := sm_new s5 (.tup [.str "conv", .int st, .ref p4, .ref p5, .int line]) hp6
    have s56 := sm_new (Same.refl H5) (.tup [.str "conv", .int st, .ref p4, .ref p5, .int line]) hp6
    have hp6' : upd H5 p6 (.tup [.str "conv", .int st, .ref p4, .ref p5, .int line]) p6 = _ := upd_same
    generalize upd H5 p6 (.tup [.str "conv", .int st, .ref p4, .ref p5, .int line]) = H6 at *
    have b6 := b.same s6
    walk_at "rb"
    refine ⟨p, C, dx, _, rfl, b6.hp, T.cl, T.n_pending, Nat.le_of_ble_eq_true (by rfl), ?_⟩
    rw [pf_pending]
    walk_at "rb"
    exact q _ (b6.setp { t with pend := .some true st [] [] } rfl ⟨p4, p5, line, [], ⟨p6, rfl, hp6'⟩, s56 _ _ hp45, trivial, s56 _ _ hp5'⟩ b6.br).at
  | dense =>
    have ha : H a = some (.lst [.str "dense"]) := ha
    walk_at "rb"
    refine ⟨a, _, rfl, SqL.of ha, fun p1 hp1 => ?_⟩
    rw [cut_tl]
    have s1 := sm_new (Same.refl H) (.lst []) hp1
    have hp1' : upd H p1 (.lst []) p1 = _ := upd_same
    generalize upd H p1 (.lst []) = H1 at *
    walk_at "rb"
    refine ⟨line, 16777216, p1, [], rfl, hp1', by decide, fun _ z => (nomatch z), fun p2 H2 s2 h02 hp2 => ?_⟩
    have s02 := s1.trans s2
    walk_at "rb"
    refine ⟨p, line, H0, t, rfl, (b.same s02).at, hok, fun H3 s3 => ?_⟩
    have s03 := s02.trans s3
    walk_at "rb"
    refine tup_s rfl fun p4 hp4 => ?_
    have s4 := sm_new s03 (.lst []) hp4
    have hp4' : upd H3 p4 (.lst []) p4 = _ := upd_same
    generalize upd H3 p4 (.lst []) = H4 at *
    walk_at "rb"
    refine tup_s rfl fun p5 hp5 => ?_
    have s5 := sm_new s4 (.lst []) hp5
    have hp45 := sm_new (Same.refl H4) (.lst []) hp5 _ _ hp4'
    have hp5' : upd H4 p5 (.lst []) p5 = _ := upd_same
    generalize upd H4 p5 (.lst []) = H5 at *
    walk_at "rb"
    refine tup_s rfl fun p6 hp6 => ?_
    have s6 := sm_new s5 (.tup [.str "dense", .int 0, .ref p4, .ref p5, .int line]) hp6
    have s56 := sm_new (Same.refl H5) (.tup [.str "dense", .int 0, .ref p4, .ref p5, .int line]) hp6
    have hp6' : upd H5 p6 (.tup [.str "dense", .int 0, .ref p4, .ref p5, .int line]) p6 = _ := upd_same
    generalize upd H5 p6 (.tup [.str "dense", .int 0, .ref p4, .ref p5, .int line]) = H6 at *
    have b6 := b.same s6
    walk_at "rb"
    refine ⟨p, C, dx, _, rfl, b6.hp, T.cl, T.n_pending, Nat.le_of_ble_eq_true (by rfl), ?_⟩
    rw [pf_pending]
    walk_at "rb"
    exact q _ (b6.setp { t with pend := .some false 0 [] [] } rfl ⟨p4, p5, line, [], ⟨p6, rfl, hp6'⟩, s56 _ _ hp45, trivial, s56 _ _ hp5'⟩ b6.br).at
  | relu =>
    have ha : H a = some (.lst [.str "relu"]) := ha
    walk_at "rb"
    refine ⟨a, _, rfl, SqL.of ha, fun p1 hp1 => ?_⟩
    rw [cut_tl]
    have s1 := sm_new (Same.refl H) (.lst []) hp1
    have hp1' : upd H p1 (.lst []) p1 = _ := upd_same
    generalize upd H p1 (.lst []) = H1 at *
    walk_at "rb"
    refine ⟨line, 16777216, p1, [], rfl, hp1', by decide, fun _ z => (nomatch z), fun p2 H2 s2 h02 hp2 => ?_⟩
    have hp2 : H2 p2 = some (.lst []) := hp2
    have s02 := s1.trans s2
    walk_at "rb"
    refine ⟨p, line, H0, t, rfl, (b.same s02).at, hok.1, fun H3 s3 => ?_⟩
    have s03 := s02.trans s3
    have hp23 := s3 _ _ hp2
    walk_at "rb"
    refine tup_s rfl fun p4 hp4 => ?_
    have s34 := sm_new (Same.refl H3) (.tup [.str "sum", .str "fork"]) hp4
    have s4 := s03.trans s34
    have hp24 := s34 _ _ hp23
    have b4 := b.same s4
    walk_at "rb"
    refine r_in upd_same rfl rfl ?_
    generalize upd H3 p4 (.tup [.str "sum", .str "fork"]) = H4 at *
    walk_at "rb"
    refine ⟨p, dx, _, rfl, b4.hp, lk_put, ?_⟩
    walk_at "rb"
    refine tup_s rfl fun p5 hp5 => ?_
    have s45 := sm_new (Same.refl H4) (.tup [.str "relu"]) hp5
    have hp5' : upd H4 p5 (.tup [.str "relu"]) p5 = _ := upd_same
    generalize upd H4 p5 (.tup [.str "relu"]) = H5 at *
    walk_at "rb"
    refine ⟨_, _, rfl, .inl ⟨SqL.of (s45 _ _ hp24), fun p6 hp6 => ?_⟩⟩
    have s56 := sm_new (Same.refl H5) (.tup []) hp6
    have hp6' : upd H5 p6 (.tup []) p6 = _ := upd_same
    generalize upd H5 p6 (.tup []) = H6 at *
    refine r_catA (s56 _ _ hp5') hp6' (by decide) fun p7 H7 hp7 c7 => ?_
    have s67 : Same H6 H7 := by
      rcases c7 with rfl | ⟨h, rfl⟩
      · exact Same.refl _
      · exact sm_new (Same.refl _) _ h
    have b7 := b4.same ((s45.trans s56).trans s67)
    walk_at "rb"
    refine put_ask (l := .relu) b7.at hp hok.2 (Nat.lt_of_lt_of_le hok.1 (by decide)) ⟨p7, rfl, hp7⟩ fun H8 b8 => ?_
    walk_at "rb"
    exact q H8 b8
  | clamp lo hi =>
    have ha : H a = some (.lst [.str "clamp", .str (numS lo), .str (numS hi)]) := ha
    have wf : -60000 ≤ lo ∧ lo ≤ hi ∧ hi ≤ 200000 := hok.2.1
    walk_at "rb"
    refine ⟨a, _, rfl, SqL.of ha, fun p1 hp1 => ?_⟩
    rw [cut_tl]
    have s1 := sm_new (Same.refl H) (.lst [.str (numS lo), .str (numS hi)]) hp1
    have hp1' : upd H p1 (.lst [.str (numS lo), .str (numS hi)]) p1 = _ := upd_same
    generalize upd H p1 (.lst [.str (numS lo), .str (numS hi)]) = H1 at *
    walk_at "rb"
    refine ⟨line, 16777216, p1, [lo, hi], rfl, hp1', Nat.le_of_ble_eq_true (by rfl), fun z hz => ?_, fun p2 H2 s2 h02 hp2 => ?_⟩
    · rcases List.mem_cons.mp hz with rfl | hz
      · exact ⟨⟨by omega, by omega⟩, by omega, by omega⟩
      · rw [List.mem_singleton.mp hz]
        exact ⟨⟨by omega, by omega⟩, by omega, by omega⟩
    have hp2 : H2 p2 = some (.lst [.int lo, .int hi]) := hp2
    have s02 := s1.trans s2
    walk_at "rb"
    refine itN (decide_eq_false (by omega)) ?_
    walk_at "rb"
    refine ⟨p, line, H0, t, rfl, (b.same s02).at, hok.1, fun H3 s3 => ?_⟩
    have s03 := s02.trans s3
    have hp23 := s3 _ _ hp2
    walk_at "rb"
    refine tup_s rfl fun p4 hp4 => ?_
    have s34 := sm_new (Same.refl H3) (.tup [.str "sum", .str "fork"]) hp4
    have s4 := s03.trans s34
    have hp24 := s34 _ _ hp23
    have b4 := b.same s4
    walk_at "rb"
    refine r_in upd_same rfl rfl ?_
    generalize upd H3 p4 (.tup [.str "sum", .str "fork"]) = H4 at *
    walk_at "rb"
    refine ⟨p, dx, _, rfl, b4.hp, lk_put, ?_⟩
    walk_at "rb"
    refine tup_s rfl fun p5 hp5 => ?_
    have s45 := sm_new (Same.refl H4) (.tup [.str "clamp"]) hp5
    have hp5' : upd H4 p5 (.tup [.str "clamp"]) p5 = _ := upd_same
    generalize upd H4 p5 (.tup [.str "clamp"]) = H5 at *
    walk_at "rb"
    refine ⟨_, _, rfl, .inl ⟨SqL.of (s45 _ _ hp24), fun p6 hp6 => ?_⟩⟩
    have s56 := sm_new (Same.refl H5) (.tup [.int lo, .int hi]) hp6
    have hp6' : upd H5 p6 (.tup [.int lo, .int hi]) p6 = _ := upd_same
    generalize upd H5 p6 (.tup [.int lo, .int hi]) = H6 at *
    refine r_catA (s56 _ _ hp5') hp6' (Nat.le_of_ble_eq_true (by rfl)) fun p7 H7 hp7 c7 => ?_
    have s67 : Same H6 H7 := by
      rcases c7 with rfl | ⟨h, rfl⟩
      · exact Same.refl _
      · exact sm_new (Same.refl _) _ h
    have b7 := b4.same ((s45.trans s56).trans s67)
    walk_at "rb"
    refine put_ask (l := .clamp lo hi) b7.at hp hok.2 (Nat.lt_of_lt_of_le hok.1 (by decide)) ⟨p7, rfl, hp7⟩ fun H8 b8 => ?_
    walk_at "rb"
    exact q H8 b8
  | sum =>
    have ha : H a = some (.lst [.str "sum"]) := ha
    walk_at "rb"
    refine ⟨a, _, rfl, SqL.of ha, fun p1 hp1 => ?_⟩
    rw [cut_tl]
    have s1 := sm_new (Same.refl H) (.lst []) hp1
    have hp1' : upd H p1 (.lst []) p1 = _ := upd_same
    generalize upd H p1 (.lst []) = H1 at *
    walk_at "rb"
    refine ⟨line, 16777216, p1, [], rfl, hp1', by decide, fun _ z => (nomatch z), fun p2 H2 s2 h02 hp2 => ?_⟩
    have s02 := s1.trans s2
    walk_at "rb"
    refine ⟨p, line, H0, t, rfl, (b.same s02).at, hok.1, fun H3 s3 => ?_⟩
    have s03 := s02.trans s3
    walk_at "rb"
    refine tup_s rfl fun p4 hp4 => ?_
    have s4 := sm_new s03 (.tup [.str "sum", .str "fork"]) hp4
    have b4 := b.same s4
    walk_at "rb"
    refine r_in upd_same rfl rfl ?_
    walk_at "rb"
    exact ⟨p, line, .sum, H0, t, rfl, b4.at, hp, .sum, hok, fun H5 b5 => q H5 b5⟩
  | fork =>
    have ha : H a = some (.lst [.str "fork"]) := ha
    walk_at "rb"
    refine ⟨a, _, rfl, SqL.of ha, fun p1 hp1 => ?_⟩
    rw [cut_tl]
    have s1 := sm_new (Same.refl H) (.lst []) hp1
    have hp1' : upd H p1 (.lst []) p1 = _ := upd_same
    generalize upd H p1 (.lst []) = H1 at *
    walk_at "rb"
    refine ⟨line, 16777216, p1, [], rfl, hp1', by decide, fun _ z => (nomatch z), fun p2 H2 s2 h02 hp2 => ?_⟩
    have s02 := s1.trans s2
    walk_at "rb"
    refine ⟨p, line, H0, t, rfl, (b.same s02).at, hok.1, fun H3 s3 => ?_⟩
    have s03 := s02.trans s3
    walk_at "rb"
    refine tup_s rfl fun p4 hp4 => ?_
    have s4 := sm_new s03 (.tup [.str "sum", .str "fork"]) hp4
    have b4 := b.same s4
    walk_at "rb"
    refine r_in upd_same rfl rfl ?_
    walk_at "rb"
    exact ⟨p, line, .fork, H0, t, rfl, b4.at, hp, .fork, hok, fun H5 b5 => q H5 b5⟩
end
end Wh

/-! Walk: read_line. -/

namespace Wh
theorem words_kw (l : Ln) : ∃ r, l.words.map V.str = .str l.kw :: r := by cases l <;> exact ⟨_, rfl⟩
theorem kw_in (l : Ln) : ∃ i, (l.kw, i) ∈ wordsZ := by
  cases l with
  | net n => exact ⟨2, show (("net" : Str), (2 : Int)) ∈ wordsZ by decide +kernel⟩
  | dense => exact ⟨1, show (("dense" : Str), (1 : Int)) ∈ wordsZ by decide +kernel⟩
  | conv n => exact ⟨2, show (("conv" : Str), (2 : Int)) ∈ wordsZ by decide +kernel⟩
  | row ws b => exact ⟨0, show (("row" : Str), (0 : Int)) ∈ wordsZ by decide +kernel⟩
  | kernel ws b => exact ⟨0, show (("kernel" : Str), (0 : Int)) ∈ wordsZ by decide +kernel⟩
  | relu => exact ⟨1, show (("relu" : Str), (1 : Int)) ∈ wordsZ by decide +kernel⟩
  | clamp lo hi => exact ⟨3, show (("clamp" : Str), (3 : Int)) ∈ wordsZ by decide +kernel⟩
  | mx n => exact ⟨2, show (("max" : Str), (2 : Int)) ∈ wordsZ by decide +kernel⟩
  | mean n => exact ⟨2, show (("mean" : Str), (2 : Int)) ∈ wordsZ by decide +kernel⟩
  | sum => exact ⟨1, show (("sum" : Str), (1 : Int)) ∈ wordsZ by decide +kernel⟩
  | fork => exact ⟨1, show (("fork" : Str), (1 : Int)) ∈ wordsZ by decide +kernel⟩
  | wth => exact ⟨1, show (("with" : Str), (1 : Int)) ∈ wordsZ by decide +kernel⟩
  | fin => exact ⟨1, show (("end" : Str), (1 : Int)) ∈ wordsZ by decide +kernel⟩
  | done => exact ⟨1, show (("done" : Str), (1 : Int)) ∈ wordsZ by decide +kernel⟩
def isRow : Ln → Bool
  | .row _ _ => true
  | .kernel _ _ => true
  | _ => false
theorem kw_row {l : Ln} (h : isRow l = false) : decide (V.str l.kw = V.str "row") = false ∧ decide (V.str l.kw = V.str "kernel") = false := by
  cases l with
  | net n => exact ⟨show decide (V.str "net" = V.str "row") = false by decide +kernel, show decide (V.str "net" = V.str "kernel") = false by decide +kernel⟩
  | dense => exact ⟨show decide (V.str "dense" = V.str "row") = false by decide +kernel, show decide (V.str "dense" = V.str "kernel") = false by decide +kernel⟩
  | conv n => exact ⟨show decide (V.str "conv" = V.str "row") = false by decide +kernel, show decide (V.str "conv" = V.str "kernel") = false by decide +kernel⟩
  | row ws b => cases h
  | kernel ws b => cases h
  | relu => exact ⟨show decide (V.str "relu" = V.str "row") = false by decide +kernel, show decide (V.str "relu" = V.str "kernel") = false by decide +kernel⟩
  | clamp lo hi => exact ⟨show decide (V.str "clamp" = V.str "row") = false by decide +kernel, show decide (V.str "clamp" = V.str "kernel") = false by decide +kernel⟩
  | mx n => exact ⟨show decide (V.str "max" = V.str "row") = false by decide +kernel, show decide (V.str "max" = V.str "kernel") = false by decide +kernel⟩
  | mean n => exact ⟨show decide (V.str "mean" = V.str "row") = false by decide +kernel, show decide (V.str "mean" = V.str "kernel") = false by decide +kernel⟩
  | sum => exact ⟨show decide (V.str "sum" = V.str "row") = false by decide +kernel, show decide (V.str "sum" = V.str "kernel") = false by decide +kernel⟩
  | fork => exact ⟨show decide (V.str "fork" = V.str "row") = false by decide +kernel, show decide (V.str "fork" = V.str "kernel") = false by decide +kernel⟩
  | wth => exact ⟨show decide (V.str "with" = V.str "row") = false by decide +kernel, show decide (V.str "with" = V.str "kernel") = false by decide +kernel⟩
  | fin => exact ⟨show decide (V.str "end" = V.str "row") = false by decide +kernel, show decide (V.str "end" = V.str "kernel") = false by decide +kernel⟩
  | done => exact ⟨show decide (V.str "done" = V.str "row") = false by decide +kernel, show decide (V.str "done" = V.str "kernel") = false by decide +kernel⟩
theorem ok_nrow {s : Bs} {l : Ln} (h : s.ok l) : isRow l = false ∧ notNet l := by cases l <;> first | exact ⟨rfl, trivial⟩ | exact h.elim
theorem ok_plc {s : Bs} {l : Ln} (h : s.ok l) (hp : s.pend = .no) : PlaceOk s l.kw := by
  cases l with
  | net | row | kernel => exact h.elim
  | dense => exact .oth hp (.inl rfl)
  | conv => exact .oth hp (.inr (.inl rfl))
  | relu => exact .oth hp (.inr (.inr (.inl rfl)))
  | clamp => exact .oth hp (.inr (.inr (.inr (.inl rfl))))
  | mx => exact .oth hp (.inr (.inr (.inr (.inr (.inl rfl)))))
  | mean => exact .oth hp (.inr (.inr (.inr (.inr (.inr rfl)))))
  | sum => exact .top hp h.2 (.inl rfl)
  | fork => exact .top hp h.2 (.inr (.inl rfl))
  | done => exact .top hp h (.inr (.inr rfl))
  | wth =>
    obtain ⟨_, _, _, e⟩ := h
    exact .wth hp e
  | fin =>
    obtain ⟨_, _, _, _, e, _⟩ := h
    exact .fin hp e
theorem fini_pend (s : Bs) : s.fini.pend = .no := by
  unfold Bs.fini
  cases h : s.pend with
  | no => exact h
  | some cv st rows bs => exact put_pend _ _
theorem fini_done (s : Bs) : s.fini.done = s.done := by
  unfold Bs.fini
  cases h : s.pend with
  | no => rfl
  | some cv st rows bs => exact put_done _ _
section
variable {P : Program} {w : World} {K : PySem.W.Frag} {mg : Str → Option Value} {base : Heap} {C W M f : Addr} {fd : FuncData}
theorem Tx.isin (T : Tx K w mg C W M) (l : Ln) : ∃ u, PySem.W.nsIn K W l.kw = some (some u) := by
  obtain ⟨i, h⟩ := kw_in l
  obtain ⟨u, e, _⟩ := T.wv _ h
  exact ⟨u, e⟩
theorem ok_line2 (F : Fun K "read_line" "read_line" s_read_line f fd) (T : Tx K w mg C W M) (G_finish : Ml P w K mg base C 6 "finish" P_finish (sp_fin C)) (G_check_place : Cl P w K mg base 1 "check_place" P_check_place (sp_place C))
    (G_check_words : Cl P w K mg base 1 "check_words" P_check_words sp_cwords) (G_read_row : Cl P w K mg base 3 "read_row" P_read_row (sp_row C)) (G_read_branch : Cl P w K mg base 6 "read_branch" P_read_branch (sp_branch C))
    (G_read_layer : Cl P w K mg base 7 "read_layer" P_read_layer (sp_rlayer C)) : FnOk P w K mg base CX0 8 f fd P_read_line (sp_line2 C) := by
  refine F.ok sc_read_line (fun vs H Q E h => ?_) (fun cdv A outer s H vs Q E hr h => ?_)
  · obtain ⟨p, line, a, l, H0, s, t, rfl, _⟩ := h
    rfl
  obtain ⟨p, line, a, l, H0, t, t2, rfl, bt, ha0, hlo, hst, q⟩ := h
  obtain ⟨es, nn, T_kd⟩ := T.kd
  refine ⟨_, (pss_cons (ps_set (i := 3) sc_read_line.nd rfl (Or.inl rfl) (pe_ix ix_list (pv 2) pe_int (fun _ _ => rfl)))
      (pss_cons (ps_if (PW.pt (pw_and (pt_cmpR op_ne (pv 3) pe_str (nomark _)) (pw_and (pt_cmpR op_ne (pv 3) pe_str (nomark _)) (pw_and (pt_cmpR (op_neD hr.units) (pe_fld (pv 0) rfl) (pe_tup pa_nil) (nomark _)) (pw_and1 (pt_cmpR op_gt (pe_callB call_len_seq rfl T.f_len PySem.boot_len (pa_cons (pe_ix ix_tup (pe_fld (pv 0) rfl) pe_int (fun _ _ => rfl)) pa_nil)) pe_int (nomark _)))))))
        (pss_one (ps_expr (pml0 (pv 0) T.cl G_finish hr)))
        pss_nil)
      (pss_cons (ps_if (pt_cmpR (op_notIn_kd T_kd) (pv 3) (pgr T.c_WORDS) rfl)
        (pss_one ps_never)
        pss_nil)
      (pss_cons (ps_expr (pcl G_check_place hr (pa_cons (pv 0) (pa_cons (pv 1) (pa_cons (pv 3) pa_nil)))))
      (pss_cons (ps_expr (pcl G_check_words hr (pa_cons (pv 1) (pa_cons (pv 2) pa_nil))))
      (pss_one (ps_if (PW.pt (pw_or (pt_cmpR op_eq (pv 3) pe_str (nomark _)) (pw_or1 (pt_cmpR op_eq (pv 3) pe_str (nomark _)))))
        (pss_one (ps_expr (pcl G_read_row hr (pa_cons (pv 0) (pa_cons (pv 1) (pa_cons (pv 2) pa_nil))))))
        (pss_one (ps_if (PW.pt (pw_or (pt_cmpR op_eq (pv 3) pe_str (nomark _)) (pw_or1 (pt_cmpR op_eq (pv 3) pe_str (nomark _)))))
          (pss_one (ps_expr (pcl G_read_branch hr (pa_cons (pv 0) (pa_cons (pv 1) (pa_cons (pv 3) pa_nil))))))
          (pss_one (ps_if (pt_cmpR op_eq (pv 3) pe_str (nomark _))
            (pss_one (ps_fld (pv 0) pe_bl rfl))
            (pss_one (ps_expr (pcl G_read_layer hr (pa_cons (pv 0) (pa_cons (pv 1) (pa_cons (pv 2) pa_nil))))))))))))))))), ?_⟩
  obtain ⟨u, hu⟩ := T.isin l
  cases hst with
  | @row rows bs ws bi hd hp hlen hrl n16 hbl how hob =>
    obtain ⟨dx, la, xs, gv, bv, fv, b⟩ := bt
    have ha : H a = some (.lst (rowV "row" ws bi)) := by rw [b.sm _ _ ha0, ← rowV_eq]; rfl
    walk_at "rb"
    refine ⟨"row", some u, rfl, rfl, hu, ?_⟩
    walk_at "rb"
    refine itN rfl ?_
    walk_at "rb"
    refine ⟨p, line, "row", H0, t, rfl, b.at, hd, .row hp, fun H1 s1 => ?_⟩
    walk_at "rb"
    refine ⟨line, a, .row ws bi, rfl, (b.same s1).sm _ _ ha0, hlo, trivial, ?_⟩
    walk_at "rb"
    refine ⟨p, line, a, "row", H0, t, false, 0, rows, bs, ws, bi, rfl, (b.same s1).at, s1 _ _ ha, hp, List.length_pos_iff.mpr hlo.2.1, hlo.1, hbl, how, hob, ⟨hrl, hlen⟩, fun H2 b2 => ?_⟩
    walk_at "rb"
    exact q H2 b2
  | @ker st rows bs ws bi hd hp hlen hrl n16 hsame hbl how hob =>
    obtain ⟨dx, la, xs, gv, bv, fv, b⟩ := bt
    have ha : H a = some (.lst (rowV "kernel" ws bi)) := by rw [b.sm _ _ ha0, ← rowV_eq]; rfl
    walk_at "rb"
    refine ⟨"kernel", some u, rfl, rfl, hu, ?_⟩
    walk_at "rb"
    refine itN rfl ?_
    walk_at "rb"
    refine ⟨p, line, "kernel", H0, t, rfl, b.at, hd, .ker hp, fun H1 s1 => ?_⟩
    walk_at "rb"
    refine ⟨line, a, .kernel ws bi, rfl, (b.same s1).sm _ _ ha0, hlo, trivial, ?_⟩
    walk_at "rb"
    refine ⟨p, line, a, "kernel", H0, t, true, st, rows, bs, ws, bi, rfl, (b.same s1).at, s1 _ _ ha, hp, List.length_pos_iff.mpr hlo.2.1, hlo.1, hbl, how, hob, ⟨hrl, hlen, hsame⟩, fun H2 b2 => ?_⟩
    walk_at "rb"
    exact q H2 b2
  | oth hd hfo hok =>
    obtain ⟨rr, hwk⟩ := words_kw l
    have ha1 : H0 a = some (.lst (.str l.kw :: rr)) := by rw [ha0, hwk]
    have nr := ok_nrow hok
    obtain ⟨kr', kk'⟩ := kw_row nr.1
    have nkr : (!decide (V.str l.kw = V.str "row")) = true := by rw [kr']; rfl
    have nkk : (!decide (V.str l.kw = V.str "kernel")) = true := by rw [kk']; rfl
    have haH : H a = some (.lst (.str l.kw :: rr)) := by
      obtain ⟨_, _, _, _, _, _, b⟩ := bt
      exact b.sm _ _ ha1
    refine r_seq (r_asg (r_op (r_var rfl (r_c (r_ixL haH at0V (r_name ?_))))))
    with_reducible refine r_seq ?_
    refine r_ifcut (fun H2 => BAt C H0 H2 p t.fini) (fun D' hD => ?_) fun H2 b2 => ?_
    · obtain ⟨dx, la, xs, gv, bv, fv, b⟩ := bt
      walk_at "rb"
      refine itY nkr ?_
      walk_at "rb"
      refine itY nkk ?_
      walk_at "rb"
      intro H1 s1
      have b1 := b.same s1
      have eq : ∃ r, t.pend = r := ⟨_, rfl⟩
      obtain ⟨r, hp⟩ := eq
      cases r with
      | no =>
        have eN : (!t.pend.is) = false := by rw [hp]; rfl
        walk_at "rb"
        refine itN eN ?_
        walk_at "rb"
        exact hD H1 (by rw [fini_no hp]; exact b1.at)
      | some cv st rows bs =>
        have eY : (!t.pend.is) = true := by rw [hp]; rfl
        have hpd := b1.pd
        have hf2 := hfo
        unfold Bs.finOk at hf2
        rw [hp] at hpd hf2
        obtain ⟨rl, bl, ln, rvs, ⟨tp, rfl, htp⟩, hrl, har, hbl⟩ := hpd
        have r1 : 1 ≤ rvs.length := by rw [har.len]; exact List.length_pos_iff.mpr hf2.2.1
        walk_at "rb"
        refine itY eY ?_
        walk_at "rb"
        refine itY (decide_eq_true (by omega)) ?_
        walk_at "rb"
        refine ⟨p, dx, _, rfl, b1.hp, lk_fin, ?_⟩
        walk_at "rb"
        refine ⟨p, H0, t, rfl, b1.at, hfo, fun H2 b2 => ?_⟩
        walk_at "rb"
        exact hD H2 b2
    · have hpn := fini_pend t
      obtain ⟨dx, la, xs, gv, bv, fv, b⟩ := b2
      walk_at "rb"
      refine ⟨l.kw, some u, rfl, rfl, hu, ?_⟩
      walk_at "rb"
      refine itN rfl ?_
      walk_at "rb"
      refine ⟨p, line, l.kw, H0, t.fini, rfl, b.at, by rw [fini_done]; exact hd, ok_plc hok hpn, fun H3 s3 => ?_⟩
      have b3 := b.same s3
      walk_at "rb"
      refine ⟨line, a, l, rfl, b3.sm _ _ ha0, hlo, nr.2, ?_⟩
      walk_at "rb"
      refine itN kr' ?_
      walk_at "rb"
      refine itN kk' ?_
      have hwd := b3.sm _ _ ha0
      cases l with
      | net | row | kernel => exact hok.elim
      | wth =>
        walk_at "rb"
        exact ⟨p, line, .wth, H0, t.fini, rfl, b3.at, hpn, .wth, hok, fun H4 b4 => q H4 b4⟩
      | fin =>
        walk_at "rb"
        exact ⟨p, line, .fin, H0, t.fini, rfl, b3.at, hpn, .fin, hok, fun H4 b4 => q H4 b4⟩
      | done =>
        walk_at "rb"
        refine ⟨p, C, dx, _, rfl, b3.hp, T.cl, T.n_done, Nat.le_of_ble_eq_true (by rfl), ?_⟩
        rw [pf_done]
        walk_at "rb"
        exact q _ (b3.setp { t.fini with done := true } rfl b3.pd b3.br).at
      | dense =>
        walk_at "rb"
        exact ⟨p, line, a, _, H0, t.fini, rfl, b3.at, hwd, hpn, .dense, hok, fun H4 b4 => q H4 b4⟩
      | conv st =>
        rw [show (Ln.conv st).kw = "conv" from rfl]
        walk_at "rb"
        exact ⟨p, line, a, _, H0, t.fini, rfl, b3.at, hwd, hpn, .conv st, hok, fun H4 b4 => q H4 b4⟩
      | relu =>
        walk_at "rb"
        exact ⟨p, line, a, _, H0, t.fini, rfl, b3.at, hwd, hpn, .relu, hok, fun H4 b4 => q H4 b4⟩
      | clamp lo hi =>
        rw [show (Ln.clamp lo hi).kw = "clamp" from rfl]
        walk_at "rb"
        exact ⟨p, line, a, _, H0, t.fini, rfl, b3.at, hwd, hpn, .clamp lo hi, hok, fun H4 b4 => q H4 b4⟩
      | mx d =>
        rw [show (Ln.mx d).kw = "max" from rfl]
        walk_at "rb"
        exact ⟨p, line, a, _, H0, t.fini, rfl, b3.at, hwd, hpn, .mx d, hok, fun H4 b4 => q H4 b4⟩
      | mean d =>
        rw [show (Ln.mean d).kw = "mean" from rfl]
        walk_at "rb"
        exact ⟨p, line, a, _, H0, t.fini, rfl, b3.at, hwd, hpn, .mean d, hok, fun H4 b4 => q H4 b4⟩
      | sum =>
        walk_at "rb"
        exact ⟨p, line, a, _, H0, t.fini, rfl, b3.at, hwd, hpn, .sum, hok, fun H4 b4 => q H4 b4⟩
      | fork =>
        walk_at "rb"
        exact ⟨p, line, a, _, H0, t.fini, rfl, b3.at, hwd, hpn, .fork, hok, fun H4 b4 => q H4 b4⟩
end
end Wh

/-! Walk: parse. -/

namespace Wh
open TL
theorem SV_tl (w : Str) : SV (tl w) = V.str w := congrArg V.str (ext_tl (by rfl))
section
variable {C p y : Addr} {H0 H H2 : Hp} {s : Bs} {o : HO}
theorem none_up {q : Addr} (h : H0 q = none) (n : q ≠ y) (o : HO) : upd H0 y o q = none := by rw [upd_ne n]; exact h
theorem none_dn {q : Addr} (h : upd H0 y o q = none) : H0 q = none := by
  by_cases e : q = y
  · subst e
    rw [upd_same] at h
    cases h
  · rw [upd_ne e] at h
    exact h
theorem BrAt.grow {H' : Hp} (f : ∀ q u, H' q = some u → q ≠ y) {la : Addr} {bv fv : V} (k : ∀ q u, H' q = some u → H0 q = none → upd H0 y o q = none) : ∀ {r : Br}, BrAt H0 H' la bv fv r → BrAt (upd H0 y o) H' la bv fv r
  | .no, h => h
  | .one _ _ _, ⟨ba, i, xs, e, h, hi, a, n1, n2, n3, t, z⟩ => ⟨ba, i, xs, e, h, hi, a, n1, n2, n3, t, k _ _ hi z⟩
  | .two _ _ _ _, ⟨ba, i, j, xs, ys, e, h, hi, a, hj, b, n1, n2, n3, n4, n5, n6, t, z, z2⟩ => ⟨ba, i, j, xs, ys, e, h, hi, a, hj, b, n1, n2, n3, n4, n5, n6, t, k _ _ hi z, k _ _ hj z2⟩
/-- a new object stands outside -/
theorem BAt.grow (b : BAt C H0 H p s) (hy : H y = none) (h : Same H H2) (ho : H2 y = some o) : BAt C (upd H0 y o) H2 p s := by
  obtain ⟨dx, la, xs, pv, bv, fv, b⟩ := b
  have g : ∀ q u, H q = some u → q ≠ y := fun q u e => ne_of_none e hy
  have b1 : BIn C (upd H0 y o) (upd H y o) p s dx la xs pv bv fv := by
    have s1 := sm_new (Same.refl H) o hy
    have b1 := b.same s1
    refine ⟨fun a u e => ?_, none_up b.p0 (g _ _ b.hp) o, none_up b.l0 (g _ _ b.hl) o, b1.hp, b1.hl, b1.al, b1.pd, ?_⟩
    · by_cases ea : a = y
      · subst ea
        rw [upd_same] at e ⊢
        exact e
      · rw [upd_ne ea] at e ⊢
        exact b.sm a u e
    · exact (BrAt.grow (y := y) (o := o) g (fun q u e z => none_up z (g q u e) o) b.br).mono (LK.same s1)
  refine (b1.same (fun a u e => ?_)).at
  by_cases ea : a = y
  · subst ea
    rw [upd_same] at e
    rw [← e]
    exact ho
  · rw [upd_ne ea] at e
    exact h a u e
theorem BrAt.shrink {H' : Hp} {la : Addr} {bv fv : V} : ∀ {r : Br}, BrAt (upd H0 y o) H' la bv fv r → BrAt H0 H' la bv fv r
  | .no, h => h
  | .one _ _ _, ⟨ba, i, xs, e, h, hi, a, n1, n2, n3, t, z⟩ => ⟨ba, i, xs, e, h, hi, a, n1, n2, n3, t, none_dn z⟩
  | .two _ _ _ _, ⟨ba, i, j, xs, ys, e, h, hi, a, hj, b, n1, n2, n3, n4, n5, n6, t, z, z2⟩ => ⟨ba, i, j, xs, ys, e, h, hi, a, hj, b, n1, n2, n3, n4, n5, n6, t, none_dn z, none_dn z2⟩
theorem BAt.shrink (b : BAt C (upd H0 y o) H p s) (hy : H0 y = none) : BAt C H0 H p s := by
  obtain ⟨dx, la, xs, pv, bv, fv, b⟩ := b
  exact ⟨dx, la, xs, pv, bv, fv, fun a u e => b.sm a u (by rw [upd_ne (ne_of_none e hy)]; exact e), none_dn b.p0, none_dn b.l0, b.hp, b.hl, b.al, b.pd, b.br.shrink⟩
end
theorem put_inp (s : Bs) (l : PL) : (s.put l).inp = s.inp := by cases s with | mk i d b n p r => cases r <;> rfl
theorem fini_inp (s : Bs) : s.fini.inp = s.inp := by
  unfold Bs.fini
  cases h : s.pend with
  | no => rfl
  | some cv st rows bs => exact put_inp _ _
theorem act_inp (s : Bs) (l : Ln) : (s.act l).inp = s.inp := by
  cases l with
  | relu | clamp | mx | mean => exact put_inp _ _
  | wth =>
    unfold Bs.act
    cases h : s.br <;> rfl
  | fin =>
    unfold Bs.act
    cases h : s.br <;> rfl
  | _ => rfl
theorem step_inp {s t : Bs} {l : Ln} (h : Step s l t) : t.inp = s.inp := by
  cases h with
  | row => rfl
  | ker => rfl
  | oth => rw [act_inp, fini_inp]
def lw (l : Ln) : List (List Nat) := l.words.map tl
theorem lw_V (l : Ln) : (lw l).map SV = l.words.map V.str := by
  unfold lw
  rw [List.map_map]
  exact List.map_congr_left fun w _ => SV_tl w
theorem lw_ne (l : Ln) : lw l ≠ [] := by cases l <;> exact List.cons_ne_nil _ _
/-- what lines there are to come -/
def Rem (rem : List (List (List Nat))) (n : Nat) (u : Bs) (all : List Ln) (s : Bs) : Prop :=
  (rem = (Ln.net n :: all).map lw ∧ s = .new ∧ Runs (.start n) all u ∧ ∀ l ∈ all, l.ok) ∨ ∃ rest, rem = rest.map lw ∧ Runs s rest u ∧ (∀ l ∈ rest, l.ok) ∧ 1 ≤ s.inp
def fw (w : List (List Nat)) : Bool := !w.isEmpty
theorem fw_cons {w : List (List Nat)} (h : w ≠ []) : fw w = true := by cases w with | nil => exact absurd rfl h | cons _ _ => rfl
theorem drop_cons {α : Type} : ∀ {xs : List α} {i : Nat} {x : α}, xs[i]? = some x → xs.drop i = x :: xs.drop (i + 1)
  | _ :: _, 0, _, h => by cases h; rfl
  | _ :: xs, i + 1, x, h => drop_cons (xs := xs) (i := i) (x := x) (by simpa using h)
  | [], _, _, h => by simp at h
def rowsOf (t : Str) : List (List (List Nat)) := (Txt.split t "\n").map fun r => wo (tl r)
def sp_parse (C : Addr) : Sp := fun vs H Q _ => ∃ (t : Str) (n : Nat) (ls : List LL), vs = [.str t] ∧ t.length ≤ 60000 ∧ (∀ c ∈ tl t, c ∈ tl chrS) ∧ (∀ r ∈ Txt.split t "\n", r.length ≤ 1000) ∧ NetOk n ls ∧
  (rowsOf t).filter fw = (Ln.net n :: (llines ls ++ [.done])).map lw ∧ ∀ (v : V) (H' : Hp), Same H H' → NetAt H' v n ls → Q v H'
section
variable {P : Program} {w : World} {K : PySem.W.Frag} {mg : Str → Option Value} {base : Heap} {C W M f : Addr} {fd : FuncData}
theorem ok_parse (F : Fun K "parse" "parse" s_parse f fd) (T : Tx K w mg C W M) (G_check_text : Cl P w K mg base 1 "check_text" P_check_text sp_ctext) (G_init : Mkl P w K mg base C 1 P_init (sp_init C)) (G_words_of : Cl P w K mg base 1 "words_of" P_words_of sp_wordsof)
    (G_read_line : Cl P w K mg base 8 "read_line" P_read_line (sp_line2 C)) (G_read_count : Cl P w K mg base 3 "read_count" P_read_count sp_rcount) (G_finish : Ml P w K mg base C 6 "finish" P_finish (sp_fin C)) : FnOk P w K mg base CX0 9 f fd P_parse (sp_parse C) := by
  refine F.ok sc_parse (fun vs H Q E h => ?_) (fun cdv A outer s H vs Q E hr h => ?_)
  · obtain ⟨t, n, ls, rfl, _⟩ := h
    rfl
  obtain ⟨t, n, ls, rfl, ht, hch, hrl, hnet, hrows, q⟩ := h
  obtain ⟨u, hrun, hup, hud, hub, hui⟩ := run_net hnet
  have hokL : ∀ l ∈ llines ls ++ [.done], l.ok := fun l hl => by
    rcases List.mem_append.mp hl with hl | hl
    · exact llines_ok hnet.wf hnet.sm l hl
    · rw [List.mem_singleton.mp hl]; trivial
  refine ⟨_, (pss_cons (ps_expr (pcl G_check_text hr (pa_cons (pv 0) pa_nil)))
      (pss_cons (ps_set (i := 1) sc_parse.nd rfl (Or.inl rfl) (pmk0 G_init hr T.c_Builder))
      (pss_cons (ps_set (i := 2) sc_parse.nd rfl (Or.inl rfl) (pe_split (pv 0) pe_str))
      (pss_cons (ps_for PassesOwn.never rfl (pi_enum rfl T.f_enumerate (pa_cons (pv 2) pa_nil)) (pg_tup rfl (pgs_cons (pg_name (i := 3) sc_parse.nd rfl (Or.inl rfl)) (pgs_cons (pg_name (i := 4) sc_parse.nd rfl (Or.inl rfl)) pgs_nil)))
        (pss_cons (ps_set (i := 5) sc_parse.nd rfl (Or.inl rfl) (pcl G_words_of hr (pa_cons (pv 4) pa_nil)))
        (pss_one (ps_if (PW.pt (pw_and (pt_cmpR op_gt (pe_callB call_len_seq rfl T.f_len PySem.boot_len (pa_cons (pv 5) pa_nil)) pe_int (nomark _)) (pw_and1 (pt_cmpR op_gt (pe_fld (pv 1) rfl) pe_int (nomark _)))))
          (pss_one (ps_expr (pcl G_read_line hr (pa_cons (pv 1) (pa_cons (pe_op op_add (pv 3) pe_int) (pa_cons (pv 5) pa_nil))))))
          (pss_one (ps_if (pt_cmpR op_gt (pe_callB call_len_seq rfl T.f_len PySem.boot_len (pa_cons (pv 5) pa_nil)) pe_int (nomark _))
            (pss_cons (ps_if (PW.pt (pw_or (pt_cmpR op_ne (pe_ix ix_list (pv 5) pe_int (fun _ _ => rfl)) pe_str (nomark _)) (pw_or1 (pt_cmpR op_ne (pe_callB call_len_seq rfl T.f_len PySem.boot_len (pa_cons (pv 5) pa_nil)) pe_int (nomark _)))))
              (pss_one ps_never)
              pss_nil)
            (pss_cons (ps_fld (pv 1) (pcl G_read_count hr (pa_cons (pe_op op_add (pv 3) pe_int) (pa_cons (pe_ix ix_list (pv 5) pe_int (fun _ _ => rfl)) (pa_cons pe_int (pa_cons (pgi T.c_MOST_INPUTS) pa_nil))))) rfl)
            (pss_one (ps_fld (pv 1) (pe_fld (pv 1) rfl) rfl))))
            pss_nil))))))
      (pss_cons (ps_if (PW.pt (pw_and (pt_cmpR (op_neD hr.units) (pe_fld (pv 1) rfl) (pe_tup pa_nil) (nomark _)) (pw_and1 (pt_cmpR op_gt (pe_callB call_len_seq rfl T.f_len PySem.boot_len (pa_cons (pe_ix ix_tup (pe_fld (pv 1) rfl) pe_int (fun _ _ => rfl)) pa_nil)) pe_int (nomark _)))))
        (pss_one (ps_expr (pml0 (pv 1) T.cl G_finish hr)))
        pss_nil)
      (pss_cons (ps_if (pt_not (pt_val (pe_fld (pv 1) rfl)))
        (pss_one ps_never)
        pss_nil)
      (pss_one (ps_ret (pe_tup (pa_cons pe_str (pa_cons (pe_fld (pv 1) rfl) (pa_cons (pe_callTy call_tuple_of rfl T.f_tuple (by decide +kernel) (pa_cons (pe_fld (pv 1) rfl) pa_nil)) pa_nil)))))))))))), ?_⟩
  walk_at "rb"
  refine ⟨t, rfl, ht, hch, ?_⟩
  walk_at "rb"
  intro p dx hp hdx hne
  have s1 := sm_new (sm_new (Same.refl H) (.own p) hdx) (.ins C dx []) (by rw [upd_ne hne.symm]; exact hp)
  refine ⟨p, dx, H, rfl, upd_same, s1, hp, fun H1 b1 => ⟨rfl, ?_⟩⟩
  walk_at "rb"
  refine ⟨t, "\n", rfl, rfl, by decide +kernel, by rw [sizeLine_eq]; omega, fun y hy => ?_⟩
  have b2 := b1.grow hy (sm_new (Same.refl H1) (.lst ((Txt.split t "\n").map V.str)) hy) upd_same
  have y0 : H y = none := by
    obtain ⟨_, _, _, _, _, _, b⟩ := b1
    exact Same.free b.sm hy
  have hs0 : Same H (upd H y (.lst ((Txt.split t "\n").map V.str))) := sm_new (Same.refl H) _ y0
  have hyo : upd H y (.lst ((Txt.split t "\n").map V.str)) y = some (.lst ((Txt.split t "\n").map V.str)) := upd_same
  have bsm : ∀ {H' : Hp} {s : Bs}, BAt C (upd H y (.lst ((Txt.split t "\n").map V.str))) H' p s → Same (upd H y (.lst ((Txt.split t "\n").map V.str))) H' := fun ⟨_, _, _, _, _, _, b⟩ => b.sm
  generalize upd H1 y (.lst ((Txt.split t "\n").map V.str)) = H2 at *
  generalize upd H y (.lst ((Txt.split t "\n").map V.str)) = H0 at *
  walk_at "rb"
  refine ⟨y, _, rfl, SqL.of (bsm b2 _ _ hyo), f_enm (fun i σ H' => ∃ (o1 o2 o3 : Option V) (s : Bs), σ = [some (.str t), some (.ref p), some (.ref y), o1, o2, o3] ∧ BAt C H0 H' p s ∧ Rem (((rowsOf t).drop i).filter fw) n u (llines ls ++ [Ln.done]) s)
    ⟨none, none, none, .new, rfl, b2, (.inl ⟨by rw [List.drop_zero]; exact hrows, rfl, hrun, hokL⟩ : Rem _ n u (llines ls ++ [Ln.done]) .new)⟩ (fun i σ H' _ ⟨_, _, _, s, _, b, _⟩ => SqL.of (bsm b _ _ hyo)) ?_ ?_⟩
  · rintro i x σ H3 tp hx ⟨o1, o2, o3, s, rfl, b3, hrem⟩ htp
    rw [List.getElem?_map] at hx
    obtain ⟨r, hr2, rfl⟩ : ∃ r, (Txt.split t "\n")[i]? = some r ∧ x = .str r := by
      cases e : (Txt.split t "\n")[i]? with
      | none => rw [e] at hx; cases hx
      | some z => rw [e] at hx; exact ⟨z, rfl, (Option.some.inj hx).symm⟩
    have hlen := hrl r (List.mem_of_getElem? hr2)
    have hw : (rowsOf t)[i]? = some (wo (tl r)) := by unfold rowsOf; rw [List.getElem?_map, hr2]; rfl
    rw [drop_cons hw] at hrem
    have b4 := b3.same (sm_new (Same.refl H3) (.tup [.int (i : Nat), .str r]) htp)
    have htp' : upd H3 tp (.tup [.int (i : Nat), .str r]) tp = _ := upd_same
    generalize upd H3 tp (.tup [.int (i : Nat), .str r]) = H4 at *
    refine r_gtup htp' rfl ?_
    walk_at "rb"
    refine ⟨r, rfl, hlen, fun q5 H5 s5 h5 hq5 => ?_⟩
    have b5 := b4.grow h5 s5 hq5
    have h05 : H0 q5 = none := by
      obtain ⟨_, _, _, _, _, _, b⟩ := b4
      exact Same.free b.sm h5
    have b5s := b4.same s5
    walk_at "rb"
    rcases hwo : wo (tl r) with _ | ⟨w0, wr⟩
    · rw [hwo] at hrem hq5
      rw [List.filter_cons, if_neg (by decide)] at hrem
      walk_at "rb"
      exact ⟨_, _, _, s, rfl, b5s, hrem⟩
    · rw [hwo] at hrem hq5 b5
      rw [List.filter_cons, if_pos (fw_cons (List.cons_ne_nil _ _))] at hrem
      have hpos : decide (((((w0 :: wr).map SV).length : Nat) : Int) > 0) = true := decide_eq_true (by rw [List.length_map, List.length_cons]; omega)
      walk_at "rb"
      refine itY hpos ?_
      rcases hrem with ⟨e, rfl, hru, hok⟩ | ⟨rest, e, hru, hok, hin⟩
      · obtain ⟨e1, e2⟩ := List.cons.inj e
        have hq6 : H5 q5 = some (.lst [.str "net", .str (numS n)]) := by rw [hq5, e1, lw_V]; rfl
        obtain ⟨dx2, la, xs, gv, bv, fv, bb⟩ := b5s
        walk_at "rb"
        refine itY (by rfl) ?_
        walk_at "rb"
        refine itN (nd rfl) ?_
        walk_at "rb"
        have n1 := hnet.n1
        have n4 := hnet.n4
        refine ⟨_, 1, 16, n, rfl, nat_num (by omega), by omega, by omega, fun H6 s6 => ?_⟩
        have b6 := bb.same s6
        walk_at "rb"
        refine ⟨p, C, dx2, _, rfl, b6.hp, T.cl, T.n_inputs, Nat.le_of_ble_eq_true (by rfl), ?_⟩
        rw [pf_inputs]
        have b7 := b6.setp { Bs.new with inp := n } rfl b6.pd b6.br
        generalize upd H6 p (.ins C dx2 (flds n Bs.new.done la Bs.new.n gv bv fv)) = H7 at *
        walk_at "rb"
        refine ⟨p, C, dx2, _, rfl, b7.hp, T.cl, T.n_n, Nat.le_of_ble_eq_true (by rfl), ?_⟩
        rw [pf_n]
        walk_at "rb"
        exact ⟨_, _, _, .start n, rfl, (b7.setp (.start n) rfl b7.pd b7.br).at, .inr ⟨_, e2, hru, hok, n1⟩⟩
      · cases hru with
        | nil => cases e
        | @cons _ s2 _ l rest2 hst hru =>
          obtain ⟨e1, e2⟩ := List.cons.inj e
          obtain ⟨dx2, la, xs, gv, bv, fv, bb⟩ := b5s
          have hi2 : decide ((s.inp : Int) > 0) = true := decide_eq_true (by omega)
          walk_at "rb"
          refine itY hi2 ?_
          walk_at "rb"
          refine ⟨p, _, q5, l, _, s, s2, rfl, b5, by rw [upd_same, e1, lw_V], hok l List.mem_cons_self, hst, fun H6 b6 => ?_⟩
          walk_at "rb"
          exact ⟨_, _, _, s2, rfl, b6.shrink h05, .inr ⟨rest2, e2, hru, fun z hz => hok z (List.mem_cons_of_mem _ hz), by rw [step_inp hst]; exact hin⟩⟩
  · rintro σ H3 ⟨o1, o2, o3, s, rfl, b3, hrem⟩
    have hlen2 : (rowsOf t).length = ((Txt.split t "\n").map V.str).length := by unfold rowsOf; rw [List.length_map, List.length_map]
    rw [← hlen2, List.drop_length] at hrem
    rcases hrem with ⟨e, _⟩ | ⟨rest, e, hru, _, hin⟩
    · cases e
    cases rest with
    | cons _ _ => cases e
    | nil =>
      cases hru
      obtain ⟨dx2, la, xs, gv, bv, fv, bb⟩ := b3
      have eN : (!u.pend.is) = false := by rw [hup]; rfl
      walk_at "rb"
      intro H4 s4
      have b4 := bb.same s4
      have hl4 := b4.hl
      walk_at "rb"
      refine itN eN ?_
      walk_at "rb"
      have eD : (!u.done) = false := by rw [hud]; rfl
      refine itN eD ?_
      walk_at "rb"
      refine ⟨_, _, rfl, .inl ⟨SqL.of hl4, fun r1 hr1 => ?_⟩⟩
      have s5 := sm_new (Same.refl H4) (.tup xs) hr1
      walk_at "rb"
      refine tup_s rfl fun r2 hr2 => ?_
      have s6 := sm_new (Same.refl (upd H4 r1 (.tup xs))) (.tup [.str "net", .int u.inp, .ref r1]) hr2
      rw [hui] at s6 ⊢
      refine q _ _ (hs0.trans ((b4.sm.trans s5).trans s6)) ⟨.ref r1, Tup.new, xs, ⟨r1, rfl, s6 _ _ upd_same⟩, ?_⟩
      have al := b4.al
      rw [hub] at al
      exact al.mono fun _ _ z => LLAt.mono (sm_tk (s5.trans s6)) z
end
end Wh

/-! Defs that are run with no guard around: the text of data may be asked for in them. -/
namespace Wh
section
variable {P : Program} {w : World} {K : PySem.W.Frag} {mg : Str → Option Value} {base : Heap}
structure FnG (P : Program) (w : World) (K : PySem.W.Frag) (mg : Str → Option Value) (base : Heap) (k : Nat) (f : Addr) (fd : FuncData) (ps : List Str) (sp : Sp) : Prop where
  lenG : ∀ xs H Q E, sp xs H Q E → xs.length = ps.length
  runG : ∀ (A : Around) (out : List Env) (st : Shared) (H : Hp) (ar : Args) (us : List Value) (xs : List V) (Q : VK) (E : XK), Room k A → A.guards = some [] → Env0 P w K mg base A out st H → BindsTo st fd ar (ps.zip us) → Vals xs us → sp xs H Q E →
    codeAny (model P w) A (Code.call (Value.ref f) ar) (CR CX0 out P w H st Q E) st
theorem okG {x qual : Str} {stm : Stmt} {f : Addr} {fd : FuncData} {N ps : List Str} {k : Nat} {sp : Sp} (F : Fun K x qual stm f fd) (S : FnScope N ps (defScope stm)) (hlen : ∀ xs H Q E, sp xs H Q E → xs.length = ps.length)
    (hb : ∀ (cdv : Value) (A : Around) (out : List Env) (st : Shared) (H : Hp) (xs : List V) (Q : VK) (E : XK), A.guards = some [] → Room k (A.deeper (envOfC qual (defScope stm) st.heap.objs.size f cdv)) → sp xs H Q E →
      ∃ t, PSs (cxOf CX0 P w K mg base N qual (defScope stm) f cdv A out st H E).nox (defBody stm) t ∧ t { nx := fun _ G => Q V.non G, rt := Q } (start N xs) H) : FnG P w K mg base (k + 1) f fd ps sp := by
  obtain ⟨oc, od, kV, doc, pm, an, cdv, ct, osl, rfl, lk, hcd⟩ := F.ex
  constructor
  · exact hlen
  intro A out st H ar us xs Q E hr hgd e0 hbi hv hsp
  have n1 := hlen _ _ _ _ hsp
  have kx : K.In st.heap := e0.mod.kin.keeps (fun b o e => (e0.bs b o e).1)
  have lim : st.heap.NoLimit := e0.mod.nolimit.keeps (fun b o e => (e0.bs b o e).1)
  have kinds : ∀ y ∈ ps.zip us, (defScope stm).names.lookup y.1 = some .local ∨ ((defScope stm).names.lookup y.1 = some .cell ∧ ((cellsFrom (st.heap.objs.size + 1) (defScope stm).names []).lookup y.1).isSome = true) := by
    rintro ⟨a, v⟩ hy
    cases S.par a (List.of_mem_zip hy).1 with
    | inl z => exact Or.inl z
    | inr z => exact Or.inr ⟨z, PySem.W.cellsFrom_some _ _ _ (Or.inl z)⟩
  apply codeAny_call_function hr.depth (kx _ _ lk) rfl S.co S.gen rfl (PySem.W.codeRec_of kx hcd)
  apply hbi
  apply wpAny_newFunctionEnv_cells S.kind kinds
  intro env he s1 xx
  subst he
  refine ⟨lim.keeps xx.toInCall.keep, codeAny_func ?_⟩
  obtain ⟨t, ht, hq⟩ := hb cdv A out st H xs Q E hgd (hr.deeper _) hsp
  have inv : Inv (cxOf CX0 P w K mg base N qual (defScope stm) f cdv A out st H E) [] (start N xs) H s1 := inv_start S hr.hd e0 n1 hv xx
  have go := ht.nox.run [] s1 (start N xs) H _ inv hq
  refine wpAny_mono go ?_ (fun e s2 hs => hs)
  intro fl s2 hs
  cases fl with
  | ret u =>
    obtain ⟨v, σ2, H2, J, rv, qq⟩ := hs
    exact ⟨v, H2, J.os, J.bare, J.base, J.hok, rv, qq⟩
  | next =>
    obtain ⟨σ2, H2, J, qq⟩ := hs
    exact ⟨V.non, H2, J.os, J.bare, J.base, J.hok, rfl, qq⟩
  | brk =>
    obtain ⟨_, _, _, qq⟩ := hs
    exact qq.elim
  | cont =>
    obtain ⟨_, _, _, qq⟩ := hs
    exact qq.elim
end
section
variable (P : Program) (w : World) (K : PySem.W.Frag) (mg : Str → Option Value) (base : Heap)
structure ClG (k : Nat) (x : Str) (ps : List Str) (sp : Sp) : Prop where
  ex : ∃ f fd, FnG P w K mg base k f fd ps sp ∧ mg x = some (.ref f) ∧ PySem.W.keepIn K (.ref f) = true ∧ Binds K fd ps []
end
theorem pclG {X : Cx} {x : Str} {k j : Nat} {ps : List Str} {sp : Sp} {e : Expr} {es : List Expr} {t : TA} {p pos : Pos} (hgd : X.A.guards = some []) (G : ClG X.prog X.w X.K X.mg X.base k x ps sp) (hr : Room j X.A) (ha : PA X (e :: es) t)
    (h : k ≤ j := by first | decide | omega) (hg : Gl X x := by rfl) (hdb : (x == ("__debug__" : Str)) = false := by decide) (he : starEach (e :: es) X.env = (false, eval e X.env) :: starEach es X.env := by rfl)
    (hpl : (backTo pos (starEach es X.env)).any (·.1) = false := by rfl) : PE X (.Call (.Name x p) (e :: es) [] pos) (tCall sp [] E0 t) := by
  obtain ⟨f, fd, F, hm, hk, hb⟩ := G.ex
  constructor
  intro pins st σ H Q I q0
  apply wpAny_Call_Name_kw
  refine ld_glob I hg hm ?_ hdb
  refine PySem.W.callWith_K (h₀ := X.base) I.ok.mod.kin hk ?_ he hpl
  refine thn (ha.run pos pins st σ H _ I q0) ?_
  rintro us s1 ⟨xs, H1, I1, r, qq⟩
  refine ⟨I1.kIn, ?_⟩
  have r2 : Vals (xs ++ []) (us ++ []) := r.append .nil
  have n1 : (us ++ []).length = ps.length := by rw [← r2.length]; exact F.lenG _ _ _ _ qq
  refine wpAny_call (codeAny_mono (F.runG X.A X.stack s1 H1 ⟨us, []⟩ (us ++ []) (xs ++ []) Q E0 (hr.mono h) hgd I1.env0 (hb s1 us I1.kIn n1) r2 qq) ?_)
  intro rr s2 hq
  cases rr with
  | error e => exact hq.elim
  | ok fl =>
    cases fl with
    | ret u => exact I1.after hq
    | next => exact hq.elim
    | brk => exact hq.elim
    | cont => exact hq.elim
/-- the law at one list of ints -/
theorem lawG {P : Program} {w : World} {K : PySem.W.Frag} {mg mb : Str → Option Value} {k : Nat} {fa a : Addr} {fd : FuncData} {x : Str} {sp : Sp} {st : Shared} {us : List Value} {ns : List Int} (kx : K.In st.heap) (hns : st.heap.Ns mainGlobals mg) (hmb : st.heap.Ns builtinsNs mb)
    (hbb : ∀ y : Str, y ≠ "__name__" → mb y = bootBuiltins y) (lim : st.heap.NoLimit) (hg : st.gens = #[]) (ha : st.heap.get? a = some { cls := .type "list", data := .seq us.toArray }) (hi : IntsAre us ns) (hl : ns.length ≤ sizeLine) (hr : Room k callerA)
    (F : ∀ base : Heap, K.In base → base.Ns mainGlobals mg → FnG P w K mg base k fa fd [x] sp) (hbi : ∀ (s : Shared) (u : Value), BindsTo s fd ⟨[u], []⟩ [(x, u)])
    (hsp : ∀ H : Hp, Only H → SqL K H a (ns.map V.int) → sp [.ref a] H (fun v _ => v = .bl true) fun _ _ _ => False) :
    codeAny (model P w) callerA (.call (.ref fa) ⟨[.ref a], []⟩) (fun r s' => r = .ok (.ret (.bool true)) ∧ OldK st.heap s'.heap ∧ s'.os = st.os ∧ AllBare s'.gens) st := by
  have rv := vals_ints hi
  have core : ∀ H : Hp, Only H → SqL K H a (ns.map V.int) → HOk P w H st.heap → (∀ b, H b ≠ none → b = a) → (H a ≠ none → K.lookup a = none) →
      codeAny (model P w) callerA (.call (.ref fa) ⟨[.ref a], []⟩) (fun r s' => r = .ok (.ret (.bool true)) ∧ OldK st.heap s'.heap ∧ s'.os = st.os ∧ AllBare s'.gens) st := by
    intro H hO hS hok hA hK
    have bo : ∀ {b : Addr} {o : Obj}, st.heap.get? b = some o → H b = none → (hidT st.heap H).get? b = some o := fun e n => hidT_get e n
    have noA : ∀ {b : Addr} {o : Obj} {es : Array DictEntry} {ep : Nat}, st.heap.get? b = some o → o.data = .dict es ep → H b = none := by
      intro b o es ep e d
      cases z : H b with
      | none => rfl
      | some u =>
        have e2 : b = a := hA b (by rw [z]; simp)
        subst e2
        rw [ha] at e
        cases e
        have d2 : Data.seq us.toArray _ = Data.dict es ep := d
        cases d2
    have nsK : ∀ {b : Addr} {m : Str → Option Value}, st.heap.Ns b m → (hidT st.heap H).Ns b m := by
      rintro b m ⟨o, es, ep, e, d, r⟩
      exact ⟨o, es, ep, bo e (noA e d), d, r⟩
    have kb : K.In (hidT st.heap H) := by
      intro b o e
      refine bo (kx b o e) ?_
      cases z : H b with
      | none => rfl
      | some u =>
        have e2 : b = a := hA b (by rw [z]; simp)
        subst e2
        rw [hK (by rw [z]; simp)] at e
        cases e
    obtain ⟨mc, l1, l2⟩ := lim
    have md : Mod K mg (hidT st.heap H) := ⟨kb, nsK hns, ⟨mb, nsK hmb, hbb⟩, ⟨mc, nsK l1, l2⟩⟩
    have e0 : Env0 P w K mg (hidT st.heap H) callerA [] st H := ⟨rfl, md, (fun b o e => of_hidT e), Nat.le_of_eq (hidT_size _ _), trivial, (fun b hb => absurd (show b ∈ ([] : List Addr) from hb) (by simp)), hok, .of_eq hg⟩
    have go := (F _ kb (nsK hns)).runG callerA [] st H ⟨[.ref a], []⟩ [.ref a] [.ref a] _ _ hr rfl e0 (hbi st (.ref a)) (.cons rfl .nil) (hsp H hO hS)
    refine codeAny_mono go ?_
    intro r s2 h
    cases r with
    | error e => exact h.elim
    | ok fl =>
      cases fl with
      | next => exact h.elim
      | brk => exact h.elim
      | cont => exact h.elim
      | ret u =>
        obtain ⟨v, H2, os, bare, un, hok2, r2, q⟩ := h
        have q2 : v = .bl true := q
        subst q2
        obtain rfl : u = Value.bool true := r2
        refine ⟨rfl, OldK.of_keep ?_, os, bare⟩
        intro b o e
        cases z : H b with
        | none => exact un.keep b o e z (by intro y; exact absurd (show b ∈ ([] : List Addr) from y) (by simp)) (by simp)
        | some u =>
          rcases hO b with y | ⟨ob, xs, y⟩
          · rw [z] at y
            cases y
          · have y2 := un.frzs b ob _ y
            obtain ⟨e1, _⟩ := hok b _ y
            obtain ⟨e2, _⟩ := hok2 b _ y2
            rw [e] at e1
            cases e1
            exact e2
  have ln : us.length = ns.length := hi.length
  cases hk : K.lookup a with
  | some o =>
    have e := kx a o hk
    rw [ha] at e
    cases e
    have z0 : SqL K (fun _ => none) a (ns.map V.int) := .inr ⟨_, us.toArray, _, hk, rfl, rfl, rfl, by rw [List.size_toArray, ln]; exact hl, by simpa using rv⟩
    exact core (fun _ => none) (fun _ => .inl rfl) z0 (fun b u z => by cases (show (none : Option HO) = some u from z)) (fun b z => absurd rfl z) (fun z => absurd rfl z)
  | none =>
    have z0 : SqL K (fun b => if b = a then some (.frz { cls := .type "list", data := .seq us.toArray } (.lst (ns.map V.int))) else none) a (ns.map V.int) := .inl (.inr ⟨{ cls := .type "list", data := .seq us.toArray }, if_pos rfl⟩)
    refine core _ (fun b => ?_) z0 (fun b u z => ?_) (fun b z => ?_) (fun _ => hk)
    · by_cases hb : b = a
      · exact .inr ⟨_, _, if_pos hb⟩
      · exact .inl (if_neg hb)
    · by_cases hb : b = a
      · cases (if_pos hb).symm.trans z
        subst hb
        exact ⟨ha, by rw [List.length_map]; exact hl, us, _, rv, ha⟩
      · cases (if_neg hb).symm.trans z
    · by_cases hb : b = a
      · exact hb
      · exact absurd (if_neg hb) z
theorem walkG {l : PySem.W.OpenLaw} {n k : Nat} {q : Program} {loose : List Str} {XP : (Str → Option Value) → Heap → Prop} {YP : World → Heap → Prop} {d : DefRec} {x : Str} (hn : l.most = some n) (hn2 : n ≤ sizeLine) (hdf : d.params.defaults = []) (hr : Room k callerA)
    (F : ∀ (w : World) (mg : Str → Option Value) (fa : Addr) (h : Heap), YP w h → h.Ns mainGlobals mg → mg d.name = some (.ref fa) →
      ∃ (K : PySem.W.Frag) (fd : FuncData) (sp : Sp), K.In h ∧ (∀ (s : Shared) (u : Value), BindsTo s fd ⟨[u], []⟩ [(x, u)]) ∧ (∀ (H : Hp) (a : Addr) (ns : List Int), ns.length ≤ n → Only H → SqL K H a (ns.map V.int) → sp [.ref a] H (fun v _ => v = .bl true) fun _ _ _ => False) ∧
        ∀ base : Heap, K.In base → base.Ns mainGlobals mg → FnG l.prog w K mg base k fa fd [x] sp) :
    PySem.W.WalkO q loose XP YP l.row.toRowW d [] (fun f vs => PySem.call f vs) := by
  apply Att.attach_call hn hdf
  intro w s0 s1 mg mb fa o pm cd doc a us ns G Y ho hd hcd hmg hobj hints hlen hg
  obtain ⟨K, fd, sp, kx, hb, hsp, hF⟩ := F w mg fa _ Y G.T.g hmg
  exact lawG kx G.T.g G.T.b G.T.builtins G.T.nolimit hg hobj hints (Nat.le_trans hlen hn2) hr hF hb (fun H hO hS => hsp H a ns hlen hO hS)
end Wh

/-! The text of a net's data; _law_same. -/

namespace Wh
open TL
def netD (n : Nat) (ls : List LL) : PyData := .tuple [.str "net", .int n, .tuple (ls.map LL.d)]
theorem dp_net {K : PySem.W.Frag} {H : Hp} {v : V} {n : Nat} {ls : List LL} (h : NetAt H v n ls) : Dp K H v (netD n ls) := by
  obtain ⟨x, t, xs, tx, al⟩ := h
  exact dp_tup t (.cons (.str _) (.cons (.int _) (.cons (dp_tup tx (dp_all (fun _ _ z => dp_ll z) al)) .nil)))
/-- it may be shown, its depth, its text's size -/
def Sd (k m : Nat) (d : PyData) : Prop := d.showable = true ∧ d.hasDict = false ∧ d.depth ≤ k ∧ d.shown.length ≤ m
theorem Sd.up {k m j n : Nat} {d : PyData} (h : Sd k m d) (a : k ≤ j) (b : m ≤ n) : Sd j n d := ⟨h.1, h.2.1, Nat.le_trans h.2.2.1 a, Nat.le_trans h.2.2.2 b⟩
theorem sd_int {z : Int} (h : Num z) : Sd 0 8 (.int z) := ⟨by simp only [PyData.showable]; exact decide_eq_true (log_small h), by simp only [PyData.hasDict], by simp only [PyData.depth]; exact Nat.le_refl 0, by
  have q := (num_wd h).2.2
  rw [← len_tl] at q
  show (PyData.shown (.int z)).length ≤ 8
  rw [PyData.shown]
  exact q⟩
theorem sd_str {x : Str} (h : Nat.ble (reprText x).length 20 = true) : Sd 0 20 (.str x) := ⟨by simp only [PyData.showable], by simp only [PyData.hasDict], by simp only [PyData.depth]; exact Nat.le_refl 0, by rw [PyData.shown]; exact Nat.le_of_ble_eq_true h⟩
theorem sd_all {k m : Nat} : ∀ {ds : List PyData}, (∀ d ∈ ds, Sd k m d) → PyData.showableAll ds = true ∧ PyData.hasDictAll ds = false ∧ PyData.depthAll ds ≤ k ∧ ((PyData.shownAll ds).map (·.length)).sum ≤ m * ds.length ∧ (PyData.shownAll ds).length = ds.length
  | [], _ => ⟨by simp [PyData.showableAll], by simp [PyData.hasDictAll], by simp [PyData.depthAll], by simp [PyData.shownAll], by simp [PyData.shownAll]⟩
  | d :: ds, h => by
    have a := h d List.mem_cons_self
    obtain ⟨b1, b2, b3, b4, b5⟩ := sd_all (ds := ds) fun x hx => h x (List.mem_cons_of_mem _ hx)
    refine ⟨by rw [PyData.showableAll, a.1, b1]; rfl, by rw [PyData.hasDictAll, a.2.1, b2]; rfl, by rw [PyData.depthAll]; exact Nat.max_le.mpr ⟨a.2.2.1, b3⟩, ?_, by rw [PyData.shownAll, List.length_cons, List.length_cons, b5]⟩
    rw [PyData.shownAll, List.map_cons, List.sum_cons, List.length_cons, Nat.mul_succ]
    have := a.2.2.2
    omega
theorem sd_tup {k m c : Nat} {ds : List PyData} (h : ∀ d ∈ ds, Sd k m d) (hc : ds.length ≤ c) : Sd (k + 1) ((m + 2) * c + 3) (.tuple ds) := by
  obtain ⟨a, b, d, e, g⟩ := sd_all h
  refine ⟨by rw [PyData.showable]; exact a, by rw [PyData.hasDict]; exact b, by rw [PyData.depth]; exact Nat.succ_le_succ d, ?_⟩
  rw [PyData.shown]
  have q := tupleText_len_le (PyData.shownAll ds)
  rw [g] at q
  have e2 : m * ds.length ≤ m * c := Nat.mul_le_mul_left _ hc
  rw [Nat.add_mul]
  omega
theorem sd_map {α : Type} {k m : Nat} {g : α → PyData} {ds : List α} (h : ∀ d ∈ ds, Sd k m (g d)) : ∀ d ∈ ds.map g, Sd k m d := fun d hd => by
  obtain ⟨x, hx, rfl⟩ := List.mem_map.mp hd
  exact h x hx
theorem sd_iD {ns : List Int} (h : ∀ z ∈ ns, Num z) (l : ns.length ≤ 16) : Sd 1 200 (iD ns) := (sd_tup (c := 16) (sd_map fun z hz => sd_int (h z hz)) (by rw [List.length_map]; exact l)).up (by decide) (by decide)
theorem sd_rows {n m : Nat} {rows : List (List Int)} (h : RowsOk m n rows) (hn : n ≤ 16) (hm : m ≤ 16) : Sd 2 3300 (.tuple (rows.map iD)) :=
  (sd_tup (c := 16) (sd_map fun r hr => sd_iD (fun z hz => wok_num ((h.2 r hr).2 z hz)) (by rw [(h.2 r hr).1]; exact hn)) (by rw [List.length_map, h.1]; exact hm)).up (by decide) (by decide)
theorem sd_kw {x : Str} {k : Nat} (h : Nat.ble (reprText x).length 20 = true) : Sd k 3300 (.str x) := (sd_str h).up (Nat.zero_le _) (by decide)
theorem sd_n {z : Int} {k : Nat} (h : Num z) : Sd k 3300 (.int z) := (sd_int h).up (Nat.zero_le _) (by decide)
theorem sd_pl {n : Nat} (hn : n ≤ 16) : ∀ {l : PL}, l.wf n → Sd 3 13300 l.d
  | .dense rows bs, ⟨b1, b2, hr, hb⟩ => (sd_tup (c := 4) (alc (sd_kw (by decide +kernel)) (alc (sd_rows hr hn b2) (al1 ((sd_iD (fun z hz => wok_num (hb z hz)) b2).up (j := 2) (n := 3300) (by decide) (by decide))))) (Nat.le_of_ble_eq_true rfl)).up (by decide) (by decide)
  | .conv ks bs st, ⟨b1, b2, k1, k3, kn, hr, hb, s1, s3⟩ => (sd_tup (c := 4) (alc (sd_kw (by decide +kernel)) (alc (sd_rows hr (by omega) (by omega)) (alc ((sd_iD (fun z hz => wok_num (hb z hz)) (by omega)).up (j := 2) (n := 3300) (by decide) (by decide)) (al1 (sd_n (nat_num (by omega))))))) (Nat.le_of_ble_eq_true rfl)).up (by decide) (by decide)
  | .relu, _ => (sd_tup (c := 4) (k := 2) (al1 (sd_kw (by decide +kernel))) (Nat.le_of_ble_eq_true rfl)).up (by decide) (by decide)
  | .clamp lo hi, ⟨a, b, c⟩ => (sd_tup (c := 4) (k := 2) (alc (sd_kw (by decide +kernel)) (alc (sd_n ⟨by omega, by omega⟩) (al1 (sd_n ⟨by omega, by omega⟩)))) (Nat.le_of_ble_eq_true rfl)).up (by decide) (by decide)
  | .mx s, ⟨h, _⟩ => (sd_tup (c := 4) (k := 2) (alc (sd_kw (by decide +kernel)) (al1 (sd_n (nat_num (by have := sizes_le h; omega))))) (Nat.le_of_ble_eq_true rfl)).up (by decide) (by decide)
  | .mean s, ⟨h, _⟩ => (sd_tup (c := 4) (k := 2) (alc (sd_kw (by decide +kernel)) (al1 (sd_n (nat_num (by have := sizes_le h; omega))))) (Nat.le_of_ble_eq_true rfl)).up (by decide) (by decide)
theorem sd_plAll : ∀ {ls : List PL} {n : Nat}, pwf n ls → psm n ls → ∀ l ∈ ls, Sd 3 13300 l.d
  | l :: ls, n, hw, hs, x, hx => by
    rcases List.mem_cons.mp hx with rfl | hx
    · exact sd_pl hs.1.2 hw.1
    · exact sd_plAll hw.2 hs.2 x hx
theorem sd_pls {ls : List PL} {n : Nat} (hw : pwf n ls) (hs : psm n ls) (f : ls.length ≤ 2) : Sd 4 27000 (.tuple (ls.map PL.d)) := (sd_tup (c := 2) (sd_map (sd_plAll hw hs)) (by rw [List.length_map]; exact f)).up (by decide) (by decide)
theorem sd_ll {n : Nat} (hn : n ≤ 16) : ∀ {l : LL}, l.wf n → l.few → Sd 5 82000 l.d
  | .p l, h, _ => (sd_pl hn (l := l) h).up (by decide) (by decide)
  | .sm a b, ⟨⟨a1, a2⟩, ⟨b1, b2⟩, _⟩, f => (sd_tup (c := 3) (alc ((sd_str (by decide +kernel)).up (j := 4) (n := 27000) (by decide) (by decide)) (alc (sd_pls a1 a2 f.1) (al1 (sd_pls b1 b2 f.2)))) (Nat.le_of_ble_eq_true rfl)).up (by decide) (by decide)
  | .fk a b, ⟨⟨a1, a2⟩, ⟨b1, b2⟩⟩, f => (sd_tup (c := 3) (alc ((sd_str (by decide +kernel)).up (j := 4) (n := 27000) (by decide) (by decide)) (alc (sd_pls a1 a2 f.1) (al1 (sd_pls b1 b2 f.2)))) (Nat.le_of_ble_eq_true rfl)).up (by decide) (by decide)
theorem sd_llAll : ∀ {ls : List LL} {n : Nat}, lwf n ls → lsm n ls → (∀ l ∈ ls, l.few) → ∀ l ∈ ls, Sd 5 82000 l.d
  | l :: ls, n, hw, hs, f, x, hx => by
    rcases List.mem_cons.mp hx with rfl | hx
    · exact sd_ll hs.1.2 hw.1 (f _ List.mem_cons_self)
    · exact sd_llAll hw.2 hs.2 (fun y hy => f y (List.mem_cons_of_mem _ hy)) x hx
theorem sd_net {n : Nat} {ls : List LL} (h : NetOk n ls) : Sd 7 1000000 (netD n ls) := by
  have l6 : Sd 6 330000 (.tuple (ls.map LL.d)) := (sd_tup (c := 4) (sd_map (sd_llAll h.wf h.sm h.few)) (by rw [List.length_map]; exact h.len)).up (by decide) (by decide)
  exact (sd_tup (c := 3) (alc ((sd_str (by decide +kernel)).up (j := 6) (n := 330000) (by decide) (by decide)) (alc ((sd_int (nat_num (by have := h.n4; omega))).up (j := 6) (n := 330000) (by decide) (by decide)) (al1 l6))) (Nat.le_of_ble_eq_true rfl)).up (by decide) (by decide)
def sp_same : Sp := fun vs H Q _ => ∃ (v1 v2 : V) (n : Nat) (ls : List LL), vs = [v1, v2] ∧ NetAt H v1 n ls ∧ NetAt H v2 n ls ∧ NetOk n ls ∧ Q (.bl true) H
section
variable {P : Program} {w : World} {K : PySem.W.Frag} {mg : Str → Option Value} {base : Heap} {C W M f : Addr} {fd : FuncData}
theorem ok_same (F : Fun K "_law_same" "_law_same" s_law_same f fd) (T : Tx K w mg C W M) : FnG P w K mg base 1 f fd P_law_same sp_same := by
  refine okG F sc_law_same (fun vs H Q E h => ?_) (fun cdv A outer s H vs Q E hgd hr h => ?_)
  · obtain ⟨v1, v2, n, ls, rfl, _⟩ := h
    rfl
  obtain ⟨v1, v2, n, ls, rfl, h1, h2, hok, q⟩ := h
  have hg : (A.deeper (envOfC "_law_same" (defScope s_law_same) s.heap.objs.size f cdv)).guards = some [] := hgd
  obtain ⟨d1, d2, d3, d4⟩ := sd_net hok
  refine ⟨_, (pss_one (ps_ret (pe_cmpR op_eq (pe_callB (call_repr_dat hg hr.units) rfl T.f_repr (by decide +kernel) (pa_cons (pv 0) pa_nil)) (pe_callB (call_repr_dat hg hr.units) rfl T.f_repr (by decide +kernel) (pa_cons (pv 1) pa_nil)) (nomark _)))), ?_⟩
  have dp1 := dp_net (K := K) h1
  have dp2 := dp_net (K := K) h2
  obtain ⟨x1, ⟨a1, rfl, _⟩, _⟩ := h1
  obtain ⟨x2, ⟨a2, rfl, _⟩, _⟩ := h2
  walk_at "rb"
  refine ⟨a1, netD n ls, rfl, dp1, d1, d2, Nat.le_trans d3 (by decide), Nat.le_trans d4 (by rw [sizeLine_eq]; decide), ?_⟩
  walk_at "rb"
  refine ⟨a2, netD n ls, rfl, dp2, d1, d2, Nat.le_trans d3 (by decide), Nat.le_trans d4 (by rw [sizeLine_eq]; decide), ?_⟩
  walk_at "rb"
  rw [decide_eq_true rfl]
  exact q
end
end Wh

/-! Plain: the loose lines of a text. -/
namespace Wh
open TL
def chOk (z : Str) : Prop := ∀ c ∈ tl z, c ∈ tl chrS ∧ c ≠ 10
def chB (z : Str) : Bool := (tl z).all fun c => (tl chrS).contains c && !decide (c = 10)
theorem chB_ok {z : Str} (h : chB z = true) : chOk z := fun c hc => by
  have q := List.all_eq_true.mp h c hc
  simp only [Bool.and_eq_true, Bool.not_eq_true', decide_eq_false_iff_not, List.contains_iff_mem] at q
  exact q
theorem gc_all : ((List.range 123).all fun c => !((decide (48 ≤ c) && decide (c ≤ 57)) || decide (c = 45) || decide (97 ≤ c) || decide (c = 32)) || ((tl chrS).contains c && !decide (c = 10))) = true := by decide +kernel
theorem gc_ch {c : Nat} (h : gc c ∨ c = 32) : c ∈ tl chrS ∧ c ≠ 10 := by
  have l : c < 123 := by
    unfold gc at h
    omega
  have q := List.all_eq_true.mp gc_all c (List.mem_range.mpr l)
  have e : ((decide (48 ≤ c) && decide (c ≤ 57)) || decide (c = 45) || decide (97 ≤ c) || decide (c = 32)) = true := by
    simp only [Bool.or_eq_true, Bool.and_eq_true, decide_eq_true_eq]
    unfold gc at h
    omega
  rw [e] at q
  simp only [Bool.not_true, Bool.false_or, Bool.and_eq_true, Bool.not_eq_true', decide_eq_false_iff_not, List.contains_iff_mem] at q
  exact q
theorem rep_ch (k : Nat) : ∀ c ∈ List.replicate k 32, c ∈ tl chrS ∧ c ≠ 10 := fun c hc => gc_ch (.inr (List.eq_of_mem_replicate hc))
/-- lines, and which of them count -/
structure Good (zs : List Str) (L : List Ln) (m : Nat) : Prop where
  rows : (zs.map fun r => wo (tl r)).filter fw = L.map lw
  each : ∀ z ∈ zs, chOk z ∧ z.length ≤ 1000
  sum : (zs.map fun z => z.length + 1).sum ≤ m
theorem Good.nil : Good [] [] 0 := ⟨rfl, (fun _ z => nomatch z), Nat.le_refl 0⟩
theorem Good.up {zs : List Str} {L : List Ln} {m n : Nat} (h : Good zs L m) (l : m ≤ n) : Good zs L n := ⟨h.rows, h.each, Nat.le_trans h.sum l⟩
theorem len_sum : ∀ zs : List Str, zs.length ≤ (zs.map fun z => z.length + 1).sum
  | [] => Nat.le_refl 0
  | z :: zs => by
    rw [List.map_cons, List.sum_cons, List.length_cons]
    have := len_sum zs
    omega
theorem Good.len {zs : List Str} {L : List Ln} {m : Nat} (h : Good zs L m) : zs.length ≤ m := Nat.le_trans (len_sum zs) h.sum
def exOk (z : Str) : Prop := wo (tl z) = [] ∧ chOk z ∧ z.length ≤ 12
def exB2 (z : Str) : Bool := (wo (tl z)).isEmpty && chB z && Nat.ble z.length 12
theorem exB_ok {z : Str} (h : exB2 z = true) : exOk z := by
  simp only [exB2, Bool.and_eq_true] at h
  exact ⟨List.isEmpty_iff.mp h.1.1, chB_ok h.1.2, Nat.le_of_ble_eq_true h.2⟩
theorem Good.no {zs : List Str} {L : List Ln} {m : Nat} {z : Str} (h : Good zs L m) (hz : exOk z) : Good (zs ++ [z]) L (m + 13) := by
  refine ⟨?_, fun y hy => ?_, ?_⟩
  · rw [List.map_append, List.filter_append, h.rows]
    show _ ++ List.filter fw [wo (tl z)] = _
    rw [hz.1]
    exact List.append_nil _
  · rcases List.mem_append.mp hy with hy | hy
    · exact h.each y hy
    · rw [List.mem_singleton.mp hy]
      exact ⟨hz.2.1, Nat.le_trans hz.2.2 (by decide)⟩
  · rw [List.map_append, List.sum_append]
    show _ + (z.length + 1 + 0) ≤ _
    have := h.sum
    have := hz.2.2
    omega
theorem Good.yes {zs : List Str} {L : List Ln} {m : Nat} {z : Str} {l : Ln} (h : Good zs L m) (h1 : wo (tl z) = lw l) (h2 : chOk z) (h3 : z.length ≤ 230) : Good (zs ++ [z]) (L ++ [l]) (m + 231) := by
  refine ⟨?_, fun y hy => ?_, ?_⟩
  · rw [List.map_append, List.filter_append, h.rows, List.map_append]
    show _ ++ List.filter fw [wo (tl z)] = _ ++ [lw l]
    rw [h1, List.filter_cons, if_pos (fw_cons (lw_ne l))]
    rfl
  · rcases List.mem_append.mp hy with hy | hy
    · exact h.each y hy
    · rw [List.mem_singleton.mp hy]
      exact ⟨h2, Nat.le_trans h3 (by decide)⟩
  · rw [List.map_append, List.sum_append]
    show _ + (z.length + 1 + 0) ≤ _
    have := h.sum
    omega
def exS : List Str := ["", "   ", "# net 3 done", "  #row ~ (", "#"]
def enS : List Str := ["", "# end", "  "]
def sfS : List Str := ["", " ", "  # 1 2 done", " #x", "   #"]
theorem exS_ok : ∀ z ∈ exS, exOk z := fun z hz => exB_ok (List.all_eq_true.mp (show exS.all exB2 = true by decide +kernel) z hz)
theorem enS_ok : ∀ z ∈ enS, exOk z := fun z hz => exB_ok (List.all_eq_true.mp (show enS.all exB2 = true by decide +kernel) z hz)
def tailB (l : List Nat) : Bool :=
  match l with
  | [] => true
  | c :: u => decide (c = 32) && (wo u).isEmpty
theorem tailB_ok {l : List Nat} (h : tailB l = true) : Tail l := by
  cases l with
  | nil => exact .inl rfl
  | cons c u =>
    simp only [tailB, Bool.and_eq_true, decide_eq_true_eq] at h
    obtain ⟨rfl, e⟩ := h
    exact .inr ⟨u, rfl, List.isEmpty_iff.mp e⟩
theorem sfS_ok : ∀ z ∈ sfS, Tail (tl z) ∧ chOk z ∧ z.length ≤ 12 := fun z hz => by
  have q := List.all_eq_true.mp (show sfS.all (fun z => tailB (tl z) && chB z && Nat.ble z.length 12) = true by decide +kernel) z hz
  simp only [Bool.and_eq_true] at q
  exact ⟨tailB_ok q.1.1, chB_ok q.1.2, Nat.le_of_ble_eq_true q.2⟩
/-- a line's text as it grows -/
structure Grow (t : Str) (ws : List Str) (k : Nat) : Prop where
  bl : Bl (tl t) (ws.map tl)
  ch : chOk t
  len : t.length ≤ k
theorem Grow.start {n : Int} (h0 : 0 ≤ n) (h1 : n ≤ 3) : Grow (Txt.mul " " n) [] 3 := by
  have e := tl_mulS h0 h1
  refine ⟨by rw [e]; exact bl_rep _, fun c hc => ?_, ?_⟩
  · rw [e] at hc
    exact rep_ch _ c hc
  · rw [len_tl, e, List.length_replicate]
    omega
theorem Grow.word {t x : Str} {ws : List Str} {k : Nat} {n : Int} (h : Grow t ws k) (hx : WdOk x) (h0 : 1 ≤ n) (h1 : n ≤ 3) : Grow (t ++ x ++ Txt.mul " " n) (ws ++ [x]) (k + 11) := by
  have e := tl_mulS (n := n) (by omega) h1
  obtain ⟨m, hm⟩ : ∃ m, n.toNat = m + 1 := ⟨n.toNat - 1, by omega⟩
  rw [hm] at e
  refine ⟨?_, fun c hc => ?_, ?_⟩
  · rw [tl_append, tl_append, e, List.map_append]
    exact bl_word h.bl hx.wd m
  · rw [tl_append, tl_append, e] at hc
    rcases List.mem_append.mp hc with hc | hc
    · rcases List.mem_append.mp hc with hc | hc
      · exact h.ch c hc
      · exact gc_ch (.inl (hx.2.1 c hc))
    · exact rep_ch _ c hc
  · rw [len_cat, len_cat]
    have a := h.len
    have b := hx.2.2
    rw [← len_tl] at b
    have c : (Txt.mul " " n).length = m + 1 := by rw [len_tl, e, List.length_replicate]
    omega
theorem Grow.fin {t s : Str} {ws : List Str} {k : Nat} (h : Grow t ws k) (hs : s ∈ sfS) : wo (tl (Txt.rstripChars t " " ++ s)) = ws.map tl ∧ chOk (Txt.rstripChars t " " ++ s) ∧ (Txt.rstripChars t " " ++ s).length ≤ k + 12 := by
  obtain ⟨m, e⟩ := tl_rstrip t
  obtain ⟨a, b⟩ := bl_strip h.bl e
  obtain ⟨s1, s2, s3⟩ := sfS_ok s hs
  refine ⟨by rw [tl_append, wo_tail a s1, b], fun c hc => ?_, ?_⟩
  · rw [tl_append] at hc
    rcases List.mem_append.mp hc with hc | hc
    · exact h.ch c (by rw [e]; exact List.mem_append_left _ hc)
    · exact s2 c hc
  · have l := h.len
    rw [len_tl, e, List.length_append, List.length_replicate, ← len_tl] at l
    rw [len_cat]
    omega
theorem joinL_sum : ∀ xs : List (List Nat), (joinL [10] xs).length ≤ (xs.map fun x => x.length + 1).sum
  | [] => Nat.le_refl 0
  | [x] => by
    show x.length ≤ x.length + 1 + 0
    omega
  | x :: y :: r => by
    have q := joinL_sum (y :: r)
    show (x ++ ([10] ++ joinL [10] (y :: r))).length ≤ _
    rw [List.length_append, List.length_append, List.map_cons, List.sum_cons]
    show x.length + (1 + _) ≤ _
    omega
theorem joinL_mem : ∀ {xs : List (List Nat)} {c : Nat}, c ∈ joinL [10] xs → c = 10 ∨ ∃ x ∈ xs, c ∈ x
  | [], c, h => nomatch h
  | [x], c, h => .inr ⟨x, List.mem_cons_self, h⟩
  | x :: y :: r, c, h => by
    rcases List.mem_append.mp (show c ∈ x ++ ([10] ++ joinL [10] (y :: r)) from h) with h | h
    · exact .inr ⟨x, List.mem_cons_self, h⟩
    rcases List.mem_append.mp h with h | h
    · exact .inl (List.mem_singleton.mp h)
    · rcases joinL_mem h with h | ⟨z, hz, hc⟩
      · exact .inl h
      · exact .inr ⟨z, List.mem_cons_of_mem _ hz, hc⟩
theorem tl_nl : tl ("\n" : Str) = [10] := by decide +kernel
theorem ten_in : (10 : Nat) ∈ tl chrS := by decide +kernel
/-- the text of good lines -/
theorem Good.text {zs : List Str} {L : List Ln} {m : Nat} (h : Good zs L m) (hm : m ≤ 60000) (hne : L ≠ []) :
    (Txt.join "\n" zs).length ≤ 60000 ∧ (∀ c ∈ tl (Txt.join "\n" zs), c ∈ tl chrS) ∧ Txt.split (Txt.join "\n" zs) "\n" = zs ∧ (∀ r ∈ zs, r.length ≤ 1000) ∧ rowsOf (Txt.join "\n" zs) = zs.map (fun r => wo (tl r)) := by
  have zne : zs ≠ [] := fun e => by
    have q := h.rows
    rw [e] at q
    exact hne (List.map_eq_nil_iff.mp q.symm)
  have sp := split_join (y := "\n") (s := 10) (S := []) tl_nl (by decide +kernel) zne fun z hz hc => ((h.each z hz).1 10 hc).2 rfl
  refine ⟨?_, fun c hc => ?_, sp, fun r hr => (h.each r hr).2, by unfold rowsOf; rw [sp]⟩
  · rw [len_tl, join_eq, tl_join, tl_nl]
    have a := joinL_sum (zs.map tl)
    rw [List.map_map] at a
    have b := h.sum
    have e : (zs.map ((fun x => x.length + 1) ∘ tl)) = zs.map fun z => z.length + 1 := List.map_congr_left fun z _ => by
      show (tl z).length + 1 = z.length + 1
      rw [← len_tl]
    rw [e] at a
    omega
  · rw [join_eq, tl_join, tl_nl] at hc
    rcases joinL_mem hc with rfl | ⟨x, hx, hcx⟩
    · exact ten_in
    · obtain ⟨z, hz, rfl⟩ := List.mem_map.mp hx
      exact ((h.each z hz).1 c hcx).1
theorem sum_len : ∀ zs : List Str, (zs.map (·.length)).sum + zs.length * 1 ≤ (zs.map fun z => z.length + 1).sum
  | [] => Nat.le_refl 0
  | z :: zs => by
    rw [List.map_cons, List.sum_cons, List.map_cons, List.sum_cons, List.length_cons]
    have := sum_len zs
    omega
theorem mulOk1 {n : Int} (h0 : 0 ≤ n) (h : n ≤ 3) : MulOk " " n := by
  have q : n = 0 ∨ n = 1 ∨ n = 2 ∨ n = 3 := by omega
  unfold MulOk
  rcases q with rfl | rfl | rfl | rfl
  all_goals decide +kernel
end Wh

/-! Walk: law. -/

namespace Wh
open TL
def sp_law (K : PySem.W.Frag) : Sp := fun vs H Q _ => ∃ (a : Addr) (ns : List Int), vs = [.ref a] ∧ SqL K H a (ns.map V.int) ∧ ∀ H', Q (.bl true) H'
theorem str_of {xs : List Str} {v : V} (h : v ∈ xs.map V.str) : ∃ z ∈ xs, v = .str z := by
  obtain ⟨z, hz, e⟩ := List.mem_map.mp h
  exact ⟨z, hz, e.symm⟩
section
variable {P : Program} {w : World} {K : PySem.W.Frag} {mg : Str → Option Value} {base : Heap} {C W M f : Addr} {fd : FuncData}
theorem ok_law (F : Fun K "law" "law" s_law f fd) (T : Tx K w mg C W M) (G_law_digits : Cl P w K mg base 2 "_law_digits" P_law_digits (sp_digits K)) (G_law_draw : Cl P w K mg base 1 "_law_draw" P_law_draw sp_draw)
    (G_law_net : Cl P w K mg base 9 "_law_net" P_law_net sp_net) (G_law_lines : Cl P w K mg base 4 "_law_lines" P_law_lines (sp_llines 2)) (G_parse : Cl P w K mg base 9 "parse" P_parse (sp_parse C)) (GG_law_same : ClG P w K mg base 1 "_law_same" P_law_same sp_same) :
    FnG P w K mg base 10 f fd P_law (sp_law K) := by
  refine okG F sc_law (fun vs H Q E h => ?_) (fun cdv A outer s H vs Q E hgd hr h => ?_)
  · obtain ⟨a, ns, rfl, _⟩ := h
    rfl
  obtain ⟨a, ns, rfl, hS, q⟩ := h
  have hg : (A.deeper (envOfC "law" (defScope s_law) s.heap.objs.size f cdv)).guards = some [] := hgd
  refine ⟨_, (pss_cons (ps_set (i := 1) sc_law.nd rfl (Or.inl rfl) (pe_lst (pa_cons (pcl G_law_digits hr (pa_cons (pv 0) (pa_cons pe_int (pa_cons pe_int pa_nil)))) (pa_cons pe_int pa_nil))))
      (pss_cons (ps_set (i := 2) sc_law.nd rfl (Or.inl rfl) (pcl G_law_net hr (pa_cons (pv 1) pa_nil)))
      (pss_cons (ps_set (i := 3) sc_law.nd rfl (Or.inl rfl) (pe_op op_cat (pe_op op_cat (pe_lst (pa_cons (pe_op op_add_str pe_str (pe_callTy call_str_int rfl T.f_str (by decide +kernel) (pa_cons (pe_ix ix_tup (pv 2) pe_int (fun _ _ => rfl)) pa_nil))) pa_nil)) (pcl G_law_lines hr (pa_cons (pe_ix ix_tup (pv 2) pe_int (fun _ _ => rfl)) pa_nil))) (pe_lst (pa_cons pe_str pa_nil))))
      (pss_cons (ps_set (i := 4) sc_law.nd rfl (Or.inl rfl) (pe_lst pa_nil))
      (pss_cons (ps_for PassesOwn.never rfl (pi_list (pv 3)) (pg_name (i := 5) sc_law.nd rfl (Or.inl rfl))
        (pss_cons (ps_for PassesOwn.never rfl (pi_range1 rfl T.f_range (pa_cons (pcl G_law_draw hr (pa_cons (pv 1) (pa_cons pe_int pa_nil))) pa_nil)) (pg_name (i := 6) sc_law.nd rfl (Or.inl rfl))
          (pss_one (ps_expr (pe_bm PySem.F.plainAttrs_list PySem.F.slot_list_append PySem.F.type_list_append mt_append (pv 4) (pa_cons (pe_ix ix_list (pe_lst (pa_cons pe_str (pa_cons pe_str (pa_cons pe_str (pa_cons pe_str (pa_cons pe_str pa_nil)))))) (pcl G_law_draw hr (pa_cons (pv 1) (pa_cons pe_int pa_nil))) (fun _ _ => rfl)) pa_nil)))))
        (pss_cons (ps_set (i := 7) sc_law.nd rfl (Or.inl rfl) (pe_op op_mulS pe_str (pcl G_law_draw hr (pa_cons (pv 1) (pa_cons pe_int pa_nil)))))
        (pss_cons (ps_for PassesOwn.never rfl (pi_list (pe_split (pv 5) pe_str)) (pg_name (i := 8) sc_law.nd rfl (Or.inl rfl))
          (pss_one (ps_set (i := 7) sc_law.nd rfl (Or.inl rfl) (pe_op op_add_str (pe_op op_add_str (pv 7) (pv 8)) (pe_op op_mulS pe_str (pe_op op_add pe_int (pcl G_law_draw hr (pa_cons (pv 1) (pa_cons pe_int pa_nil)))))))))
        (pss_cons (ps_set (i := 7) sc_law.nd rfl (Or.inl rfl) (pe_op op_add_str (pe_bm PySem.F.plainAttrs_str PySem.F.slot_str_rstrip PySem.F.type_str_rstrip mt_rstripChars (pv 7) (pa_cons pe_str pa_nil)) (pe_ix ix_list (pe_lst (pa_cons pe_str (pa_cons pe_str (pa_cons pe_str (pa_cons pe_str (pa_cons pe_str pa_nil)))))) (pcl G_law_draw hr (pa_cons (pv 1) (pa_cons pe_int pa_nil))) (fun _ _ => rfl))))
        (pss_one (ps_expr (pe_bm PySem.F.plainAttrs_list PySem.F.slot_list_append PySem.F.type_list_append mt_append (pv 4) (pa_cons (pv 7) pa_nil)))))))))
      (pss_cons (ps_set (i := 4) sc_law.nd rfl (Or.inl rfl) (pe_op op_cat (pv 4) (pe_slice sl_list (pe_lst (pa_cons pe_str (pa_cons pe_str (pa_cons pe_str pa_nil)))) po_none (po_some (pcl G_law_draw hr (pa_cons (pv 1) (pa_cons pe_int pa_nil)))))))
      (pss_one (ps_ret (pclG hg GG_law_same hr (pa_cons (pcl G_parse hr (pa_cons (pe_join pe_str (pv 4)) pa_nil)) (pa_cons (pv 2) pa_nil))))))))))), ?_⟩
  walk_at "rb"
  refine ⟨a, ns, rfl, hS, fun p1 ds H1 s1 h01 hp1 => ?_⟩
  walk_at "rb"
  refine tup_s rfl fun b hb => ?_
  have hbx : Bx (upd H1 b (.lst [.ref p1, .int 0])) b := ⟨p1, ds, 0, ne_of_none hp1 hb, upd_same, by rw [upd_ne (ne_of_none hp1 hb)]; exact hp1⟩
  generalize upd H1 b (.lst [.ref p1, .int 0]) = H2 at *
  walk_at "rb"
  refine ⟨b, rfl, hbx, fun v n ls H3 g3 hnet hok => ?_⟩
  have hnet0 := hnet
  have hn4 := hok.n4
  obtain ⟨x, ⟨np, rfl, hnp⟩, hls⟩ := hnet
  walk_at "rb"
  refine ⟨log_small (nat_num (by omega)), ?_⟩
  walk_at "rb"
  have wn := num_wd (z := (n : Int)) (nat_num (by omega))
  have ln : (numS (n : Int)).length ≤ 8 := by rw [len_tl]; exact wn.2.2
  refine ⟨fit (by rw [show (Str.ofString (toString (n : Int))) = numS n from rfl]; show 4 + _ ≤ _; omega), ?_⟩
  have etx : ("net " : Str) ++ Str.ofString (toString (n : Int)) = (Ln.net n).text := by
    refine ext_tl ?_
    show tl (("net " : Str) ++ numS n) = tl (Txt.join " " ["net", numS n])
    rw [tl_append, join2, tl_append, tl_append, show tl ("net " : Str) = tl ("net" : Str) ++ tl (" " : Str) by decide +kernel]
  rw [etx]
  walk_at "rb"
  refine tup_s rfl fun p3 hp3 => ?_
  have s4 := sm_new (Same.refl H3) (.lst [.str (Ln.net n).text]) hp3
  have hp3' : upd H3 p3 (.lst [.str (Ln.net n).text]) p3 = _ := upd_same
  generalize upd H3 p3 (.lst [.str (Ln.net n).text]) = H4 at *
  have hnp4 := s4 _ _ hnp
  walk_at "rb"
  have lll := llines_nl hok.nl
  have hl4 := hok.len
  refine ⟨x, ls, n, rfl, hls.mono (sm_tk s4), hok.wf, hok.sm, lev_any _, by omega, fun p4 H5 s45 h04 hp4 => ?_⟩
  have hp35 := s45 _ _ hp3'
  refine r_cat hp35 hp4 (by rw [List.length_map]; show 1 + _ ≤ _; omega) fun p5 hp5 => ?_
  have s56 := sm_new (Same.refl H5) (.lst ([.str (Ln.net n).text] ++ (llines ls).map lnV)) hp5
  have hp5' : upd H5 p5 (.lst ([.str (Ln.net n).text] ++ (llines ls).map lnV)) p5 = _ := upd_same
  generalize upd H5 p5 (.lst ([.str (Ln.net n).text] ++ (llines ls).map lnV)) = H6 at *
  walk_at "rb"
  refine tup_s rfl fun p6 hp6 => ?_
  have s67 := sm_new (Same.refl H6) (.lst [.str "done"]) hp6
  have hp6' : upd H6 p6 (.lst [.str "done"]) p6 = _ := upd_same
  generalize upd H6 p6 (.lst [.str "done"]) = H7 at *
  walk_at "rb"
  refine r_cat (s67 _ _ hp5') hp6' (by rw [List.length_append, List.length_map]; show 1 + _ + 1 ≤ _; omega) fun p7 hp7 => ?_
  have eL : ([V.str (Ln.net n).text] ++ (llines ls).map lnV) ++ [.str "done"] = (Ln.net n :: (llines ls ++ [Ln.done])).map lnV := by
    rw [List.map_cons, List.map_append]
    have e0 : lnV Ln.done = .str "done" := congrArg V.str (join1 "done")
    show (V.str (Ln.net n).text :: (llines ls).map lnV) ++ [V.str "done"] = V.str (Ln.net n).text :: ((llines ls).map lnV ++ [lnV Ln.done])
    rw [e0]
    rfl
  rw [eL]
  have s78 := sm_new (Same.refl H7) (.lst ((Ln.net n :: (llines ls ++ [Ln.done])).map lnV)) hp7
  have hp7' : upd H7 p7 (.lst ((Ln.net n :: (llines ls ++ [Ln.done])).map lnV)) p7 = _ := upd_same
  generalize upd H7 p7 (.lst ((Ln.net n :: (llines ls ++ [Ln.done])).map lnV)) = H8 at *
  have s38 := s4.trans (s45.trans (s56.trans (s67.trans s78)))
  have hbx8 : Bx H8 b := by
    obtain ⟨dl, ds2, k2, e1, e2, e3⟩ := g3.bx'
    exact ⟨dl, ds2, k2, e1, s38 _ _ e2, s38 _ _ e3⟩
  have hnet8 := hnet0.mono (sm_tk s38)
  have nb7 : p7 ≠ b := by
    obtain ⟨dl, ds2, k2, e1, e2, e3⟩ := g3.bx'
    exact (ne_of_none ((s4.trans (s45.trans (s56.trans s67))) _ _ e2) hp7).symm
  have okL : ∀ l ∈ (Ln.net n :: (llines ls ++ [Ln.done])), l.ok := fun l hl => by
    rcases List.mem_cons.mp hl with rfl | hl
    · show n ≤ 999
      omega
    · rcases List.mem_append.mp hl with hl | hl
      · exact llines_ok hok.wf hok.sm l hl
      · rw [List.mem_singleton.mp hl]; trivial
  have lenL : (Ln.net n :: (llines ls ++ [Ln.done])).length ≤ 122 := by
    rw [List.length_cons, List.length_append]
    show _ + 1 + 1 ≤ 122
    omega
  have neL : (Ln.net n :: (llines ls ++ [Ln.done])) ≠ [] := List.cons_ne_nil _ _
  have eAll : (Ln.net n :: (llines ls ++ [Ln.done])).map lw = (Ln.net n :: (llines ls ++ [Ln.done])).map lw := rfl
  walk_at "rb"
  refine tup_s rfl fun p8 hp8 => ?_
  have n78 : p7 ≠ p8 := ne_of_none hp7' hp8
  have g8 : Gn b H8 (upd H8 p8 (.lst [])) := Gn.new hbx8 _ hp8
  have hp8' : upd H8 p8 (.lst []) p8 = _ := upd_same
  generalize upd H8 p8 (.lst []) = H9 at *
  walk_at "rb"
  refine ⟨p7, rfl, ⟨_, SqL.of (g8.at nb7 hp7')⟩, f_lst (xs := (Ln.net n :: (llines ls ++ [Ln.done])).map lnV) (fun i σ H' => ∃ (o5 o6 o7 o8 : Option V) (zs : List Str), σ = [some (.ref a), some (.ref b), some (.ref np), some (.ref p7), some (.ref p8), o5, o6, o7, o8] ∧
      Gn b H8 H' ∧ H' p8 = some (.lst (zs.map V.str)) ∧ Good zs ((Ln.net n :: (llines ls ++ [Ln.done])).take i) (260 * i))
    ⟨none, none, none, none, [], rfl, g8, hp8', Good.nil⟩ (fun i σ H' _ ⟨_, _, _, _, _, _, g, _, _⟩ => SqL.of (g.at nb7 hp7')) ?_ ?_⟩
  · rintro i xv σ H1 hx ⟨o5, o6, o7, o8, zs, rfl, g, hz, good⟩
    rw [List.getElem?_map] at hx
    generalize (Ln.net n :: (llines ls ++ [Ln.done])) = L at *
    obtain ⟨l, hl, rfl⟩ : ∃ l, L[i]? = some l ∧ xv = lnV l := by
      cases e : L[i]? with
      | none => rw [e] at hx; cases hx
      | some z => rw [e] at hx; exact ⟨z, rfl, (Option.some.inj hx).symm⟩
    have hi := (List.getElem?_eq_some_iff.mp hl).1
    have lok := okL l (List.mem_of_getElem? hl)
    have n8b : p8 ≠ b := g8.bx.ne hp8
    walk_at "rb"
    refine ⟨b, 3, rfl, g.bx', by decide, fun r H2 r0 r3 g2 => ?_⟩
    obtain ⟨r, rfl⟩ := nat_of r0
    walk_at "rb"
    refine ⟨by omega, by omega, f_rng (fun j σ H' => ∃ (o6 o7 o8 : Option V) (zs : List Str), σ = [some (.ref a), some (.ref b), some (.ref np), some (.ref p7), some (.ref p8), some (lnV l), o6, o7, o8] ∧ Gn b H8 H' ∧ H' p8 = some (.lst (zs.map V.str)) ∧ Good zs (L.take i) (260 * i + 13 * j))
      ⟨_, _, _, zs, rfl, g.trans g2, g2.at n8b hz, good⟩ ?_ ?_⟩
    · rintro j σ H3 hj ⟨o6, o7, o8, zs, rfl, g, hz, good⟩
      walk_at "rb"
      refine r_tyL hz ?_
      walk_at "rb"
      refine tup_s rfl fun pe hpe => ?_
      have ge := g.mk_new (.lst [.str "", .str "   ", .str "# net 3 done", .str "  #row ~ (", .str "#"]) hpe
      have hze : upd H3 pe (.lst [.str "", .str "   ", .str "# net 3 done", .str "  #row ~ (", .str "#"]) p8 = _ := (upd_ne (ne_of_none hz hpe)).trans hz
      have hpe' : upd H3 pe (.lst [.str "", .str "   ", .str "# net 3 done", .str "  #row ~ (", .str "#"]) pe = _ := upd_same
      have neb : pe ≠ b := g.bx'.ne hpe
      generalize upd H3 pe (.lst [.str "", .str "   ", .str "# net 3 done", .str "  #row ~ (", .str "#"]) = H4 at *
      walk_at "rb"
      refine ⟨b, 5, rfl, ge.bx', by decide, fun r2 H5 r20 r25 g5 => ?_⟩
      have hx5 : H5 pe = some (.lst (exS.map V.str)) := g5.at neb hpe'
      obtain ⟨v5, hv5, hm5⟩ := atI_mem (xs := exS.map V.str) r20 (by show r2 < 5; exact r25)
      obtain ⟨z, hzx, rfl⟩ := str_of hm5
      refine r_ixL hx5 hv5 ?_
      have hz5 := g5.at n8b hze
      walk_at "rb"
      refine r_app hz5 (by rw [List.length_map]; have := good.len; omega) ?_
      walk_at "rb"
      refine ⟨_, _, _, zs ++ [z], rfl, (ge.trans g5).own _ hp8, by rw [upd_same, List.map_append]; rfl, ?_⟩
      exact (good.no (exS_ok z hzx)).up (by omega)
    rintro σ H3 ⟨o6, o7, o8, zs, rfl, g, hz, good⟩
    rw [show (r : Int).toNat = r from rfl] at good
    walk_at "rb"
    refine ⟨b, 4, rfl, g.bx', by decide, fun r4 H4 r40 r44 g4 => ?_⟩
    refine ⟨" ", r4, rfl, rfl, mulOk1 r40 (by omega), ?_⟩
    have gw := Grow.start r40 (by omega)
    have g34 := g.trans g4
    have hz4 := g4.at n8b hz
    walk_at "rb"
    have ltx : l.text.length ≤ 1000 := by
      have a := join_len (ys := l.words) (Ln.wd lok)
      have b := (Ln.few lok).2
      show (Txt.join " " l.words).length ≤ 1000
      omega
    refine ⟨⟨l.text, rfl⟩, ?_⟩
    walk_at "rb"
    refine ⟨l.text, " ", rfl, rfl, by decide +kernel, fit (by omega), fun pw hpw => ?_⟩
    rw [Ln.cut lok]
    have gp := g34.mk_new (.lst (l.words.map V.str)) hpw
    have hzp : upd H4 pw (.lst (l.words.map V.str)) p8 = _ := (upd_ne (ne_of_none hz4 hpw)).trans hz4
    have hpw' : upd H4 pw (.lst (l.words.map V.str)) pw = _ := upd_same
    have nwb : pw ≠ b := g34.bx'.ne hpw
    generalize upd H4 pw (.lst (l.words.map V.str)) = H5 at *
    refine ⟨pw, rfl, ⟨_, SqL.of hpw'⟩, f_lst (xs := l.words.map V.str) (fun j σ H' => ∃ (o6 o8 : Option V) (t : Str), σ = [some (.ref a), some (.ref b), some (.ref np), some (.ref p7), some (.ref p8), some (lnV l), o6, some (.str t), o8] ∧ Gn b H5 H' ∧ Grow t (l.words.take j) (3 + 11 * j))
      ⟨_, _, _, rfl, Gn.refl gp.bx', gw⟩ (fun j σ H' _ ⟨_, _, _, _, gg, _⟩ => SqL.of (gg.at nwb hpw')) ?_ ?_⟩
    · rintro j xv σ H6 hx ⟨o6, o8, t, rfl, g6, gr⟩
      rw [List.getElem?_map] at hx
      obtain ⟨wd, hwd, rfl⟩ : ∃ wd, l.words[j]? = some wd ∧ xv = .str wd := by
        cases e : l.words[j]? with
        | none => rw [e] at hx; cases hx
        | some z => rw [e] at hx; exact ⟨z, rfl, (Option.some.inj hx).symm⟩
      have hj := (List.getElem?_eq_some_iff.mp hwd).1
      have few := (Ln.few lok).2
      have wok := Ln.wd lok wd (List.mem_of_getElem? hwd)
      have wl : wd.length ≤ 8 := by rw [len_tl]; exact wok.2.2
      have tll := gr.len
      walk_at "rb"
      refine ⟨fit (by omega), ?_⟩
      walk_at "rb"
      refine ⟨b, 3, rfl, g6.bx', by decide, fun r6 H7 r60 r63 g7 => ?_⟩
      walk_at "rb"
      refine ⟨" ", 1 + r6, rfl, rfl, mulOk1 (by omega) (by omega), ?_⟩
      have gr2 := gr.word wok (n := 1 + r6) (by omega) (by omega)
      have gl2 := gr2.len
      rw [len_cat] at gl2
      walk_at "rb"
      refine ⟨fit (by omega), ?_⟩
      walk_at "rb"
      refine ⟨_, _, _, rfl, g6.trans g7, ?_⟩
      rw [List.take_add_one, hwd]
      exact ⟨gr2.bl, gr2.ch, Nat.le_trans gr2.len (by omega)⟩
    rintro σ H6 ⟨o6, o8, t, rfl, g6, gr⟩
    rw [List.length_map, List.take_length] at gr
    have few := (Ln.few lok).2
    have tll := gr.len
    have g6' := gp.trans g6
    have hz6 := g6.at n8b hzp
    walk_at "rb"
    refine ⟨rfl, ?_⟩
    walk_at "rb"
    refine ⟨t, " ", rfl, rfl, fit (by omega), ?_⟩
    walk_at "rb"
    refine tup_s rfl fun ps hps => ?_
    have g7 := g6'.mk_new (.lst [.str "", .str " ", .str "  # 1 2 done", .str " #x", .str "   #"]) hps
    have hz7 : upd H6 ps (.lst [.str "", .str " ", .str "  # 1 2 done", .str " #x", .str "   #"]) p8 = _ := (upd_ne (ne_of_none hz6 hps)).trans hz6
    have hps' : upd H6 ps (.lst [.str "", .str " ", .str "  # 1 2 done", .str " #x", .str "   #"]) ps = _ := upd_same
    have nsb : ps ≠ b := g6'.bx'.ne hps
    generalize upd H6 ps (.lst [.str "", .str " ", .str "  # 1 2 done", .str " #x", .str "   #"]) = H7 at *
    walk_at "rb"
    refine ⟨b, 5, rfl, g7.bx', by decide, fun r8 H8' r80 r85 g8' => ?_⟩
    have hx8 : H8' ps = some (.lst (sfS.map V.str)) := g8'.at nsb hps'
    obtain ⟨v8, hv8, hm8⟩ := atI_mem (xs := sfS.map V.str) r80 (by show r8 < 5; exact r85)
    obtain ⟨sx, hsx, rfl⟩ := str_of hm8
    refine r_ixL hx8 hv8 ?_
    obtain ⟨f1, f2, f3⟩ := gr.fin hsx
    have f4 := f3
    rw [len_cat] at f4
    walk_at "rb"
    refine ⟨fit (by omega), ?_⟩
    have hz8 := g8'.at n8b hz7
    walk_at "rb"
    refine r_tyL hz8 ?_
    walk_at "rb"
    have hlz := good.len
    refine r_app hz8 (by rw [List.length_map]; omega) ?_
    walk_at "rb"
    refine ⟨_, _, _, _, zs ++ [_], rfl, (g7.trans g8').own _ hp8, by rw [upd_same, List.map_append]; rfl, ?_⟩
    rw [List.take_add_one, hl]
    exact (good.yes f1 f2 (by omega)).up (by omega)
  · rintro σ H1 ⟨o5, o6, o7, o8, zs, rfl, g, hz, good⟩
    rw [List.length_map, List.take_length] at good
    have n8b : p8 ≠ b := g8.bx.ne hp8
    walk_at "rb"
    refine tup_s rfl fun pt hpt => ?_
    have g2 := g.mk_new (.lst [.str "", .str "# end", .str "  "]) hpt
    have hz2 : upd H1 pt (.lst [.str "", .str "# end", .str "  "]) p8 = _ := (upd_ne (ne_of_none hz hpt)).trans hz
    have hpt' : upd H1 pt (.lst [.str "", .str "# end", .str "  "]) pt = _ := upd_same
    have ntb : pt ≠ b := g.bx'.ne hpt
    generalize upd H1 pt (.lst [.str "", .str "# end", .str "  "]) = H2' at *
    walk_at "rb"
    refine ⟨b, 4, rfl, g2.bx', by decide, fun r H3' r0 r4 g3' => ?_⟩
    walk_at "rb"
    refine ⟨pt, _, rfl, SqL.of (g3'.at ntb hpt'), fun pu hpu => ?_⟩
    obtain ⟨es, hes, ees⟩ : ∃ es : List Str, (∀ z ∈ es, z ∈ enS) ∧ es.length ≤ 3 ∧ cutV [V.str "", .str "# end", .str "  "] none (some r) = es.map V.str := by
      have hr4 : r = 0 ∨ r = 1 ∨ r = 2 ∨ r = 3 := by omega
      rcases hr4 with rfl | rfl | rfl | rfl
      · exact ⟨[], fun z hz => (nomatch hz), by decide, rfl⟩
      · exact ⟨[""], fun z hz => List.mem_of_mem_take (i := 1) (l := enS) hz, by decide, rfl⟩
      · exact ⟨["", "# end"], fun z hz => List.mem_of_mem_take (i := 2) (l := enS) hz, by decide, rfl⟩
      · exact ⟨enS, fun z hz => hz, by decide, rfl⟩
    obtain ⟨el, ees⟩ := ees
    rw [ees]
    have g4 := (g2.trans g3').mk_new (.lst (es.map V.str)) hpu
    have hz4 : upd H3' pu (.lst (es.map V.str)) p8 = some (.lst (zs.map V.str)) := (upd_ne (ne_of_none (g3'.at n8b hz2) hpu)).trans (g3'.at n8b hz2)
    have hpu' : upd H3' pu (.lst (es.map V.str)) pu = _ := upd_same
    generalize upd H3' pu (.lst (es.map V.str)) = H4' at *
    have hlz := good.len
    refine r_cat hz4 hpu' (by rw [List.length_map, List.length_map]; omega) fun pz hpz => ?_
    have g5 := g4.mk_new (.lst (zs.map V.str ++ es.map V.str)) hpz
    have hpz' : upd H4' pz (.lst (zs.map V.str ++ es.map V.str)) pz = some (.lst ((zs ++ es).map V.str)) := by rw [upd_same, List.map_append]
    generalize upd H4' pz (.lst (zs.map V.str ++ es.map V.str)) = H5' at *
    have good2 : ∀ (es : List Str), (∀ z ∈ es, z ∈ enS) → ∀ (zs : List Str) (m : Nat), Good zs (Ln.net n :: (llines ls ++ [Ln.done])) m → Good (zs ++ es) (Ln.net n :: (llines ls ++ [Ln.done])) (m + 13 * es.length) := by
      intro es
      induction es with
      | nil => exact fun _ zs m h => by rw [List.append_nil]; exact h
      | cons e es ih =>
        intro he zs m h
        have q := ih (fun z hz => he z (List.mem_cons_of_mem _ hz)) (zs ++ [e]) (m + 13) (h.no (enS_ok e (he e List.mem_cons_self)))
        rw [List.append_assoc] at q
        exact q.up (by rw [List.length_cons]; omega)
    have gd := good2 es hes zs _ good
    have gtx := gd.text (by omega) neL
    walk_at "rb"
    have gsum := gd.sum
    have gs2 := sum_len (zs ++ es)
    refine ⟨"\n", pz, zs ++ es, rfl, rfl, .inl (SqL.of hpz'), ?_, ?_⟩
    · show _ + (zs ++ es).length * 1 ≤ _
      omega
    walk_at "rb"
    refine ⟨_, n, ls, rfl, gtx.1, gtx.2.1, by rw [gtx.2.2.1]; exact gtx.2.2.2.1, hok, by rw [gtx.2.2.2.2]; exact gd.rows, fun v6 H6' s6 hv6 => ?_⟩
    walk_at "rb"
    exact ⟨v6, .ref np, n, ls, rfl, hv6, (hnet8.mono g5.tk).mono (sm_tk s6), hok, q _⟩
end
end Wh

/-! What the top leaves: defs, facts. -/
namespace Wh
def d_within : He.DefD := ⟨("within", none), "within", "within", defArgs s_within, defBody s_within, defScope s_within, [], []⟩
def d_places : He.DefD := ⟨("places", none), "places", "places", defArgs s_places, defBody s_places, defScope s_places, [], []⟩
def d_gives_all : He.DefD := ⟨("gives_all", none), "gives_all", "gives_all", defArgs s_gives_all, defBody s_gives_all, defScope s_gives_all, [], []⟩
def d_gives : He.DefD := ⟨("gives", none), "gives", "gives", defArgs s_gives, defBody s_gives, defScope s_gives, [], []⟩
def d_init : He.DefD := ⟨("Builder", some "__init__"), "__init__", "Builder.__init__", defArgs s_init, defBody s_init, defScope s_init, [], []⟩
def d_put_layer : He.DefD := ⟨("Builder", some "put_layer"), "put_layer", "Builder.put_layer", defArgs s_put_layer, defBody s_put_layer, defScope s_put_layer, [], []⟩
def d_present : He.DefD := ⟨("Builder", some "present"), "present", "Builder.present", defArgs s_present, defBody s_present, defScope s_present, [], []⟩
def d_finish : He.DefD := ⟨("Builder", some "finish"), "finish", "Builder.finish", defArgs s_finish, defBody s_finish, defScope s_finish, [], []⟩
def d_is_number : He.DefD := ⟨("is_number", none), "is_number", "is_number", defArgs s_is_number, defBody s_is_number, defScope s_is_number, [], []⟩
def d_read_numbers : He.DefD := ⟨("read_numbers", none), "read_numbers", "read_numbers", defArgs s_read_numbers, defBody s_read_numbers, defScope s_read_numbers, [], []⟩
def d_read_count : He.DefD := ⟨("read_count", none), "read_count", "read_count", defArgs s_read_count, defBody s_read_count, defScope s_read_count, [], []⟩
def d_check_place : He.DefD := ⟨("check_place", none), "check_place", "check_place", defArgs s_check_place, defBody s_check_place, defScope s_check_place, [], []⟩
def d_check_words : He.DefD := ⟨("check_words", none), "check_words", "check_words", defArgs s_check_words, defBody s_check_words, defScope s_check_words, [], []⟩
def d_read_row : He.DefD := ⟨("read_row", none), "read_row", "read_row", defArgs s_read_row, defBody s_read_row, defScope s_read_row, [], []⟩
def d_read_branch : He.DefD := ⟨("read_branch", none), "read_branch", "read_branch", defArgs s_read_branch, defBody s_read_branch, defScope s_read_branch, [], []⟩
def d_read_size : He.DefD := ⟨("read_size", none), "read_size", "read_size", defArgs s_read_size, defBody s_read_size, defScope s_read_size, [], []⟩
def d_check_count : He.DefD := ⟨("check_count", none), "check_count", "check_count", defArgs s_check_count, defBody s_check_count, defScope s_check_count, [], []⟩
def d_read_layer : He.DefD := ⟨("read_layer", none), "read_layer", "read_layer", defArgs s_read_layer, defBody s_read_layer, defScope s_read_layer, [], []⟩
def d_read_line : He.DefD := ⟨("read_line", none), "read_line", "read_line", defArgs s_read_line, defBody s_read_line, defScope s_read_line, [], []⟩
def d_words_of : He.DefD := ⟨("words_of", none), "words_of", "words_of", defArgs s_words_of, defBody s_words_of, defScope s_words_of, [], []⟩
def d_check_text : He.DefD := ⟨("check_text", none), "check_text", "check_text", defArgs s_check_text, defBody s_check_text, defScope s_check_text, [], []⟩
def d_parse : He.DefD := ⟨("parse", none), "parse", "parse", defArgs s_parse, defBody s_parse, defScope s_parse, [], []⟩
def d_law_cell : He.DefD := ⟨("_law_cell", none), "_law_cell", "_law_cell", defArgs s_law_cell, defBody s_law_cell, defScope s_law_cell, [], []⟩
def d_law_digits : He.DefD := ⟨("_law_digits", none), "_law_digits", "_law_digits", defArgs s_law_digits, defBody s_law_digits, defScope s_law_digits, [], []⟩
def d_law_draw : He.DefD := ⟨("_law_draw", none), "_law_draw", "_law_draw", defArgs s_law_draw, defBody s_law_draw, defScope s_law_draw, [], []⟩
def d_law_sign : He.DefD := ⟨("_law_sign", none), "_law_sign", "_law_sign", defArgs s_law_sign, defBody s_law_sign, defScope s_law_sign, [], []⟩
def d_law_weight : He.DefD := ⟨("_law_weight", none), "_law_weight", "_law_weight", defArgs s_law_weight, defBody s_law_weight, defScope s_law_weight, [], []⟩
def d_law_weights : He.DefD := ⟨("_law_weights", none), "_law_weights", "_law_weights", defArgs s_law_weights, defBody s_law_weights, defScope s_law_weights, [], []⟩
def d_law_rows : He.DefD := ⟨("_law_rows", none), "_law_rows", "_law_rows", defArgs s_law_rows, defBody s_law_rows, defScope s_law_rows, [], []⟩
def d_law_gives : He.DefD := ⟨("_law_gives", none), "_law_gives", "_law_gives", defArgs s_law_gives, defBody s_law_gives, defScope s_law_gives, [], []⟩
def d_law_plain_layer : He.DefD := ⟨("_law_plain_layer", none), "_law_plain_layer", "_law_plain_layer", defArgs s_law_plain_layer, defBody s_law_plain_layer, defScope s_law_plain_layer, [], []⟩
def d_law_plain_layers : He.DefD := ⟨("_law_plain_layers", none), "_law_plain_layers", "_law_plain_layers", defArgs s_law_plain_layers, defBody s_law_plain_layers, defScope s_law_plain_layers, [], []⟩
def d_law_layer : He.DefD := ⟨("_law_layer", none), "_law_layer", "_law_layer", defArgs s_law_layer, defBody s_law_layer, defScope s_law_layer, [], []⟩
def d_law_net : He.DefD := ⟨("_law_net", none), "_law_net", "_law_net", defArgs s_law_net, defBody s_law_net, defScope s_law_net, [], []⟩
def d_law_same : He.DefD := ⟨("_law_same", none), "_law_same", "_law_same", defArgs s_law_same, defBody s_law_same, defScope s_law_same, [], []⟩
def d_law_line : He.DefD := ⟨("_law_line", none), "_law_line", "_law_line", defArgs s_law_line, defBody s_law_line, defScope s_law_line, [], []⟩
def d_law_lines : He.DefD := ⟨("_law_lines", none), "_law_lines", "_law_lines", defArgs s_law_lines, defBody s_law_lines, defScope s_law_lines, [], []⟩
def d_law : He.DefD := ⟨("law", none), "law", "law", defArgs s_law, defBody s_law, defScope s_law, [], []⟩
def fn : List He.DefD := [d_within, d_places, d_gives_all, d_gives, d_init, d_put_layer, d_present, d_finish, d_is_number, d_read_numbers, d_read_count, d_check_place, d_check_words, d_read_row, d_read_branch, d_read_size, d_check_count, d_read_layer, d_read_line, d_words_of, d_check_text, d_parse, d_law_cell, d_law_digits, d_law_draw, d_law_sign, d_law_weight, d_law_weights, d_law_rows, d_law_gives, d_law_plain_layer, d_law_plain_layers, d_law_layer, d_law_net, d_law_same, d_law_line, d_law_lines, d_law]
def fa1 : List He.Fa := [.glo "within", .glo "places", .glo "gives_all", .glo "gives", .glo "is_number", .glo "read_numbers", .glo "read_count", .glo "check_place", .glo "check_words", .glo "read_row", .glo "read_branch", .glo "read_size", .glo "check_count", .glo "read_layer", .glo "read_line", .glo "words_of", .glo "check_text", .glo "parse", .glo "_law_cell", .glo "_law_digits", .glo "_law_draw", .glo "_law_sign", .glo "_law_weight", .glo "_law_weights", .glo "_law_rows", .glo "_law_gives", .glo "_law_plain_layer", .glo "_law_plain_layers", .glo "_law_layer", .glo "_law_net", .glo "_law_same", .glo "_law_line", .glo "_law_lines", .glo "law", .glo "Builder"]
def fa2 : List He.Fa := [.glo "MEANS", .glo "WORDS", .free "len", .free "range", .free "int", .free "tuple", .free "str", .free "min", .free "enumerate", .free "repr", .free "list", .int "MOST_WEIGHT" 1048576, .int "MOST_SIGNAL" 16777216, .int "MOST_INPUTS" 16, .int "MOST_LAYERS" 12, .int "MOST_SIGNALS" 64, .int "MOST_ROWS" 16, .int "MOST_KERNELS" 4, .int "MOST_CHARACTERS" 60000, .int "MOST_DIGITS" 9, .str "DIGITS" digS, .str "CHARACTERS" chrS, .cls "Builder", .noat "Builder" "inputs", .noat "Builder" "done", .noat "Builder" "layers", .noat "Builder" "n", .noat "Builder" "pending", .noat "Builder" "branch", .noat "Builder" "first", .meth "Builder" "put_layer", .meth "Builder" "present", .meth "Builder" "finish", .mkr "Builder"]
def fa : List He.Fa := fa1 ++ fa2
def wordsT : He.Tab := (fun K => He.ga K "WORDS", ["net", "dense", "conv", "relu", "clamp", "max", "mean", "sum", "fork", "with", "end", "done", "row", "kernel"])
def wordsV : List (Str × He.Dv) := [("net", .int 2), ("dense", .int 1), ("conv", .int 2), ("relu", .int 1), ("clamp", .int 3), ("max", .int 2), ("mean", .int 2), ("sum", .int 1), ("fork", .int 1), ("with", .int 1), ("end", .int 1), ("done", .int 1), ("row", .int 0), ("kernel", .int 0)]
def exB (K : PySem.W.Frag) : Bool := He.tupB K "MEANS" [.int 1, .int 2, .int 4, .int 8, .int 16, .int 32, .int 64] && He.valsB K (He.ga K "WORDS") wordsV
abbrev R : PySem.W.OpenRow := PySem.W.OpenLaw.row PySem.Challenge.rw_wholenet_k04_loose_texts
abbrev hk : PySem.W.Hook := He.hookX 5 fa fn [wordsT] [] exB
def ob (s : PySem.W.SharedT) : He.AlX := He.obsX 5 fa fn [wordsT] [] exB (HandSHeadRun.getT s)
theorem ob_eq (s : PySem.W.SharedT) : ob s = hk.obs s.abs := He.obsX_eq (HandSHeadRun.getT_eq s)
end Wh

/-! The defs, one after the other; the end. -/
namespace Wh
theorem funD_fun {K : PySem.W.Frag} {x qual : Str} {stm : Stmt} {f : Addr} {fd : FuncData} {kws : List (Str × V)} (F : FunD K x qual (defArgs stm) (defBody stm) (defScope stm) [] kws f fd) : Fun K x qual stm f fd := by
  obtain ⟨oc, od, dV, kV, doc, pm, an, cdv, ct, osl, e, lk, hc, hd, _⟩ := F.ex
  rcases hd with ⟨_, e2⟩ | ⟨e2, _⟩
  · subst e2
    exact ⟨⟨oc, od, kV, doc, pm, an, cdv, ct, osl, e, lk, hc⟩, F.kp⟩
  · exact absurd rfl e2
section
variable {P : Program} {w : World} {K : PySem.W.Frag} {mg : Str → Option Value} {base h : Heap}
abbrev Sx (w : World) (h : Heap) (K : PySem.W.Frag) : Prop := He.SaysX fa fn [wordsT] [] exB w h K
theorem mem_dec {f : He.Fa} {i : Nat} (e : fa[i]? = some f) (c : Sx w h K) : f.ok K = true := c.t.d.fact i e
theorem tx_of (c : Sx w h K) (X : K.In h) (G : h.Ns mainGlobals mg) : Tx K w mg (He.ga K "Builder") (He.ga K "WORDS") (He.ga K "MEANS") := by
  have hex : exB K = true := c.more
  unfold exB at hex
  obtain ⟨h1, h2⟩ := He.ba hex
  exact {
    f_len := He.free_ok X G (c.t.d.fact 37)
    f_range := He.free_ok X G (c.t.d.fact 38)
    f_int := He.free_ok X G (c.t.d.fact 39)
    f_tuple := He.free_ok X G (c.t.d.fact 40)
    f_str := He.free_ok X G (c.t.d.fact 41)
    f_min := He.free_ok X G (c.t.d.fact 42)
    f_enumerate := He.free_ok X G (c.t.d.fact 43)
    f_repr := He.free_ok X G (c.t.d.fact 44)
    f_list := He.free_ok X G (c.t.d.fact 45)
    c_MOST_WEIGHT := He.int_ok X G (c.t.d.fact 46)
    c_MOST_SIGNAL := He.int_ok X G (c.t.d.fact 47)
    c_MOST_INPUTS := He.int_ok X G (c.t.d.fact 48)
    c_MOST_LAYERS := He.int_ok X G (c.t.d.fact 49)
    c_MOST_SIGNALS := He.int_ok X G (c.t.d.fact 50)
    c_MOST_ROWS := He.int_ok X G (c.t.d.fact 51)
    c_MOST_KERNELS := He.int_ok X G (c.t.d.fact 52)
    c_MOST_CHARACTERS := He.int_ok X G (c.t.d.fact 53)
    c_MOST_DIGITS := He.int_ok X G (c.t.d.fact 54)
    c_DIGITS := He.str_ok X G (c.t.d.fact 55)
    c_CHARACTERS := He.str_ok X G (c.t.d.fact 56)
    c_Builder := He.glo_ok X G (c.t.d.fact 34)
    c_WORDS := He.glo_ok X G (c.t.d.fact 36)
    c_MEANS := He.glo_ok X G (c.t.d.fact 35)
    cl := He.cls_ok (c.t.d.fact 57)
    n_inputs := He.noat_ok (c.t.d.fact 58)
    n_done := He.noat_ok (c.t.d.fact 59)
    n_layers := He.noat_ok (c.t.d.fact 60)
    n_n := He.noat_ok (c.t.d.fact 61)
    n_pending := He.noat_ok (c.t.d.fact 62)
    n_branch := He.noat_ok (c.t.d.fact 63)
    n_first := He.noat_ok (c.t.d.fact 64)
    means := fun H => He.tupB_ok h1 H
    kd := c.t.tab 0
    wv := fun q hq => by
      have e : wordsV = wordsZ.map (fun q => (q.1, He.Dv.int q.2)) := rfl
      exact He.valsB_ok h2 (q := (q.1, He.Dv.int q.2)) (by rw [e]; exact List.mem_map.mpr ⟨q, hq, rfl⟩) }
theorem mkCl {x q : Str} {stm : Stmt} {fd : FuncData} {ps : List Str} {sp : Sp} {k : Nat} (X : K.In h) (G : h.Ns mainGlobals mg) (c : (He.Fa.glo x).ok K = true) (F : Fun K x q stm (He.ga K x) fd) (hb : Binds K fd ps []) (ok : FnOk P w K mg base CX0 k (He.ga K x) fd ps sp) :
    Cl P w K mg base k x ps sp := ⟨⟨_, fd, ok, He.glo_ok X G c, F.kp, hb⟩⟩
theorem mkMl {m q : Str} {stm : Stmt} {fd : FuncData} {ps : List Str} {sp : Sp} {k : Nat} (c : (He.Fa.meth "Builder" m).ok K = true) (_F : Fun K m q stm (He.ma K (He.ga K "Builder") m) fd) (hb : Binds K fd ps []) (ok : FnOk P w K mg base CX0 k (He.ma K (He.ga K "Builder") m) fd ps sp) :
    Ml P w K mg base (He.ga K "Builder") k m ps sp := ⟨⟨_, fd, ok, He.meth_ok c, hb⟩⟩
theorem fd_within (c : Sx w h K) : ∃ fd, Fun K "within" "within" s_within (He.ga K "within") fd ∧ Binds K fd P_within [] := by
  obtain ⟨fd, F0⟩ := c.t.d.def_ 0 (d := d_within)
  have F : Fun K "within" "within" s_within (He.ga K "within") fd := funD_fun F0
  exact ⟨fd, F, F.binds fun _ _ _ _ _ _ us hl => match us, hl with | [_, _], _ => rfl⟩
theorem fd_places (c : Sx w h K) : ∃ fd, Fun K "places" "places" s_places (He.ga K "places") fd ∧ Binds K fd P_places [] := by
  obtain ⟨fd, F0⟩ := c.t.d.def_ 1 (d := d_places)
  have F : Fun K "places" "places" s_places (He.ga K "places") fd := funD_fun F0
  exact ⟨fd, F, F.binds fun _ _ _ _ _ _ us hl => match us, hl with | [_, _], _ => rfl⟩
theorem fd_gives_all (c : Sx w h K) : ∃ fd, Fun K "gives_all" "gives_all" s_gives_all (He.ga K "gives_all") fd ∧ Binds K fd P_gives_all [] := by
  obtain ⟨fd, F0⟩ := c.t.d.def_ 2 (d := d_gives_all)
  have F : Fun K "gives_all" "gives_all" s_gives_all (He.ga K "gives_all") fd := funD_fun F0
  exact ⟨fd, F, F.binds fun _ _ _ _ _ _ us hl => match us, hl with | [_, _], _ => rfl⟩
theorem fd_gives (c : Sx w h K) : ∃ fd, Fun K "gives" "gives" s_gives (He.ga K "gives") fd ∧ Binds K fd P_gives [] := by
  obtain ⟨fd, F0⟩ := c.t.d.def_ 3 (d := d_gives)
  have F : Fun K "gives" "gives" s_gives (He.ga K "gives") fd := funD_fun F0
  exact ⟨fd, F, F.binds fun _ _ _ _ _ _ us hl => match us, hl with | [_, _], _ => rfl⟩
theorem fd_init (c : Sx w h K) : ∃ fd, Fun K "__init__" "Builder.__init__" s_init (He.ma K (He.ga K "Builder") "__init__") fd ∧ Binds K fd P_init [] := by
  obtain ⟨fd, F0⟩ := c.t.d.def_ 4 (d := d_init)
  have F : Fun K "__init__" "Builder.__init__" s_init (He.ma K (He.ga K "Builder") "__init__") fd := funD_fun F0
  exact ⟨fd, F, F.binds fun _ _ _ _ _ _ us hl => match us, hl with | [_], _ => rfl⟩
theorem fd_put_layer (c : Sx w h K) : ∃ fd, Fun K "put_layer" "Builder.put_layer" s_put_layer (He.ma K (He.ga K "Builder") "put_layer") fd ∧ Binds K fd P_put_layer [] := by
  obtain ⟨fd, F0⟩ := c.t.d.def_ 5 (d := d_put_layer)
  have F : Fun K "put_layer" "Builder.put_layer" s_put_layer (He.ma K (He.ga K "Builder") "put_layer") fd := funD_fun F0
  exact ⟨fd, F, F.binds fun _ _ _ _ _ _ us hl => match us, hl with | [_, _, _], _ => rfl⟩
theorem fd_present (c : Sx w h K) : ∃ fd, Fun K "present" "Builder.present" s_present (He.ma K (He.ga K "Builder") "present") fd ∧ Binds K fd P_present [] := by
  obtain ⟨fd, F0⟩ := c.t.d.def_ 6 (d := d_present)
  have F : Fun K "present" "Builder.present" s_present (He.ma K (He.ga K "Builder") "present") fd := funD_fun F0
  exact ⟨fd, F, F.binds fun _ _ _ _ _ _ us hl => match us, hl with | [_], _ => rfl⟩
theorem fd_finish (c : Sx w h K) : ∃ fd, Fun K "finish" "Builder.finish" s_finish (He.ma K (He.ga K "Builder") "finish") fd ∧ Binds K fd P_finish [] := by
  obtain ⟨fd, F0⟩ := c.t.d.def_ 7 (d := d_finish)
  have F : Fun K "finish" "Builder.finish" s_finish (He.ma K (He.ga K "Builder") "finish") fd := funD_fun F0
  exact ⟨fd, F, F.binds fun _ _ _ _ _ _ us hl => match us, hl with | [_], _ => rfl⟩
theorem fd_is_number (c : Sx w h K) : ∃ fd, Fun K "is_number" "is_number" s_is_number (He.ga K "is_number") fd ∧ Binds K fd P_is_number [] := by
  obtain ⟨fd, F0⟩ := c.t.d.def_ 8 (d := d_is_number)
  have F : Fun K "is_number" "is_number" s_is_number (He.ga K "is_number") fd := funD_fun F0
  exact ⟨fd, F, F.binds fun _ _ _ _ _ _ us hl => match us, hl with | [_], _ => rfl⟩
theorem fd_read_numbers (c : Sx w h K) : ∃ fd, Fun K "read_numbers" "read_numbers" s_read_numbers (He.ga K "read_numbers") fd ∧ Binds K fd P_read_numbers [] := by
  obtain ⟨fd, F0⟩ := c.t.d.def_ 9 (d := d_read_numbers)
  have F : Fun K "read_numbers" "read_numbers" s_read_numbers (He.ga K "read_numbers") fd := funD_fun F0
  exact ⟨fd, F, F.binds fun _ _ _ _ _ _ us hl => match us, hl with | [_, _, _], _ => rfl⟩
theorem fd_read_count (c : Sx w h K) : ∃ fd, Fun K "read_count" "read_count" s_read_count (He.ga K "read_count") fd ∧ Binds K fd P_read_count [] := by
  obtain ⟨fd, F0⟩ := c.t.d.def_ 10 (d := d_read_count)
  have F : Fun K "read_count" "read_count" s_read_count (He.ga K "read_count") fd := funD_fun F0
  exact ⟨fd, F, F.binds fun _ _ _ _ _ _ us hl => match us, hl with | [_, _, _, _], _ => rfl⟩
theorem fd_check_place (c : Sx w h K) : ∃ fd, Fun K "check_place" "check_place" s_check_place (He.ga K "check_place") fd ∧ Binds K fd P_check_place [] := by
  obtain ⟨fd, F0⟩ := c.t.d.def_ 11 (d := d_check_place)
  have F : Fun K "check_place" "check_place" s_check_place (He.ga K "check_place") fd := funD_fun F0
  exact ⟨fd, F, F.binds fun _ _ _ _ _ _ us hl => match us, hl with | [_, _, _], _ => rfl⟩
theorem fd_check_words (c : Sx w h K) : ∃ fd, Fun K "check_words" "check_words" s_check_words (He.ga K "check_words") fd ∧ Binds K fd P_check_words [] := by
  obtain ⟨fd, F0⟩ := c.t.d.def_ 12 (d := d_check_words)
  have F : Fun K "check_words" "check_words" s_check_words (He.ga K "check_words") fd := funD_fun F0
  exact ⟨fd, F, F.binds fun _ _ _ _ _ _ us hl => match us, hl with | [_, _], _ => rfl⟩
theorem fd_read_row (c : Sx w h K) : ∃ fd, Fun K "read_row" "read_row" s_read_row (He.ga K "read_row") fd ∧ Binds K fd P_read_row [] := by
  obtain ⟨fd, F0⟩ := c.t.d.def_ 13 (d := d_read_row)
  have F : Fun K "read_row" "read_row" s_read_row (He.ga K "read_row") fd := funD_fun F0
  exact ⟨fd, F, F.binds fun _ _ _ _ _ _ us hl => match us, hl with | [_, _, _], _ => rfl⟩
theorem fd_read_branch (c : Sx w h K) : ∃ fd, Fun K "read_branch" "read_branch" s_read_branch (He.ga K "read_branch") fd ∧ Binds K fd P_read_branch [] := by
  obtain ⟨fd, F0⟩ := c.t.d.def_ 14 (d := d_read_branch)
  have F : Fun K "read_branch" "read_branch" s_read_branch (He.ga K "read_branch") fd := funD_fun F0
  exact ⟨fd, F, F.binds fun _ _ _ _ _ _ us hl => match us, hl with | [_, _, _], _ => rfl⟩
theorem fd_read_size (c : Sx w h K) : ∃ fd, Fun K "read_size" "read_size" s_read_size (He.ga K "read_size") fd ∧ Binds K fd P_read_size [] := by
  obtain ⟨fd, F0⟩ := c.t.d.def_ 15 (d := d_read_size)
  have F : Fun K "read_size" "read_size" s_read_size (He.ga K "read_size") fd := funD_fun F0
  exact ⟨fd, F, F.binds fun _ _ _ _ _ _ us hl => match us, hl with | [_, _, _], _ => rfl⟩
theorem fd_check_count (c : Sx w h K) : ∃ fd, Fun K "check_count" "check_count" s_check_count (He.ga K "check_count") fd ∧ Binds K fd P_check_count [] := by
  obtain ⟨fd, F0⟩ := c.t.d.def_ 16 (d := d_check_count)
  have F : Fun K "check_count" "check_count" s_check_count (He.ga K "check_count") fd := funD_fun F0
  exact ⟨fd, F, F.binds fun _ _ _ _ _ _ us hl => match us, hl with | [_, _], _ => rfl⟩
theorem fd_read_layer (c : Sx w h K) : ∃ fd, Fun K "read_layer" "read_layer" s_read_layer (He.ga K "read_layer") fd ∧ Binds K fd P_read_layer [] := by
  obtain ⟨fd, F0⟩ := c.t.d.def_ 17 (d := d_read_layer)
  have F : Fun K "read_layer" "read_layer" s_read_layer (He.ga K "read_layer") fd := funD_fun F0
  exact ⟨fd, F, F.binds fun _ _ _ _ _ _ us hl => match us, hl with | [_, _, _], _ => rfl⟩
theorem fd_read_line (c : Sx w h K) : ∃ fd, Fun K "read_line" "read_line" s_read_line (He.ga K "read_line") fd ∧ Binds K fd P_read_line [] := by
  obtain ⟨fd, F0⟩ := c.t.d.def_ 18 (d := d_read_line)
  have F : Fun K "read_line" "read_line" s_read_line (He.ga K "read_line") fd := funD_fun F0
  exact ⟨fd, F, F.binds fun _ _ _ _ _ _ us hl => match us, hl with | [_, _, _], _ => rfl⟩
theorem fd_words_of (c : Sx w h K) : ∃ fd, Fun K "words_of" "words_of" s_words_of (He.ga K "words_of") fd ∧ Binds K fd P_words_of [] := by
  obtain ⟨fd, F0⟩ := c.t.d.def_ 19 (d := d_words_of)
  have F : Fun K "words_of" "words_of" s_words_of (He.ga K "words_of") fd := funD_fun F0
  exact ⟨fd, F, F.binds fun _ _ _ _ _ _ us hl => match us, hl with | [_], _ => rfl⟩
theorem fd_check_text (c : Sx w h K) : ∃ fd, Fun K "check_text" "check_text" s_check_text (He.ga K "check_text") fd ∧ Binds K fd P_check_text [] := by
  obtain ⟨fd, F0⟩ := c.t.d.def_ 20 (d := d_check_text)
  have F : Fun K "check_text" "check_text" s_check_text (He.ga K "check_text") fd := funD_fun F0
  exact ⟨fd, F, F.binds fun _ _ _ _ _ _ us hl => match us, hl with | [_], _ => rfl⟩
theorem fd_parse (c : Sx w h K) : ∃ fd, Fun K "parse" "parse" s_parse (He.ga K "parse") fd ∧ Binds K fd P_parse [] := by
  obtain ⟨fd, F0⟩ := c.t.d.def_ 21 (d := d_parse)
  have F : Fun K "parse" "parse" s_parse (He.ga K "parse") fd := funD_fun F0
  exact ⟨fd, F, F.binds fun _ _ _ _ _ _ us hl => match us, hl with | [_], _ => rfl⟩
theorem fd_law_cell (c : Sx w h K) : ∃ fd, Fun K "_law_cell" "_law_cell" s_law_cell (He.ga K "_law_cell") fd ∧ Binds K fd P_law_cell [] := by
  obtain ⟨fd, F0⟩ := c.t.d.def_ 22 (d := d_law_cell)
  have F : Fun K "_law_cell" "_law_cell" s_law_cell (He.ga K "_law_cell") fd := funD_fun F0
  exact ⟨fd, F, F.binds fun _ _ _ _ _ _ us hl => match us, hl with | [_, _], _ => rfl⟩
theorem fd_law_digits (c : Sx w h K) : ∃ fd, Fun K "_law_digits" "_law_digits" s_law_digits (He.ga K "_law_digits") fd ∧ Binds K fd P_law_digits [] := by
  obtain ⟨fd, F0⟩ := c.t.d.def_ 23 (d := d_law_digits)
  have F : Fun K "_law_digits" "_law_digits" s_law_digits (He.ga K "_law_digits") fd := funD_fun F0
  exact ⟨fd, F, F.binds fun _ _ _ _ _ _ us hl => match us, hl with | [_, _, _], _ => rfl⟩
theorem fd_law_draw (c : Sx w h K) : ∃ fd, Fun K "_law_draw" "_law_draw" s_law_draw (He.ga K "_law_draw") fd ∧ Binds K fd P_law_draw [] := by
  obtain ⟨fd, F0⟩ := c.t.d.def_ 24 (d := d_law_draw)
  have F : Fun K "_law_draw" "_law_draw" s_law_draw (He.ga K "_law_draw") fd := funD_fun F0
  exact ⟨fd, F, F.binds fun _ _ _ _ _ _ us hl => match us, hl with | [_, _], _ => rfl⟩
theorem fd_law_sign (c : Sx w h K) : ∃ fd, Fun K "_law_sign" "_law_sign" s_law_sign (He.ga K "_law_sign") fd ∧ Binds K fd P_law_sign [] := by
  obtain ⟨fd, F0⟩ := c.t.d.def_ 25 (d := d_law_sign)
  have F : Fun K "_law_sign" "_law_sign" s_law_sign (He.ga K "_law_sign") fd := funD_fun F0
  exact ⟨fd, F, F.binds fun _ _ _ _ _ _ us hl => match us, hl with | [_], _ => rfl⟩
theorem fd_law_weight (c : Sx w h K) : ∃ fd, Fun K "_law_weight" "_law_weight" s_law_weight (He.ga K "_law_weight") fd ∧ Binds K fd P_law_weight [] := by
  obtain ⟨fd, F0⟩ := c.t.d.def_ 26 (d := d_law_weight)
  have F : Fun K "_law_weight" "_law_weight" s_law_weight (He.ga K "_law_weight") fd := funD_fun F0
  exact ⟨fd, F, F.binds fun _ _ _ _ _ _ us hl => match us, hl with | [_], _ => rfl⟩
theorem fd_law_weights (c : Sx w h K) : ∃ fd, Fun K "_law_weights" "_law_weights" s_law_weights (He.ga K "_law_weights") fd ∧ Binds K fd P_law_weights [] := by
  obtain ⟨fd, F0⟩ := c.t.d.def_ 27 (d := d_law_weights)
  have F : Fun K "_law_weights" "_law_weights" s_law_weights (He.ga K "_law_weights") fd := funD_fun F0
  exact ⟨fd, F, F.binds fun _ _ _ _ _ _ us hl => match us, hl with | [_, _], _ => rfl⟩
theorem fd_law_rows (c : Sx w h K) : ∃ fd, Fun K "_law_rows" "_law_rows" s_law_rows (He.ga K "_law_rows") fd ∧ Binds K fd P_law_rows [] := by
  obtain ⟨fd, F0⟩ := c.t.d.def_ 28 (d := d_law_rows)
  have F : Fun K "_law_rows" "_law_rows" s_law_rows (He.ga K "_law_rows") fd := funD_fun F0
  exact ⟨fd, F, F.binds fun _ _ _ _ _ _ us hl => match us, hl with | [_, _, _], _ => rfl⟩
theorem fd_law_gives (c : Sx w h K) : ∃ fd, Fun K "_law_gives" "_law_gives" s_law_gives (He.ga K "_law_gives") fd ∧ Binds K fd P_law_gives [] := by
  obtain ⟨fd, F0⟩ := c.t.d.def_ 29 (d := d_law_gives)
  have F : Fun K "_law_gives" "_law_gives" s_law_gives (He.ga K "_law_gives") fd := funD_fun F0
  exact ⟨fd, F, F.binds fun _ _ _ _ _ _ us hl => match us, hl with | [_, _], _ => rfl⟩
theorem fd_law_plain_layer (c : Sx w h K) : ∃ fd, Fun K "_law_plain_layer" "_law_plain_layer" s_law_plain_layer (He.ga K "_law_plain_layer") fd ∧ Binds K fd P_law_plain_layer [] := by
  obtain ⟨fd, F0⟩ := c.t.d.def_ 30 (d := d_law_plain_layer)
  have F : Fun K "_law_plain_layer" "_law_plain_layer" s_law_plain_layer (He.ga K "_law_plain_layer") fd := funD_fun F0
  exact ⟨fd, F, F.binds fun _ _ _ _ _ _ us hl => match us, hl with | [_, _], _ => rfl⟩
theorem fd_law_plain_layers (c : Sx w h K) : ∃ fd, Fun K "_law_plain_layers" "_law_plain_layers" s_law_plain_layers (He.ga K "_law_plain_layers") fd ∧ Binds K fd P_law_plain_layers [] := by
  obtain ⟨fd, F0⟩ := c.t.d.def_ 31 (d := d_law_plain_layers)
  have F : Fun K "_law_plain_layers" "_law_plain_layers" s_law_plain_layers (He.ga K "_law_plain_layers") fd := funD_fun F0
  exact ⟨fd, F, F.binds fun _ _ _ _ _ _ us hl => match us, hl with | [_, _, _], _ => rfl⟩
theorem fd_law_layer (c : Sx w h K) : ∃ fd, Fun K "_law_layer" "_law_layer" s_law_layer (He.ga K "_law_layer") fd ∧ Binds K fd P_law_layer [] := by
  obtain ⟨fd, F0⟩ := c.t.d.def_ 32 (d := d_law_layer)
  have F : Fun K "_law_layer" "_law_layer" s_law_layer (He.ga K "_law_layer") fd := funD_fun F0
  exact ⟨fd, F, F.binds fun _ _ _ _ _ _ us hl => match us, hl with | [_, _], _ => rfl⟩
theorem fd_law_net (c : Sx w h K) : ∃ fd, Fun K "_law_net" "_law_net" s_law_net (He.ga K "_law_net") fd ∧ Binds K fd P_law_net [] := by
  obtain ⟨fd, F0⟩ := c.t.d.def_ 33 (d := d_law_net)
  have F : Fun K "_law_net" "_law_net" s_law_net (He.ga K "_law_net") fd := funD_fun F0
  exact ⟨fd, F, F.binds fun _ _ _ _ _ _ us hl => match us, hl with | [_], _ => rfl⟩
theorem fd_law_same (c : Sx w h K) : ∃ fd, Fun K "_law_same" "_law_same" s_law_same (He.ga K "_law_same") fd ∧ Binds K fd P_law_same [] := by
  obtain ⟨fd, F0⟩ := c.t.d.def_ 34 (d := d_law_same)
  have F : Fun K "_law_same" "_law_same" s_law_same (He.ga K "_law_same") fd := funD_fun F0
  exact ⟨fd, F, F.binds fun _ _ _ _ _ _ us hl => match us, hl with | [_, _], _ => rfl⟩
theorem fd_law_line (c : Sx w h K) : ∃ fd, Fun K "_law_line" "_law_line" s_law_line (He.ga K "_law_line") fd ∧ Binds K fd P_law_line [] := by
  obtain ⟨fd, F0⟩ := c.t.d.def_ 35 (d := d_law_line)
  have F : Fun K "_law_line" "_law_line" s_law_line (He.ga K "_law_line") fd := funD_fun F0
  exact ⟨fd, F, F.binds fun _ _ _ _ _ _ us hl => match us, hl with | [_, _, _], _ => rfl⟩
theorem fd_law_lines (c : Sx w h K) : ∃ fd, Fun K "_law_lines" "_law_lines" s_law_lines (He.ga K "_law_lines") fd ∧ Binds K fd P_law_lines [] := by
  obtain ⟨fd, F0⟩ := c.t.d.def_ 36 (d := d_law_lines)
  have F : Fun K "_law_lines" "_law_lines" s_law_lines (He.ga K "_law_lines") fd := funD_fun F0
  exact ⟨fd, F, F.binds fun _ _ _ _ _ _ us hl => match us, hl with | [_], _ => rfl⟩
theorem fd_law (c : Sx w h K) : ∃ fd, Fun K "law" "law" s_law (He.ga K "law") fd ∧ Binds K fd P_law [] := by
  obtain ⟨fd, F0⟩ := c.t.d.def_ 37 (d := d_law)
  have F : Fun K "law" "law" s_law (He.ga K "law") fd := funD_fun F0
  exact ⟨fd, F, F.binds fun _ _ _ _ _ _ us hl => match us, hl with | [_], _ => rfl⟩
theorem bindLaw {f : Addr} {fd : FuncData} (F : Fun K "law" "law" s_law f fd) : ∀ (s : Shared) (u : Value), BindsTo s fd ⟨[u], []⟩ [(("_law_script" : Str), u)] := by
  obtain ⟨oc, od, kV, doc, pm, an, cdv, ct, osl, rfl, lk, hc⟩ := F.ex
  exact fun s u => .of_eq (by rfl)
theorem end_of (c : Sx w h K) (X : K.In h) (G : h.Ns mainGlobals mg) : ∃ fd, (∀ (s : Shared) (u : Value), BindsTo s fd ⟨[u], []⟩ [(("_law_script" : Str), u)]) ∧ ∀ base : Heap, FnG P w K mg base 10 (He.ga K "law") fd P_law (sp_law K) := by
  have T := tx_of c X G
  obtain ⟨f_within, F_within, B_within⟩ := fd_within c
  obtain ⟨f_places, F_places, B_places⟩ := fd_places c
  obtain ⟨f_gives_all, F_gives_all, B_gives_all⟩ := fd_gives_all c
  obtain ⟨f_gives, F_gives, B_gives⟩ := fd_gives c
  obtain ⟨f_init, F_init, B_init⟩ := fd_init c
  obtain ⟨f_put_layer, F_put_layer, B_put_layer⟩ := fd_put_layer c
  obtain ⟨f_present, F_present, B_present⟩ := fd_present c
  obtain ⟨f_finish, F_finish, B_finish⟩ := fd_finish c
  obtain ⟨f_is_number, F_is_number, B_is_number⟩ := fd_is_number c
  obtain ⟨f_read_numbers, F_read_numbers, B_read_numbers⟩ := fd_read_numbers c
  obtain ⟨f_read_count, F_read_count, B_read_count⟩ := fd_read_count c
  obtain ⟨f_check_place, F_check_place, B_check_place⟩ := fd_check_place c
  obtain ⟨f_check_words, F_check_words, B_check_words⟩ := fd_check_words c
  obtain ⟨f_read_row, F_read_row, B_read_row⟩ := fd_read_row c
  obtain ⟨f_read_branch, F_read_branch, B_read_branch⟩ := fd_read_branch c
  obtain ⟨f_read_size, F_read_size, B_read_size⟩ := fd_read_size c
  obtain ⟨f_check_count, F_check_count, B_check_count⟩ := fd_check_count c
  obtain ⟨f_read_layer, F_read_layer, B_read_layer⟩ := fd_read_layer c
  obtain ⟨f_read_line, F_read_line, B_read_line⟩ := fd_read_line c
  obtain ⟨f_words_of, F_words_of, B_words_of⟩ := fd_words_of c
  obtain ⟨f_check_text, F_check_text, B_check_text⟩ := fd_check_text c
  obtain ⟨f_parse, F_parse, B_parse⟩ := fd_parse c
  obtain ⟨f_law_cell, F_law_cell, B_law_cell⟩ := fd_law_cell c
  obtain ⟨f_law_digits, F_law_digits, B_law_digits⟩ := fd_law_digits c
  obtain ⟨f_law_draw, F_law_draw, B_law_draw⟩ := fd_law_draw c
  obtain ⟨f_law_sign, F_law_sign, B_law_sign⟩ := fd_law_sign c
  obtain ⟨f_law_weight, F_law_weight, B_law_weight⟩ := fd_law_weight c
  obtain ⟨f_law_weights, F_law_weights, B_law_weights⟩ := fd_law_weights c
  obtain ⟨f_law_rows, F_law_rows, B_law_rows⟩ := fd_law_rows c
  obtain ⟨f_law_gives, F_law_gives, B_law_gives⟩ := fd_law_gives c
  obtain ⟨f_law_plain_layer, F_law_plain_layer, B_law_plain_layer⟩ := fd_law_plain_layer c
  obtain ⟨f_law_plain_layers, F_law_plain_layers, B_law_plain_layers⟩ := fd_law_plain_layers c
  obtain ⟨f_law_layer, F_law_layer, B_law_layer⟩ := fd_law_layer c
  obtain ⟨f_law_net, F_law_net, B_law_net⟩ := fd_law_net c
  obtain ⟨f_law_same, F_law_same, B_law_same⟩ := fd_law_same c
  obtain ⟨f_law_line, F_law_line, B_law_line⟩ := fd_law_line c
  obtain ⟨f_law_lines, F_law_lines, B_law_lines⟩ := fd_law_lines c
  obtain ⟨f_law, F_law, B_law⟩ := fd_law c
  refine ⟨f_law, bindLaw F_law, fun base => ?_⟩
  have G_within : Cl P w K mg base 1 "within" P_within sp_within := mkCl X G (c.t.d.fact 0) F_within B_within (ok_within F_within T)
  have G_is_number : Cl P w K mg base 1 "is_number" P_is_number sp_isnum := mkCl X G (c.t.d.fact 4) F_is_number B_is_number (ok_isnum F_is_number T)
  have G_read_numbers : Cl P w K mg base 2 "read_numbers" P_read_numbers sp_rnums := mkCl X G (c.t.d.fact 5) F_read_numbers B_read_numbers (ok_rnums F_read_numbers T G_is_number G_within)
  have G_read_count : Cl P w K mg base 3 "read_count" P_read_count sp_rcount := mkCl X G (c.t.d.fact 6) F_read_count B_read_count (ok_rcount F_read_count T G_read_numbers)
  have G_words_of : Cl P w K mg base 1 "words_of" P_words_of sp_wordsof := mkCl X G (c.t.d.fact 15) F_words_of B_words_of (ok_wordsof F_words_of T)
  have G_check_text : Cl P w K mg base 1 "check_text" P_check_text sp_ctext := mkCl X G (c.t.d.fact 16) F_check_text B_check_text (ok_ctext F_check_text T)
  have G_places : Cl P w K mg base 1 "places" P_places sp_places := mkCl X G (c.t.d.fact 1) F_places B_places (ok_places F_places T)
  have gall0 : Cl P w K mg base 1 "gives_all" P_gives_all (sp_gall 0) := mkCl X G (c.t.d.fact 2) F_gives_all B_gives_all ((no_gall (f := He.ga K "gives_all") (fd := f_gives_all)).mono (k := 1) (by decide))
  have g1 : Cl P w K mg base 2 "gives" P_gives (sp_g 1) := mkCl X G (c.t.d.fact 3) F_gives B_gives (ok_g (by decide) F_gives T G_places gall0)
  have gall1 : Cl P w K mg base 3 "gives_all" P_gives_all (sp_gall 1) := mkCl X G (c.t.d.fact 2) F_gives_all B_gives_all (ok_gall F_gives_all T g1)
  have G_gives : Cl P w K mg base 4 "gives" P_gives (sp_g 2) := mkCl X G (c.t.d.fact 3) F_gives B_gives (ok_g (by decide) F_gives T G_places gall1)
  have G_gives_all : Cl P w K mg base 5 "gives_all" P_gives_all (sp_gall 2) := mkCl X G (c.t.d.fact 2) F_gives_all B_gives_all (ok_gall F_gives_all T G_gives)
  have G_put_layer : Ml P w K mg base (He.ga K "Builder") 5 "put_layer" P_put_layer (sp_put (He.ga K "Builder")) := mkMl (c.t.d.fact 65) F_put_layer B_put_layer (ok_put F_put_layer T G_gives)
  have G_present : Ml P w K mg base (He.ga K "Builder") 1 "present" P_present (sp_pres (He.ga K "Builder")) := mkMl (c.t.d.fact 66) F_present B_present (ok_pres F_present T)
  have G_finish : Ml P w K mg base (He.ga K "Builder") 6 "finish" P_finish (sp_fin (He.ga K "Builder")) := mkMl (c.t.d.fact 67) F_finish B_finish (ok_fin F_finish T G_put_layer)
  have G_check_count : Cl P w K mg base 2 "check_count" P_check_count (sp_cc (He.ga K "Builder")) := mkCl X G (c.t.d.fact 12) F_check_count B_check_count (ok_cc F_check_count T G_present)
  have G_check_place : Cl P w K mg base 1 "check_place" P_check_place (sp_place (He.ga K "Builder")) := mkCl X G (c.t.d.fact 7) F_check_place B_check_place (ok_place F_check_place T)
  have G_check_words : Cl P w K mg base 1 "check_words" P_check_words sp_cwords := mkCl X G (c.t.d.fact 8) F_check_words B_check_words (ok_cwords F_check_words T)
  have G_read_row : Cl P w K mg base 3 "read_row" P_read_row (sp_row (He.ga K "Builder")) := mkCl X G (c.t.d.fact 9) F_read_row B_read_row (ok_row F_read_row T G_read_numbers)
  have G_read_branch : Cl P w K mg base 6 "read_branch" P_read_branch (sp_branch (He.ga K "Builder")) := mkCl X G (c.t.d.fact 10) F_read_branch B_read_branch (ok_branch F_read_branch T G_gives_all G_put_layer)
  have G_read_size : Cl P w K mg base 6 "read_size" P_read_size (sp_size (He.ga K "Builder")) := mkCl X G (c.t.d.fact 11) F_read_size B_read_size (ok_size F_read_size T G_read_count G_check_count G_put_layer)
  have G_read_layer : Cl P w K mg base 7 "read_layer" P_read_layer (sp_rlayer (He.ga K "Builder")) := mkCl X G (c.t.d.fact 13) F_read_layer B_read_layer (ok_rlayer F_read_layer T G_read_size G_read_count G_read_numbers G_check_count G_read_branch G_put_layer)
  have G_read_line : Cl P w K mg base 8 "read_line" P_read_line (sp_line2 (He.ga K "Builder")) := mkCl X G (c.t.d.fact 14) F_read_line B_read_line (ok_line2 F_read_line T G_finish G_check_place G_check_words G_read_row G_read_branch G_read_layer)
  have G_init : Mkl P w K mg base (He.ga K "Builder") 1 P_init (sp_init (He.ga K "Builder")) := ⟨⟨_, f_init, ok_init F_init T, He.mkr_ok (c.t.d.fact 68), B_init⟩⟩
  have G_parse : Cl P w K mg base 9 "parse" P_parse (sp_parse (He.ga K "Builder")) := mkCl X G (c.t.d.fact 17) F_parse B_parse (ok_parse F_parse T G_check_text G_init G_words_of G_read_line G_read_count G_finish)
  have G_law_draw : Cl P w K mg base 1 "_law_draw" P_law_draw sp_draw := mkCl X G (c.t.d.fact 20) F_law_draw B_law_draw (ok_draw F_law_draw T)
  have G_law_sign : Cl P w K mg base 2 "_law_sign" P_law_sign sp_sign := mkCl X G (c.t.d.fact 21) F_law_sign B_law_sign (ok_sign F_law_sign T G_law_draw)
  have G_law_cell : Cl P w K mg base 1 "_law_cell" P_law_cell (sp_cell K) := mkCl X G (c.t.d.fact 18) F_law_cell B_law_cell (ok_cell F_law_cell T)
  have G_law_digits : Cl P w K mg base 2 "_law_digits" P_law_digits (sp_digits K) := mkCl X G (c.t.d.fact 19) F_law_digits B_law_digits (ok_digits F_law_digits T G_law_cell)
  have G_law_weight : Cl P w K mg base 3 "_law_weight" P_law_weight sp_weight := mkCl X G (c.t.d.fact 22) F_law_weight B_law_weight (ok_weight F_law_weight T G_law_draw G_law_sign)
  have G_law_weights : Cl P w K mg base 4 "_law_weights" P_law_weights sp_weights := mkCl X G (c.t.d.fact 23) F_law_weights B_law_weights (ok_weights F_law_weights T G_law_weight)
  have G_law_rows : Cl P w K mg base 5 "_law_rows" P_law_rows sp_rows := mkCl X G (c.t.d.fact 24) F_law_rows B_law_rows (ok_rows F_law_rows T G_law_weights)
  have lg0 : Cl P w K mg base 0 "_law_gives" P_law_gives (sp_lgives 0) := mkCl X G (c.t.d.fact 25) F_law_gives B_law_gives (no_lgives)
  have lg1 : Cl P w K mg base 1 "_law_gives" P_law_gives (sp_lgives 1) := mkCl X G (c.t.d.fact 25) F_law_gives B_law_gives (ok_lgives F_law_gives T lg0)
  have G_law_gives : Cl P w K mg base 2 "_law_gives" P_law_gives (sp_lgives 2) := mkCl X G (c.t.d.fact 25) F_law_gives B_law_gives (ok_lgives F_law_gives T lg1)
  have G_law_plain_layer : Cl P w K mg base 6 "_law_plain_layer" P_law_plain_layer sp_pl := mkCl X G (c.t.d.fact 26) F_law_plain_layer B_law_plain_layer (ok_plain_layer F_law_plain_layer T G_law_draw G_law_rows G_law_weights)
  have G_law_plain_layers : Cl P w K mg base 7 "_law_plain_layers" P_law_plain_layers sp_pls := mkCl X G (c.t.d.fact 27) F_law_plain_layers B_law_plain_layers (ok_plain_layers F_law_plain_layers T G_law_plain_layer G_law_gives)
  have G_law_layer : Cl P w K mg base 8 "_law_layer" P_law_layer sp_layer := mkCl X G (c.t.d.fact 28) F_law_layer B_law_layer (ok_layer F_law_layer T G_law_draw G_law_plain_layer G_law_plain_layers G_law_rows G_law_weights G_law_gives)
  have G_law_net : Cl P w K mg base 9 "_law_net" P_law_net sp_net := mkCl X G (c.t.d.fact 29) F_law_net B_law_net (ok_net F_law_net T G_law_draw G_law_layer G_law_gives)
  have G_law_line : Cl P w K mg base 1 "_law_line" P_law_line sp_line := mkCl X G (c.t.d.fact 31) F_law_line B_law_line (ok_line F_law_line T)
  have ll0 : Cl P w K mg base 1 "_law_lines" P_law_lines (sp_llines 0) := mkCl X G (c.t.d.fact 32) F_law_lines B_law_lines (no_llines.mono (k := 1) (by decide))
  have ll1 : Cl P w K mg base 2 "_law_lines" P_law_lines (sp_llines 1) := mkCl X G (c.t.d.fact 32) F_law_lines B_law_lines (ok_lines (by decide) F_law_lines T G_law_line ll0)
  have G_law_lines : Cl P w K mg base 4 "_law_lines" P_law_lines (sp_llines 2) := mkCl X G (c.t.d.fact 32) F_law_lines B_law_lines ((ok_lines (by decide) F_law_lines T G_law_line ll1).mono (k := 4) (by decide))
  have GG : ClG P w K mg base 1 "_law_same" P_law_same sp_same := ⟨⟨_, f_law_same, ok_same F_law_same T, He.glo_ok X G (c.t.d.fact 30), F_law_same.kp, B_law_same⟩⟩
  exact ok_law F_law T G_law_digits G_law_draw G_law_net G_law_lines G_parse GG
end
theorem room10 : Room 10 callerA := ⟨rfl, by decide, by decide⟩
theorem hc_of {q : Program} {loose : List Str} {XP : (Str → Option Value) → Heap → Prop} {d : DefRec} (hd : d.name = "law") (hdf : d.params.defaults = []) :
    PySem.W.WalkO q loose XP hk.says PySem.Challenge.rw_wholenet_k04_loose_texts.row.toRowW d [] (fun f vs => PySem.call f vs) := by
  refine walkG (k := 10) (n := 63) (x := "_law_script") (by rfl) (by decide) hdf room10 ?_
  rintro w mg fa h ⟨K, X, c⟩ G hm
  obtain ⟨fd, hb, F⟩ := end_of (P := PySem.Challenge.rw_wholenet_k04_loose_texts.prog) c X G
  have e := He.glo_ok X G ((c.t.d.fact 33))
  rw [hd, e] at hm
  cases hm
  exact ⟨K, fd, sp_law K, X, hb, (fun H a ns _ _ hS => ⟨a, ns, rfl, hS, fun _ => rfl⟩), fun base _ _ => F base⟩
end Wh

set_option maxHeartbeats 0
/-! The top, run. -/
namespace Wh
def names1 : List Str := ["NetError", "BadNet", "MOST_WEIGHT", "MOST_SIGNAL", "within", "MOST_INPUTS", "MOST_LAYERS", "MOST_SIGNALS", "MOST_ROWS", "MOST_KERNELS", "MEANS", "places", "gives_all", "gives", "MOST_CHARACTERS", "MOST_DIGITS", "DIGITS", "CHARACTERS", "WORDS", "Builder", "is_number", "read_numbers", "read_count", "check_place", "check_words", "read_row", "read_branch", "read_size", "check_count", "read_layer"]
def names2 : List Str := ["read_line", "words_of", "check_text", "parse", "_law_cell", "_law_digits", "_law_draw", "_law_sign", "_law_weight", "_law_weights", "_law_rows", "_law_gives", "_law_plain_layer", "_law_plain_layers", "_law_layer", "_law_net", "_law_signal", "_law_inputs", "_law_same", "_law_line", "_law_lines"]
def names : List Str := names1 ++ names2
abbrev RunP (w : World) : Prop := HandSHeadRun.RunEq R (PySem.W.view R.prog [56]) hk ob 2400 names w
theorem run_false (w : World) : RunP (w.withFollow "special-get-raises" false) := by
  intro os
  kernel_rfl
theorem run_true (w : World) : RunP (w.withFollow "special-get-raises" true) := by
  intro os
  kernel_rfl
theorem run (w : World) : RunP w := PySem.W.byRow2 "special-get-raises" (P := RunP) run_false run_true w
end Wh

open PySem PySem.W PySem.Calls PyProof.Rows
theorem PySem.Challenge.cw_wholenet_k04_loose_texts_holds : PySem.Challenge.rw_wholenet_k04_loose_texts.Holds := by
  w_on; o_law
  refine HandSHeadRun.head_any (r := OpenLaw.row PySem.Challenge.rw_wholenet_k04_loose_texts) (q := view (OpenLaw.row PySem.Challenge.rw_wholenet_k04_loose_texts).prog [56]) (H := Wh.hk) (ob := Wh.ob) (M := 2400) (loose := Wh.names) (d := HandSHeadRun.topDef (OpenLaw.row PySem.Challenge.rw_wholenet_k04_loose_texts).prog 56) (kwd := []) Wh.ob_eq
    (by kernel_rfl) (fun s => by kernel_rfl) Wh.run (by kernel_rfl) (by kernel_rfl) (by kernel_rfl) (by rfl) (by first | assumption | decide +kernel) (by decide +kernel) ⟨rfl, rfl, rfl, rfl, rfl, by decide +kernel⟩ ?hw ?hc
  case hw => w_witness2
  case hc => exact Wh.hc_of (by rfl) (by rfl)
