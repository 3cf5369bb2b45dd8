import PyProof.Rows.All
import Wide.All
import OpenK.AllK
import Wide.FinOn
import KE.KStateDown
import HandS.ForMost
import HandS.Exc
import HandS.TryOnly
import HandS.ExcOwn
import HandS.WordsExc
import HandS.ExcInit
import HandS.ExcField
import HandS.Defaults
import HandS.IsInst
import HandS.Strs
import HandS.Conv
import HandS.Zip
import HandS.Codes
import HandS.TupAny
import HandS.StrMore
import HandS.Head0
import HandS.Head1
import HandS.Head2
import HandS.HeadEnd
import HandS.HeadHook1
import HandS.HeadHook2
import PySem.Challenge.RW_proseknot_k04_whole_web_texts
import Lean
import KE.GoesEnum
import HandS.Walk
import PyProof.StrOps2
import PyProof.Rows.SetFrom
import PyProof.Rows.StrCut
set_option Elab.async false
set_option linter.all false
set_option maxRecDepth 100000
set_option maxHeartbeats 4000000
namespace Kn
open PySem PySem.Spec PyProof.Rows L2
/-! ### the text by places -/
def top (i : Nat) : Stmt := PySem.Challenge.pw_proseknot_k04_whole_web_texts.main.body.getD i (.Pass ⟨0, 0, 0, 0⟩)
abbrev s_T_init : Stmt := inClass (top 3) 0
abbrev s_is_number : Stmt := top 10
abbrev s_is_word : Stmt := top 11
abbrev s_is_sign : Stmt := top 12
abbrev s_is_line : Stmt := top 13
abbrev s_is_argument : Stmt := top 14
abbrev s_is_code_line : Stmt := top 15
abbrev s_is_head : Stmt := top 16
abbrev s_is_section : Stmt := top 17
abbrev s_heads_of : Stmt := top 18
abbrev s_is_web : Stmt := top 19
abbrev s_need_web : Stmt := top 20
abbrev s_head_text : Stmt := top 22
abbrev s_code_text : Stmt := top 23
abbrev s_rows_of : Stmt := top 24
abbrev s_text_in : Stmt := top 25
abbrev s_web_text : Stmt := top 26
abbrev s_starts_in : Stmt := top 27
abbrev s_R_init : Stmt := inClass (top 28) 0
abbrev s_R_stop : Stmt := inClass (top 28) 1
abbrev s_R_now : Stmt := inClass (top 28) 2
abbrev s_R_expect : Stmt := inClass (top 28) 3
abbrev s_R_read_line : Stmt := inClass (top 28) 4
abbrev s_R_read_word : Stmt := inClass (top 28) 5
abbrev s_R_read_params : Stmt := inClass (top 28) 6
abbrev s_R_read_head : Stmt := inClass (top 28) 7
abbrev s_R_read_argument : Stmt := inClass (top 28) 8
abbrev s_R_read_use : Stmt := inClass (top 28) 9
abbrev s_R_read_code : Stmt := inClass (top 28) 10
abbrev s_R_read_section : Stmt := inClass (top 28) 11
abbrev s_read_web : Stmt := top 29
abbrev s_law_mix : Stmt := top 31
abbrev s_law_box : Stmt := top 32
abbrev s_law_draw : Stmt := top 33
abbrev s_law_alike : Stmt := top 34
abbrev s_law_word : Stmt := top 35
abbrev s_law_signs : Stmt := top 36
abbrev s_law_line : Stmt := top 37
abbrev s_law_argument : Stmt := top 38
abbrev s_law_heads : Stmt := top 39
abbrev s_law_code : Stmt := top 40
abbrev s_law_web : Stmt := top 41
abbrev s_law_head : Stmt := top 42
abbrev s_law_coded : Stmt := top 43
abbrev s_law_rows : Stmt := top 44
abbrev s_law_is_sign : Stmt := top 45
abbrev s_law_at : Stmt := top 46
abbrev s_law_read_word : Stmt := top 47
abbrev s_law_read_line : Stmt := top 48
abbrev s_law_read_end : Stmt := top 49
abbrev s_law_read_params : Stmt := top 50
abbrev s_law_read_head : Stmt := top 51
abbrev s_law_read_arguments : Stmt := top 52
abbrev s_law_read_use : Stmt := top 53
abbrev s_law_read : Stmt := top 54
abbrev s_law_text : Stmt := top 55
abbrev s_law_spoilt : Stmt := top 56
abbrev s_law_built : Stmt := top 57
abbrev s_law_asked : Stmt := top 58
abbrev s_law_right : Stmt := top 59
abbrev s_law : Stmt := top 60
def d_T_init : He.DefD := ⟨("InvalidText", some "__init__"), "__init__", "InvalidText.__init__", defArgs s_T_init, defBody s_T_init, defScope s_T_init, [], []⟩
def d_is_number : He.DefD := ⟨("is_number", none), "is_number", "is_number", defArgs s_is_number, defBody s_is_number, defScope s_is_number, [], []⟩
def d_is_word : He.DefD := ⟨("is_word", none), "is_word", "is_word", defArgs s_is_word, defBody s_is_word, defScope s_is_word, [], []⟩
def d_is_sign : He.DefD := ⟨("is_sign", none), "is_sign", "is_sign", defArgs s_is_sign, defBody s_is_sign, defScope s_is_sign, [], []⟩
def d_is_line : He.DefD := ⟨("is_line", none), "is_line", "is_line", defArgs s_is_line, defBody s_is_line, defScope s_is_line, [], []⟩
def d_is_argument : He.DefD := ⟨("is_argument", none), "is_argument", "is_argument", defArgs s_is_argument, defBody s_is_argument, defScope s_is_argument, [], []⟩
def d_is_code_line : He.DefD := ⟨("is_code_line", none), "is_code_line", "is_code_line", defArgs s_is_code_line, defBody s_is_code_line, defScope s_is_code_line, [], []⟩
def d_is_head : He.DefD := ⟨("is_head", none), "is_head", "is_head", defArgs s_is_head, defBody s_is_head, defScope s_is_head, [], []⟩
def d_is_section : He.DefD := ⟨("is_section", none), "is_section", "is_section", defArgs s_is_section, defBody s_is_section, defScope s_is_section, [], []⟩
def d_heads_of : He.DefD := ⟨("heads_of", none), "heads_of", "heads_of", defArgs s_heads_of, defBody s_heads_of, defScope s_heads_of, [], []⟩
def d_is_web : He.DefD := ⟨("is_web", none), "is_web", "is_web", defArgs s_is_web, defBody s_is_web, defScope s_is_web, [], []⟩
def d_need_web : He.DefD := ⟨("need_web", none), "need_web", "need_web", defArgs s_need_web, defBody s_need_web, defScope s_need_web, [], []⟩
def d_head_text : He.DefD := ⟨("head_text", none), "head_text", "head_text", defArgs s_head_text, defBody s_head_text, defScope s_head_text, [], []⟩
def d_code_text : He.DefD := ⟨("code_text", none), "code_text", "code_text", defArgs s_code_text, defBody s_code_text, defScope s_code_text, [], []⟩
def d_rows_of : He.DefD := ⟨("rows_of", none), "rows_of", "rows_of", defArgs s_rows_of, defBody s_rows_of, defScope s_rows_of, [], []⟩
def d_text_in : He.DefD := ⟨("text_in", none), "text_in", "text_in", defArgs s_text_in, defBody s_text_in, defScope s_text_in, [], []⟩
def d_web_text : He.DefD := ⟨("web_text", none), "web_text", "web_text", defArgs s_web_text, defBody s_web_text, defScope s_web_text, [], []⟩
def d_starts_in : He.DefD := ⟨("starts_in", none), "starts_in", "starts_in", defArgs s_starts_in, defBody s_starts_in, defScope s_starts_in, [], []⟩
def d_R_init : He.DefD := ⟨("Reader", some "__init__"), "__init__", "Reader.__init__", defArgs s_R_init, defBody s_R_init, defScope s_R_init, [], []⟩
def d_R_stop : He.DefD := ⟨("Reader", some "stop"), "stop", "Reader.stop", defArgs s_R_stop, defBody s_R_stop, defScope s_R_stop, [], []⟩
def d_R_now : He.DefD := ⟨("Reader", some "now"), "now", "Reader.now", defArgs s_R_now, defBody s_R_now, defScope s_R_now, [], []⟩
def d_R_expect : He.DefD := ⟨("Reader", some "expect"), "expect", "Reader.expect", defArgs s_R_expect, defBody s_R_expect, defScope s_R_expect, [], []⟩
def d_R_read_line : He.DefD := ⟨("Reader", some "read_line"), "read_line", "Reader.read_line", defArgs s_R_read_line, defBody s_R_read_line, defScope s_R_read_line, [], []⟩
def d_R_read_word : He.DefD := ⟨("Reader", some "read_word"), "read_word", "Reader.read_word", defArgs s_R_read_word, defBody s_R_read_word, defScope s_R_read_word, [], []⟩
def d_R_read_params : He.DefD := ⟨("Reader", some "read_params"), "read_params", "Reader.read_params", defArgs s_R_read_params, defBody s_R_read_params, defScope s_R_read_params, [], []⟩
def d_R_read_head : He.DefD := ⟨("Reader", some "read_head"), "read_head", "Reader.read_head", defArgs s_R_read_head, defBody s_R_read_head, defScope s_R_read_head, [], []⟩
def d_R_read_argument : He.DefD := ⟨("Reader", some "read_argument"), "read_argument", "Reader.read_argument", defArgs s_R_read_argument, defBody s_R_read_argument, defScope s_R_read_argument, [], []⟩
def d_R_read_use : He.DefD := ⟨("Reader", some "read_use"), "read_use", "Reader.read_use", defArgs s_R_read_use, defBody s_R_read_use, defScope s_R_read_use, [], []⟩
def d_R_read_code : He.DefD := ⟨("Reader", some "read_code"), "read_code", "Reader.read_code", defArgs s_R_read_code, defBody s_R_read_code, defScope s_R_read_code, [], []⟩
def d_R_read_section : He.DefD := ⟨("Reader", some "read_section"), "read_section", "Reader.read_section", defArgs s_R_read_section, defBody s_R_read_section, defScope s_R_read_section, [], []⟩
def d_read_web : He.DefD := ⟨("read_web", none), "read_web", "read_web", defArgs s_read_web, defBody s_read_web, defScope s_read_web, [], []⟩
def d_law_mix : He.DefD := ⟨("_law_mix", none), "_law_mix", "_law_mix", defArgs s_law_mix, defBody s_law_mix, defScope s_law_mix, [], []⟩
def d_law_box : He.DefD := ⟨("_law_box", none), "_law_box", "_law_box", defArgs s_law_box, defBody s_law_box, defScope s_law_box, [], []⟩
def d_law_draw : He.DefD := ⟨("_law_draw", none), "_law_draw", "_law_draw", defArgs s_law_draw, defBody s_law_draw, defScope s_law_draw, [], []⟩
def d_law_alike : He.DefD := ⟨("_law_alike", none), "_law_alike", "_law_alike", defArgs s_law_alike, defBody s_law_alike, defScope s_law_alike, [], []⟩
def d_law_word : He.DefD := ⟨("_law_word", none), "_law_word", "_law_word", defArgs s_law_word, defBody s_law_word, defScope s_law_word, [], []⟩
def d_law_signs : He.DefD := ⟨("_law_signs", none), "_law_signs", "_law_signs", defArgs s_law_signs, defBody s_law_signs, defScope s_law_signs, [], []⟩
def d_law_line : He.DefD := ⟨("_law_line", none), "_law_line", "_law_line", defArgs s_law_line, defBody s_law_line, defScope s_law_line, [], []⟩
def d_law_argument : He.DefD := ⟨("_law_argument", none), "_law_argument", "_law_argument", defArgs s_law_argument, defBody s_law_argument, defScope s_law_argument, [], []⟩
def d_law_heads : He.DefD := ⟨("_law_heads", none), "_law_heads", "_law_heads", defArgs s_law_heads, defBody s_law_heads, defScope s_law_heads, [], []⟩
def d_law_code : He.DefD := ⟨("_law_code", none), "_law_code", "_law_code", defArgs s_law_code, defBody s_law_code, defScope s_law_code, [], []⟩
def d_law_web : He.DefD := ⟨("_law_web", none), "_law_web", "_law_web", defArgs s_law_web, defBody s_law_web, defScope s_law_web, [], []⟩
def d_law_head : He.DefD := ⟨("_law_head", none), "_law_head", "_law_head", defArgs s_law_head, defBody s_law_head, defScope s_law_head, [], []⟩
def d_law_coded : He.DefD := ⟨("_law_coded", none), "_law_coded", "_law_coded", defArgs s_law_coded, defBody s_law_coded, defScope s_law_coded, [], []⟩
def d_law_rows : He.DefD := ⟨("_law_rows", none), "_law_rows", "_law_rows", defArgs s_law_rows, defBody s_law_rows, defScope s_law_rows, [], []⟩
def d_law_is_sign : He.DefD := ⟨("_law_is_sign", none), "_law_is_sign", "_law_is_sign", defArgs s_law_is_sign, defBody s_law_is_sign, defScope s_law_is_sign, [], []⟩
def d_law_at : He.DefD := ⟨("_law_at", none), "_law_at", "_law_at", defArgs s_law_at, defBody s_law_at, defScope s_law_at, [], []⟩
def d_law_read_word : He.DefD := ⟨("_law_read_word", none), "_law_read_word", "_law_read_word", defArgs s_law_read_word, defBody s_law_read_word, defScope s_law_read_word, [], []⟩
def d_law_read_line : He.DefD := ⟨("_law_read_line", none), "_law_read_line", "_law_read_line", defArgs s_law_read_line, defBody s_law_read_line, defScope s_law_read_line, [], []⟩
def d_law_read_end : He.DefD := ⟨("_law_read_end", none), "_law_read_end", "_law_read_end", defArgs s_law_read_end, defBody s_law_read_end, defScope s_law_read_end, [], []⟩
def d_law_read_params : He.DefD := ⟨("_law_read_params", none), "_law_read_params", "_law_read_params", defArgs s_law_read_params, defBody s_law_read_params, defScope s_law_read_params, [], []⟩
def d_law_read_head : He.DefD := ⟨("_law_read_head", none), "_law_read_head", "_law_read_head", defArgs s_law_read_head, defBody s_law_read_head, defScope s_law_read_head, [], []⟩
def d_law_read_arguments : He.DefD := ⟨("_law_read_arguments", none), "_law_read_arguments", "_law_read_arguments", defArgs s_law_read_arguments, defBody s_law_read_arguments, defScope s_law_read_arguments, [], []⟩
def d_law_read_use : He.DefD := ⟨("_law_read_use", none), "_law_read_use", "_law_read_use", defArgs s_law_read_use, defBody s_law_read_use, defScope s_law_read_use, [], []⟩
def d_law_read : He.DefD := ⟨("_law_read", none), "_law_read", "_law_read", defArgs s_law_read, defBody s_law_read, defScope s_law_read, [], []⟩
def d_law_text : He.DefD := ⟨("_law_text", none), "_law_text", "_law_text", defArgs s_law_text, defBody s_law_text, defScope s_law_text, [], []⟩
def d_law_spoilt : He.DefD := ⟨("_law_spoilt", none), "_law_spoilt", "_law_spoilt", defArgs s_law_spoilt, defBody s_law_spoilt, defScope s_law_spoilt, [], []⟩
def d_law_built : He.DefD := ⟨("_law_built", none), "_law_built", "_law_built", defArgs s_law_built, defBody s_law_built, defScope s_law_built, [], []⟩
def d_law_asked : He.DefD := ⟨("_law_asked", none), "_law_asked", "_law_asked", defArgs s_law_asked, defBody s_law_asked, defScope s_law_asked, [], []⟩
def d_law_right : He.DefD := ⟨("_law_right", none), "_law_right", "_law_right", defArgs s_law_right, defBody s_law_right, defScope s_law_right, [], []⟩
def d_law : He.DefD := ⟨("law", none), "law", "law", defArgs s_law, defBody s_law, defScope s_law, [], []⟩
def fn : List He.DefD := [d_T_init, d_is_number, d_is_word, d_is_sign, d_is_line, d_is_argument, d_is_code_line, d_is_head, d_is_section, d_heads_of, d_is_web, d_need_web, d_head_text, d_code_text, d_rows_of, d_text_in, d_web_text, d_starts_in, d_R_init, d_R_stop, d_R_now, d_R_expect, d_R_read_line, d_R_read_word, d_R_read_params, d_R_read_head, d_R_read_argument, d_R_read_use, d_R_read_code, d_R_read_section, d_read_web, d_law_mix, d_law_box, d_law_draw, d_law_alike, d_law_word, d_law_signs, d_law_line, d_law_argument, d_law_heads, d_law_code, d_law_web, d_law_head, d_law_coded, d_law_rows, d_law_is_sign, d_law_at, d_law_read_word, d_law_read_line, d_law_read_end, d_law_read_params, d_law_read_head, d_law_read_arguments, d_law_read_use, d_law_read, d_law_text, d_law_spoilt, d_law_built, d_law_asked, d_law_right, d_law]
def fa : List He.Fa := [.glo "is_number", .glo "is_word", .glo "is_sign", .glo "is_line", .glo "is_argument", .glo "is_code_line", .glo "is_head", .glo "is_section", .glo "heads_of", .glo "is_web", .glo "need_web", .glo "head_text", .glo "code_text", .glo "rows_of", .glo "text_in", .glo "web_text", .glo "starts_in", .glo "read_web", .glo "_law_mix", .glo "_law_box", .glo "_law_draw", .glo "_law_alike", .glo "_law_word", .glo "_law_signs", .glo "_law_line", .glo "_law_argument", .glo "_law_heads", .glo "_law_code", .glo "_law_web", .glo "_law_head", .glo "_law_coded", .glo "_law_rows", .glo "_law_is_sign", .glo "_law_at", .glo "_law_read_word", .glo "_law_read_line", .glo "_law_read_end", .glo "_law_read_params", .glo "_law_read_head", .glo "_law_read_arguments", .glo "_law_read_use", .glo "_law_read", .glo "_law_text", .glo "_law_spoilt", .glo "_law_built", .glo "_law_asked", .glo "_law_right", .glo "law", .glo "InvalidText", .glo "Reader", .str "LETTERS" "abcdefghijklmnopqrstuvwxyz", .int "MOST_LETTERS" 8, .int "MOST_PARAMS" 3, .int "MOST_ARGUMENTS" 3, .int "MOST_INDENT" 20, .free "isinstance", .free "int", .free "bool", .free "str", .free "len", .free "all", .free "ord", .free "tuple", .free "set", .free "enumerate", .free "zip", .free "range", .free "list", .cls "Reader", .noat "Reader" "text", .noat "Reader" "at", .mkr "Reader", .meth "Reader" "stop", .meth "Reader" "now", .meth "Reader" "expect", .meth "Reader" "read_line", .meth "Reader" "read_word", .meth "Reader" "read_params", .meth "Reader" "read_head", .meth "Reader" "read_argument", .meth "Reader" "read_use", .meth "Reader" "read_code", .meth "Reader" "read_section", .noat "InvalidText" "text", .noat "InvalidText" "at", .keep "InvalidText", .exm "InvalidText" "InvalidText" true]
/-! ### the error's class -/
def oexB (K : PySem.W.Frag) (C : Addr) : Bool := match K.lookup C with
  | some ⟨.type "type", _, .cls cd, sl⟩ => (match cd.mro, sl.toList with
    | .ref C' :: bm, [_, _, _, _, some (.builtin n), _] => C' == C && (n == "ValueError.__new__" && (!cd.hasDel && (cd.hasDict && PySem.HandSPX.refsVE bm)))
    | _, _ => false)
  | _ => false
def oexA (K : PySem.W.Frag) (C : Addr) : Bool := oexB K C && (decide (PySem.W.findIn K (.ref C) "__setattr__" = some (some (.builtin "object.__setattr__"))) && (decide (PySem.W.subIn K (.ref C) (.type "BaseException") = some true) && (decide (PySem.W.typeIn K (.ref C) = some (.type "type")) && (PySem.W.keepIn K (.ref C) && (xfB K C &&
  (decide (PySem.W.findIn K (.ref C) "__init__" = some (some (.ref (He.ma K C "__init__")))) && decide (PySem.W.typeIn K (.ref (He.ma K C "__init__")) = some (.type "function"))))))))
theorem oexA_ok {K : PySem.W.Frag} {C : Addr} (h : oexA K C = true) : OexC K C ∧ XfC K C ∧ PySem.W.findIn K (.ref C) "__init__" = some (some (.ref (He.ma K C "__init__"))) ∧ PySem.W.typeIn K (.ref (He.ma K C "__init__")) = some (.type "function") := by
  unfold oexA at h
  simp only [Bool.and_eq_true, decide_eq_true_eq] at h
  obtain ⟨h0, h1, h2, h3, h4, h5, h6, h7⟩ := h
  refine ⟨⟨?_, h1, h2, h3, h4⟩, xfB_ok h5, h6, h7⟩
  unfold oexB at h0
  split at h0
  · rename_i dd cd sl ho
    split at h0
    · rename_i C' bm k0 k1 k2 k3 n k5 hm hs
      simp only [Bool.and_eq_true, beq_iff_eq, Bool.not_eq_true'] at h0
      obtain ⟨rfl, rfl, hdel, hd, ht⟩ := h0
      obtain ⟨nm, bs, mro, ns, qn, hdd, sn, sub, ab, col, del⟩ := cd
      dsimp only at hm hdel hd
      subst hm hdel hd
      have hsl : sl = #[k0, k1, k2, k3, some (.builtin "ValueError.__new__"), k5] := by
        obtain ⟨l⟩ := sl
        simp only at hs
        rw [hs]
      subst hsl
      exact ⟨nm, qn, ns, bs, bm, sn, sub, ab, col, dd, k0, k1, k2, k3, k5, ho, ht⟩
    · cases h0
  · cases h0
/-! ### the Hook -/
abbrev AlK : Type := Bool × He.AlD
def SaysK (K : PySem.W.Frag) : Prop := oexA K (He.ga K "InvalidText") = true ∧ He.SaysD fa fn K
def obsK (n : Nat) (g : Addr → Option Obj) : AlK := (oexA (He.frG g (He.asD g n)) (He.ga (He.frG g (He.asD g n)) "InvalidText"), He.obsDG n fa fn g)
def hk : PySem.W.Hook where
  α := AlK
  obs := fun s => obsK 5 s.heap.get?
  val := fun _ => (true, He.valD fn)
  says := fun _ h => ∃ K : PySem.W.Frag, K.In h ∧ SaysK K
  of := fun _ _ e => ⟨_, He.frG_in, (Prod.mk.inj e).1, (Prod.mk.inj e).2⟩
  keeps := fun _ _ _ ⟨K, hK, c⟩ k => ⟨K, PySem.W.Frag.In.keeps hK k, c⟩
end Kn

set_option maxHeartbeats 0
namespace Kn
open PySem PySem.Spec PyProof.Rows L2
def loose0 : List PySem.Str := ["KnotError", "InvalidWeb", "InvalidText", "LETTERS", "MOST_LETTERS", "MOST_PARAMS", "MOST_ARGUMENTS", "MOST_INDENT", "is_number", "is_word", "is_sign", "is_line", "is_argument", "is_code_line", "is_head", "is_section", "heads_of", "is_web", "need_web", "head_text", "code_text", "rows_of", "text_in", "web_text", "starts_in", "Reader", "read_web", "_law_mix", "_law_box", "_law_draw"]
def loose1 : List PySem.Str := ["_law_alike", "_law_word", "_law_signs", "_law_line", "_law_argument", "_law_heads", "_law_code", "_law_web", "_law_head", "_law_coded", "_law_rows", "_law_is_sign", "_law_at", "_law_read_word", "_law_read_line", "_law_read_end", "_law_read_params", "_law_read_head", "_law_read_arguments", "_law_read_use", "_law_read", "_law_text", "_law_spoilt", "_law_built", "_law_asked", "_law_right"]
def loose : List PySem.Str := loose0 ++ loose1
abbrev R : PySem.W.OpenRow := PySem.W.OpenLaw.row PySem.Challenge.rw_proseknot_k04_whole_web_texts
def ob (s : PySem.W.SharedT) : AlK := obsK 5 (HandSHeadRun.getT s)
theorem ob_eq (s : PySem.W.SharedT) : ob s = hk.obs s.abs := by
  have e : HandSHeadRun.getT s = s.abs.heap.get? := funext (HandSHeadRun.getT_eq s)
  show obsK 5 (HandSHeadRun.getT s) = obsK 5 s.abs.heap.get?
  rw [e]
theorem run (w : World) : HandSHeadRun.RunEq R (PySem.W.view R.prog [60]) hk ob 6000 loose w := by
  intro os
  kernel_rfl
end Kn

set_option maxHeartbeats 4000000
/-! Rules that the layer lacks: enumerate of a tuple, len(set(a tuple of unlike texts)), text * int, f(k = v). -/
namespace KnR
open PySem PySem.Spec PyProof.Rows L2

/-! ### enumerate(tuple) -/
set_option maxHeartbeats 1000000 in
theorem new_enum1 {v : Value} {o : Obj} {G : Heap → Prop} (B : Begins v o G) :
    Meets (Builtin.«enumerate.__new__» ⟨[.type "enumerate", v], []⟩) (fun _ R s => G s.heap ∧
      R (.ok (.ret (.ref (s.heap.push o).objs.size))) { s with heap := (s.heap.push o).push { cls := .type "enumerate", data := .fields #[.none, .bool false, .ref s.heap.objs.size, rawInt 0, .none, .none] } }) :=
  .of_wp fun prog w A R s z => by
    obtain ⟨hp, g, d, tk, os⟩ := s
    obtain ⟨z1, z⟩ := z
    have hsub := sub_enumerate
    have it1 : ∀ {A' : Around} {E : Value → Shared → Prop} {Q : Value → Shared → Prop}, Q (.ref hp.objs.size) ⟨hp.push o, g, d, tk, os⟩ → wpAny (model prog w) A' (pyIter v) Q E ⟨hp, g, d, tk, os⟩ :=
      fun q => B.iter prog w _ _ ⟨hp, g, d, tk, os⟩ _ z1 q
    wp_walk using it1
    refine wpAny_stack_any fun st => wpAny_pure ?_
    split
    · rename_i c _ _ _ _ _
      cases (c == Value.type "enumerate") <;>
        (wp_walk using it1
         exact ⟨_, rfl, z⟩)
    · wp_walk using it1
      exact ⟨_, rfl, z⟩
section
variable {prog : Program} {w : World} {A : Around} {E : Value → Shared → Prop} {s : Shared}
theorem enum_makes {v : Value} {o : Obj} {G : Heap → Prop} {Q : Value → Shared → Prop} (B : Begins v o G) (h1 : G s.heap)
    (h : ∀ h', IsEnum h' (s.heap.objs.size + 1) s.heap.objs.size 0 .none → h'.get? s.heap.objs.size = some o →
      (∀ b o, s.heap.get? b = some o → h'.get? b = some o) → Q (.ref (s.heap.objs.size + 1)) { s with heap := h' }) :
    wpAny (model prog w) A (call (.type "enumerate") [v]) Q E s := by
  refine callType_new F.called_enumerate (by decide) (F.typeCall_enumerate_1 _) (F.newCall_enumerate_1 _) (fun obj => F.args_object_init_2 obj _) F.entry_enumerate_new
    (new_enum1 B) ⟨h1, ?_⟩
  have hz : (s.heap.push o).objs.size = s.heap.objs.size + 1 := Heap.size_push ..
  show _ ∧ _
  rw [hz]
  have he : IsEnum ((s.heap.push o).push { cls := .type "enumerate", data := .fields #[.none, .bool false, .ref s.heap.objs.size, rawInt 0, .none, .none] }) (s.heap.objs.size + 1) s.heap.objs.size 0 .none := by
    have q := Heap.get?_push_size (s.heap.push o) (o := { cls := .type "enumerate", data := .fields #[.none, .bool false, .ref s.heap.objs.size, rawInt 0, .none, .none] }) rfl
    rw [hz] at q
    exact q
  exact ⟨⟨_, he, rfl⟩, h _ he (Heap.get?_push_of_some _ (Heap.get?_push_size _ B.free)) fun b o x => Heap.get?_push_of_some _ (Heap.get?_push_of_some _ x)⟩
end
/-- the tuple at a, each item in a new pair -/
def IteT (K : PySem.W.Frag) (a : Addr) : It :=
  ⟨fun i H => ∃ (xs : List V) (x : V), SqT K H a xs ∧ xs[i]? = some x, fun i H v H' => ∃ T x, v = .ref T ∧ H T = none ∧ H' = upd H T (.tup [.int (i : Nat), x]) ∧ ∀ xs, SqT K H a xs → xs[i]? = some x, fun i H => ∃ xs : List V, SqT K H a xs ∧ xs.length ≤ i⟩
theorem turn_enumT {P : Program} {w : World} {K : PySem.W.Frag} {elts : List Expr} {kk : Nat} {tpos : Pos} (a e it : Addr) :
    Turn P w K (.Tuple elts kk tpos) (IteT K a) [e, it] e (fun i h => (∃ old, IsEnum h e it ((i : Nat) : Int) old) ∧ h.IsTupleIter it a i ∧ e ≠ it ∧ a ≠ it ∧ e ≠ a) where
  mem := by simp
  obj := fun i h st b hb => by
    obtain ⟨⟨old, he⟩, ⟨o, ho, hc, hd⟩, _⟩ := st
    have e' : b = e ∨ b = it := by simpa using hb
    rcases e' with z | z
    · rw [z]; exact ⟨_, he, fun v q => nomatch q⟩
    · rw [z]; exact ⟨o, ho, fun v q => by rw [hd] at q; cases q⟩
  keep := fun i h h' st k => let ⟨⟨old, he⟩, hi, hne⟩ := st; ⟨⟨old, k e (by simp) _ he⟩, hi.at fun o q => k it (by simp) o q, hne⟩
  item := by
    intro X hP hw hK hc i pins s σ H E I hf st hg
    subst hP hw hK
    obtain ⟨⟨old, he⟩, hit, hne, hai, hea⟩ := st
    obtain ⟨xs, x, hq, hx⟩ := hg
    obtain ⟨its, rv, p, hz⟩ := I.tuple hq
    obtain ⟨u, hu, ru⟩ := rv.get hx
    have hel : e < s.heap.objs.size := Heap.lt_size he
    have hil : it < s.heap.objs.size := by obtain ⟨_, q, _⟩ := hit; exact Heap.lt_size q
    have hlt : i < its.toArray.size := by
      have q := (List.getElem?_eq_some_iff.mp hu).1
      simpa using q
    have D : Draws X.prog X.w X.A.in1 it [it, a] its.toArray.size (fun i v => its.toArray[i]? = some v) (fun i h => h.IsTupleIter it a i ∧ h.IsTuple a its.toArray) :=
      Draws.tuple (by show X.A.handled = none; exact I.ok.hd hc) it a hai its.toArray
    refine wpAny_pyNext_enum_itemC D he ⟨hit, p⟩ hlt hne (by simp [hne, hea]) fun u' h' tk hu' ho hit' hT hsz hk => ?_
    have eu : u' = u := by
      have q : its[i]? = some u' := by simpa using hu'
      rw [hu] at q
      exact (Option.some.inj q).symm
    subst eu
    refine ⟨_, rfl, wpAny_letOwnedTupleGo_enum (s := { s with heap := h', toks := tk + 1 }) ho fun h'' he' sb => ?_⟩
    have hT2 : h''.get? s.heap.objs.size = some { cls := .type "tuple", data := .seq #[.int i tk, u'] } := (sb.2 _ (Nat.ne_of_gt hel)).trans hT
    have new : ObjOk X.prog X.w (upd H s.heap.objs.size (.tup [.int (i : Nat), x])) h'' s.heap.objs.size (.tup [.int (i : Nat), x]) :=
      ⟨by show 2 ≤ sizeLine; decide, [.int i tk, u'], .cons ⟨_, rfl⟩ (.cons ru .nil), ⟨_, hT2, rfl, _, rfl⟩⟩
    have I1 : Inv X pins σ (upd H s.heap.objs.size (.tup [.int (i : Nat), x])) { s with heap := h'', toks := tk + 1 } :=
      I.turnedNew (ch := [e, it]) (fun b ob hb q => (sb.2 b (fun z => hb (by simp [z]))).trans (hk b ob (fun z => hb (by simp [z])) (fun z => hb (by simp [z])) q)) hf (Nat.le_refl _) new
    refine ⟨.ref s.heap.objs.size, _, I1, rfl, ⟨_, x, rfl, I.hok.fresh (Nat.le_refl _), rfl, fun ys hy => by rw [I.tuple_inj hy hq]; exact hx⟩, ⟨⟨u', ?_⟩, hit'.1.at fun o q => (sb.2 it (Ne.symm hne)).trans q, hne, hai, hea⟩, fun b hb => ?_⟩
    · have e1 : ((i + 1 : Nat) : Int) = (i : Int) + 1 := by omega
      rw [e1]; exact he'
    · have hb' : b < s.heap.objs.size := by
        have e' : b = e ∨ b = it := by simpa using hb
        rcases e' with z | z
        · rw [z]; exact hel
        · rw [z]; exact hil
      rw [upd_ne (Nat.ne_of_lt hb')]
      exact (hf b hb).1
  done := by
    intro X hP hw hK hc i pins s σ H E I hf st hg
    subst hP hw hK
    obtain ⟨⟨old, he⟩, hit, hne, hai, hea⟩ := st
    obtain ⟨xs, hq, hx⟩ := hg
    obtain ⟨its, rv, p, hz⟩ := I.tuple hq
    obtain ⟨f0, f1, f2, f3, f4, f5⟩ := hf it (by simp)
    have hl := rv.length
    have hh : X.A.in1.handled = none := by show X.A.handled = none; exact I.ok.hd hc
    have D : Draws X.prog X.w X.A.in1 it [it, a] i (fun _ _ => True) (fun j h => j = i ∧ h.IsTupleIter it a j ∧ h.IsTuple a its.toArray) :=
      { live := fun _ _ st => let ⟨o, ho, _⟩ := st.2.1; ⟨o, ho⟩
        frame := fun _ _ _ st hk => ⟨st.1, st.2.1.at fun o q => hk it (by simp) o q, st.2.2.at fun o q => hk a (by simp) o q⟩
        item := fun j s Q E hj st hQ => absurd st.1 (Nat.ne_of_lt hj)
        done := fun s Q E st hE => wpAny_nextOf_tuple_end hh st.2.1 st.2.2 (by simp; omega) hE }
    exact wpAny_pyNext_enum_endD D he ⟨rfl, hit, p⟩ fun h' eb => ⟨rfl, I.turned (t' := s.toks) (fun b o hb q => eb b o hb q) f0 f1 f3 f4 f5⟩
  self := fun A i s Q E st h => let ⟨⟨_, he⟩, _⟩ := st; wpAny_pyIter_enum he h
def iEnumT (K : PySem.W.Frag) (ta : TA) : TI := fun σ H R => ta σ H fun vs H1 => ∃ a xs, vs = [.ref a] ∧ SqT K H1 a xs ∧ R (IteT K a) H1
theorem pi_enumT {X : Cx} {e : Expr} {ta : TA} {p pos tpos : Pos} {elts : List Expr} {kk : Nat} (hg : Gl X "enumerate") (hm : X.mg "enumerate" = none) (ha : PA X [e] ta) (hs : starEach [e] X.env = [(false, eval e X.env)] := by rfl) :
    PI X (.Tuple elts kk tpos) (.Call (.Name "enumerate" p) [e] [] pos) (iEnumT X.K ta) := by
  refine ⟨fun pins s σ H R I h => ?_⟩
  refine Call_ (ld_blt I hg hm boot_enumerate (PyProof.Rows.callWith_type1 (thn (ha.run pos pins s σ H _ I h) fun us s1 ⟨vs, H1, I1, r1, q1⟩ => ?_) hs rfl))
  obtain ⟨a, xs, ex, hq, q⟩ := q1
  subst ex
  cases r1 with
  | cons r rr =>
    cases rr
    cases r
    obtain ⟨its, rv, p', hz⟩ := I1.tuple hq
    have hal : a < s1.heap.objs.size := by obtain ⟨_, q, _⟩ := p'; exact Heap.lt_size q
    refine enum_makes (begins_tuple a its.toArray) p' fun h' he hit hk => wpAny_pyIter_enum he ?_
    have I2 : Inv X pins σ H1 { s1 with heap := h' } := I1.kept (t' := s1.toks) hk
    refine ⟨s1.heap.objs.size + 1, [s1.heap.objs.size + 1, s1.heap.objs.size], _, _, H1, rfl, I2, turn_enumT a (s1.heap.objs.size + 1) s1.heap.objs.size, ⟨⟨.none, he⟩, ⟨_, hit, rfl, rfl⟩, Nat.succ_ne_self _, Nat.ne_of_lt hal, Nat.ne_of_gt (Nat.lt_succ_of_lt hal)⟩, fun b hb => ?_, q⟩
    have e' : b = s1.heap.objs.size + 1 ∨ b = s1.heap.objs.size := by simpa using hb
    have hle : s1.heap.objs.size ≤ b := by
      rcases e' with z | z
      · rw [z]; exact Nat.le_add_right _ _
      · rw [z]; exact Nat.le_refl _
    exact I1.fpOk hle (I1.hok.fresh hle)
theorem walk_enumT {K : PySem.W.Frag} {a : Addr} {xs : List V} : Walk (IteT K a) xs.length (fun H => SqT K H a xs) (YPair (fun i => some (.int (i : Nat))) (fun i => xs[i]?)) := by
  refine ⟨fun i _ hi q => ⟨xs, xs[i], q, by simp [hi]⟩, fun _ q => ⟨xs, q, Nat.le_refl _⟩, fun i H v H' _ q y => ?_⟩
  obtain ⟨T, x, h1, h2, h3, h4⟩ := y
  exact ⟨T, .int (i : Nat), x, h1, h2, h3, rfl, h4 xs q⟩

/-! ### f(k = v, ..), nothing by place -/
def tCallK0 (sp : Sp) (gV : List V → List V → List V) (E : XK) (tk : TA) : TE := fun σ H Q => tk σ H fun zs H2 => sp (gV [] zs) H2 Q E
theorem pe_callK0 {X : Cx} {CX : CXT} {k : Nat} {f : Addr} {fd : FuncData} {ps ks : List Str} {sp : Sp} {E : XK} {x : Str} {p pos : Pos} {kws : List Keyword} {tk : TA} {g : List Value → List Value → List Value} {gV : List V → List V → List V}
    (F : FnOk X.prog X.w X.K X.mg X.base CX k f fd ps sp) (hr : Room k X.A) (hg : Gl X x) (hm : X.mg x = some (.ref f)) (hk : PySem.W.keepIn X.K (.ref f) = true) (hb : KBinds X.K fd ps ks g gV) (hx : Passes CX X E)
    (hkw : PK X kws tk) (hall : (backToKw pos (keywordEach kws X.env)).all (·.1.isSome) = true := by rfl) (hks : (backToKw pos (keywordEach kws X.env)).filterMap (·.1) = ks := by rfl)
    (hdb : (x == ("__debug__" : Str)) = false := by decide)
    (hpl : ((backTo pos (starEach [] X.env)).any (·.1) || (backToKw pos (keywordEach kws X.env)).any (·.1.isNone)) = false := by rfl) :
    PE X (.Call (.Name x p) [] kws pos) (tCallK0 sp gV E tk) := by
  refine ⟨fun pins s σ H Q I h => ?_⟩
  refine wpAny_Call_Name_kw (ld_glob I hg hm ?_ hdb)
  refine PySem.W.callWith_KW0 (h₀ := X.base) I.ok.mod.kin hk hall ?_ hpl
  refine thn (hkw.run pos pins s σ H _ I h) fun ws s2 ⟨zs, H2, I2, rz, q2⟩ => ⟨I2.kIn, ?_⟩
  rw [hks]
  exact run_fnk (us := []) (vs := []) F hr hb hx I2 .nil rz q2

/-! ### text * int, 0 to 100 -/
def rMulS : R2 := fun x y H Q => ∃ z i, x = .str z ∧ y = .int i ∧ 0 ≤ i ∧ i ≤ 100 ∧ z.length ≤ 1000 ∧ Q (.str ⟨(List.replicate i.toNat z.cps.toList).flatten.toArray⟩) H
theorem foldl_cat (c : Array Nat) : ∀ (n : Nat) (acc : Array Nat), ((List.replicate n c).foldl (· ++ ·) acc).toList = acc.toList ++ (List.replicate n c.toList).flatten
  | 0, acc => by simp
  | n + 1, acc => by
    rw [List.replicate_succ, List.foldl_cons, foldl_cat c n, List.replicate_succ, List.flatten_cons]
    simp [List.append_assoc]
theorem op_mulS {X : Cx} : OpR X (binaryOp .Mult) rMulS := by
  intro pins s σ H x y v u Q I rx ry h
  obtain ⟨z, i, rfl, rfl, h0, h1, hz, q⟩ := h
  obtain ⟨t, rfl⟩ := rx
  obtain ⟨t', rfl⟩ := ry
  have hline : sizeLine = 16777216 := sizeLine_eq
  have hmul : z.length * i.toNat ≤ 1000 * 100 := Nat.mul_le_mul hz (by omega)
  refine P.mul_str ?_ ?_ ?_ ?_
  · have e1 : ¬ i < -(2 ^ 63 : Int) := by omega
    have e2 : ¬ i ≥ (2 ^ 63 : Int) := by omega
    rw [decide_eq_false e1, decide_eq_false e2] <;> rfl
  · intro _ _ hgt
    have hd : (2 ^ 63 - 1 : Int) / 100 ≤ (2 ^ 63 - 1) / i := by
      refine Int.le_ediv_of_mul_le (by omega) ?_
      have : (2 ^ 63 - 1 : Int) / 100 = 92233720368547758 := by decide
      rw [this]
      have : (92233720368547758 : Int) * i ≤ 92233720368547758 * 100 := Int.mul_le_mul_of_nonneg_left h1 (by decide)
      omega
    have : (2 ^ 63 - 1 : Int) / 100 = 92233720368547758 := by decide
    omega
  · intro _ _
    unfold Builtin.Str.tooLong
    simp only [decide_eq_false_iff_not]
    omega
  · by_cases c1 : i < 1
    · have e : i = 0 := by omega
      subst e
      rw [if_pos c1]
      refine ⟨by decide, ?_⟩
      exact ⟨.str _, H, I.tok _, ⟨_, rfl⟩, q⟩
    · rw [if_neg c1]
      by_cases c2 : (i == 1 || z.length == 0) = true
      · rw [if_pos c2]
        refine ⟨.str z, H, I, ⟨_, rfl⟩, ?_⟩
        have e : (⟨(List.replicate i.toNat z.cps.toList).flatten.toArray⟩ : Str) = z := by
          refine TL.ext_tl ?_
          show (List.replicate i.toNat z.cps.toList).flatten.toArray.toList = z.cps.toList
          rcases (Bool.or_eq_true _ _).mp c2 with c | c
          · have e1 : i = 1 := beq_iff_eq.mp c
            subst e1
            simp
          · have e0 : z.length = 0 := beq_iff_eq.mp c
            have e1 : z.cps.toList = [] := by
              refine List.length_eq_zero_iff.mp ?_
              have : z.cps.toList.length = z.length := by simp [Str.length]
              omega
            rw [e1]
            simp
        rw [e] at q
        exact q
      · rw [if_neg c2]
        have hl : ((List.replicate i.toNat z.cps).foldl (· ++ ·) #[]).size ≤ sizeLine := by
          have e : ((List.replicate i.toNat z.cps).foldl (· ++ ·) #[]).size = ((List.replicate i.toNat z.cps).foldl (· ++ ·) #[]).toList.length := by simp
          rw [e, foldl_cat]
          simp only [List.nil_append, List.length_flatten, List.map_replicate, List.sum_replicate_nat, Array.length_toList]
          have : i.toNat * z.cps.size ≤ 1000 * 100 := by rw [Nat.mul_comm]; exact hmul
          omega
        refine ⟨hl, ?_⟩
        have e : (⟨(List.replicate i.toNat z.cps).foldl (· ++ ·) #[]⟩ : Str) = ⟨(List.replicate i.toNat z.cps.toList).flatten.toArray⟩ := by
          refine TL.ext_tl ?_
          show ((List.replicate i.toNat z.cps).foldl (· ++ ·) #[]).toList = (List.replicate i.toNat z.cps.toList).flatten.toArray.toList
          rw [foldl_cat]
          simp
        rw [← e] at q
        exact ⟨.str _, H, I.tok _, ⟨_, rfl⟩, q⟩

/-! ### len(set(t)), t a tuple of unlike texts -/
section
variable {prog : Program} {w : World} {A : Around} {R : Result → Shared → Prop} {I : Addr} {fp wr : List Addr} {G : Array GenState → Array GenState → Prop} {n : Nat} {P : Nat → Value → Prop} {St : Nat → Shared → Prop}
theorem take_new {xs : List Str} (hnd : xs.Nodup) {i : Nat} (hi : i < xs.length) : (xs.take i).any (· == xs.getD i Str.empty) = false := by
  have e : xs.getD i Str.empty = xs[i] := by rw [List.getD_eq_getElem?_getD, List.getElem?_eq_getElem hi] <;> rfl
  rw [e]
  refine Bool.eq_false_iff.mpr fun h => ?_
  obtain ⟨y, hy, ey⟩ := List.any_eq_true.mp h
  obtain ⟨j, hj, ej⟩ := List.getElem_of_mem hy
  have hji : j < i := by rw [List.length_take] at hj; omega
  have e4 : xs[j]'(Nat.lt_trans hji hi) = xs[i] := by
    rw [← beq_iff_eq.mp ey, ← ej, List.getElem_take]
  exact absurd e4 (List.pairwise_iff_getElem.mp hnd j i (Nat.lt_trans hji hi) hi hji)
theorem loopT (W : WalksS prog w A.in1 I fp wr G n P St) (S : Addr) (hSf : S ∉ fp) (xs : List Str) (hsz : xs.length = n) (hnd : xs.Nodup) (hn1 : n + 1 < scanBound)
    (hval : ∀ i v, P i v → ∃ t, v = .str (xs.getD i Str.empty) t) :
    ∀ (k i : Nat) (s : Shared), n - i = k → i ≤ n → St i s → s.heap.SetOf (PySem.strKind prog w) S (fun z => (xs.take i).any (· == z)) i →
      (∀ s', Moved (S :: wr) G s s' → s'.heap.SetOf (PySem.strKind prog w) S (fun z => (xs.take n).any (· == z)) n → R (.ok (.ret .none)) s') →
      codeAny (model prog w) A (.builtin "set.update.loop" ⟨[.ref S, .ref I], []⟩) R s := by
  have hSw : S ∉ wr := fun h => hSf (W.sub _ h)
  have hsub : ∀ b ∈ wr, b ∈ S :: wr := fun b hb => List.mem_cons_of_mem _ hb
  intro k
  induction k with
  | zero =>
    intro i s hk hi hst hS hR
    obtain rfl : i = n := by omega
    refine codeAny_builtin PyProof.Rows.F.entry_set_update_loop ?_
    rw [Around.under_plainId PyProof.Rows.F.plain_set_update_loop _]
    show wpAny _ A.in1 (pyNext (.ref I) >>= _) _ _ s
    refine wpAny_bind (W.done s _ _ hst fun s' hm => ?_)
    show wpAny _ A.in1 (ret Value.none) _ _ s'
    refine wpAny_pure (hR s' (hm.mono hsub) ?_)
    obtain ⟨o, es, ep, t, ho, rest⟩ := hS
    exact ⟨o, es, ep, t, hm.heap S _ hSw ho, rest⟩
  | succ k ih =>
    intro i s hk hi hst hS hR
    have hlt : i < n := by omega
    refine codeAny_builtin PyProof.Rows.F.entry_set_update_loop ?_
    rw [Around.under_plainId PyProof.Rows.F.plain_set_update_loop _]
    show wpAny _ A.in1 (pyNext (.ref I) >>= _) _ _ s
    refine wpAny_bind (W.item i s _ _ hlt hst fun v s' hP hst' hm => ?_)
    obtain ⟨t, rfl⟩ := hval i v hP
    have hS' : s'.heap.SetOf (PySem.strKind prog w) S (fun z => (xs.take i).any (· == z)) i := by
      obtain ⟨o, es, ep, tb, ho, rest⟩ := hS
      exact ⟨o, es, ep, tb, hm.heap S _ hSw ho, rest⟩
    show wpAny _ A.in1 (holding [Value.str (xs.getD i Str.empty) t] (setAdd S (.str (xs.getD i Str.empty) t)) >>= _) _ _ s'
    refine wpAny_bind (wpAny_holding ?_)
    unfold setAdd
    refine wpAny_holding ?_
    refine wpAny_bind ((PySem.strKind prog w).pyHash (k := xs.getD i Str.empty) (strKind_is _ _ _ _) ?_)
    refine wpAny_setAddHashed_of (knd := PySem.strKind prog w) (s := { s' with toks := s'.toks + 1 }) (strKind_is _ _ _ _) rfl hS' (by omega) fun h' hsb hS2 => ?_
    have hil : i < xs.length := by omega
    have no := take_new hnd hil
    have hSi : h'.SetOf (PySem.strKind prog w) S (fun z => (xs.take (i + 1)).any (· == z)) (i + 1) := by
      refine PyProof.Rows.SetOf_congr hS2 (fun z => ?_) (by simp only [no, Bool.false_eq_true, if_false])
      rw [List.take_add_one, List.any_append]
      have e : xs[i]?.toList = [xs.getD i Str.empty] := by
        rw [List.getD_eq_getElem?_getD, List.getElem?_eq_getElem hil] <;> rfl
      rw [e]
      generalize xs.getD i Str.empty = y
      by_cases c : z = y
      · subst c; simp
      · have hb : (y == z) = false := by simpa [beq_iff_eq] using (fun q : y = z => c q.symm)
        simp [hb, c]
    refine wpAny_pure ⟨plainId_quiet PyProof.Rows.F.plain_set_update_loop _, ih (i + 1) _ (by omega) hlt (W.frame _ s' _ _ hst' (Nat.le_succ _) fun b hb o e => ?_) hSi fun s'' hm'' hS'' => ?_⟩
    · rw [hsb.2 b (fun h : b = S => hSf (by rw [← h]; exact hb))]
      exact e
    · refine hR s'' (Moved.trans W.gtrans ((hm.mono hsub).then_heap (Nat.le_succ _) fun b o hb e => ?_) hm'') hS''
      rw [hsb.2 b (fun h : b = S => hb (by rw [h]; exact List.mem_cons_self))]
      exact e
end
abbrev setAt0 (led : Bool) : Obj := { cls := .type "set", dict := none, data := .set #[] 0 (.fresh 0 0 led) }
section
variable {prog : Program} {w : World} {A : Around} {E : Value → Shared → Prop} {s : Shared}
set_option maxHeartbeats 3200000 in
theorem call_setT {l : Addr} {items : Array Value} {xs : List Str} {Q : Value → Shared → Prop}
    (hh : A.handled = none) (hl : s.heap.IsTuple l items) (hi : PyProof.Rows.StrsAre items.toList xs) (hnd : xs.Nodup) (hn1 : xs.length ≤ 100)
    (h : ∀ (h' : Heap) (tk : Nat), h'.SetOf (PySem.strKind prog w) s.heap.objs.size (fun z => (xs.take items.size).any (· == z)) items.size →
      (∀ b o, b < s.heap.objs.size → s.heap.get? b = some o → h'.get? b = some o) → Q (.ref s.heap.objs.size) { s with heap := h', toks := tk }) :
    wpAny (model prog w) A (call (.type "set") [.ref l]) Q E s := by
  obtain ⟨c, tl, hmro⟩ := PySem.F.called_set.mro
  have hmade := PySem.F.called_set.made
  have hsub := PySem.F.called_set.sub
  refine wpAny_call (codeAny_of_tree ?_)
  show wpAny _ _ (callAny (.type "set") _) _ _ _
  refine wpAny_pure ⟨Code.quiet_builtin _ (by decide +kernel), codeAny_builtin PySem.F.entry_type_call ?_⟩
  rw [Around.under_plain (weight_type_call_type "set" [.ref l] []) rfl]
  have h1 := PySem.F.called_set.notType
  have h2 := PySem.F.called_set.canCreate
  have hct := PySem.F.typeCall_set_1 (.ref l)
  repeat (any_goals (first | assumption | wp_step))

  refine codeAny_mono (code_set_new_1 (.ref l) (E := E) (Q₁ := fun obj s₁ => ∃ led : Bool, obj = .ref s.heap.objs.size ∧ s₁ = { s with heap := s.heap.push (setAt0 led) }) fun led => ⟨led, rfl, rfl⟩) fun r s₁ hr => ?_
  cases r with
  | error e => exact hr
  | ok fl =>
    cases fl with
    | ret obj =>
      obtain ⟨led, rfl, rfl⟩ := hr
      have hS : (s.heap.push (setAt0 led)).get? s.heap.objs.size = some (setAt0 led) := Heap.get?_push_size _ rfl
      have hT : Shared.TypeIs { s with heap := s.heap.push (setAt0 led) } (.ref s.heap.objs.size) "set" := ⟨_, hS, rfl⟩
      have hli := PySem.F.called_set.init.lookup
      have hbi := PySem.F.called_set.init.bind (.ref s.heap.objs.size)
      repeat (any_goals (first | assumption | wp_step))

      refine codeAny_mono (codeAny_call_builtin (R := wants (fun r s₂ => r = .none ∧ ∃ h' tk, s₂ = { s with heap := h', toks := tk } ∧
          h'.SetOf (PySem.strKind prog w) s.heap.objs.size (fun z => (xs.take items.size).any (· == z)) items.size ∧
          (∀ b o, b < s.heap.objs.size → s.heap.get? b = some o → h'.get? b = some o)) E) PySem.F.called_set.init.plain PySem.F.entry_set_init (check_set_init_1 hT ?_)) fun r₂ s₂ hr₂ => ?_
      · obtain ⟨ol, hol, hcl, nl, hdl⟩ := hl
        obtain ⟨ocls, odict, odata, oslots⟩ := ol
        simp only at hcl hdl
        subst hcl; subst hdl
        have hol' : (s.heap.push (setAt0 led)).get? l = some { cls := .type "tuple", dict := odict, data := .seq items nl, slots := oslots } := Heap.get?_push_of_some _ hol
        have hsls := PySem.F.sub_tuple_set
        have hslf := PySem.F.sub_tuple_frozenset
        have hne : (Value.type "tuple" == Value.type "dict") = false := by decide
        have hl1 : (s.heap.push (setAt0 led)).IsTuple l items := ⟨_, hol', rfl, nl, rfl⟩
        unfold Builtin.«set.__init__» noKeywords Builtin.Frozenset.updateFrom
        generalize hPI : pyIter = PI
        wp_walk
        subst hPI

        refine wpAny_pyIter_tuple hl1 ?_
        refine wpAny_bind (wpAny_runValue ?_)
        have hlS : l < s.heap.objs.size := Heap.lt_size hol
        have hh3 : A.in1.in1.in1.handled = none := by simp [hh]
        have hneI : l ≠ (s.heap.push (setAt0 led)).objs.size := by
          rw [Heap.size_push]; exact Nat.ne_of_lt (Nat.lt_succ_of_lt hlS)
        have hSf : s.heap.objs.size ∉ [(s.heap.push (setAt0 led)).objs.size, l] := by
          rw [Heap.size_push]; simp only [List.mem_cons, List.mem_singleton, List.not_mem_nil, or_false, not_or]
          exact ⟨Nat.ne_of_lt (Nat.lt_succ_self _), Nat.ne_of_gt hlS⟩
        have hsz : xs.length = items.size := by rw [← StrsAre.len_eq hi, Array.length_toList]
        have hval : ∀ (i : Nat) (v : Value), items[i]? = some v → ∃ t, v = .str (xs.getD i Str.empty) t := fun i v hv => SS.strs_at hi i v (by rw [Array.getElem?_toList]; exact hv)
        have hsb : scanBound = 4096 := rfl
        refine loopT ((Walks.tuple hh3 _ l hneI items).toS) s.heap.objs.size
          hSf xs hsz hnd (by omega) hval (items.size - 0) 0 _ (by omega) (Nat.zero_le _)
          ⟨⟨_, Heap.get?_push_size _ rfl, rfl, rfl⟩, (hl1.push _)⟩ ?hS0 ?hR
        case hS0 =>
          have hget : ((s.heap.push (setAt0 led)).push { cls := .type "tuple_iterator", data := .fields #[.ref l, .int 0 0] }).get? s.heap.objs.size
              = some (setAt0 led) := Heap.get?_push_of_some _ hS
          exact PyProof.Rows.SetOf_congr ((PyProof.Rows.setObjOf_fresh (knd := PySem.strKind prog w) led).setOf hget (by omega)) (fun _ => rfl) rfl
        case hR =>
          intro s' hm hS'
          obtain ⟨h', g', d', tk', os'⟩ := s'
          have eg : g' = s.gens := hm.gens
          have ed : d' = s.drawn := hm.drawn
          have eo : os' = s.os := hm.os
          subst eg; subst ed; subst eo
          show wpAny _ _ _ _ _ _
          refine wpAny_pure ?_
          show wpAny _ _ (ret Value.none) _ _ _
          refine wpAny_pure ⟨rfl, h', tk', rfl, hS', fun b o hb e => ?_⟩
          have hb1 : b ≠ s.heap.objs.size := Nat.ne_of_lt hb
          have hb2 : b ≠ (s.heap.push (setAt0 led)).objs.size := by
            rw [Heap.size_push]; exact Nat.ne_of_lt (Nat.lt_succ_of_lt hb)
          exact hm.heap b o (by simp only [List.mem_cons, List.mem_singleton, List.not_mem_nil, or_false, not_or]; exact ⟨hb1, hb2⟩) (Heap.get?_push_of_some _ (Heap.get?_push_of_some _ e))

      · cases r₂ with
        | error e => exact hr₂
        | ok fl₂ =>
          cases fl₂ with
          | ret r =>
            obtain ⟨rfl, h', tk, rfl, hS', hk'⟩ := hr₂
            repeat (any_goals (first | assumption | wp_step))
            exact h _ _ hS' hk'
          | _ => exact hr₂.elim
    | _ => exact hr.elim
end
def tLenT (K : PySem.W.Frag) (ta : TE) : TE := fun σ H Q => ta σ H fun x H1 => ∃ l, ∃ xs : List Str, x = .ref l ∧ SqT K H1 l (xs.map V.str) ∧ xs.Nodup ∧ xs.length ≤ 100 ∧ Q (.int xs.length) H1
theorem pe_lenT {X : Cx} {a : Expr} {ta : TE} {p p2 q pos : Pos} (hc : X.calm = true) (hg : Gl X "len") (hm : X.mg "len" = none) (hg2 : Gl X "set") (hm2 : X.mg "set" = none) (ha : PE X a ta)
    (na : starEach [a] X.env = (false, eval a X.env) :: starEach [] X.env := by rfl) : PE X (.Call (.Name "len" p) [.Call (.Name "set" p2) [a] [] q] [] pos) (tLenT X.K ta) := by
  refine ⟨fun pins s σ H Q I h => ?_⟩
  refine Call_ (ld_blt I hg hm boot_len ?_)
  refine PyProof.Rows.callWith_builtin1 (PyProof.Rows.args_cons ?_ rfl) rfl rfl
  refine Call_ (ld_blt I hg2 hm2 boot_set ?_)
  refine PyProof.Rows.callWith_type1 (PyProof.Rows.args_cons (thn (ha.run pins s σ H _ I h) fun v s1 ⟨x, H1, I1, r1, q1⟩ => PyProof.Rows.args_nil ?_) na) na rfl
  obtain ⟨l, xs, rfl, hq, hnd, h1, q1⟩ := q1
  cases r1
  obtain ⟨its, r, pl, hz⟩ := I1.tuple hq
  refine call_setT (I1.ok.hd hc) pl (by simpa using strsAre_of r) hnd h1 fun h' tk hS hk => ?_
  refine PyProof.Rows.args_nil ?_
  have hl : its.toArray.size = xs.length := by rw [List.size_toArray, ← r.length, List.length_map]
  rw [hl] at hS
  obtain ⟨o, es, ep, t, ho, hex, hd, _, _, _, hf, hn⟩ := hS
  have I2 : Inv X pins σ H1 { s1 with heap := h', toks := tk } := I1.kept fun b o e => hk b o (Heap.lt_size e) e
  exact call_len_set ho hex hd hf (by rw [hn] <;> omega) ⟨.int xs.length, H1, I2.tok _, ⟨_, by rw [hn]⟩, q1⟩
end KnR

/-! The plain law: reading as the program reads, reading line by line, writing; no program in sight. -/
namespace Kn
abbrev Ws := List Nat
def isSgn (c : Nat) : Bool := decide (32 ≤ c) && (decide (c ≤ 126) && !decide (c = 37))
def isLet (c : Nat) : Bool := decide (97 ≤ c) && decide (c ≤ 122)
def isBr (c : Nat) : Bool := c == 44 || (c == 40 || c == 41)
def isArg (c : Nat) : Bool := isSgn c && !isBr c
inductive Ln where
  | plain (s : Ws)
  | use (i : Nat) (n : Ws) (as : List Ws)
structure Hd where
  name : Ws
  params : List Ws
  isf : Bool
  deriving DecidableEq
structure Sc where
  prose : List Ws
  head : Option Hd
  code : List Ln
abbrev Rs (α : Type) := Except Ws (α × Ws)
def ex1 (c : Nat) : Ws → Except Ws Ws
  | d :: r => if d = c then .ok r else .error (d :: r)
  | [] => .error []
def rdLine (l : Ws) : Rs Ws := match ex1 10 (l.dropWhile isSgn) with
  | .ok r => .ok (l.takeWhile isSgn, r)
  | .error e => .error e
def wd (l : Ws) : Ws := (l.takeWhile isLet).take 8
def rdWord (barred : List Ws) (l : Ws) : Rs Ws :=
  if (wd l).length = 8 ∧ wd l ∈ barred then .error (l.drop 7)
  else if wd l = [] ∨ wd l ∈ barred then .error (l.drop (wd l).length)
  else .ok (wd l, l.drop (wd l).length)
/-- , or ) behind an item; rd reads a further one -/
def more (rd : List Ws → Ws → Rs Ws) : Nat → List Ws → Ws → Rs (List Ws)
  | _, _, [] => .error []
  | 0, ps, d :: r => if d = 41 then .ok (ps, r) else .error (d :: r)
  | k + 1, ps, d :: r => if d = 41 then .ok (ps, r) else if d = 44 then (match rd ps r with
    | .ok (w, r') => more rd k (ps ++ [w]) r'
    | .error e => .error e) else .error (d :: r)
def items (rd : List Ws → Ws → Rs Ws) (l : Ws) : Rs (List Ws) :=
  if l.head? = some 41 then .ok ([], l.tail) else match rd [] l with
    | .ok (w, r) => more rd 2 [w] r
    | .error e => .error e
abbrev rdParams : Ws → Rs (List Ws) := items rdWord
def ar (l : Ws) : Ws := l.takeWhile isArg
def rdArg (l : Ws) : Rs Ws :=
  if l.head? = some 32 then .error l
  else if ar l = [] ∨ (ar l).getLast? = some 32 then .error (l.dropWhile isArg)
  else .ok (ar l, l.dropWhile isArg)
abbrev rdArgs : Ws → Rs (List Ws) := items fun _ => rdArg
def rdPs : Bool → Ws → Rs (List Ws)
  | true, r => (match ex1 41 r with
    | .ok r => .ok ([], r)
    | .error e => .error e)
  | false, r => rdParams r
def rdHead (isf : Bool) (l : Ws) : Rs Hd := match rdWord [] l with
  | .error e => .error e
  | .ok (n, r) => match ex1 40 r with
    | .error e => .error e
    | .ok r => match rdPs isf r with
      | .error e => .error e
      | .ok (ps, r) => match ex1 10 r with
        | .error e => .error e
        | .ok r => .ok (⟨n, ps, isf⟩, r)
def blanks (l : Ws) : Nat := min 20 (l.takeWhile (· == 32)).length
def rdUse (l : Ws) : Rs Ln := match rdWord [] (l.drop (blanks l)) with
  | .error e => .error e
  | .ok (n, r) => match ex1 40 r with
    | .error e => .error e
    | .ok r => match rdArgs r with
      | .error e => .error e
      | .ok (as, r) => match ex1 10 r with
        | .error e => .error e
        | .ok r => .ok (.use (blanks l) n as, r)
def rdLn (d : Nat) (r : Ws) : Rs Ln := if d = 124 then (match rdLine r with
  | .ok (s, r) => .ok (.plain s, r)
  | .error e => .error e) else rdUse r

/-! ### writing -/
def joinC : List Ws → Ws
  | [] => []
  | [a] => a
  | a :: b :: r => a ++ 44 :: joinC (b :: r)
def hdTxt (h : Hd) : Ws := (if h.isf then 42 else 61) :: (h.name ++ 40 :: (joinC h.params ++ [41]))
def lnTxt : Ln → Ws
  | .plain s => 124 :: s
  | .use i n as => 62 :: (List.replicate i 32 ++ (n ++ 40 :: (joinC as ++ [41])))
/-- a line of a web's text: its section, kind (0 section, 1 prose, 2 head, 3 code), number, the head -/
structure Rw where
  sec : Nat
  kind : Nat
  num : Nat
  line : Ws
  hd : Option Hd
def proseRows (k : Nat) : Nat → List Ws → List Rw
  | _, [] => []
  | i, s :: r => ⟨k, 1, i, 46 :: s, none⟩ :: proseRows k (i + 1) r
def codeRows (k : Nat) : Nat → List Ln → List Rw
  | _, [] => []
  | i, s :: r => ⟨k, 3, i, lnTxt s, none⟩ :: codeRows k (i + 1) r
def headRows (k : Nat) : Option Hd → List Rw
  | none => []
  | some h => [⟨k, 2, 0, hdTxt h, some h⟩]
def secRows (k : Nat) (s : Sc) : List Rw := ⟨k, 0, 0, [64], none⟩ :: (proseRows k 0 s.prose ++ (headRows k s.head ++ codeRows k 0 s.code))
def rowsFrom : Nat → List Sc → List Rw
  | _, [] => []
  | k, s :: r => secRows k s ++ rowsFrom (k + 1) r
abbrev rowsOf (w : List Sc) : List Rw := rowsFrom 0 w
def txt (rs : List Rw) : Ws := (rs.map fun r => r.line ++ [10]).flatten
abbrev webTxt (w : List Sc) : Ws := txt (rowsOf w)
theorem txt_append (a b : List Rw) : txt (a ++ b) = txt a ++ txt b := by simp [txt]
theorem txt_cons (a : Rw) (b : List Rw) : txt (a :: b) = a.line ++ 10 :: txt b := by simp [txt]
theorem txt_nil : txt [] = [] := rfl

/-! ### what was read -/
theorem ex1_cons (c d : Nat) (r : Ws) : ex1 c (d :: r) = if d = c then .ok r else .error (d :: r) := rfl
theorem ex1_ok {c : Nat} {l r : Ws} (h : ex1 c l = .ok r) : l = c :: r := by
  cases l with
  | nil => cases h
  | cons d q =>
    rw [ex1_cons] at h
    split at h
    · cases h; rename_i e; rw [e]
    · cases h
theorem ex1_err {c : Nat} {l r : Ws} (h : ex1 c l = .error r) : r = l ∧ l.head? ≠ some c := by
  cases l with
  | nil => cases h; exact ⟨rfl, by simp⟩
  | cons d q =>
    rw [ex1_cons] at h
    split at h
    · cases h
    · cases h; rename_i e; exact ⟨rfl, by simpa using e⟩
theorem ex1_self (c : Nat) (r : Ws) : ex1 c (c :: r) = .ok r := by simp [ex1]
theorem ex1_no {c : Nat} {l : Ws} (h : l.head? ≠ some c) : ex1 c l = .error l := by
  cases l with
  | nil => rfl
  | cons d q =>
    have e : ¬ d = c := fun z => h (by simp [z])
    simp [ex1, e]
theorem rdLine_ok {l s r : Ws} (h : rdLine l = .ok (s, r)) : l = s ++ 10 :: r := by
  unfold rdLine at h
  split at h
  · rename_i q e
    cases h
    rw [← ex1_ok e]
    exact List.takeWhile_append_dropWhile.symm
  · cases h
theorem drop_wd (l : Ws) : l = wd l ++ l.drop (wd l).length := by
  have h : wd l <+: l := List.IsPrefix.trans (List.take_prefix _ _) (List.takeWhile_prefix _)
  obtain ⟨t, e⟩ := h
  have e2 : l.drop (wd l).length = t := by
    have q := congrArg (List.drop (wd l).length) e
    rw [List.drop_left] at q
    exact q.symm
  rw [e2, e]
theorem rdWord_ok {b : List Ws} {l w r : Ws} (h : rdWord b l = .ok (w, r)) : l = w ++ r ∧ w = wd l ∧ w ≠ [] ∧ w ∉ b ∧ r = l.drop (wd l).length := by
  unfold rdWord at h
  split at h
  · cases h
  · split at h
    · cases h
    · rename_i h1 h2
      cases h
      exact ⟨drop_wd l, rfl, fun e => h2 (.inl e), fun e => h2 (.inr e), rfl⟩
theorem rdArg_ok {l w r : Ws} (h : rdArg l = .ok (w, r)) : l = w ++ r ∧ w = ar l ∧ w ≠ [] ∧ w.getLast? ≠ some 32 ∧ l.head? ≠ some 32 ∧ r = l.dropWhile isArg := by
  unfold rdArg at h
  split at h
  · cases h
  · split at h
    · cases h
    · rename_i h1 h2
      cases h
      exact ⟨List.takeWhile_append_dropWhile.symm, rfl, fun e => h2 (.inl e), fun e => h2 (.inr e), h1, rfl⟩
theorem more_ok {rd : List Ws → Ws → Rs Ws} (hrd : ∀ b l w r, rd b l = .ok (w, r) → l = w ++ r) : ∀ (k : Nat) (a : List Ws) (w l : Ws) (qs : List Ws) (r : Ws), more rd k (a ++ [w]) l = .ok (qs, r) → joinC (a ++ [w]) ++ l = joinC qs ++ 41 :: r := by
  have jc : ∀ (a : List Ws) (w v : Ws), joinC (a ++ [w] ++ [v]) = joinC (a ++ [w]) ++ 44 :: v := by
    intro a
    induction a with
    | nil => intro w v; rfl
    | cons x a ih =>
      intro w v
      cases a with
      | nil => simp [joinC]
      | cons y a =>
        show x ++ 44 :: joinC (y :: a ++ [w] ++ [v]) = (x ++ 44 :: joinC (y :: a ++ [w])) ++ 44 :: v
        rw [ih]
        simp
  intro k
  induction k with
  | zero =>
    intro a w l qs r h
    cases l with
    | nil => cases h
    | cons d l =>
      unfold more at h
      split at h
      · cases h; rename_i e; rw [e]
      · cases h
  | succ k ih =>
    intro a w l qs r h
    cases l with
    | nil => cases h
    | cons d l =>
      unfold more at h
      split at h
      · cases h; rename_i e; rw [e]
      · split at h
        · rename_i e2
          split at h
          · rename_i v r' e3
            have q := ih (a ++ [w]) v r' qs r h
            rw [← q, jc, e2, hrd _ _ _ _ e3]
            simp [List.append_assoc]
          · cases h
        · cases h
theorem items_ok {rd : List Ws → Ws → Rs Ws} (hrd : ∀ b l w r, rd b l = .ok (w, r) → l = w ++ r) {l : Ws} {qs : List Ws} {r : Ws} (h : items rd l = .ok (qs, r)) : l = joinC qs ++ 41 :: r := by
  unfold items at h
  split at h
  · rename_i e
    cases h
    cases l with
    | nil => cases e
    | cons d l =>
      have e : d = 41 := by simpa using e
      rw [e]; rfl
  · split at h
    · rename_i w r' e
      rw [hrd _ _ _ _ e]
      exact more_ok hrd 2 [] w r' qs r h
    · cases h
theorem rdHead_ok {f : Bool} {l : Ws} {h : Hd} {r : Ws} (e : rdHead f l = .ok (h, r)) : (if f then 42 else 61) :: l = hdTxt h ++ 10 :: r ∧ h.isf = f := by
  unfold rdHead at e
  split at e
  · cases e
  · rename_i n q e1
    split at e
    · cases e
    · rename_i q1 e2
      split at e
      · cases e
      · rename_i ps q2 e3
        split at e
        · cases e
        · rename_i q3 e4
          cases e
          obtain ⟨a1, _⟩ := rdWord_ok e1
          have a2 := ex1_ok e2
          have a4 := ex1_ok e4
          have a3 : q1 = joinC ps ++ 41 :: q2 := by
            cases f with
            | true =>
              have e3 : (match ex1 41 q1 with
                | .ok r => .ok ([], r)
                | .error e => .error e : Rs (List Ws)) = .ok (ps, q2) := e3
              split at e3
              · rename_i q4 e5
                cases e3
                exact ex1_ok e5
              · cases e3
            | false => exact items_ok (rd := rdWord) (fun b l w r z => (rdWord_ok z).1) (show items rdWord q1 = _ from e3)
          refine ⟨?_, rfl⟩
          rw [a1, a2, a3, a4]
          simp [hdTxt]
theorem blanks_pre (l : Ws) : l = List.replicate (blanks l) 32 ++ l.drop (blanks l) := by
  have h1 : ∀ m : Ws, m.takeWhile (· == 32) = List.replicate (m.takeWhile (· == 32)).length 32 := by
    intro m
    induction m with
    | nil => rfl
    | cons d m ih =>
      by_cases c : d = 32
      · subst c
        have e : (32 :: m).takeWhile (· == 32) = 32 :: m.takeWhile (· == 32) := by simp [List.takeWhile_cons]
        rw [e, List.length_cons, List.replicate_succ, ← ih]
      · have e : (d :: m).takeWhile (· == 32) = [] := by simp [List.takeWhile_cons, c]
        rw [e]; rfl
  have h2 : l.take (blanks l) = List.replicate (blanks l) 32 := by
    have hb : blanks l ≤ (l.takeWhile (· == 32)).length := Nat.min_le_right _ _
    have h3 : (l.takeWhile (· == 32)).take (blanks l) = l.take (blanks l) := by
      have q := congrArg (List.take (blanks l)) (List.takeWhile_append_dropWhile (p := (· == 32)) (l := l))
      rw [List.take_append_of_le_length hb] at q
      exact q
    rw [← h3]
    generalize blanks l = b at hb
    rw [h1 l, List.take_replicate, Nat.min_eq_left hb]
  conv => lhs; rw [← List.take_append_drop (blanks l) l]
  rw [h2]
theorem rdUse_ok {l : Ws} {u : Ln} {r : Ws} (e : rdUse l = .ok (u, r)) : 62 :: l = lnTxt u ++ 10 :: r := by
  unfold rdUse at e
  split at e
  · cases e
  · rename_i n q e1
    split at e
    · cases e
    · rename_i q1 e2
      split at e
      · cases e
      · rename_i ps q2 e3
        split at e
        · cases e
        · rename_i q3 e4
          cases e
          obtain ⟨a1, _⟩ := rdWord_ok e1
          have a2 := ex1_ok e2
          have a3 := items_ok (fun b l w r z => (rdArg_ok z).1) e3
          have a4 := ex1_ok e4
          conv => lhs; rw [blanks_pre l, a1, a2, a3, a4]
          simp [lnTxt]
theorem rdLn_ok {d : Nat} {l : Ws} {u : Ln} {r : Ws} (hd : d = 124 ∨ d = 62) (e : rdLn d l = .ok (u, r)) : d :: l = lnTxt u ++ 10 :: r := by
  unfold rdLn at e
  split at e
  · rename_i c
    split at e
    · rename_i s q e1
      cases e
      rw [c, rdLine_ok e1]
      simp [lnTxt]
    · cases e
  · rename_i c
    rw [hd.resolve_left c]
    exact rdUse_ok e
theorem len_of {a : Ws} {c : Nat} {l r : Ws} (h : c :: l = a ++ 10 :: r) (ha : a ≠ []) : r.length < l.length := by
  have q := congrArg List.length h
  simp only [List.length_cons, List.length_append] at q
  have : 0 < a.length := List.length_pos_iff.mpr ha
  omega
theorem lnTxt_ne (u : Ln) : lnTxt u ≠ [] := by cases u <;> simp [lnTxt]
theorem hdTxt_ne (h : Hd) : hdTxt h ≠ [] := by simp [hdTxt]
theorem rdLine_lt {l s r : Ws} (h : rdLine l = .ok (s, r)) : r.length < l.length := by
  rw [rdLine_ok h]
  simp only [List.length_append, List.length_cons]
  omega
theorem rdLn_lt {d : Nat} {l : Ws} {u : Ln} {r : Ws} (hd : d = 124 ∨ d = 62) (e : rdLn d l = .ok (u, r)) : r.length < l.length := len_of (rdLn_ok hd e) (lnTxt_ne u)
theorem rdHead_lt {f : Bool} {l : Ws} {h : Hd} {r : Ws} (e : rdHead f l = .ok (h, r)) : r.length < l.length := len_of (rdHead_ok e).1 (hdTxt_ne h)

/-! ### sections, as the program reads them -/
def rdProse (l : Ws) : Rs (List Ws) := match l with
  | [] => .ok ([], [])
  | d :: r => if d = 46 then (match h : rdLine r with
    | .error e => .error e
    | .ok (s, r') => (match rdProse r' with
      | .error e => .error e
      | .ok (ss, q) => .ok (s :: ss, q))) else .ok ([], d :: r)
termination_by l.length
decreasing_by
  have := rdLine_lt h
  simp only [List.length_cons]
  omega
def rdCode (l : Ws) : Rs (List Ln) := match l with
  | [] => .ok ([], [])
  | d :: r => if hd : d = 124 ∨ d = 62 then (match h : rdLn d r with
    | .error e => .error e
    | .ok (s, r') => (match rdCode r' with
      | .error e => .error e
      | .ok (ss, q) => .ok (s :: ss, q))) else .ok ([], d :: r)
termination_by l.length
decreasing_by
  have := rdLn_lt hd h
  simp only [List.length_cons]
  omega
def rdBody (p : List Ws) (l : Ws) : Rs Sc := match l with
  | [] => .ok (⟨p, none, []⟩, [])
  | d :: q => if d = 61 ∨ d = 42 then (match rdHead (d == 42) q with
    | .error e => .error e
    | .ok (h, r) => (match rdCode r with
      | .error e => .error e
      | .ok (c, r) => .ok (⟨p, some h, c⟩, r))) else .ok (⟨p, none, []⟩, d :: q)
def rdSec (l : Ws) : Rs Sc := match ex1 64 l with
  | .error e => .error e
  | .ok r => match ex1 10 r with
    | .error e => .error e
    | .ok r => match rdProse r with
      | .error e => .error e
      | .ok (p, r) => rdBody p r
theorem rdProse_cons (d : Nat) (r : Ws) : rdProse (d :: r) = if d = 46 then (match rdLine r with
    | .error e => .error e
    | .ok (s, r') => (match rdProse r' with
      | .error e => .error e
      | .ok (ss, q) => .ok (s :: ss, q))) else .ok ([], d :: r) := by
  rw [rdProse]
  split
  · split <;> rename_i h <;> simp only [h]
  · rfl
theorem rdCode_cons (d : Nat) (r : Ws) : rdCode (d :: r) = if d = 124 ∨ d = 62 then (match rdLn d r with
    | .error e => .error e
    | .ok (s, r') => (match rdCode r' with
      | .error e => .error e
      | .ok (ss, q) => .ok (s :: ss, q))) else .ok ([], d :: r) := by
  rw [rdCode]
  split
  · split <;> rename_i h <;> simp only [h]
  · rfl
theorem rdProse_nil : rdProse [] = .ok ([], []) := by rw [rdProse]
theorem rdCode_nil : rdCode [] = .ok ([], []) := by rw [rdCode]
theorem rdProse_len : ∀ (n : Nat) (l : Ws), l.length ≤ n → ∀ ss q, rdProse l = .ok (ss, q) → q.length ≤ l.length
  | n, [], _, ss, q, h => by rw [rdProse_nil] at h; cases h; exact Nat.le_refl _
  | 0, d :: r, hl, _, _, _ => by simp at hl
  | n + 1, d :: r, hl, ss, q, h => by
    rw [rdProse_cons] at h
    split at h
    · split at h
      · cases h
      · rename_i s r' e
        split at h
        · cases h
        · rename_i ss' q' e2
          cases h
          have h1 := rdLine_lt e
          have h2 := rdProse_len n r' (by simp only [List.length_cons] at hl; omega) _ _ e2
          simp only [List.length_cons]
          omega
    · cases h; exact Nat.le_refl _
theorem rdCode_len : ∀ (n : Nat) (l : Ws), l.length ≤ n → ∀ ss q, rdCode l = .ok (ss, q) → q.length ≤ l.length
  | n, [], _, ss, q, h => by rw [rdCode_nil] at h; cases h; exact Nat.le_refl _
  | 0, d :: r, hl, _, _, _ => by simp at hl
  | n + 1, d :: r, hl, ss, q, h => by
    rw [rdCode_cons] at h
    split at h
    · rename_i hd
      split at h
      · cases h
      · rename_i s r' e
        split at h
        · cases h
        · rename_i ss' q' e2
          cases h
          have h1 := rdLn_lt hd e
          have h2 := rdCode_len n r' (by simp only [List.length_cons] at hl; omega) _ _ e2
          simp only [List.length_cons]
          omega
    · cases h; exact Nat.le_refl _
theorem rdBody_cons (p : List Ws) (d : Nat) (q : Ws) : rdBody p (d :: q) = if d = 61 ∨ d = 42 then (match rdHead (d == 42) q with
    | .error e => .error e
    | .ok (h, r) => (match rdCode r with
      | .error e => .error e
      | .ok (c, r) => .ok (⟨p, some h, c⟩, r))) else .ok (⟨p, none, []⟩, d :: q) := rfl
theorem rdBody_len {p : List Ws} {l : Ws} {s : Sc} {r : Ws} (h : rdBody p l = .ok (s, r)) : r.length ≤ l.length := by
  cases l with
  | nil => cases h; exact Nat.le_refl _
  | cons d q =>
    rw [rdBody_cons] at h
    split at h
    · split at h
      · cases h
      · rename_i hh r' e
        split at h
        · cases h
        · rename_i c r'' e2
          cases h
          have h1 := rdHead_lt e
          have h2 := rdCode_len _ _ (Nat.le_refl _) _ _ e2
          simp only [List.length_cons]
          omega
    · cases h; exact Nat.le_refl _
theorem rdSec_lt {l : Ws} {s : Sc} {r : Ws} (h : rdSec l = .ok (s, r)) : r.length < l.length := by
  unfold rdSec at h
  split at h
  · cases h
  · rename_i q e1
    split at h
    · cases h
    · rename_i q1 e2
      split at h
      · cases h
      · rename_i p q2 e3
        have h1 := rdProse_len _ _ (Nat.le_refl _) _ _ e3
        have h2 := rdBody_len h
        rw [ex1_ok e1, ex1_ok e2]
        simp only [List.length_cons]
        omega
def rdWeb (l : Ws) : Except Ws (List Sc) := match l with
  | [] => .ok []
  | d :: q => match h : rdSec (d :: q) with
    | .error e => .error e
    | .ok (s, r) => (match rdWeb r with
      | .error e => .error e
      | .ok ss => .ok (s :: ss))
termination_by l.length
decreasing_by exact rdSec_lt h
theorem rdWeb_nil : rdWeb [] = .ok [] := by rw [rdWeb]
theorem rdWeb_cons (d : Nat) (q : Ws) : rdWeb (d :: q) = match rdSec (d :: q) with
    | .error e => .error e
    | .ok (s, r) => (match rdWeb r with
      | .error e => .error e
      | .ok ss => .ok (s :: ss)) := by
  rw [rdWeb]
  split <;> rename_i h <;> simp only [h]

/-! ### line by line, as the law reads -/
def allow (ss : List Sc) (c : Nat) : Bool := match ss.getLast? with
  | none => c == 64
  | some s => match s.head with
    | none => c == 64 || (c == 46 || (c == 61 || c == 42))
    | some _ => c == 64 || (c == 124 || c == 62)
def onLast (f : Sc → Sc) : List Sc → List Sc
  | [] => []
  | [s] => [f s]
  | s :: t :: r => s :: onLast f (t :: r)
def addP (x : Ws) (s : Sc) : Sc := ⟨s.prose ++ [x], s.head, s.code⟩
def addC (x : Ln) (s : Sc) : Sc := ⟨s.prose, s.head, s.code ++ [x]⟩
def addH (h : Hd) (s : Sc) : Sc := ⟨s.prose, some h, s.code⟩
def step (ss : List Sc) (c : Nat) (r : Ws) : Except Ws (List Sc × Ws) :=
  if c = 64 then (match ex1 10 r with
    | .error e => .error e
    | .ok r => .ok (ss ++ [⟨[], none, []⟩], r))
  else if c = 46 then (match rdLine r with
    | .error e => .error e
    | .ok (s, r) => .ok (onLast (addP s) ss, r))
  else if c = 124 ∨ c = 62 then (match rdLn c r with
    | .error e => .error e
    | .ok (s, r) => .ok (onLast (addC s) ss, r))
  else (match rdHead (c == 42) r with
    | .error e => .error e
    | .ok (h, r) => .ok (onLast (addH h) ss, r))
theorem step_len {ss ss' : List Sc} {c : Nat} {r r' : Ws} (h : step ss c r = .ok (ss', r')) : r'.length < (c :: r).length := by
  unfold step at h
  simp only [List.length_cons]
  split at h
  · split at h
    · cases h
    · rename_i e
      cases h
      rw [ex1_ok e]
      simp only [List.length_cons]
      omega
  · split at h
    · split at h
      · cases h
      · rename_i e; cases h; have := rdLine_lt e; omega
    · split at h
      · rename_i hd
        split at h
        · cases h
        · rename_i e; cases h; have := rdLn_lt hd e; omega
      · split at h
        · cases h
        · rename_i e; cases h; have := rdHead_lt e; omega
def go (ss : List Sc) (l : Ws) : Except Ws (List Sc) := match l with
  | [] => .ok ss
  | c :: r => if allow ss c then (match h : step ss c r with
    | .error e => .error e
    | .ok (ss', r') => go ss' r') else .error (c :: r)
termination_by l.length
decreasing_by exact step_len h
theorem go_nil (ss : List Sc) : go ss [] = .ok ss := by rw [go]
theorem go_cons (ss : List Sc) (c : Nat) (r : Ws) : go ss (c :: r) = if allow ss c then (match step ss c r with
    | .error e => .error e
    | .ok (ss', r') => go ss' r') else .error (c :: r) := by
  rw [go]
  split
  · split <;> rename_i h <;> simp only [h]
  · rfl
theorem onLast_snoc (f : Sc → Sc) : ∀ (ss : List Sc) (s : Sc), onLast f (ss ++ [s]) = ss ++ [f s]
  | [], s => rfl
  | [a], s => rfl
  | a :: b :: r, s => by
    show a :: onLast f (b :: r ++ [s]) = _
    rw [onLast_snoc f (b :: r) s]
    rfl
theorem allow_snoc (ss : List Sc) (s : Sc) (c : Nat) : allow (ss ++ [s]) c = match s.head with
    | none => c == 64 || (c == 46 || (c == 61 || c == 42))
    | some _ => c == 64 || (c == 124 || c == 62) := by
  unfold allow
  rw [List.getLast?_append]
  rfl
theorem allow_at (ss : List Sc) : allow ss 64 = true := by
  unfold allow
  split
  · rfl
  · split <;> rfl
theorem go_prose (ss : List Sc) : ∀ (n : Nat) (l : Ws), l.length ≤ n → ∀ p, go (ss ++ [⟨p, none, []⟩]) l = match rdProse l with
    | .error e => .error e
    | .ok (q, r) => go (ss ++ [⟨p ++ q, none, []⟩]) r
  | n, [], _, p => by rw [rdProse_nil]; simp
  | 0, d :: r, hl, _ => by simp at hl
  | n + 1, d :: r, hl, p => by
    rw [rdProse_cons]
    by_cases c : d = 46
    · subst c
      rw [if_pos rfl, go_cons, allow_snoc]
      have st : step (ss ++ [⟨p, none, []⟩]) 46 r = (match rdLine r with
        | .error e => .error e
        | .ok (s, r) => .ok (onLast (addP s) (ss ++ [⟨p, none, []⟩]), r)) := by simp [step]
      rw [st]
      cases e : rdLine r with
      | error e => rfl
      | ok x =>
        obtain ⟨s, r'⟩ := x
        have h1 := rdLine_lt e
        show go (onLast (addP s) (ss ++ [⟨p, none, []⟩])) r' = _
        rw [onLast_snoc]
        show go (ss ++ [⟨p ++ [s], none, []⟩]) r' = _
        rw [go_prose ss n r' (by simp only [List.length_cons] at hl; omega) (p ++ [s])]
        dsimp only
        cases rdProse r' with
        | error e => rfl
        | ok y => obtain ⟨q, r''⟩ := y; simp
    · rw [if_neg c]; simp
theorem go_code (ss : List Sc) (h : Hd) (p : List Ws) : ∀ (n : Nat) (l : Ws), l.length ≤ n → ∀ c, go (ss ++ [⟨p, some h, c⟩]) l = match rdCode l with
    | .error e => .error e
    | .ok (q, r) => go (ss ++ [⟨p, some h, c ++ q⟩]) r
  | n, [], _, p => by rw [rdCode_nil]; simp
  | 0, d :: r, hl, _ => by simp at hl
  | n + 1, d :: r, hl, k => by
    rw [rdCode_cons]
    by_cases c : d = 124 ∨ d = 62
    · have al : allow (ss ++ [⟨p, some h, k⟩]) d = true := by
        rw [allow_snoc]
        rcases c with c | c <;> subst c <;> rfl
      have st : step (ss ++ [⟨p, some h, k⟩]) d r = (match rdLn d r with
        | .error e => .error e
        | .ok (s, r) => .ok (onLast (addC s) (ss ++ [⟨p, some h, k⟩]), r)) := by
        unfold step
        have n1 : ¬ d = 64 := by omega
        have n2 : ¬ d = 46 := by omega
        rw [if_neg n1, if_neg n2, if_pos c]
      rw [if_pos c, go_cons, al, if_pos rfl, st]
      cases e : rdLn d r with
      | error e => rfl
      | ok x =>
        obtain ⟨s, r'⟩ := x
        have h1 := rdLn_lt c e
        show go (onLast (addC s) (ss ++ [⟨p, some h, k⟩])) r' = _
        rw [onLast_snoc]
        show go (ss ++ [⟨p, some h, k ++ [s]⟩]) r' = _
        rw [go_code ss h p n r' (by simp only [List.length_cons] at hl; omega) (k ++ [s])]
        dsimp only
        cases rdCode r' with
        | error e => rfl
        | ok y => obtain ⟨q, r''⟩ := y; simp
    · rw [if_neg c]; simp
/-- where prose ends -/
theorem rdProse_end : ∀ (n : Nat) (l : Ws), l.length ≤ n → ∀ q r, rdProse l = .ok (q, r) → r.head? ≠ some 46
  | n, [], _, q, r, h => by rw [rdProse_nil] at h; cases h; simp
  | 0, d :: r, hl, _, _, _ => by simp at hl
  | n + 1, d :: r, hl, q, r', h => by
    rw [rdProse_cons] at h
    split at h
    · split at h
      · cases h
      · rename_i s r1 e
        split at h
        · cases h
        · rename_i ss' q' e2
          cases h
          have h1 := rdLine_lt e
          exact rdProse_end n r1 (by simp only [List.length_cons] at hl; omega) _ _ e2
    · rename_i c; cases h; simpa using c
theorem rdCode_end : ∀ (n : Nat) (l : Ws), l.length ≤ n → ∀ q r, rdCode l = .ok (q, r) → r.head? ≠ some 124 ∧ r.head? ≠ some 62
  | n, [], _, q, r, h => by rw [rdCode_nil] at h; cases h; simp
  | 0, d :: r, hl, _, _, _ => by simp at hl
  | n + 1, d :: r, hl, q, r', h => by
    rw [rdCode_cons] at h
    split at h
    · rename_i hd
      split at h
      · cases h
      · rename_i s r1 e
        split at h
        · cases h
        · rename_i ss' q' e2
          cases h
          have h1 := rdLn_lt hd e
          exact rdCode_end n r1 (by simp only [List.length_cons] at hl; omega) _ _ e2
    · rename_i c; cases h
      exact ⟨fun z => c (.inl (by simpa using z)), fun z => c (.inr (by simpa using z))⟩
theorem go_body (ss : List Sc) (p : List Ws) (l : Ws) (hl : l.head? ≠ some 46) : (∃ s r, rdBody p l = .ok (s, r) ∧ go (ss ++ [⟨p, none, []⟩]) l = go (ss ++ [s]) r ∧ (∀ c, r.head? = some c → c ≠ 64 → allow (ss ++ [s]) c = false)) ∨
    ∃ e, rdBody p l = .error e ∧ go (ss ++ [⟨p, none, []⟩]) l = .error e := by
  cases l with
  | nil => exact .inl ⟨_, _, rfl, rfl, fun c h => by simp at h⟩
  | cons d q =>
    have n46 : ¬ d = 46 := fun z => hl (by simp [z])
    by_cases c : d = 61 ∨ d = 42
    · have al : allow (ss ++ [⟨p, none, []⟩]) d = true := by
        rw [allow_snoc]
        rcases c with c | c <;> subst c <;> rfl
      have st : step (ss ++ [⟨p, none, []⟩]) d q = (match rdHead (d == 42) q with
        | .error e => .error e
        | .ok (h, r) => .ok (onLast (addH h) (ss ++ [⟨p, none, []⟩]), r)) := by
        unfold step
        have n1 : ¬ d = 64 := by omega
        have n3 : ¬ (d = 124 ∨ d = 62) := by omega
        rw [if_neg n1, if_neg n46, if_neg n3]
      have b : rdBody p (d :: q) = (match rdHead (d == 42) q with
        | .error e => .error e
        | .ok (h, r) => (match rdCode r with
          | .error e => .error e
          | .ok (c, r) => .ok (⟨p, some h, c⟩, r))) := by
        rw [rdBody_cons, if_pos c]
      rw [b, go_cons, al, if_pos rfl, st]
      cases e : rdHead (d == 42) q with
      | error z => exact .inr ⟨z, rfl, rfl⟩
      | ok x =>
        obtain ⟨h, r⟩ := x
        dsimp only
        rw [onLast_snoc]
        have g := go_code ss h p r.length r (Nat.le_refl _) []
        have ad : addH h ⟨p, none, []⟩ = ⟨p, some h, []⟩ := rfl
        rw [ad, g]
        cases e2 : rdCode r with
        | error z => exact .inr ⟨z, rfl, rfl⟩
        | ok y =>
          obtain ⟨k, r'⟩ := y
          refine .inl ⟨_, _, rfl, rfl, fun c hc n64 => ?_⟩
          obtain ⟨z1, z2⟩ := rdCode_end _ _ (Nat.le_refl _) _ _ e2
          rw [allow_snoc]
          have y1 : ¬ c = 124 := fun z => z1 (by rw [hc, z])
          have y2 : ¬ c = 62 := fun z => z2 (by rw [hc, z])
          simp [n64, y1, y2]
    · refine .inl ⟨⟨p, none, []⟩, d :: q, ?_, rfl, fun x hx n64 => ?_⟩
      · rw [rdBody_cons, if_neg c]
      · have e : d = x := by simpa using hx
        subst e
        rw [allow_snoc]
        have y1 : ¬ d = 61 := fun z => c (.inl z)
        have y2 : ¬ d = 42 := fun z => c (.inr z)
        simp [n64, y1, y2, n46]
theorem step_at (ss : List Sc) (r : Ws) : step ss 64 r = (match ex1 10 r with
    | .error e => .error e
    | .ok r => .ok (ss ++ [⟨[], none, []⟩], r)) := by simp [step]
theorem rdSec_at (r : Ws) : rdSec (64 :: r) = (match ex1 10 r with
    | .error e => .error e
    | .ok r => match rdProse r with
      | .error e => .error e
      | .ok (p, r) => rdBody p r) := by
  unfold rdSec
  rw [ex1_self]
/-- both ways of reading are one -/
theorem go_web : ∀ (n : Nat) (l : Ws), l.length ≤ n → ∀ ss, (∀ c, l.head? = some c → c ≠ 64 → allow ss c = false) → go ss l = match rdWeb l with
    | .error e => .error e
    | .ok q => .ok (ss ++ q)
  | n, [], _, ss, _ => by rw [go_nil, rdWeb_nil]; simp
  | 0, d :: r, hl, _, _ => by simp at hl
  | n + 1, d :: r, hl, ss, ha => by
    rw [go_cons, rdWeb_cons]
    by_cases c : d = 64
    · subst c
      rw [allow_at, if_pos rfl, step_at, rdSec_at]
      cases e1 : ex1 10 r with
      | error e => rfl
      | ok r1 =>
        have l1 := congrArg List.length (ex1_ok e1)
        simp only [List.length_cons] at l1 hl
        show go (ss ++ [⟨[], none, []⟩]) r1 = _
        rw [go_prose ss r1.length r1 (Nat.le_refl _) []]
        simp only [e1]
        cases e2 : rdProse r1 with
        | error e => rfl
        | ok x =>
          obtain ⟨p, r2⟩ := x
          have l2 := rdProse_len _ _ (Nat.le_refl _) _ _ e2
          dsimp only
          rw [List.nil_append]
          rcases go_body ss p r2 (rdProse_end _ _ (Nat.le_refl _) _ _ e2) with ⟨s, r3, b1, b2, b3⟩ | ⟨e, b1, b2⟩
          · have l3 := rdBody_len b1
            rw [b1, b2, go_web n r3 (by omega) (ss ++ [s]) b3]
            dsimp only
            cases rdWeb r3 with
            | error e => rfl
            | ok q => simp
          · rw [b1, b2]
    · have h1 := ha d rfl c
      have h2 : rdSec (d :: r) = .error (d :: r) := by
        unfold rdSec
        rw [ex1_no (by simpa using c)]
      rw [h1, h2]
      rfl
theorem go_is (l : Ws) : go [] l = rdWeb l := by
  rw [go_web l.length l (Nat.le_refl _) [] fun c _ n => by simp [allow, n]]
  cases rdWeb l <;> simp
end Kn

/-! Rows, heads, a whole reading; what was written is read again. -/
namespace Kn
/-! ### rows of what was read -/
def okC (s : Sc) : Prop := s.head = none → s.code = []
theorem rows_append : ∀ (a b : List Sc) (k : Nat), rowsFrom k (a ++ b) = rowsFrom k a ++ rowsFrom (k + a.length) b
  | [], b, k => by simp [rowsFrom]
  | s :: a, b, k => by
    show secRows k s ++ rowsFrom (k + 1) (a ++ b) = (secRows k s ++ rowsFrom (k + 1) a) ++ _
    rw [rows_append a b (k + 1), List.append_assoc, List.length_cons, Nat.add_assoc, Nat.add_comm 1 a.length]
theorem proseRows_snoc (k : Nat) (x : Ws) : ∀ (p : List Ws) (i : Nat), proseRows k i (p ++ [x]) = proseRows k i p ++ [⟨k, 1, i + p.length, 46 :: x, none⟩]
  | [], i => rfl
  | s :: p, i => by
    show _ :: proseRows k (i + 1) (p ++ [x]) = _
    rw [proseRows_snoc k x p (i + 1), List.length_cons, Nat.add_assoc, Nat.add_comm 1 p.length]
    rfl
theorem codeRows_snoc (k : Nat) (x : Ln) : ∀ (p : List Ln) (i : Nat), codeRows k i (p ++ [x]) = codeRows k i p ++ [⟨k, 3, i + p.length, lnTxt x, none⟩]
  | [], i => rfl
  | s :: p, i => by
    show _ :: codeRows k (i + 1) (p ++ [x]) = _
    rw [codeRows_snoc k x p (i + 1), List.length_cons, Nat.add_assoc, Nat.add_comm 1 p.length]
    rfl
theorem rows_snoc (ss : List Sc) (s : Sc) : rowsOf (ss ++ [s]) = rowsOf ss ++ secRows ss.length s := by
  rw [rowsOf, rows_append, Nat.zero_add]
  simp [rowsFrom]
theorem last_of {ss : List Sc} {c : Nat} (ha : allow ss c = true) (n64 : c ≠ 64) : ∃ st s, ss = st ++ [s] ∧ ((s.head = none ∧ (c = 46 ∨ c = 61 ∨ c = 42)) ∨ (s.head ≠ none ∧ (c = 124 ∨ c = 62))) := by
  rcases List.eq_nil_or_concat ss with e | ⟨st, s, e⟩
  · subst e
    have : (c == 64) = true := ha
    exact absurd (beq_iff_eq.mp this) n64
  · rw [List.concat_eq_append] at e
    subst e
    refine ⟨st, s, rfl, ?_⟩
    rw [allow_snoc] at ha
    cases e : s.head with
    | none =>
      rw [e] at ha
      simp [n64] at ha
      exact .inl ⟨rfl, ha⟩
    | some h =>
      rw [e] at ha
      simp [n64] at ha
      exact .inr ⟨by simp, ha⟩
theorem step_rows {ss ss' : List Sc} {c : Nat} {r r' : Ws} (hi : ∀ s ∈ ss, okC s) (ha : allow ss c = true) (h : step ss c r = .ok (ss', r')) :
    (∀ s ∈ ss', okC s) ∧ ∃ row : Rw, rowsOf ss' = rowsOf ss ++ [row] ∧ c :: r = row.line ++ 10 :: r' ∧ row.hd = (if c = 61 ∨ c = 42 then (match rdHead (c == 42) r with | .ok (h, _) => some h | .error _ => none) else none) := by
  by_cases c64 : c = 64
  · subst c64
    rw [step_at] at h
    split at h
    · cases h
    · rename_i q e
      cases h
      refine ⟨fun s hs => ?_, ⟨ss.length, 0, 0, [64], none⟩, ?_, ?_, by simp⟩
      · rcases List.mem_append.mp hs with z | z
        · exact hi s z
        · rw [List.mem_singleton.mp z]; intro _; rfl
      · rw [rows_snoc]; rfl
      · rw [ex1_ok e]; rfl
  · obtain ⟨st, s, rfl, hc⟩ := last_of ha c64
    have hs : okC s := hi s (by simp)
    have hst : ∀ x ∈ st, okC x := fun x hx => hi x (by simp [hx])
    unfold step at h
    rw [if_neg c64] at h
    rcases hc with ⟨hn, hc⟩ | ⟨hn, hc⟩
    · have cd := hs hn
      obtain ⟨p, hd, k⟩ := s
      dsimp only at hn cd
      subst hn cd
      by_cases c46 : c = 46
      · subst c46
        rw [if_pos rfl] at h
        split at h
        · cases h
        · rename_i x q e
          cases h
          rw [onLast_snoc]
          refine ⟨fun y hy => ?_, ⟨st.length, 1, p.length, 46 :: x, none⟩, ?_, ?_, by simp⟩
          · rcases List.mem_append.mp hy with z | z
            · exact hst y z
            · rw [List.mem_singleton.mp z]; intro _; rfl
          · rw [rows_snoc, rows_snoc, List.append_assoc]
            congr 1
            show _ :: (proseRows _ 0 (p ++ [x]) ++ _) = _
            rw [proseRows_snoc, Nat.zero_add]
            simp [secRows, headRows, codeRows, addP]
          · rw [rdLine_ok e]; rfl
      · have c2 : c = 61 ∨ c = 42 := hc.resolve_left c46
        have n3 : ¬ (c = 124 ∨ c = 62) := by omega
        rw [if_neg c46, if_neg n3] at h
        rw [if_pos c2]
        split at h
        · cases h
        · rename_i x q e
          cases h
          rw [onLast_snoc, e]
          refine ⟨fun y hy => ?_, ⟨st.length, 2, 0, hdTxt x, some x⟩, ?_, ?_, rfl⟩
          · rcases List.mem_append.mp hy with z | z
            · exact hst y z
            · rw [List.mem_singleton.mp z]; intro w; cases w
          · rw [rows_snoc, rows_snoc, List.append_assoc]
            congr 1
            simp [secRows, headRows, codeRows, addH]
          · have q1 := (rdHead_ok e).1
            rw [← q1]
            rcases c2 with z | z <;> subst z <;> rfl
    · have n46 : ¬ c = 46 := by omega
      have n2 : ¬ (c = 61 ∨ c = 42) := by omega
      rw [if_neg n46, if_pos hc] at h
      rw [if_neg n2]
      obtain ⟨p, hd, k⟩ := s
      split at h
      · cases h
      · rename_i x q e
        cases h
        rw [onLast_snoc]
        refine ⟨fun y hy => ?_, ⟨st.length, 3, k.length, lnTxt x, none⟩, ?_, ?_, rfl⟩
        · rcases List.mem_append.mp hy with z | z
          · exact hst y z
          · rw [List.mem_singleton.mp z]; intro w; exact absurd w hn
        · rw [rows_snoc, rows_snoc, List.append_assoc]
          congr 1
          show _ :: (_ ++ (_ ++ codeRows _ 0 (k ++ [x]))) = _
          rw [codeRows_snoc, Nat.zero_add]
          simp [secRows, addC]
        · exact rdLn_ok hc e
theorem go_txt : ∀ (n : Nat) (l : Ws), l.length ≤ n → ∀ ss w, (∀ s ∈ ss, okC s) → go ss l = .ok w → webTxt w = webTxt ss ++ l ∧ ∀ s ∈ w, okC s
  | n, [], _, ss, w, hi, h => by rw [go_nil] at h; cases h; exact ⟨by simp, hi⟩
  | 0, c :: r, hl, _, _, _, _ => by simp at hl
  | n + 1, c :: r, hl, ss, w, hi, h => by
    rw [go_cons] at h
    split at h
    · rename_i ha
      split at h
      · cases h
      · rename_i ss' r' e
        have hlen := step_len e
        obtain ⟨hi', row, e1, e2, _⟩ := step_rows hi ha e
        obtain ⟨q1, q2⟩ := go_txt n r' (by omega) ss' w hi' h
        refine ⟨?_, q2⟩
        rw [q1, webTxt, e1, txt_append, txt_cons, txt_nil, e2]
        simp
    · cases h
theorem web_txt {t : Ws} {w : List Sc} (h : rdWeb t = .ok w) : webTxt w = t ∧ ∀ s ∈ w, okC s := by
  rw [← go_is] at h
  have q := go_txt t.length t (Nat.le_refl _) [] w (by simp) h
  refine ⟨?_, q.2⟩
  rw [q.1]
  rfl

/-! ### heads -/
def headsIn : Nat → List Rw → List (Hd × Nat)
  | _, [] => []
  | n, r :: rs => (match r.hd with | some h => [(h, n)] | none => []) ++ headsIn (n + (r.line.length + 1)) rs
theorem headsIn_append : ∀ (a b : List Rw) (n : Nat), headsIn n (a ++ b) = headsIn n a ++ headsIn (n + (txt a).length) b
  | [], b, n => by simp [headsIn, txt]
  | r :: a, b, n => by
    show _ ++ headsIn _ (a ++ b) = (_ ++ headsIn _ a) ++ _
    rw [headsIn_append a b, List.append_assoc, txt_cons, List.length_append, List.length_cons]
    congr 3
    omega
def clash (seen : List Hd) (h : Hd) : Bool := seen.any fun o => o.name == h.name && !decide (o = h)
def bad : List Hd → List (Hd × Nat) → Option Nat
  | _, [] => none
  | seen, (h, p) :: r => if clash seen h then some p else bad (seen ++ [h]) r
def first (hs : List Hd) (n : Ws) : Option Hd := hs.find? fun h => h.name == n
def badF (all : List Hd) : List (Hd × Nat) → Option Nat
  | [] => none
  | (h, p) :: r => if first all h.name = some h then badF all r else some p
theorem first_append (a b : List Hd) (n : Ws) : first (a ++ b) n = (first a n).or (first b n) := by simp [first, List.find?_append]
theorem bad_eq : ∀ (r : List (Hd × Nat)) (seen : List Hd), (∀ o ∈ seen, first seen o.name = some o) → bad seen r = badF (seen ++ r.map (·.1)) r
  | [], _, _ => rfl
  | (h, p) :: r, seen, hs => by
    have nm : ∀ {o : Hd}, first seen h.name = some o → o.name = h.name ∧ o ∈ seen := fun {o} e => by
      have q := List.find?_some e
      exact ⟨by simpa using q, List.mem_of_find?_eq_some e⟩
    show (if clash seen h = true then _ else _) = (if first (seen ++ h :: r.map (·.1)) h.name = some h then _ else _)
    rw [first_append]
    cases e : first seen h.name with
    | some o =>
      obtain ⟨n1, n2⟩ := nm e
      by_cases c : o = h
      · subst c
        have nc : ¬ clash seen o = true := fun z => by
          obtain ⟨x, hx, y⟩ := List.any_eq_true.mp z
          simp at y
          have q := hs x hx
          rw [y.1, e] at q
          exact y.2 (Option.some.inj q).symm
        rw [if_neg nc, if_pos (show (some o).or (first (o :: r.map (·.1)) o.name) = some o from rfl)]
        have hs' : ∀ x ∈ seen ++ [o], first (seen ++ [o]) x.name = some x := fun x hx => by
          rw [first_append]
          rcases List.mem_append.mp hx with z | z
          · rw [hs x z]; rfl
          · rw [List.mem_singleton.mp z, e]; rfl
        rw [bad_eq r _ hs', List.append_assoc]
        rfl
      · have yc : clash seen h = true := List.any_eq_true.mpr ⟨o, n2, by simp [n1, c]⟩
        have nf : ¬ ((some o).or (first (h :: r.map (·.1)) h.name) = some h) := fun z => c (Option.some.inj z)
        rw [if_pos yc, if_neg nf]
    | none =>
      have nc : ¬ clash seen h = true := fun z => by
        obtain ⟨x, hx, y⟩ := List.any_eq_true.mp z
        simp at y
        have q := hs x hx
        rw [y.1, e] at q
        cases q
      have hh : first (h :: r.map (·.1)) h.name = some h := by simp [first]
      rw [if_neg nc, hh, if_pos (show Option.or none (some h) = some h from rfl)]
      have hs' : ∀ x ∈ seen ++ [h], first (seen ++ [h]) x.name = some x := fun x hx => by
        rw [first_append]
        rcases List.mem_append.mp hx with z | z
        · rw [hs x z]; rfl
        · rw [List.mem_singleton.mp z, e]
          simp [first]
      rw [bad_eq r _ hs', List.append_assoc]
      rfl
theorem bad_is (r : List (Hd × Nat)) : bad [] r = badF (r.map (·.1)) r := by
  have q := bad_eq r [] (by simp)
  rw [q, List.nil_append]
/-- a whole reading: the web, or where it is wrong -/
def readAll (t : Ws) : Except Nat (List Sc) := match rdWeb t with
  | .error r => .error (t.length - r.length)
  | .ok w => match bad [] (headsIn 0 (rowsOf w)) with
    | some p => .error p
    | none => .ok w

/-! ### what is written -/
def wOk (w : Ws) : Prop := w ≠ [] ∧ w.length ≤ 8 ∧ ∀ c ∈ w, isLet c = true
def sOk (s : Ws) : Prop := ∀ c ∈ s, isSgn c = true
def aOk (a : Ws) : Prop := a ≠ [] ∧ (∀ c ∈ a, isArg c = true) ∧ a.head? ≠ some 32 ∧ a.getLast? ≠ some 32
def hOk (h : Hd) : Prop := wOk h.name ∧ h.params.length ≤ 3 ∧ (∀ p ∈ h.params, wOk p) ∧ h.params.Nodup ∧ (h.isf = true → h.params = [])
def lOk : Ln → Prop
  | .plain s => sOk s
  | .use i n as => i ≤ 20 ∧ wOk n ∧ as.length ≤ 3 ∧ ∀ a ∈ as, aOk a
def cOk (s : Sc) : Prop := (∀ p ∈ s.prose, sOk p) ∧ okC s ∧ (∀ h, s.head = some h → hOk h) ∧ ∀ c ∈ s.code, lOk c
def heads (w : List Sc) : List Hd := w.filterMap (·.head)
def webOk (w : List Sc) : Prop := (∀ s ∈ w, cOk s) ∧ ∀ h ∈ heads w, ∀ g ∈ heads w, h.name = g.name → h = g
theorem tw_stop {p : Nat → Bool} {s : Ws} (h : ∀ c ∈ s, p c = true) {d : Nat} (hd : p d = false) (r : Ws) : (s ++ d :: r).takeWhile p = s ∧ (s ++ d :: r).dropWhile p = d :: r := by
  induction s with
  | nil => simp [List.takeWhile_cons, List.dropWhile_cons, hd]
  | cons c s ih =>
    have h1 := h c (by simp)
    have h2 := ih fun x hx => h x (by simp [hx])
    simp [List.takeWhile_cons, List.dropWhile_cons, h1, h2]
theorem wr_line {s : Ws} (h : sOk s) (r : Ws) : rdLine (s ++ 10 :: r) = .ok (s, r) := by
  obtain ⟨h1, h2⟩ := tw_stop h (d := 10) (by decide) r
  unfold rdLine
  rw [h1, h2, ex1_self]
theorem wr_word {w : Ws} (h : wOk w) {b : List Ws} (hb : w ∉ b) {d : Nat} (hd : isLet d = false) (r : Ws) : rdWord b (w ++ d :: r) = .ok (w, d :: r) := by
  obtain ⟨h1, h2⟩ := tw_stop h.2.2 hd r
  have e : wd (w ++ d :: r) = w := by
    unfold wd
    rw [h1, List.take_of_length_le h.2.1]
  unfold rdWord
  rw [e, if_neg (fun z => hb z.2), if_neg (fun z => z.elim h.1 hb), List.drop_left]
theorem wr_arg {a : Ws} (h : aOk a) {d : Nat} (hd : isArg d = false) (r : Ws) : rdArg (a ++ d :: r) = .ok (a, d :: r) := by
  obtain ⟨h1, h2⟩ := tw_stop h.2.1 hd r
  have e : ar (a ++ d :: r) = a := h1
  have hh : ¬ (a ++ d :: r).head? = some 32 := by
    cases a with
    | nil => exact absurd rfl h.1
    | cons c a => exact h.2.2.1
  unfold rdArg
  rw [if_neg hh, e, h2, if_neg (fun z => z.elim h.1 h.2.2.2)]
def tailC (as : List Ws) : Ws := (as.map (44 :: ·)).flatten
theorem joinC_cons (a : Ws) : ∀ as : List Ws, joinC (a :: as) = a ++ tailC as
  | [] => by simp [joinC, tailC]
  | b :: as => by
    show a ++ 44 :: joinC (b :: as) = _
    rw [joinC_cons b as]
    simp [tailC]
theorem tail_cons (a : Ws) (as : List Ws) (r : Ws) : tailC (a :: as) ++ 41 :: r = 44 :: (a ++ (tailC as ++ 41 :: r)) := by simp [tailC]
theorem tail_head (as : List Ws) (r : Ws) : ∃ d q, tailC as ++ 41 :: r = d :: q ∧ (d = 41 ∨ d = 44) := by
  cases as with
  | nil => exact ⟨41, r, rfl, .inl rfl⟩
  | cons a as => exact ⟨44, _, tail_cons a as r, .inr rfl⟩
theorem wr_more {rd : List Ws → Ws → Rs Ws} : ∀ (as : List Ws) (k : Nat) (ps : List Ws) (r : Ws), as.length ≤ k →
    (∀ a (i : Nat) q, as[i]? = some a → (q.head? = some 41 ∨ q.head? = some 44) → rd (ps ++ as.take i) (a ++ q) = .ok (a, q)) → more rd k ps (tailC as ++ 41 :: r) = .ok (ps ++ as, r)
  | [], k, ps, r, _, _ => by
    show more rd k ps (41 :: r) = _
    cases k <;> simp [more]
  | a :: as, 0, _, _, h, _ => by simp at h
  | a :: as, k + 1, ps, r, h, hrd => by
    rw [tail_cons]
    obtain ⟨d, q, e, hd⟩ := tail_head as r
    have h1 := hrd a 0 (tailC as ++ 41 :: r) rfl (by rw [e]; rcases hd with z | z <;> simp [z])
    rw [List.take_zero, List.append_nil] at h1
    show (if 44 = 41 then _ else if 44 = 44 then (match rd ps (a ++ (tailC as ++ 41 :: r)) with
      | .ok (w, r') => more rd k (ps ++ [w]) r'
      | .error e => .error e) else _) = _
    rw [if_neg (by decide), if_pos rfl, h1]
    show more rd k (ps ++ [a]) _ = _
    rw [wr_more as k (ps ++ [a]) r (by simp only [List.length_cons] at h; omega) fun x i q hx hq => ?_]
    · simp
    · have z := hrd x (i + 1) q (by simpa using hx) hq
      simpa [List.append_assoc] using z
theorem wr_items {rd : List Ws → Ws → Rs Ws} {as : List Ws} {r : Ws} (hl : as.length ≤ 3)
    (hrd : ∀ a (i : Nat) q, as[i]? = some a → (q.head? = some 41 ∨ q.head? = some 44) → rd (as.take i) (a ++ q) = .ok (a, q)) (hh : ∀ a ∈ as, a ≠ [] ∧ a.head? ≠ some 41) : items rd (joinC as ++ 41 :: r) = .ok (as, r) := by
  cases as with
  | nil => rfl
  | cons a as =>
    rw [joinC_cons, List.append_assoc]
    obtain ⟨h1, h2⟩ := hh a (by simp)
    have hne : ¬ (a ++ (tailC as ++ 41 :: r)).head? = some 41 := by
      cases a with
      | nil => exact absurd rfl h1
      | cons c a => exact h2
    unfold items
    rw [if_neg hne]
    obtain ⟨d, q, e, hd⟩ := tail_head as r
    have h3 := hrd a 0 (tailC as ++ 41 :: r) rfl (by rw [e]; rcases hd with z | z <;> simp [z])
    rw [List.take_zero] at h3
    rw [h3]
    show more rd 2 [a] _ = _
    rw [wr_more as 2 [a] r (by simp only [List.length_cons] at hl; omega) fun x i q hx hq => ?_]
    · rfl
    · have z := hrd x (i + 1) q (by simpa using hx) hq
      simpa using z
theorem head_let {q : Ws} (h : q.head? = some 41 ∨ q.head? = some 44) : ∃ d r, q = d :: r ∧ isLet d = false ∧ isArg d = false := by
  cases q with
  | nil => simp at h
  | cons d r =>
    have : d = 41 ∨ d = 44 := by simpa using h
    refine ⟨d, r, rfl, ?_⟩
    rcases this with z | z <;> subst z <;> decide
theorem nd_take {as : List Ws} (h : as.Nodup) {i : Nat} {a : Ws} (ha : as[i]? = some a) : a ∉ as.take i := fun hm => by
  obtain ⟨hi, e⟩ := List.getElem?_eq_some_iff.mp ha
  obtain ⟨j, hj, e2⟩ := List.getElem_of_mem hm
  rw [List.getElem_take] at e2
  rw [List.length_take] at hj
  exact absurd (e2.trans e.symm) (List.pairwise_iff_getElem.mp h j i (by omega) hi (by omega))
theorem let_not {w : Ws} (h : wOk w) {c : Nat} (hc : isLet c = false) : w ≠ [] ∧ w.head? ≠ some c := ⟨h.1, fun e => by
  have q := h.2.2 c (List.mem_of_mem_head? e)
  rw [hc] at q
  cases q⟩
theorem wr_params {ps : List Ws} (hl : ps.length ≤ 3) (h : ∀ p ∈ ps, wOk p) (hn : ps.Nodup) (r : Ws) : rdParams (joinC ps ++ 41 :: r) = .ok (ps, r) := by
  refine wr_items hl (fun a i q ha hq => ?_) fun a ha => let_not (h a ha) (by decide)
  obtain ⟨d, q', rfl, h1, _⟩ := head_let hq
  exact wr_word (h a (List.mem_of_getElem? ha)) (nd_take hn ha) h1 q'
theorem wr_args {as : List Ws} (hl : as.length ≤ 3) (h : ∀ p ∈ as, aOk p) (r : Ws) : rdArgs (joinC as ++ 41 :: r) = .ok (as, r) := by
  refine wr_items hl (fun a i q ha hq => ?_) fun a ha => ?_
  · obtain ⟨d, q', rfl, _, h1⟩ := head_let hq
    exact wr_arg (h a (List.mem_of_getElem? ha)) h1 q'
  · have z := h a ha
    refine ⟨z.1, fun e => ?_⟩
    have q := z.2.1 41 (List.mem_of_mem_head? e)
    cases q
theorem wr_head {h : Hd} (o : hOk h) (r : Ws) : rdHead h.isf (h.name ++ 40 :: (joinC h.params ++ [41]) ++ 10 :: r) = .ok (h, r) := by
  obtain ⟨n, ps, f⟩ := h
  obtain ⟨h1, h2, h3, h4, h5⟩ := o
  dsimp only at h1 h2 h3 h4 h5 ⊢
  have e : n ++ 40 :: (joinC ps ++ [41]) ++ 10 :: r = n ++ 40 :: (joinC ps ++ 41 :: 10 :: r) := by simp
  unfold rdHead
  rw [e, wr_word h1 (by simp) (by decide)]
  dsimp only
  rw [ex1_self]
  dsimp only
  have hp : rdPs f (joinC ps ++ 41 :: 10 :: r) = .ok (ps, 10 :: r) := by
    cases f with
    | true =>
      rw [h5 rfl]
      rfl
    | false => exact wr_params h2 h3 h4 _
  rw [hp]
  dsimp only
  rw [ex1_self]
theorem wr_use {i : Nat} {n : Ws} {as : List Ws} (o : lOk (.use i n as)) (r : Ws) : rdUse (List.replicate i 32 ++ (n ++ 40 :: (joinC as ++ [41])) ++ 10 :: r) = .ok (.use i n as, r) := by
  obtain ⟨h1, h2, h3, h4⟩ := o
  have e : List.replicate i 32 ++ (n ++ 40 :: (joinC as ++ [41])) ++ 10 :: r = List.replicate i 32 ++ (n ++ 40 :: (joinC as ++ 41 :: 10 :: r)) := by simp
  have hb : blanks (List.replicate i 32 ++ (n ++ 40 :: (joinC as ++ 41 :: 10 :: r))) = i := by
    obtain ⟨c, m, rfl⟩ : ∃ c m, n = c :: m := by
      cases n with
      | nil => exact absurd rfl h2.1
      | cons c m => exact ⟨c, m, rfl⟩
    have hc : (c == 32) = false := by
      have q := h2.2.2 c (by simp)
      refine beq_eq_false_iff_ne.mpr fun z => ?_
      subst z
      cases q
    obtain ⟨q, _⟩ := tw_stop (p := (· == 32)) (s := List.replicate i 32) (fun x hx => by rw [List.eq_of_mem_replicate hx]; rfl) (d := c) hc (m ++ 40 :: (joinC as ++ 41 :: 10 :: r))
    unfold blanks
    have e2 : List.replicate i 32 ++ (c :: m ++ 40 :: (joinC as ++ 41 :: 10 :: r)) = List.replicate i 32 ++ c :: (m ++ 40 :: (joinC as ++ 41 :: 10 :: r)) := rfl
    rw [e2, q, List.length_replicate]
    omega
  unfold rdUse
  rw [e, hb]
  have hd : (List.replicate i 32 ++ (n ++ 40 :: (joinC as ++ 41 :: 10 :: r))).drop i = n ++ 40 :: (joinC as ++ 41 :: 10 :: r) := by
    have q := List.drop_left (l₁ := List.replicate i 32) (l₂ := n ++ 40 :: (joinC as ++ 41 :: 10 :: r))
    rw [List.length_replicate] at q
    exact q
  rw [hd, wr_word h2 (by simp) (by decide)]
  dsimp only
  rw [ex1_self]
  dsimp only
  rw [wr_args h3 h4]
  dsimp only
  rw [ex1_self]
theorem wr_prose {k : Nat} : ∀ (ps : List Ws) (i : Nat) (r : Ws), (∀ p ∈ ps, sOk p) → r.head? ≠ some 46 → rdProse (txt (proseRows k i ps) ++ r) = .ok (ps, r)
  | [], i, r, _, hr => by
    show rdProse r = _
    cases r with
    | nil => exact rdProse_nil
    | cons d r =>
      rw [rdProse_cons, if_neg (fun z => hr (by simp [z]))]
  | p :: ps, i, r, h, hr => by
    show rdProse (txt (⟨k, 1, i, 46 :: p, none⟩ :: proseRows k (i + 1) ps) ++ r) = _
    rw [txt_cons]
    show rdProse (46 :: ((p ++ 10 :: txt (proseRows k (i + 1) ps)) ++ r)) = _
    rw [rdProse_cons, if_pos rfl, List.append_assoc, List.cons_append, wr_line (h p (by simp))]
    dsimp only
    rw [wr_prose ps (i + 1) r (fun x hx => h x (by simp [hx])) hr]
theorem wr_code {k : Nat} : ∀ (ps : List Ln) (i : Nat) (r : Ws), (∀ p ∈ ps, lOk p) → r.head? ≠ some 124 → r.head? ≠ some 62 → rdCode (txt (codeRows k i ps) ++ r) = .ok (ps, r)
  | [], i, r, _, h1, h2 => by
    show rdCode r = _
    cases r with
    | nil => exact rdCode_nil
    | cons d r =>
      rw [rdCode_cons, if_neg (fun z => z.elim (fun z => h1 (by simp [z])) fun z => h2 (by simp [z]))]
  | p :: ps, i, r, h, h1, h2 => by
    have ih := wr_code (k := k) ps (i + 1) r (fun x hx => h x (by simp [hx])) h1 h2
    have hp := h p (by simp)
    show rdCode (txt (⟨k, 3, i, lnTxt p, none⟩ :: codeRows k (i + 1) ps) ++ r) = _
    rw [txt_cons]
    cases p with
    | plain s =>
      show rdCode (124 :: ((s ++ 10 :: txt (codeRows k (i + 1) ps)) ++ r)) = _
      rw [rdCode_cons, if_pos (.inl rfl), List.append_assoc, List.cons_append]
      unfold rdLn
      rw [if_pos rfl, wr_line hp]
      dsimp only
      rw [ih]
    | use n w as =>
      show rdCode (62 :: ((List.replicate n 32 ++ (w ++ 40 :: (joinC as ++ [41])) ++ 10 :: txt (codeRows k (i + 1) ps)) ++ r)) = _
      rw [rdCode_cons, if_pos (.inr rfl), List.append_assoc, List.cons_append]
      unfold rdLn
      rw [if_neg (by decide), wr_use hp]
      dsimp only
      rw [ih]
theorem wr_sec {k : Nat} {s : Sc} (o : cOk s) {r : Ws} (hr : r = [] ∨ r.head? = some 64) : rdSec (txt (secRows k s) ++ r) = .ok (s, r) := by
  obtain ⟨p, hd, c⟩ := s
  obtain ⟨h1, h2, h3, h4⟩ := o
  dsimp only at h1 h3 h4
  have r46 : ∀ d, d ≠ 64 → r.head? ≠ some d := fun d n z => by
    rcases hr with e | e
    · rw [e] at z; cases z
    · rw [e] at z; exact n (Option.some.inj z).symm
  show rdSec (txt (⟨k, 0, 0, [64], none⟩ :: (proseRows k 0 p ++ (headRows k hd ++ codeRows k 0 c))) ++ r) = _
  rw [txt_cons]
  show rdSec (64 :: 10 :: (txt (proseRows k 0 p ++ (headRows k hd ++ codeRows k 0 c)) ++ r)) = _
  rw [rdSec_at, ex1_self]
  dsimp only
  rw [txt_append, List.append_assoc]
  cases hd with
  | none =>
    have hc : c = [] := h2 rfl
    subst hc
    rw [wr_prose p 0 _ h1 (by show r.head? ≠ some 46; exact r46 46 (by decide))]
    show rdBody p r = _
    rcases hr with e | e
    · subst e; rfl
    · cases r with
      | nil => rfl
      | cons d q =>
        have e : d = 64 := by simpa using e
        subst e
        rw [rdBody_cons, if_neg (by decide)]
  | some h =>
    have e1 : txt (headRows k (some h) ++ codeRows k 0 c) ++ r = (if h.isf then 42 else 61) :: (h.name ++ 40 :: (joinC h.params ++ [41]) ++ 10 :: (txt (codeRows k 0 c) ++ r)) := by
      show txt (⟨k, 2, 0, hdTxt h, some h⟩ :: codeRows k 0 c) ++ r = _
      rw [txt_cons]
      simp [hdTxt]
    rw [e1, wr_prose p 0 _ h1 (by cases h.isf <;> simp)]
    dsimp only
    rw [rdBody_cons]
    have hc : ((if h.isf = true then 42 else 61 : Nat) = 61 ∨ (if h.isf = true then 42 else 61 : Nat) = 42) := by cases h.isf <;> simp
    have hf : ((if h.isf = true then 42 else 61 : Nat) == 42) = h.isf := by cases h.isf <;> rfl
    rw [if_pos hc, hf, wr_head (h3 h rfl)]
    dsimp only
    rw [wr_code c 0 r h4 (r46 124 (by decide)) (r46 62 (by decide))]
theorem wr_web : ∀ (w : List Sc) (k : Nat), (∀ s ∈ w, cOk s) → rdWeb (txt (rowsFrom k w)) = .ok w
  | [], k, _ => rdWeb_nil
  | s :: w, k, h => by
    have ih := wr_web w (k + 1) fun x hx => h x (by simp [hx])
    have hr : txt (rowsFrom (k + 1) w) = [] ∨ (txt (rowsFrom (k + 1) w)).head? = some 64 := by
      cases w with
      | nil => exact .inl rfl
      | cons s w => exact .inr rfl
    have hs := wr_sec (k := k) (h s (by simp)) hr
    show rdWeb (txt (secRows k s ++ rowsFrom (k + 1) w)) = _
    rw [txt_append]
    have e : ∃ q, txt (secRows k s) ++ txt (rowsFrom (k + 1) w) = 64 :: q := ⟨_, rfl⟩
    obtain ⟨q, e⟩ := e
    rw [e] at hs ⊢
    rw [rdWeb_cons, hs]
    dsimp only
    rw [ih]
theorem bad_none : ∀ (r : List (Hd × Nat)) (seen : List Hd), (∀ h ∈ seen ++ r.map (·.1), ∀ g ∈ seen ++ r.map (·.1), h.name = g.name → h = g) → bad seen r = none
  | [], _, _ => rfl
  | (h, p) :: r, seen, hs => by
    have nc : ¬ clash seen h = true := fun z => by
      obtain ⟨x, hx, y⟩ := List.any_eq_true.mp z
      simp at y
      exact y.2 (hs x (by simp [hx]) h (by simp) y.1)
    show (if clash seen h = true then _ else _) = _
    rw [if_neg nc]
    refine bad_none r _ fun a ha b hb => hs a ?_ b ?_
    · simpa [List.append_assoc] using ha
    · simpa [List.append_assoc] using hb
theorem heads_rows : ∀ (rs : List Rw) (n : Nat), (headsIn n rs).map (·.1) = rs.filterMap (·.hd)
  | [], n => rfl
  | r :: rs, n => by
    show (_ ++ headsIn _ rs).map (·.1) = _
    rw [List.map_append, heads_rows rs, List.filterMap_cons]
    cases r.hd <;> rfl
theorem prose_nohd (k : Nat) : ∀ (ps : List Ws) (i : Nat), (proseRows k i ps).filterMap (·.hd) = []
  | [], i => rfl
  | p :: ps, i => by
    show List.filterMap _ (_ :: proseRows k (i + 1) ps) = _
    rw [List.filterMap_cons]
    exact prose_nohd k ps (i + 1)
theorem code_nohd (k : Nat) : ∀ (ps : List Ln) (i : Nat), (codeRows k i ps).filterMap (·.hd) = []
  | [], i => rfl
  | p :: ps, i => by
    show List.filterMap _ (_ :: codeRows k (i + 1) ps) = _
    rw [List.filterMap_cons]
    exact code_nohd k ps (i + 1)
theorem heads_web : ∀ (w : List Sc) (k : Nat), (rowsFrom k w).filterMap (·.hd) = heads w
  | [], k => rfl
  | s :: w, k => by
    show (secRows k s ++ rowsFrom (k + 1) w).filterMap (·.hd) = _
    rw [List.filterMap_append, heads_web w (k + 1)]
    have e : (secRows k s).filterMap (·.hd) = s.head.toList := by
      unfold secRows
      rw [List.filterMap_cons]
      dsimp only
      rw [List.filterMap_append, List.filterMap_append, prose_nohd, code_nohd]
      cases s.head <;> rfl
    rw [e]
    unfold heads
    rw [List.filterMap_cons]
    cases s.head <;> rfl
/-- what was written is read -/
theorem read_written {w : List Sc} (o : webOk w) : readAll (webTxt w) = .ok w := by
  unfold readAll
  rw [wr_web w 0 o.1]
  dsimp only
  rw [bad_none _ [] ?_]
  rw [List.nil_append, heads_rows, heads_web]
  exact o.2
end Kn

/-! Sizes; heads that were read are made of letters. -/
namespace Kn
def hL (h : Hd) : Prop := ∀ w ∈ h.name :: h.params, ∀ c ∈ w, isLet c = true
theorem wd_let (l : Ws) : ∀ c ∈ wd l, isLet c = true := fun c hc => by
  have h := List.mem_of_mem_take hc
  exact (List.all_eq_true.mp (List.all_takeWhile (p := isLet) (l := l))) c h
theorem wd_len (l : Ws) : (wd l).length ≤ 8 := by
  unfold wd
  rw [List.length_take]
  omega
theorem more_all {rd : List Ws → Ws → Rs Ws} {G : Ws → Prop} (hrd : ∀ b l w r, rd b l = .ok (w, r) → G w) : ∀ (k : Nat) (ps : List Ws) (l : Ws) (qs : List Ws) (r : Ws), (∀ p ∈ ps, G p) → more rd k ps l = .ok (qs, r) → (∀ q ∈ qs, G q) ∧ qs.length ≤ ps.length + k := by
  intro k
  induction k with
  | zero =>
    intro ps l qs r hp h
    cases l with
    | nil => cases h
    | cons d l =>
      unfold more at h
      split at h
      · cases h; exact ⟨hp, Nat.le_refl _⟩
      · cases h
  | succ k ih =>
    intro ps l qs r hp h
    cases l with
    | nil => cases h
    | cons d l =>
      unfold more at h
      split at h
      · cases h; exact ⟨hp, by omega⟩
      · split at h
        · split at h
          · rename_i w r' e
            have q := ih (ps ++ [w]) r' qs r (fun p hp' => by
              rcases List.mem_append.mp hp' with z | z
              · exact hp p z
              · rw [List.mem_singleton.mp z]; exact hrd _ _ _ _ e) h
            refine ⟨q.1, ?_⟩
            have := q.2
            simp at this
            omega
          · cases h
        · cases h
theorem items_all {rd : List Ws → Ws → Rs Ws} {G : Ws → Prop} (hrd : ∀ b l w r, rd b l = .ok (w, r) → G w) {l : Ws} {qs : List Ws} {r : Ws} (h : items rd l = .ok (qs, r)) : (∀ q ∈ qs, G q) ∧ qs.length ≤ 3 := by
  unfold items at h
  split at h
  · cases h; simp
  · split at h
    · rename_i w r' e
      have q := more_all hrd 2 [w] r' qs r (fun p hp => by rw [List.mem_singleton.mp hp]; exact hrd _ _ _ _ e) h
      exact ⟨q.1, q.2⟩
    · cases h
theorem rdWord_let {b : List Ws} {l w r : Ws} (h : rdWord b l = .ok (w, r)) : ∀ c ∈ w, isLet c = true := by
  rw [(rdWord_ok h).2.1]
  exact wd_let l
theorem rdHead_let {f : Bool} {l : Ws} {h : Hd} {r : Ws} (e : rdHead f l = .ok (h, r)) : hL h := by
  unfold rdHead at e
  split at e
  · cases e
  · rename_i n q e1
    split at e
    · cases e
    · rename_i q1 e2
      split at e
      · cases e
      · rename_i ps q2 e3
        split at e
        · cases e
        · rename_i q3 e4
          cases e
          have hp : ∀ p ∈ ps, ∀ c ∈ p, isLet c = true := by
            cases f with
            | true =>
              have e3 : (match ex1 41 q1 with
                | .ok r => .ok ([], r)
                | .error e => .error e : Rs (List Ws)) = .ok (ps, q2) := e3
              split at e3
              · cases e3; simp
              · cases e3
            | false => exact (items_all (rd := rdWord) (G := fun p => ∀ c ∈ p, isLet c = true) (fun b l w r z => rdWord_let z) (show items rdWord q1 = _ from e3)).1
          intro w hw
          rcases List.mem_cons.mp hw with z | z
          · rw [z]; exact rdWord_let e1
          · exact hp w z
theorem rdBody_let {p : List Ws} {l : Ws} {s : Sc} {r : Ws} (e : rdBody p l = .ok (s, r)) : ∀ h, s.head = some h → hL h := by
  cases l with
  | nil => cases e; intro h z; cases z
  | cons d q =>
    rw [rdBody_cons] at e
    split at e
    · split at e
      · cases e
      · rename_i hh r' e1
        split at e
        · cases e
        · cases e
          intro h z
          cases z
          exact rdHead_let e1
    · cases e; intro h z; cases z
theorem rdWeb_let : ∀ (n : Nat) (l : Ws), l.length ≤ n → ∀ w, rdWeb l = .ok w → ∀ s ∈ w, ∀ h, s.head = some h → hL h
  | n, [], _, w, e => by rw [rdWeb_nil] at e; cases e; simp
  | 0, d :: l, hl, _, _ => by simp at hl
  | n + 1, d :: l, hl, w, e => by
    rw [rdWeb_cons] at e
    split at e
    · cases e
    · rename_i s r e1
      split at e
      · cases e
      · rename_i ss e2
        cases e
        have hlt := rdSec_lt e1
        have ih := rdWeb_let n r (by omega) ss e2
        intro x hx h z
        rcases List.mem_cons.mp hx with y | y
        · subst y
          unfold rdSec at e1
          split at e1
          · cases e1
          · split at e1
            · cases e1
            · split at e1
              · cases e1
              · exact rdBody_let e1 h z
        · exact ih x y h z
/-! ### sizes -/
theorem txt_ge : ∀ rs : List Rw, rs.length ≤ (txt rs).length
  | [] => Nat.zero_le _
  | r :: rs => by
    have := txt_ge rs
    rw [txt_cons, List.length_append, List.length_cons, List.length_cons]
    omega
theorem txt_mem {r : Rw} : ∀ {rs : List Rw}, r ∈ rs → r.line.length < (txt rs).length
  | [], h => by cases h
  | x :: rs, h => by
    rw [txt_cons, List.length_append, List.length_cons]
    rcases List.mem_cons.mp h with z | z
    · subst z; omega
    · have := txt_mem z; omega
theorem proseRows_len (k : Nat) : ∀ (ps : List Ws) (i : Nat), (proseRows k i ps).length = ps.length
  | [], _ => rfl
  | _ :: ps, i => by
    show (proseRows k (i + 1) ps).length + 1 = _
    rw [proseRows_len k ps, List.length_cons]
theorem codeRows_len (k : Nat) : ∀ (ps : List Ln) (i : Nat), (codeRows k i ps).length = ps.length
  | [], _ => rfl
  | _ :: ps, i => by
    show (codeRows k (i + 1) ps).length + 1 = _
    rw [codeRows_len k ps, List.length_cons]
theorem proseRows_get (k : Nat) : ∀ (ps : List Ws) (i j : Nat) (p : Ws), ps[j]? = some p → (proseRows k i ps)[j]? = some ⟨k, 1, i + j, 46 :: p, none⟩
  | [], _, j, p, h => by simp at h
  | x :: ps, i, 0, p, h => by
    cases Option.some.inj h
    rfl
  | x :: ps, i, j + 1, p, h => by
    have q := proseRows_get k ps (i + 1) j p (by simpa using h)
    show (proseRows k (i + 1) ps)[j]? = _
    rw [q, Nat.add_assoc, Nat.add_comm 1 j]
theorem codeRows_get (k : Nat) : ∀ (ps : List Ln) (i j : Nat) (p : Ln), ps[j]? = some p → (codeRows k i ps)[j]? = some ⟨k, 3, i + j, lnTxt p, none⟩
  | [], _, j, p, h => by simp at h
  | x :: ps, i, 0, p, h => by
    cases Option.some.inj h
    rfl
  | x :: ps, i, j + 1, p, h => by
    have q := codeRows_get k ps (i + 1) j p (by simpa using h)
    show (codeRows k (i + 1) ps)[j]? = _
    rw [q, Nat.add_assoc, Nat.add_comm 1 j]
theorem sec_txt (k : Nat) (s : Sc) : (txt (secRows k s)).length = 2 + ((txt (proseRows k 0 s.prose)).length + ((txt (headRows k s.head)).length + (txt (codeRows k 0 s.code)).length)) := by
  unfold secRows
  rw [txt_cons, txt_append, txt_append]
  simp only [List.length_append, List.length_cons, List.length_nil]
  omega
theorem prose_txt_k (k m : Nat) : ∀ (ps : List Ws) (i j : Nat), txt (proseRows k i ps) = txt (proseRows m j ps)
  | [], _, _ => rfl
  | p :: ps, i, j => by
    show txt (⟨k, 1, i, 46 :: p, none⟩ :: proseRows k (i + 1) ps) = txt (⟨m, 1, j, 46 :: p, none⟩ :: proseRows m (j + 1) ps)
    rw [txt_cons, txt_cons, prose_txt_k k m ps (i + 1) (j + 1)]
theorem code_txt_k (k m : Nat) : ∀ (ps : List Ln) (i j : Nat), txt (codeRows k i ps) = txt (codeRows m j ps)
  | [], _, _ => rfl
  | p :: ps, i, j => by
    show txt (⟨k, 3, i, lnTxt p, none⟩ :: codeRows k (i + 1) ps) = txt (⟨m, 3, j, lnTxt p, none⟩ :: codeRows m (j + 1) ps)
    rw [txt_cons, txt_cons, code_txt_k k m ps (i + 1) (j + 1)]
theorem sec_txt_k (k m : Nat) (s : Sc) : txt (secRows k s) = txt (secRows m s) := by
  unfold secRows
  rw [txt_cons, txt_cons, txt_append, txt_append, txt_append, txt_append, prose_txt_k k m s.prose 0 0, code_txt_k k m s.code 0 0]
  cases s.head <;> rfl
theorem web_sec {s : Sc} : ∀ (w : List Sc) (k : Nat), s ∈ w → (txt (secRows 0 s)).length ≤ (txt (rowsFrom k w)).length
  | [], _, h => by cases h
  | x :: w, k, h => by
    show _ ≤ (txt (secRows k x ++ rowsFrom (k + 1) w)).length
    rw [txt_append, List.length_append]
    rcases List.mem_cons.mp h with z | z
    · subst z
      rw [sec_txt_k 0 k]
      omega
    · have := web_sec w (k + 1) z
      omega
theorem web_len : ∀ (w : List Sc) (k : Nat), w.length ≤ (txt (rowsFrom k w)).length
  | [], _ => Nat.zero_le _
  | x :: w, k => by
    have := web_len w (k + 1)
    show _ ≤ (txt (secRows k x ++ rowsFrom (k + 1) w)).length
    rw [txt_append, List.length_append, sec_txt, List.length_cons]
    omega
theorem prose_mem {ps : List Ws} {p : Ws} (k i : Nat) (h : p ∈ ps) : p.length + 1 < (txt (proseRows k i ps)).length := by
  obtain ⟨j, hj⟩ := List.mem_iff_getElem?.mp h
  have q := txt_mem (List.mem_of_getElem? (proseRows_get k ps i j p hj))
  simpa using q
theorem code_mem {ps : List Ln} {p : Ln} (k i : Nat) (h : p ∈ ps) : (lnTxt p).length < (txt (codeRows k i ps)).length := by
  obtain ⟨j, hj⟩ := List.mem_iff_getElem?.mp h
  exact txt_mem (List.mem_of_getElem? (codeRows_get k ps i j p hj))
theorem joinC_mem {a : Ws} : ∀ {as : List Ws}, a ∈ as → a.length ≤ (joinC as).length
  | [], h => by cases h
  | [b], h => by rw [List.mem_singleton.mp h]; exact Nat.le_refl _
  | b :: c :: as, h => by
    show _ ≤ (b ++ 44 :: joinC (c :: as)).length
    rw [List.length_append, List.length_cons]
    rcases List.mem_cons.mp h with z | z
    · rw [z]; omega
    · have := joinC_mem z; omega
theorem use_len (i : Nat) (n : Ws) (as : List Ws) : (lnTxt (.use i n as)).length = 1 + (i + (n.length + (1 + ((joinC as).length + 1)))) := by
  simp [lnTxt]
  omega
theorem hd_len (h : Hd) : (hdTxt h).length = 1 + (h.name.length + (1 + ((joinC h.params).length + 1))) := by
  simp [hdTxt]
  omega
theorem filter_take {α β : Type} (f : α → Option β) : ∀ (l : List α) (i : Nat) (x : α), l[i]? = some x → (l.take (i + 1)).filterMap f = (l.take i).filterMap f ++ (f x).toList
  | [], i, x, h => by simp at h
  | a :: l, 0, x, h => by
    cases Option.some.inj h
    show List.filterMap f [a] = List.filterMap f [] ++ _
    rw [List.filterMap_cons]
    cases f a <;> rfl
  | a :: l, i + 1, x, h => by
    have ih := filter_take f l i x (by simpa using h)
    show List.filterMap f (a :: l.take (i + 1)) = List.filterMap f (a :: l.take i) ++ _
    rw [List.filterMap_cons, List.filterMap_cons, ih]
    cases f a <;> rfl
theorem first_snoc (hs : List Hd) (h : Hd) (n : Ws) : first (hs ++ [h]) n = match first hs n with
    | some o => some o
    | none => if h.name = n then some h else none := by
  rw [first_append]
  cases first hs n with
  | some o => rfl
  | none =>
    show (none : Option Hd).or _ = _
    by_cases c : h.name = n
    · rw [if_pos c]
      simp [first, c]
    · rw [if_neg c]
      simp [first, c]
theorem first_mem {hs : List Hd} {n : Ws} {h : Hd} (e : first hs n = some h) : h.name = n ∧ h ∈ hs := by
  have q := List.find?_some e
  exact ⟨by simpa using q, List.mem_of_find?_eq_some e⟩
theorem first_self {hs : List Hd} {h : Hd} (hm : h ∈ hs) (hc : ∀ a ∈ hs, ∀ b ∈ hs, a.name = b.name → a = b) : first hs h.name = some h := by
  cases e : first hs h.name with
  | none =>
    have q := List.find?_eq_none.mp e h hm
    simp at q
  | some o =>
    obtain ⟨h1, h2⟩ := first_mem e
    rw [hc o h2 h hm h1]
end Kn

set_option maxHeartbeats 4000000
/-! What all walks share: texts as lists of codes, data in the heap, what is kept, the facts of the top, calls. -/
namespace Kn
open PySem PySem.Spec PyProof.Rows L2 KnR

/-! ### texts -/
def mkS (l : Ws) : Str := ⟨l.toArray⟩
abbrev vS (l : Ws) : V := .str (mkS l)
theorem tl_mkS (l : Ws) : TL.tl (mkS l) = l := rfl
theorem cps_mkS (l : Ws) : (mkS l).cps.toList = l := rfl
theorem mkS_tl (x : Str) : mkS (TL.tl x) = x := TL.mk_tl x
theorem mkS_len (l : Ws) : (mkS l).length = l.length := by rw [TL.len_tl, tl_mkS]
theorem mkS_inj {a b : Ws} (h : mkS a = mkS b) : a = b := by rw [← tl_mkS a, h, tl_mkS]
theorem mkS_app (a b : Ws) : mkS a ++ mkS b = mkS (a ++ b) := TL.ext_tl (by rw [TL.tl_append, tl_mkS, tl_mkS, tl_mkS])
theorem dec_vS (a b : Ws) : decide (vS a = vS b) = decide (a = b) := by
  by_cases h : a = b
  · subst h; simp
  · have : ¬ vS a = vS b := fun z => h (mkS_inj (V.str.inj z))
    rw [decide_eq_false h, decide_eq_false this]
theorem nil_is : mkS [] = Str.empty := rfl

/-! ### what is kept -/
def KT (H H' : Hp) : Prop := ∀ a xs, H a = some (.tup xs) → H' a = some (.tup xs)
def Kp (b : Addr) (H H' : Hp) : Prop := ∀ a o, a ≠ b → H a = some o → H' a = some o
section
variable {H H1 H2 : Hp} {b p a : Addr} {o : HO}
theorem sm_kt (k : Same H H1) : KT H H1 := fun a xs h => k a _ h
theorem sm_kp (k : Same H H1) : Kp b H H1 := fun a o _ h => k a o h
theorem sm_new (h : H p = none) : Same H (upd H p o) := fun a u e => by rw [upd_ne (ne_of_none e h)]; exact e
theorem sm_newT (k : Same H H1) (h : H1 p = none) : Same H (upd H1 p o) := k.trans (sm_new h)
theorem sm_mut (k : Same H H1) (h : H p = none) : Same H (upd H1 p o) := fun a u e => by rw [upd_ne (ne_of_none e h)]; exact k a u e
theorem Kp.refl (b : Addr) (H : Hp) : Kp b H H := fun _ _ _ h => h
theorem Kp.trans (k : Kp b H H1) (q : Kp b H1 H2) : Kp b H H2 := fun a o n h => q a o n (k a o n h)
theorem Kp.new (h : H p = none) : Kp b H (upd H p o) := sm_kp (sm_new h)
theorem Kp.newT (k : Kp b H H1) (h : H1 p = none) : Kp b H (upd H1 p o) := k.trans (Kp.new h)
theorem Kp.self : Kp b H (upd H b o) := fun a u n h => by rw [upd_ne n]; exact h
theorem Kp.selfT (k : Kp b H H1) : Kp b H (upd H1 b o) := k.trans Kp.self
theorem Kp.mut (k : Kp b H H1) (h : H p = none) : Kp b H (upd H1 p o) := fun a u n e => by rw [upd_ne (ne_of_none e h)]; exact k a u n e
theorem KT.refl (H : Hp) : KT H H := fun _ _ h => h
theorem KT.trans (k : KT H H1) (q : KT H1 H2) : KT H H2 := fun a xs h => q a xs (k a xs h)
theorem KT.new (h : H p = none) : KT H (upd H p o) := sm_kt (sm_new h)
/-- at b stands no tuple -/
def NT (H : Hp) (b : Addr) : Prop := ∀ xs, H b ≠ some (.tup xs)
theorem NT.lst {xs : List V} (h : H b = some (.lst xs)) : NT H b := fun ys e => by rw [h] at e; cases e
theorem NT.ins {C dx : Addr} {fs : List (Str × V)} (h : H b = some (.ins C dx fs)) : NT H b := fun ys e => by rw [h] at e; cases e
theorem NT.none (h : H b = none) : NT H b := fun ys e => by rw [h] at e; cases e
theorem Kp.kt (k : Kp b H H1) (n : NT H b) : KT H H1 := fun a xs h => k a _ (fun z => n xs (z ▸ h)) h
theorem KT.up (n : NT H p) : KT H (upd H p o) := fun a xs h => by rw [upd_ne (fun z : a = p => n xs (by rw [← z]; exact h))]; exact h
theorem Kp.free (k : Kp b H H1) (hb : H1 b = some o) (h : H1 p = none) : H p = none := by
  cases e : H p with
  | none => rfl
  | some u =>
    by_cases z : p = b
    · rw [z, hb] at h; cases h
    · rw [k p u z e] at h; cases h
theorem Kp.ne (hb : H b = some o) (h : H p = none) : p ≠ b := fun z => by rw [z, hb] at h; cases h
end

/-! ### data -/
mutual
inductive Dt (H : Hp) : V → PyData → Prop
  | non : Dt H .non .none
  | bl (b : Bool) : Dt H (.bl b) (.bool b)
  | int (i : Int) : Dt H (.int i) (.int i)
  | str (x : Str) : Dt H (.str x) (.str x)
  | tup {a : Addr} {xs : List V} {ds : List PyData} : H a = some (.tup xs) → DtAll H xs ds → Dt H (.ref a) (.tuple ds)
inductive DtAll (H : Hp) : List V → List PyData → Prop
  | nil : DtAll H [] []
  | cons {v : V} {vs : List V} {d : PyData} {ds : List PyData} : Dt H v d → DtAll H vs ds → DtAll H (v :: vs) (d :: ds)
end
section
variable {H H' : Hp} {K : PySem.W.Frag}
mutual
theorem Dt.mono (k : KT H H') : ∀ (d : PyData) (v : V), Dt H v d → Dt H' v d
  | .none, _, h => by cases h; exact .non
  | .bool b, _, h => by cases h; exact .bl b
  | .int i, _, h => by cases h; exact .int i
  | .str x, _, h => by cases h; exact .str x
  | .list _, _, h => by cases h
  | .tuple ds, _, h => by
    cases h with
    | tup h1 h2 => exact .tup (k _ _ h1) (DtAll.mono k ds _ h2)
  | .dict _, _, h => by cases h
theorem DtAll.mono (k : KT H H') : ∀ (ds : List PyData) (vs : List V), DtAll H vs ds → DtAll H' vs ds
  | [], _, h => by cases h; exact .nil
  | d :: ds, _, h => by
    cases h with
    | cons h1 h2 => exact .cons (Dt.mono k d _ h1) (DtAll.mono k ds _ h2)
end
mutual
theorem Dt.dp : ∀ (d : PyData) (v : V), Dt H v d → Dp K H v d
  | .none, _, h => by cases h; exact .non
  | .bool b, _, h => by cases h; exact .bl b
  | .int i, _, h => by cases h; exact .int i
  | .str x, _, h => by cases h; exact .str x
  | .list _, _, h => by cases h
  | .tuple ds, _, h => by
    cases h with
    | tup h1 h2 => exact .tup (SqT.of h1) (DtAll.dp ds _ h2)
  | .dict _, _, h => by cases h
theorem DtAll.dp : ∀ (ds : List PyData) (vs : List V), DtAll H vs ds → DpAll K H vs ds
  | [], _, h => by cases h; exact .nil
  | d :: ds, _, h => by
    cases h with
    | cons h1 h2 => exact .cons (Dt.dp d _ h1) (DtAll.dp ds _ h2)
end
theorem Dt.str_inv {v : V} {x : Str} (h : Dt H v (.str x)) : v = .str x := by cases h; rfl
theorem Dt.int_inv {v : V} {i : Int} (h : Dt H v (.int i)) : v = .int i := by cases h; rfl
theorem Dt.bl_inv {v : V} {b : Bool} (h : Dt H v (.bool b)) : v = .bl b := by cases h; rfl
theorem Dt.non_inv {v : V} (h : Dt H v .none) : v = .non := by cases h; rfl
theorem Dt.tup_inv {v : V} {ds : List PyData} (h : Dt H v (.tuple ds)) : ∃ a xs, v = .ref a ∧ H a = some (.tup xs) ∧ DtAll H xs ds := by
  cases h with
  | tup h1 h2 => exact ⟨_, _, rfl, h1, h2⟩
theorem DtAll.len {vs : List V} : ∀ {ds : List PyData}, DtAll H vs ds → vs.length = ds.length := by
  intro ds
  induction ds generalizing vs with
  | nil => intro h; cases h; rfl
  | cons d ds ih =>
    intro h
    cases h with
    | cons h1 h2 => rw [List.length_cons, List.length_cons, ih h2]
theorem DtAll.get {vs : List V} : ∀ {ds : List PyData} {i : Nat} {v : V}, DtAll H vs ds → vs[i]? = some v → ∃ d, ds[i]? = some d ∧ Dt H v d := by
  intro ds
  induction ds generalizing vs with
  | nil => intro i v h e; cases h; simp at e
  | cons d ds ih =>
    intro i v h e
    cases h with
    | cons h1 h2 =>
      cases i with
      | zero =>
        cases Option.some.inj e
        exact ⟨d, rfl, h1⟩
      | succ i => exact ih h2 (by simpa using e)
theorem DtAll.at_ {vs : List V} {ds : List PyData} {i : Nat} {d : PyData} (h : DtAll H vs ds) (e : ds[i]? = some d) : ∃ v, vs[i]? = some v ∧ Dt H v d := by
  have hi : i < vs.length := by rw [h.len]; exact (List.getElem?_eq_some_iff.mp e).1
  obtain ⟨d', e', q⟩ := h.get (List.getElem?_eq_getElem hi)
  rw [e] at e'
  cases e'
  exact ⟨_, List.getElem?_eq_getElem hi, q⟩
theorem DtAll.snoc {v : V} {d : PyData} (hv : Dt H v d) : ∀ {vs : List V} {ds : List PyData}, DtAll H vs ds → DtAll H (vs ++ [v]) (ds ++ [d]) := by
  intro vs ds
  induction ds generalizing vs with
  | nil => intro h; cases h; exact .cons hv .nil
  | cons e ds ih =>
    intro h
    cases h with
    | cons h1 h2 => exact .cons h1 (ih h2)
theorem DtAll.strs : ∀ (l : List Ws), DtAll H (l.map vS) (l.map fun s => .str (mkS s))
  | [] => .nil
  | s :: l => .cons (.str _) (DtAll.strs l)
theorem DtAll.strs_inv : ∀ {l : List Ws} {vs : List V}, DtAll H vs (l.map fun s => .str (mkS s)) → vs = l.map vS
  | [], _, h => by cases h; rfl
  | s :: l, _, h => by
    cases h with
    | cons h1 h2 => rw [h1.str_inv, DtAll.strs_inv h2]; rfl
end
/-! ### a web as data -/
abbrev dS (s : Ws) : PyData := .str (mkS s)
abbrev dSs (l : List Ws) : PyData := .tuple (l.map fun s => .str (mkS s))
def dL : Ln → PyData
  | .plain s => .tuple [.str "plain", dS s]
  | .use i n as => .tuple [.str "use", .int (i : Nat), dS n, dSs as]
def dH (h : Hd) : PyData := .tuple [dS h.name, dSs h.params, .bool h.isf]
def dO : Option Hd → PyData
  | none => .none
  | some h => dH h
def dC (s : Sc) : PyData := .tuple [dSs s.prose, dO s.head, .tuple (s.code.map dL)]
def dW (w : List Sc) : PyData := .tuple (w.map dC)

/-! ### the facts of the top -/
structure Tx (K : PySem.W.Frag) (mg : Str → Option Value) : Prop where
  at_ : ∃ h : Heap, K.In h ∧ h.Ns mainGlobals mg
  says : SaysK K
section
variable {K : PySem.W.Frag} {mg : Str → Option Value} (T : Tx K mg)
include T
theorem Tx.glo (i : Nat) {x : Str} (h : fa[i]? = some (.glo x) := by rfl) : mg x = some (.ref (He.ga K x)) := by
  obtain ⟨hp, X, G⟩ := T.at_
  exact He.glo_ok X G (T.says.2.fact i h)
theorem Tx.free (i : Nat) {x : Str} (h : fa[i]? = some (.free x) := by rfl) : mg x = none := by
  obtain ⟨hp, X, G⟩ := T.at_
  exact He.free_ok X G (T.says.2.fact i h)
theorem Tx.int (i : Nat) {x : Str} {n : Int} (h : fa[i]? = some (.int x n) := by rfl) : ∃ t, mg x = some (.int n t) := by
  obtain ⟨hp, X, G⟩ := T.at_
  exact He.int_ok X G (T.says.2.fact i h)
theorem Tx.str (i : Nat) {x z : Str} (h : fa[i]? = some (.str x z) := by rfl) : ∃ t, mg x = some (.str z t) := by
  obtain ⟨hp, X, G⟩ := T.at_
  exact He.str_ok X G (T.says.2.fact i h)
theorem Tx.cls (i : Nat) {x : Str} (h : fa[i]? = some (.cls x) := by rfl) : Cls K (He.ga K x) := He.cls_ok (T.says.2.fact i h)
theorem Tx.noat (i : Nat) {x f : Str} (h : fa[i]? = some (.noat x f) := by rfl) : NoAttr K (He.ga K x) f := He.noat_ok (T.says.2.fact i h)
theorem Tx.meth (i : Nat) {x m : Str} (h : fa[i]? = some (.meth x m) := by rfl) : Meth K (He.ga K x) m (He.ma K (He.ga K x) m) := He.meth_ok (T.says.2.fact i h)
theorem Tx.mkr (i : Nat) {x : Str} (h : fa[i]? = some (.mkr x) := by rfl) : Mk K (He.ga K x) (He.ma K (He.ga K x) "__init__") := He.mkr_ok (T.says.2.fact i h)
theorem Tx.exm (i : Nat) {x y : Str} {b : Bool} (h : fa[i]? = some (.exm x y b) := by rfl) : PySem.W.exmOne K (.ref (He.ga K x)) (.ref (He.ga K y)) = some b := He.exm_ok (T.says.2.fact i h)
theorem Tx.defD (i : Nat) {d : He.DefD} (h : fn[i]? = some d := by rfl) : ∃ fd, FunD K d.name d.qual d.params d.body d.scope (d.dvs K) (d.kws K) (He.fAd K d.at_) fd := T.says.2.def_ i h
theorem Tx.oex : OexC K (He.ga K "InvalidText") ∧ XfC K (He.ga K "InvalidText") ∧ PySem.W.findIn K (.ref (He.ga K "InvalidText")) "__init__" = some (some (.ref (He.ma K (He.ga K "InvalidText") "__init__"))) ∧ PySem.W.typeIn K (.ref (He.ma K (He.ga K "InvalidText") "__init__")) = some (.type "function") := oexA_ok T.says.1
end

/-! ### a def's promise -/
structure Fn (P : Program) (w : World) (K : PySem.W.Frag) (mg : Str → Option Value) (base : Heap) (CX : CXT) (k : Nat) (q : Str × Option Str) (ps : List Str) (sp : Sp) : Prop where
  ex : ∃ fd, FnOk P w K mg base CX k (He.fAd K q) fd ps sp ∧ Binds K fd ps [] ∧ PySem.W.keepIn K (.ref (He.fAd K q)) = true ∧ ∃ (oc : Value) (od : Option Addr) (osl : Array (Option Value)), K.lookup (He.fAd K q) = some ⟨oc, od, .func fd, osl⟩
abbrev BindH (d : He.DefD) (ps : List Str) : Prop := ∀ (kV doc pm : Value) (an : Option Addr) (cdv ct : Value) (us : List Value), us.length = ps.length → bindArgs (PySem.W.fnOf d.name d.qual d.params d.body d.scope .none kV doc pm an cdv ct) ⟨us, []⟩ = pure (ps.zip us)
section
variable {P : Program} {w : World} {K : PySem.W.Frag} {mg : Str → Option Value} {base : Heap}
/-- a def that lets nothing out -/
theorem Fn.mk0 (T : Tx K mg) {d : He.DefD} (i : Nat) {N ps : List Str} {k : Nat} {sp : Sp} (hi : fn[i]? = some d) (z1 : d.dfl = []) (z2 : d.kwd = []) (S : FnScope N ps d.scope) (hb : BindH d ps) (len : ∀ vs H Q E, sp vs H Q E → vs.length = ps.length)
    (hbody : ∀ (cdv : Value) (A : Around) (outer : List Env) (s : Shared) (H : Hp) (vs : List V) (Q : VK) (E : XK), Room k (A.deeper (envOfC d.qual d.scope s.heap.objs.size (He.fAd K d.at_) cdv)) → sp vs H Q E →
      ∃ t, PSs (cxOf CX0 P w K mg base N d.qual d.scope (He.fAd K d.at_) cdv A outer s H E).nox d.body t ∧ t { nx := fun _ H' => Q .non H', rt := Q } (start N vs) H) : Fn P w K mg base CX0 (k + 1) d.at_ ps sp := by
  obtain ⟨fd, F⟩ := T.defD i hi
  have e1 : d.dvs K = [] := by unfold He.DefD.dvs; rw [z1]; rfl
  have e2 : d.kws K = [] := by unfold He.DefD.kws; rw [z2]; rfl
  rw [e1, e2] at F
  obtain ⟨oc, od, dV, kV, doc, pm, an, cdv, ct, osl, _, lk, _⟩ := F.ex
  refine ⟨fd, F.ok S len fun cdv A outer s H vs Q E hr h => ?_, F.bindsN hb, F.kp, oc, od, osl, lk⟩
  obtain ⟨t, h1, h2⟩ := hbody cdv A outer s H vs Q E hr h
  exact ⟨t, h1.nox, h2⟩
/-- a def that may raise -/
theorem Fn.mkX (T : Tx K mg) {d : He.DefD} (i : Nat) {N ps : List Str} {k : Nat} {sp : Sp} (hi : fn[i]? = some d) (z1 : d.dfl = []) (z2 : d.kwd = []) (S : FnScope N ps d.scope) (hb : BindH d ps) (len : ∀ vs H Q E, sp vs H Q E → vs.length = ps.length)
    (hbody : ∀ (cdv : Value) (A : Around) (outer : List Env) (s : Shared) (H : Hp) (vs : List V) (Q : VK) (E : XK), Room k (A.deeper (envOfC d.qual d.scope s.heap.objs.size (He.fAd K d.at_) cdv)) → sp vs H Q E →
      ∃ t, PSs (cxOf (L2.CX P w) P w K mg base N d.qual d.scope (He.fAd K d.at_) cdv A outer s H E) d.body t ∧ t { nx := fun _ H' => Q .non H', rt := Q } (start N vs) H) : Fn P w K mg base (L2.CX P w) (k + 1) d.at_ ps sp := by
  obtain ⟨fd, F⟩ := T.defD i hi
  have e1 : d.dvs K = [] := by unfold He.DefD.dvs; rw [z1]; rfl
  have e2 : d.kws K = [] := by unfold He.DefD.kws; rw [z2]; rfl
  rw [e1, e2] at F
  obtain ⟨oc, od, dV, kV, doc, pm, an, cdv, ct, osl, _, lk, _⟩ := F.ex
  exact ⟨fd, F.ok S len hbody, F.bindsN hb, F.kp, oc, od, osl, lk⟩
end
/-! ### calls -/
def tCl (sp : Sp) (E : XK) (t : TA) : TE := fun σ H Q => t σ H fun vs H1 => sp vs H1 Q E
def tMt (C : Addr) (m : Str) (sp : Sp) (E : XK) (ta : TE) (t : TA) : TE := fun σ H Q => ta σ H fun x H1 => ∃ a dx fs, x = .ref a ∧ H1 a = some (.ins C dx fs) ∧ fs.lookup m = none ∧ t σ H1 fun vs H2 => sp (x :: vs) H2 Q E
theorem tCl_eq (sp : Sp) (E : XK) (t : TA) : tCall sp [] E t = tCl sp E t := by
  funext σ H Q
  unfold tCall tCl
  simp only [List.append_nil]
theorem tMt_eq (C : Addr) (m : Str) (sp : Sp) (E : XK) (ta : TE) (t : TA) : tMeth C m sp [] E ta t = tMt C m sp E ta t := by
  funext σ H Q
  unfold tMeth tMt
  simp only [List.append_nil]
section
variable {X : Cx} {CX : CXT} {k : Nat} {ps : List Str} {sp : Sp} {E : XK} {x m c : Str} {p pos apos : Pos} {e o : Expr} {es : List Expr} {ta : TE} {t : TA}
theorem pc (F : Fn X.prog X.w X.K X.mg X.base CX k (x, none) ps sp) (hr : Room k X.A) (hg : Gl X x) (hm : X.mg x = some (.ref (He.ga X.K x))) (hx : Passes CX X E) (ha : PA X (e :: es) t)
    (hdb : (x == ("__debug__" : Str)) = false := by decide) (he : starEach (e :: es) X.env = (false, eval e X.env) :: starEach es X.env := by rfl) (hpl : (backTo pos (starEach es X.env)).any (·.1) = false := by rfl) :
    PE X (.Call (.Name x p) (e :: es) [] pos) (tCl sp E t) := by
  obtain ⟨fd, F1, b, kp, _⟩ := F.ex
  rw [← tCl_eq]
  exact pe_call F1 hr hg hm kp b .nil hx ha hdb he hpl
theorem pc0 (F : Fn X.prog X.w X.K X.mg X.base CX k (x, none) ps sp) (hr : Room k X.A) (hg : Gl X x) (hm : X.mg x = some (.ref (He.ga X.K x))) (hx : Passes CX X E)
    (hdb : (x == ("__debug__" : Str)) = false := by decide) : PE X (.Call (.Name x p) [] [] pos) (tCl sp E tNil) := by
  obtain ⟨fd, F1, b, kp, _⟩ := F.ex
  rw [← tCl_eq]
  exact pe_call0 F1 hr hg hm kp b .nil hx hdb
theorem pm {pl : Sem Bool} (he : PE X o ta) (cl : Cls X.K (He.ga X.K c)) (hm : Meth X.K (He.ga X.K c) m (He.ma X.K (He.ga X.K c) m)) (F : Fn X.prog X.w X.K X.mg X.base CX k (c, some m) ps sp) (hr : Room k X.A) (hx : Passes CX X E) (ha : PA X (e :: es) t)
    (hst : starEach (e :: es) X.env = (false, eval e X.env) :: starEach es X.env := by rfl) (hpl : (backTo pos (starEach es X.env)).any (·.1) = false := by rfl)
    (ht : eval (.Call (.Attribute o m apos) (e :: es) [] pos) X.env = (do
      let ov ← eval o X.env
      standAt apos.atName
      let (f, first) ← holding [ov] (getMethod ov m pl)
      callWith pos f first (backTo pos (starEach (e :: es) X.env)) (backToKw pos (keywordEach [] X.env))) := by rfl) :
    PE X (.Call (.Attribute o m apos) (e :: es) [] pos) (tMt (He.ga X.K c) m sp E ta t) := by
  obtain ⟨fd, F1, b, kp, _⟩ := F.ex
  rw [← tMt_eq]
  exact pe_meth he cl hm F1 hr b .nil hx ha hst hpl ht
theorem pm0 {pl : Sem Bool} (he : PE X o ta) (cl : Cls X.K (He.ga X.K c)) (hm : Meth X.K (He.ga X.K c) m (He.ma X.K (He.ga X.K c) m)) (F : Fn X.prog X.w X.K X.mg X.base CX k (c, some m) ps sp) (hr : Room k X.A) (hx : Passes CX X E)
    (ht : eval (.Call (.Attribute o m apos) [] [] pos) X.env = (do
      let ov ← eval o X.env
      standAt apos.atName
      let (f, first) ← holding [ov] (getMethod ov m pl)
      callWith pos f first (backTo pos (starEach [] X.env)) (backToKw pos (keywordEach [] X.env))) := by rfl) :
    PE X (.Call (.Attribute o m apos) [] [] pos) (tMt (He.ga X.K c) m sp E ta tNil) := by
  obtain ⟨fd, F1, b, kp, _⟩ := F.ex
  rw [← tMt_eq]
  exact pe_meth0 he cl hm F1 hr b .nil hx ht
/-- a call in a try: what the callee may let out is said at the caller's slots -/
theorem pcS {Es : L2.St → XK} (F : Fn X.prog X.w X.K X.mg X.base CX k (x, none) ps sp) (hr : Room k X.A) (hg : Gl X x) (hm : X.mg x = some (.ref (He.ga X.K x))) (hx : ∀ σ, PassesAt CX X σ (Es σ)) (ha : PA X (e :: es) t)
    (hdb : (x == ("__debug__" : Str)) = false := by decide) (he : starEach (e :: es) X.env = (false, eval e X.env) :: starEach es X.env := by rfl) (hpl : (backTo pos (starEach es X.env)).any (·.1) = false := by rfl) :
    PE X (.Call (.Name x p) (e :: es) [] pos) (tCallS sp Es t) := by
  obtain ⟨fd, F1, b, kp, _⟩ := F.ex
  exact pe_callS F1 hr hg hm kp b hx ha hdb he hpl
/-- f(p = v), p the one parameter -/
theorem kw1 {P : Program} {w : World} {K : PySem.W.Frag} {mg : Str → Option Value} {base : Heap} {q : Str × Option Str} {p : Str} (T : Tx K mg) {d : He.DefD} (i : Nat) (hi : fn[i]? = some d) (z1 : d.dfl = []) (z2 : d.kwd = []) (F : Fn P w K mg base CX k q [p] sp) (hq : d.at_ = q)
    (hb : BindH d [p]) (hk : ∀ (kV doc pm : Value) (an : Option Addr) (cdv ct v : Value), bindArgs (PySem.W.fnOf d.name d.qual d.params d.body d.scope .none kV doc pm an cdv ct) ⟨[], [(p, v)]⟩ = pure [(p, v)]) :
    ∃ fd, FnOk P w K mg base CX k (He.fAd K q) fd [p] sp ∧ KBinds K fd [p] [p] (fun us ws => us ++ ws) (fun vs zs => vs ++ zs) ∧ PySem.W.keepIn K (.ref (He.fAd K q)) = true := by
  obtain ⟨fd, F1, b, kp, oc, od, osl, lk⟩ := F.ex
  refine ⟨fd, F1, ⟨fun s us ws X hl => ?_, fun r1 r2 => r1.append r2⟩, kp⟩
  obtain ⟨fd2, F2⟩ := T.defD i hi
  have e1 : d.dvs K = [] := by unfold He.DefD.dvs; rw [z1]; rfl
  rw [e1] at F2
  obtain ⟨oc2, od2, dV, kV, doc, pm, an, cdv, ct, osl2, ef, lk2, _, hD, _⟩ := F2.ex
  rw [hq, lk] at lk2
  have e3 : fd = fd2 := by
    have := Option.some.inj lk2
    cases this
    rfl
  subst e3
  rcases hD with ⟨_, rfl⟩ | ⟨z, _⟩
  · subst ef
    match us, ws, hl with
    | [], [v], _ => exact .of_eq (hk kV doc pm an cdv ct v)
    | [u], [], _ => exact .of_eq (hb kV doc pm an cdv ct [u] rfl)
    | [], [], hl => cases hl
    | [], _ :: _ :: _, hl => cases hl
    | [_], _ :: _, hl => simp at hl
    | _ :: _ :: _, _, hl => simp at hl
  · exact absurd rfl z
/-- a module's text, number -/
theorem pe_gS {z : Str} (hg : Gl X x) (hm : ∃ t, X.mg x = some (.str z t)) (hd : (x == ("__debug__" : Str)) = false := by decide) : PE X (.Name x pos) (tC (.str z)) := by
  obtain ⟨t, h⟩ := hm
  exact pe_glob hg h ⟨t, rfl⟩ hd
theorem pe_gI {z : Int} (hg : Gl X x) (hm : ∃ t, X.mg x = some (.int z t)) (hd : (x == ("__debug__" : Str)) = false := by decide) : PE X (.Name x pos) (tC (.int z)) := by
  obtain ⟨t, h⟩ := hm
  exact pe_glob hg h ⟨t, rfl⟩ hd
/-- a built-in class as a value -/
theorem pe_bt {T : String} (hg : Gl X x) (hm : X.mg x = none) (hv : bootBuiltins x = some (.type T)) (hn : x ≠ "__name__" := by decide) (hd : (x == ("__debug__" : Str)) = false := by decide) : PE X (.Name x pos) (tC (.ty T)) := pe_bltn hg hm hv rfl hn hd
end
/-! ### small readings -/
theorem sz_ok {n : Nat} (h : n ≤ 1000000) : n ≤ sizeLine := Nat.le_trans h (by decide)
theorem sz_lt {n : Nat} (h : n ≤ 1000000) : n < sizeLine := Nat.lt_of_le_of_lt h (by decide)
/-- a slice at places counted from the front -/
theorem cut_nat {l : Ws} {i j : Nat} (h : i ≤ j) : cutS (mkS l) (some (i : Int)) (some (j : Int)) = mkS ((l.drop i).take (j - i)) := by
  refine TL.ext_tl ?_
  show (((mkS l).cps.toList.drop (HT.sIx (mkS l).length 0 (some (i : Int)))).take (HT.sIx (mkS l).length (mkS l).length (some (j : Int)) - HT.sIx (mkS l).length 0 (some (i : Int)))) = _
  rw [HT.sIx_nat, HT.sIx_nat, mkS_len, cps_mkS, tl_mkS]
  by_cases c : i ≤ l.length
  · rw [Nat.min_eq_left c]
    by_cases c2 : j ≤ l.length
    · rw [Nat.min_eq_left c2]
    · rw [Nat.min_eq_right (by omega), List.take_of_length_le (by simp), List.take_of_length_le (by simp; omega)]
  · have e1 : min i l.length = l.length := Nat.min_eq_right (by omega)
    rw [e1, List.drop_of_length_le (Nat.le_refl l.length), List.drop_of_length_le (l := l) (i := i) (by omega)]
    simp
/-! ### places in a text -/
/-- l is what is left of t from place n on -/
structure At (t : Ws) (n : Nat) (l : Ws) : Prop where
  le : n ≤ t.length
  eq : t.drop n = l
theorem At.len {t l : Ws} {n : Nat} (h : At t n l) : l.length = t.length - n := by rw [← h.eq, List.length_drop]
theorem At.zero (t : Ws) : At t 0 t := ⟨Nat.zero_le _, rfl⟩
theorem At.add {t l : Ws} {n : Nat} (h : At t n l) {k : Nat} (hk : k ≤ l.length) : At t (n + k) (l.drop k) := by
  have q := h.len
  have := h.le
  exact ⟨by omega, by rw [← h.eq, List.drop_drop]⟩
theorem At.cons {t r : Ws} {n d : Nat} (h : At t n (d :: r)) : At t (n + 1) r := h.add (k := 1) (by simp)
theorem At.app {t a r : Ws} {n : Nat} (h : At t n (a ++ r)) : At t (n + a.length) r := by
  have q := h.add (k := a.length) (by simp)
  rwa [List.drop_left] at q
theorem At.get {t r : Ws} {n d : Nat} (h : At t n (d :: r)) : t[n]? = some d := by
  have e : (t.drop n)[0]? = some d := by rw [h.eq]; rfl
  rw [List.getElem?_drop] at e
  simpa using e
theorem At.lt {t r : Ws} {n d : Nat} (h : At t n (d :: r)) : n < t.length := by
  have := h.len
  have := h.le
  simp at *
  omega
theorem At.end_ {t : Ws} {n : Nat} (h : At t n []) : n = t.length := by
  have := h.len
  have := h.le
  simp at *
  omega
theorem At.uniq {t l : Ws} {n m : Nat} (h : At t n l) (q : At t m l) : n = m := by
  have := h.len
  have := q.len
  have := h.le
  have := q.le
  omega
theorem At.place {t l : Ws} {n : Nat} (h : At t n l) : n = t.length - l.length := by
  have := h.len
  have := h.le
  omega
/-- the slice from n to n + k -/
theorem At.slice {t l : Ws} {n k m : Nat} (h : At t n l) (hm : m = n + k) : cutS (mkS t) (some (n : Int)) (some (m : Int)) = mkS (l.take k) := by
  subst hm
  rw [cut_nat (Nat.le_add_right _ _), h.eq, Nat.add_sub_cancel_left]
end Kn

set_option maxHeartbeats 4000000
/-! Readings that come again and again. -/
namespace Kn
open PySem PySem.Spec PyProof.Rows L2 KnR
theorem iteB {b : Bool} {A B : Prop} (h1 : b = true → A) (h2 : b = false → B) : if b = true then A else B := by
  cases b with
  | true => rw [if_pos rfl]; exact h1 rfl
  | false => rw [if_neg Bool.false_ne_true]; exact h2 rfl
theorem iteE {b c : Bool} {A B : Prop} (e : b = c) (h : if c = true then A else B) : if b = true then A else B := by rw [e]; exact h
theorem iteY {b : Bool} {A B : Prop} (e : b = true) (h : A) : if b = true then A else B := by rw [e, if_pos rfl]; exact h
theorem iteN {b : Bool} {A B : Prop} (e : b = false) (h : B) : if b = true then A else B := by rw [e, if_neg Bool.false_ne_true]; exact h
section
variable {K : PySem.W.Frag} {H : Hp} {Q : VK}
theorem isi {x : V} {a b : String} {r : Bool} (ty : TyOf K H x (.type a)) (e : kitB a b = some r) (q : Q (.bl r) H) : rIsi K [x, .ty b] H Q := ⟨x, .ty b, .type a, .type b, r, rfl, .ty b, .base ty, kit_ty e, q⟩
theorem kb_ss : kitB "str" "str" = some true := by decide +kernel
theorem kb_tt : kitB "tuple" "tuple" = some true := by decide +kernel
theorem kb_ii : kitB "int" "int" = some true := by decide +kernel
theorem kb_ib : kitB "int" "bool" = some false := by decide +kernel
theorem kb_bb : kitB "bool" "bool" = some true := by decide +kernel
theorem atI_ex {α : Type} {xs : List α} {i : Int} (h0 : 0 ≤ i) (h1 : i < xs.length) : ∃ v, v ∈ xs ∧ atI xs i = some v := by
  obtain ⟨j, rfl⟩ : ∃ j : Nat, i = j := ⟨i.toNat, by omega⟩
  have hj : j < xs.length := by omega
  exact ⟨xs[j], List.getElem_mem hj, atI_nat (List.getElem?_eq_getElem hj)⟩
end
theorem set_twice (σ : L2.St) (j : Nat) (x : Option V) : ((σ.set j none).set j x).set j none = σ.set j none := by rw [List.set_set, List.set_set]
/-! ### comprehensions -/
section
variable {J : It} {n : Nat} {xi : Nat → V} {te : TE} {j : Nat} {σ : L2.St} {H1 : Hp} {D : Addr} {Qd : Hp → Prop} {G : Hp → Prop}
/-- the element makes new things alone -/
theorem lc_pure (w : Walk J n G (fun i H x H' => H' = H ∧ x = xi i)) (R : Nat → Hp → V → Prop) (hD : H1 D = none) (hG : ∀ H, Same H1 H → G H) (hn : n ≤ 1000000)
    (hR : ∀ i H H' v, KT H H' → R i H v → R i H' v)
    (hs : ∀ i H (Q : VK), i < n → Same H1 H → (∀ v H', Same H H' → R i H' v → Q v H') → te ((σ.set j none).set j (some (xi i))) H Q)
    (hd : ∀ H vs, Same H1 H → H D = some (.lst vs) → vs.length = n → (∀ i v, vs[i]? = some v → R i H v) → Qd H) :
    ∃ W : Nat → Nat → Hp → Prop, (∃ m, W 0 m (upd H1 D (.lst []))) ∧ ∀ i m H, W i m H →
      (J.stop i H ∧ Qd H) ∨ (J.go i H ∧ ∃ Nx : Hp → Prop, (∀ H', Nx H' → ∃ m', m' < m ∧ W (i + 1) m' H') ∧ ∀ x H', J.yld i H x H' → gName j x (wipe σ [j]) H' fun σ2 H2 => wipe σ2 [j] = wipe σ [j] ∧ tYes σ2 H2 fun b H3 =>
        if b = true then te σ2 H3 fun y H4 => ∃ acc, H4 D = some (.lst acc) ∧ acc.length < sizeLine ∧ Nx (upd H4 D (.lst (acc ++ [y]))) else Nx H3) := by
  refine lc_it w (fun i H => Same H1 H ∧ ∃ vs, H D = some (.lst vs) ∧ vs.length = i ∧ ∀ k v, vs[k]? = some v → R k H v) ?_ (fun i H _ p => hG H p.1) ?_ ?_
  · exact ⟨sm_new hD, [], upd_same, rfl, fun k v e => by simp at e⟩
  · rintro i x H H' hi ⟨s, vs, hv, hl, hr⟩ ⟨rfl, rfl⟩
    refine ⟨set_twice σ j _, ?_⟩
    simp only [tYes, if_true]
    refine hs i H' _ hi s fun v H4 s4 r4 => ?_
    have ntD : NT H4 D := NT.lst (s4 _ _ hv)
    refine ⟨vs, s4 _ _ hv, sz_lt (by omega), sm_mut (s.trans s4) hD, vs ++ [v], upd_same, by simp [hl], fun k u e => ?_⟩
    by_cases hk : k < vs.length
    · rw [List.getElem?_append_left hk] at e
      exact hR k _ _ u ((sm_kt s4).trans (KT.up ntD)) (hr k u e)
    · have hk' : k = i := by
        have := (List.getElem?_eq_some_iff.mp e).1
        simp at this
        omega
      subst hk'
      rw [← hl, List.getElem?_concat_length] at e
      cases e
      exact hR _ _ _ _ (KT.up ntD) r4
  · rintro H ⟨s, vs, hv, hl, hr⟩
    exact hd H vs s hv hl hr
/-- the element changes what stands at b, too; B says what stands there -/
theorem lc_box (b : Addr) (B : Hp → Prop) (w : Walk J n G (fun i H x H' => H' = H ∧ x = xi i)) (R : Nat → Hp → V → Prop) (hD : H1 D = none) (hb : B H1) (hBn : ∀ H, B H → NT H b ∧ H b ≠ none) (hBk : ∀ H p o, B H → H p = none → B (upd H p o)) (hBl : ∀ H p l l', p ≠ b → B H → H p = some (.lst l) → H1 p = none → B (upd H p (.lst l')))
    (hG : ∀ H, Kp b H1 H → B H → G H) (hn : n ≤ 1000000) (hR : ∀ i H H' v, KT H H' → R i H v → R i H' v)
    (hs : ∀ i H (Q : VK), i < n → Kp b H1 H → B H → (∀ v H', Kp b H H' → B H' → R i H' v → Q v H') → te ((σ.set j none).set j (some (xi i))) H Q)
    (hd : ∀ H vs, Kp b H1 H → B H → H D = some (.lst vs) → vs.length = n → (∀ i v, vs[i]? = some v → R i H v) → Qd H) :
    ∃ W : Nat → Nat → Hp → Prop, (∃ m, W 0 m (upd H1 D (.lst []))) ∧ ∀ i m H, W i m H →
      (J.stop i H ∧ Qd H) ∨ (J.go i H ∧ ∃ Nx : Hp → Prop, (∀ H', Nx H' → ∃ m', m' < m ∧ W (i + 1) m' H') ∧ ∀ x H', J.yld i H x H' → gName j x (wipe σ [j]) H' fun σ2 H2 => wipe σ2 [j] = wipe σ [j] ∧ tYes σ2 H2 fun b H3 =>
        if b = true then te σ2 H3 fun y H4 => ∃ acc, H4 D = some (.lst acc) ∧ acc.length < sizeLine ∧ Nx (upd H4 D (.lst (acc ++ [y]))) else Nx H3) := by
  have nDb : D ≠ b := fun z => (hBn H1 hb).2 (z ▸ hD)
  refine lc_it w (fun i H => (Kp b H1 H ∧ B H) ∧ ∃ vs, H D = some (.lst vs) ∧ vs.length = i ∧ ∀ k v, vs[k]? = some v → R k H v) ?_ (fun i H _ p => hG H p.1.1 p.1.2) ?_ ?_
  · exact ⟨⟨Kp.new hD, hBk _ _ _ hb hD⟩, [], upd_same, rfl, fun k v e => by simp at e⟩
  · rintro i x H H' hi ⟨⟨s, hB⟩, vs, hv, hl, hr⟩ ⟨rfl, rfl⟩
    refine ⟨set_twice σ j _, ?_⟩
    simp only [tYes, if_true]
    refine hs i H' _ hi s hB fun v H4 s4 hB4 r4 => ?_
    have hv4 := s4 _ _ nDb hv
    have ntD : NT H4 D := NT.lst hv4
    refine ⟨vs, hv4, sz_lt (by omega), ⟨Kp.mut (s.trans s4) hD, hBl H4 D vs _ nDb hB4 hv4 hD⟩, vs ++ [v], upd_same, by simp [hl], fun k u e => ?_⟩
    have k4 : KT H' H4 := s4.kt (hBn H' hB).1
    by_cases hk : k < vs.length
    · rw [List.getElem?_append_left hk] at e
      exact hR k _ _ u (k4.trans (KT.up ntD)) (hr k u e)
    · have hk' : k = i := by
        have := (List.getElem?_eq_some_iff.mp e).1
        simp at this
        omega
      subst hk'
      rw [← hl, List.getElem?_concat_length] at e
      cases e
      exact hR _ _ _ _ (KT.up ntD) r4
  · rintro H ⟨⟨s, hB⟩, vs, hv, hl, hr⟩
    exact hd H vs s hB hv hl hr
end
section
variable {K : PySem.W.Frag} {a : Addr} {xs : List V}
theorem wk_str (l : Ws) : Walk (Its (mkS l)) l.length (fun _ => True) (fun i H x H' => H' = H ∧ x = vS [l.getD i 0]) := by
  have e : (mkS l).cps.size = l.length := by rw [← mkS_len]; rfl
  rw [← e]
  refine walk_str.mono (fun _ h => h) fun i H x H' hi _ ⟨h1, c, h2, h3⟩ => ⟨h1, ?_⟩
  have h2 : l.toArray[i]? = some c := h2
  rw [List.getElem?_toArray] at h2
  rw [h3, List.getD_eq_getElem?_getD, h2]
  rfl
theorem wk_lst : Walk (Itl K a) xs.length (fun H => SqL K H a xs) (fun i H x H' => H' = H ∧ x = xs.getD i .non) :=
  walk_list.mono (fun _ h => h) fun i H x H' hi _ ⟨h1, h2⟩ => ⟨h1, by rw [List.getD_eq_getElem?_getD, h2]; rfl⟩
theorem wk_tup : Walk (Itt K a) xs.length (fun H => SqT K H a xs) (fun i H x H' => H' = H ∧ x = xs.getD i .non) :=
  walk_tup.mono (fun _ h => h) fun i H x H' hi _ ⟨h1, h2⟩ => ⟨h1, by rw [List.getD_eq_getElem?_getD, h2]; rfl⟩
theorem wk_rng (n : Nat) : Walk (Itr 0 n) n (fun _ => True) (fun i H x H' => H' = H ∧ x = .int (0 + (i : Int))) :=
  walk_range.mono (fun _ h => h) fun i H x H' hi _ h => h
theorem getD_at {α : Type} {xs : List α} {i : Nat} {d x : α} (h : xs[i]? = some x) : xs.getD i d = x := by rw [List.getD_eq_getElem?_getD, h]; rfl
theorem getD_lt {α : Type} {xs : List α} {i : Nat} (d : α) (h : i < xs.length) : xs[i]? = some (xs.getD i d) := by rw [List.getD_eq_getElem?_getD, List.getElem?_eq_getElem h]; rfl
/-- a list of values that are all known -/
theorem all_vs {vs : List V} {n : Nat} {f : Nat → V} (hl : vs.length = n) (h : ∀ (i : Nat) (v : V), vs[i]? = some v → v = f i) : vs = (List.range n).map f := by
  refine List.ext_getElem? fun i => ?_
  by_cases c : i < n
  · rw [List.getElem?_eq_getElem (by omega), List.getElem?_map, List.getElem?_range c]
    show some _ = some _
    rw [h i _ (List.getElem?_eq_getElem (by omega))]
  · rw [List.getElem?_eq_none (by omega), List.getElem?_eq_none (by simp; omega)]
theorem all_true {vs : List V} (h : ∀ (i : Nat) (v : V), vs[i]? = some v → v = V.bl true) : vs = (List.replicate vs.length true).map V.bl := by
  have q := all_vs (f := fun _ => V.bl true) rfl h
  rw [q]
  simp [List.map_const']
end
end Kn

set_option maxHeartbeats 4000000
/-! A web's parts in the heap: told apart, put together; compared. -/
namespace Kn
open PySem PySem.Spec PyProof.Rows L2 KnR
section
variable {H : Hp} {v : V}
theorem Dt.strs_inv {l : List Ws} (h : Dt H v (dSs l)) : ∃ a, v = .ref a ∧ H a = some (.tup (l.map vS)) := by
  obtain ⟨a, xs, e, h1, h2⟩ := h.tup_inv
  rw [h2.strs_inv] at h1
  exact ⟨a, e, h1⟩
theorem Dt.strs_mk {a : Addr} {l : List Ws} (h : H a = some (.tup (l.map vS))) : Dt H (.ref a) (dSs l) := .tup h (DtAll.strs l)
theorem Dt.plain_inv {s : Ws} (h : Dt H v (dL (.plain s))) : ∃ a, v = .ref a ∧ H a = some (.tup [.str "plain", vS s]) := by
  obtain ⟨a, xs, e, h1, h2⟩ := h.tup_inv
  cases h2 with
  | cons q1 h2 =>
    cases h2 with
    | cons q2 h2 =>
      cases h2
      rw [q1.str_inv, q2.str_inv] at h1
      exact ⟨a, e, h1⟩
theorem Dt.plain_mk {a : Addr} {s : Ws} (h : H a = some (.tup [.str "plain", vS s])) : Dt H (.ref a) (dL (.plain s)) := .tup h (.cons (.str _) (.cons (.str _) .nil))
theorem Dt.use_inv {i : Nat} {n : Ws} {as : List Ws} (h : Dt H v (dL (.use i n as))) : ∃ a b, v = .ref a ∧ H a = some (.tup [.str "use", .int (i : Nat), vS n, .ref b]) ∧ H b = some (.tup (as.map vS)) := by
  obtain ⟨a, xs, e, h1, h2⟩ := h.tup_inv
  cases h2 with
  | cons q1 h2 =>
    cases h2 with
    | cons q2 h2 =>
      cases h2 with
      | cons q3 h2 =>
        cases h2 with
        | cons q4 h2 =>
          cases h2
          obtain ⟨b, e4, h4⟩ := q4.strs_inv
          rw [q1.str_inv, q2.int_inv, q3.str_inv, e4] at h1
          exact ⟨a, b, e, h1, h4⟩
theorem Dt.use_mk {a b : Addr} {i : Nat} {n : Ws} {as : List Ws} (h : H a = some (.tup [.str "use", .int (i : Nat), vS n, .ref b])) (h2 : H b = some (.tup (as.map vS))) : Dt H (.ref a) (dL (.use i n as)) :=
  .tup h (.cons (.str _) (.cons (.int _) (.cons (.str _) (.cons (Dt.strs_mk h2) .nil))))
theorem Dt.head_inv {h : Hd} (d : Dt H v (dH h)) : ∃ a b, v = .ref a ∧ H a = some (.tup [vS h.name, .ref b, .bl h.isf]) ∧ H b = some (.tup (h.params.map vS)) := by
  obtain ⟨a, xs, e, h1, h2⟩ := d.tup_inv
  cases h2 with
  | cons q1 h2 =>
    cases h2 with
    | cons q2 h2 =>
      cases h2 with
      | cons q3 h2 =>
        cases h2
        obtain ⟨b, e2, h4⟩ := q2.strs_inv
        rw [q1.str_inv, e2, q3.bl_inv] at h1
        exact ⟨a, b, e, h1, h4⟩
theorem Dt.head_mk {a b : Addr} {h : Hd} (h1 : H a = some (.tup [vS h.name, .ref b, .bl h.isf])) (h2 : H b = some (.tup (h.params.map vS))) : Dt H (.ref a) (dH h) :=
  .tup h1 (.cons (.str _) (.cons (Dt.strs_mk h2) (.cons (.bl _) .nil)))
theorem Dt.sec_inv {s : Sc} (d : Dt H v (dC s)) : ∃ a p hv q cs, v = .ref a ∧ H a = some (.tup [.ref p, hv, .ref q]) ∧ H p = some (.tup (s.prose.map vS)) ∧ Dt H hv (dO s.head) ∧ H q = some (.tup cs) ∧ DtAll H cs (s.code.map dL) := by
  obtain ⟨a, xs, e, h1, h2⟩ := d.tup_inv
  cases h2 with
  | cons q1 h2 =>
    cases h2 with
    | cons q2 h2 =>
      cases h2 with
      | cons q3 h2 =>
        cases h2
        obtain ⟨p, e1, h4⟩ := q1.strs_inv
        obtain ⟨q, cs, e3, h5, h6⟩ := q3.tup_inv
        rw [e1, e3] at h1
        exact ⟨a, p, _, q, cs, e, h1, h4, q2, h5, h6⟩
theorem Dt.sec_mk {s : Sc} {a p q : Addr} {hv : V} {cs : List V} (h1 : H a = some (.tup [.ref p, hv, .ref q])) (h2 : H p = some (.tup (s.prose.map vS))) (h3 : Dt H hv (dO s.head)) (h4 : H q = some (.tup cs)) (h5 : DtAll H cs (s.code.map dL)) : Dt H (.ref a) (dC s) :=
  .tup h1 (.cons (Dt.strs_mk h2) (.cons h3 (.cons (.tup h4 h5) .nil)))
theorem Dt.none_inv (d : Dt H v (dO none)) : v = .non := d.non_inv
/-- the i-th of a tuple of data -/
theorem DtAll.map_get {α : Type} {f : α → PyData} {l : List α} {xs : List V} (h : DtAll H xs (l.map f)) {i : Nat} {x : V} (e : xs[i]? = some x) : ∃ y, l[i]? = some y ∧ Dt H x (f y) := by
  obtain ⟨d, e1, h1⟩ := h.get e
  rw [List.getElem?_map] at e1
  cases q : l[i]? with
  | none => rw [q] at e1; cases e1
  | some y =>
    rw [q] at e1
    cases e1
    exact ⟨y, rfl, h1⟩
theorem DtAll.map_at {α : Type} {f : α → PyData} {l : List α} {xs : List V} (h : DtAll H xs (l.map f)) {i : Nat} {y : α} (e : l[i]? = some y) : ∃ x, xs[i]? = some x ∧ Dt H x (f y) :=
  h.at_ (by rw [List.getElem?_map, e]; rfl)
theorem DtAll.map_len {α : Type} {f : α → PyData} {l : List α} {xs : List V} (h : DtAll H xs (l.map f)) : xs.length = l.length := by rw [h.len, List.length_map]
/-- made item by item -/
theorem DtAll.of_get {α : Type} {f : α → PyData} : ∀ {l : List α} {xs : List V}, xs.length = l.length → (∀ (i : Nat) (x : V) (y : α), xs[i]? = some x → l[i]? = some y → Dt H x (f y)) → DtAll H xs (l.map f)
  | [], [], _, _ => .nil
  | [], _ :: _, e, _ => by cases e
  | _ :: _, [], e, _ => by cases e
  | y :: l, x :: xs, e, h => .cons (h 0 x y rfl rfl) (DtAll.of_get (by simpa using e) fun i a b h1 h2 => h (i + 1) a b (by simpa using h1) (by simpa using h2))
end
/-! ### heads compared -/
open PyData in
theorem eqv_strs : ∀ a b : List Ws, PyData.eqvAll (a.map fun s => .str (mkS s)) (b.map fun s => .str (mkS s)) = decide (a = b)
  | [], [] => by simp [PyData.eqvAll]
  | [], _ :: _ => by simp [PyData.eqvAll]
  | _ :: _, [] => by simp [PyData.eqvAll]
  | x :: a, y :: b => by
    show (PyData.eqv (.str (mkS x)) (.str (mkS y)) && PyData.eqvAll _ _) = _
    rw [eqv_strs a b]
    have e : PyData.eqv (.str (mkS x)) (.str (mkS y)) = decide (x = y) := by
      show (mkS x == mkS y) = _
      by_cases c : x = y
      · subst c; simp
      · have : ¬ mkS x = mkS y := fun z => c (mkS_inj z)
        rw [decide_eq_false c]
        exact beq_eq_false_iff_ne.mpr this
    rw [e]
    by_cases c1 : x = y <;> by_cases c2 : a = b <;> simp [c1, c2]
theorem eqv_dH (a b : Hd) : PyData.eqv (dH a) (dH b) = decide (a = b) := by
  obtain ⟨n, ps, f⟩ := a
  obtain ⟨m, qs, g⟩ := b
  show (PyData.eqv (.str (mkS n)) (.str (mkS m)) && (PyData.eqvAll (ps.map fun s => .str (mkS s)) (qs.map fun s => .str (mkS s)) && (PyData.eqv (.bool f) (.bool g) && true))) = _
  rw [eqv_strs]
  have e : PyData.eqv (.str (mkS n)) (.str (mkS m)) = decide (n = m) := by
    have q := eqv_strs [n] [m]
    have q1 : PyData.eqvAll [.str (mkS n)] [.str (mkS m)] = (PyData.eqv (.str (mkS n)) (.str (mkS m)) && true) := by simp [PyData.eqvAll]
    rw [Bool.and_true] at q1
    rw [← q1]
    refine q.trans ?_
    by_cases c : n = m <;> simp [c]
  have e2 : PyData.eqv (.bool f) (.bool g) = decide (f = g) := by
    show (f == g) = _
    cases f <;> cases g <;> rfl
  rw [e, e2]
  by_cases c1 : n = m <;> by_cases c2 : ps = qs <;> by_cases c3 : f = g <;> simp [c1, c2, c3]
theorem lay_strs : ∀ l : List Ws, (∀ s ∈ l, ∀ c ∈ s, isLet c = true) → PyData.canLayAll0 (l.map fun s => .str (mkS s)) = true
  | [], _ => by simp [PyData.canLayAll0]
  | s :: l, h => by
    show (PyData.canLay0 (.str (mkS s)) && PyData.canLayAll0 _) = true
    rw [lay_strs l fun x hx => h x (by simp [hx]), Bool.and_true]
    show PyData.strOk (mkS s) = true
    unfold PyData.strOk
    rw [Array.all_eq_true_iff_forall_mem]
    intro c hc
    have q := h s (by simp) c (by simpa [mkS] using hc)
    unfold isLet at q
    simp at q
    simp
    omega
theorem dep_strs : ∀ l : List Ws, PyData.depthAll (l.map fun s => .str (mkS s)) = 0
  | [] => by simp [PyData.depthAll]
  | s :: l => by
    show max (PyData.depth (.str (mkS s))) (PyData.depthAll _) = 0
    rw [dep_strs l]
    simp [PyData.depth]
theorem shaped_dH {h : Hd} (o : hL h) : SeqAt.shaped (dH h) = true := by
  obtain ⟨n, ps, f⟩ := h
  have h1 := lay_strs [n] fun s hs => o s (by simp at hs; simp [hs])
  have h2 := lay_strs ps fun s hs => o s (by simp [hs])
  have h1' : PyData.canLay0 (.str (mkS n)) = true := by
    have q : (PyData.canLay0 (.str (mkS n)) && PyData.canLayAll0 []) = true := h1
    simp [PyData.canLayAll0] at q
    exact q
  have hd := dep_strs ps
  unfold SeqAt.shaped
  have e1 : (dH ⟨n, ps, f⟩).canLay0 = true := by
    show (PyData.canLay0 (.str (mkS n)) && (PyData.canLayAll0 (ps.map fun s => .str (mkS s)) && (true && true))) = true
    rw [h1', h2]
    rfl
  have e2 : (dH ⟨n, ps, f⟩).depth = 2 := by
    show max (PyData.depth (.str (mkS n))) (max (PyData.depthAll (ps.map fun s => .str (mkS s)) + 1) (max (PyData.depth (.bool f)) 0)) + 1 = 2
    rw [hd]
    simp [PyData.depth]
  rw [e1, e2]
  decide
/-- a dict that holds for each name the first head of it -/
def HdsAt (H : Hp) (kvs : List (Key × V)) (hs : List Hd) : Prop := ∀ n : Ws, match first hs n with
  | some h => ∃ v, valV kvs (Sum.inr (mkS n) : Key) = some v ∧ Dt H v (dH h)
  | none => valV kvs (Sum.inr (mkS n) : Key) = none
theorem HdsAt.mono {H H' : Hp} {kvs : List (Key × V)} {hs : List Hd} (k : KT H H') (h : HdsAt H kvs hs) : HdsAt H' kvs hs := fun n => by
  have q := h n
  revert q
  cases first hs n with
  | none => exact fun q => q
  | some o => exact fun ⟨v, h1, h2⟩ => ⟨v, h1, Dt.mono k _ _ h2⟩
theorem HdsAt.some {H : Hp} {kvs : List (Key × V)} {hs : List Hd} {n : Ws} {h : Hd} (k : HdsAt H kvs hs) (e : first hs n = some h) : ∃ v, valV kvs (Sum.inr (mkS n) : Key) = some v ∧ Dt H v (dH h) := by
  have q := k n
  rw [e] at q
  exact q
theorem HdsAt.none {H : Hp} {kvs : List (Key × V)} {hs : List Hd} {n : Ws} (k : HdsAt H kvs hs) (e : first hs n = none) : valV kvs (Sum.inr (mkS n) : Key) = none := by
  have q := k n
  rw [e] at q
  exact q
theorem HdsAt.put {H : Hp} {kvs : List (Key × V)} {hs : List Hd} {h : Hd} {v : V} (k : HdsAt H kvs hs) (e : first hs h.name = Option.none) (hv : Dt H v (dH h)) : HdsAt H (putK kvs (Sum.inr (mkS h.name)) v) (hs ++ [h]) := fun n => by
  rw [first_snoc, valV_put]
  have q := k n
  revert q
  cases e2 : first hs n with
  | some o =>
    intro ⟨u, h1, h2⟩
    have ne : ¬ (Sum.inr (mkS n) : Key) = Sum.inr (mkS h.name) := fun z => by
      have z1 := mkS_inj (Sum.inr.inj z)
      rw [z1, e] at e2
      cases e2
    rw [if_neg ne]
    exact ⟨u, h1, h2⟩
  | none =>
    intro q
    dsimp only
    by_cases c : h.name = n
    · subst c
      rw [if_pos rfl]
      exact ⟨v, if_pos rfl, hv⟩
    · have ne : ¬ (Sum.inr (mkS n) : Key) = Sum.inr (mkS h.name) := fun z => c (mkS_inj (Sum.inr.inj z)).symm
      rw [if_neg c, if_neg ne]
      exact q
theorem HdsAt.old {H : Hp} {kvs : List (Key × V)} {hs : List Hd} {h g : Hd} (k : HdsAt H kvs hs) (e : first hs h.name = Option.some g) : HdsAt H kvs (hs ++ [h]) := fun n => by
  rw [first_snoc]
  have q := k n
  revert q
  cases e2 : first hs n with
  | some o => exact fun q => q
  | none =>
    intro q
    have c : ¬ h.name = n := fun z => by rw [z, e2] at e; cases e
    dsimp only
    rw [if_neg c]
    exact q
theorem HdsAt.nil {H : Hp} : HdsAt H [] [] := fun n => rfl
end Kn

set_option maxHeartbeats 4000000
/-! The checks of a web: what they say of webs as they should be. -/
namespace Kn
open PySem PySem.Spec PyProof.Rows L2 KnR
theorem lt1 (a b : Nat) : decide ([a] < [b]) = decide (a < b) := by
  have e : ([a] < [b]) ↔ a < b := by
    constructor
    · intro h
      cases h with
      | rel h => exact h
      | cons h => cases h
    · intro h
      exact List.Lex.rel h
  by_cases c : a < b
  · rw [decide_eq_true c, decide_eq_true (e.mpr c)]
  · rw [decide_eq_false c, decide_eq_false (fun z => c (e.mp z))]
theorem all_fin {K : PySem.W.Frag} {H : Hp} {D : Addr} {vs : List V} {Q : VK} (hv : H D = some (.lst vs)) (h : ∀ (i : Nat) (v : V), vs[i]? = some v → v = V.bl true) (q : Q (.bl true) H) :
    ∃ (a : Addr) (bs : List Bool), [V.ref D] = [V.ref a] ∧ SqL K H a (bs.map V.bl) ∧ Q (.bl (bs.all id)) H := by
  refine ⟨D, List.replicate vs.length true, rfl, SqL.of (by rw [← all_true h]; exact hv), ?_⟩
  have e : (List.replicate vs.length true).all id = true := by simp
  rw [e]
  exact q
theorem lenOk {l : Ws} (h : l.length ≤ 1000000) : (mkS l).length ≤ sizeLine := by rw [mkS_len]; exact sz_ok h
def letters : Ws := [97, 98, 99, 100, 101, 102, 103, 104, 105, 106, 107, 108, 109, 110, 111, 112, 113, 114, 115, 116, 117, 118, 119, 120, 121, 122]
theorem letters_is : ("abcdefghijklmnopqrstuvwxyz" : Str) = mkS letters := by decide +kernel
theorem mem_letters (c : Nat) : decide (c ∈ letters) = isLet c := by
  unfold isLet letters
  by_cases h : 97 ≤ c ∧ c ≤ 122
  · obtain ⟨h1, h2⟩ := h
    rw [decide_eq_true h1, decide_eq_true h2, Bool.true_and, decide_eq_true_eq]
    simp only [List.mem_cons, List.not_mem_nil, or_false]
    omega
  · have e : (decide (97 ≤ c) && decide (c ≤ 122)) = false := by
      simp only [Bool.and_eq_false_iff, decide_eq_false_iff_not]
      omega
    rw [e, decide_eq_false_iff_not]
    simp only [List.mem_cons, List.not_mem_nil, or_false]
    omega
theorem br_is : (",()" : Str) = mkS [44, 40, 41] := by decide +kernel
theorem mem_br (c : Nat) : decide (c ∈ ([44, 40, 41] : Ws)) = isBr c := by
  unfold isBr
  rw [Bool.eq_iff_iff]
  simp
theorem str_blank : (" " : Str) = mkS [32] := by decide +kernel
theorem str_nil : ("" : Str) = mkS [] := by decide +kernel
theorem getD_mem {l : Ws} {i : Nat} (h : i < l.length) : l.getD i 0 ∈ l := List.mem_of_getElem? (getD_lt 0 h)
theorem let_in (c : Nat) : decide (c ∈ ("abcdefghijklmnopqrstuvwxyz" : Str).cps.toList) = isLet c := by
  rw [letters_is, cps_mkS]
  exact mem_letters c
theorem br_in (c : Nat) : decide (c ∈ (",()" : Str).cps.toList) = isBr c := by
  rw [br_is, cps_mkS]
  exact mem_br c
/-- a text compared with a written one -/
theorem eq_wr {a b : Ws} {z : Str} (e : z = mkS b) : decide (vS a = V.str z) = decide (a = b) := by
  subst e
  exact dec_vS a b
theorem eq_nil (a : Ws) : decide (vS a = V.str ("" : Str)) = decide (a = []) := eq_wr str_nil
theorem eq_blank (a : Ws) : decide (vS a = V.str (" " : Str)) = decide (a = [32]) := eq_wr str_blank
section
variable {P : Program} {w : World} {K : PySem.W.Frag} {mg : Str → Option Value} {base : Heap}
theorem sc_is_sign : FnScope ["sign"] ["sign"] (defScope s_is_sign) := ⟨rfl, rfl, rfl, by decide +kernel, rfl, by decide +kernel, by decide +kernel⟩
def sp_is_sign (K : PySem.W.Frag) : Sp := fun vs H Q _ => vs.length = 1 ∧ ∃ c : Nat, vs = [vS [c]] ∧ Q (.bl (isSgn c)) H
theorem ok_is_sign (T : Tx K mg) : Fn P w K mg base CX0 1 ("is_sign", none) ["sign"] (sp_is_sign K) := by
  refine Fn.mk0 (d := d_is_sign) T 3 rfl rfl rfl sc_is_sign (fun _ _ _ _ _ _ us hl => match us, hl with | [_], _ => rfl) (fun vs H Q E h => h.1) (fun cdv A outer s H vs Q E hr h => ?_)
  have hu := hu_of hr
  refine ⟨_, (pss_one (ps_ret (pe_and (pe_chain op_le_str op_le_str pe_str (pv 0) pe_str) (pe_one (pe_cmpR op_ne (pe_callB call_ord rfl (T.free 61) (by decide +kernel) (pa_cons (pv 0) pa_nil)) pe_int (nomark _)))))), ?_⟩
  obtain ⟨_, c, rfl, k⟩ := h
  refine ⟨_, rfl, _, _, rfl, rfl, _, rfl, ?_⟩
  have e1 : decide ((mkS [c]).cps.toList < (" " : Str).cps.toList) = decide (c < 32) := lt1 c 32
  have e2 : decide (("~" : Str).cps.toList < (mkS [c]).cps.toList) = decide (126 < c) := lt1 126 c
  unfold isSgn at k
  rw [e1]
  by_cases c1 : c < 32
  · rw [decide_eq_true c1]
    refine iteN rfl ⟨_, rfl, iteN rfl ?_⟩
    have n : ¬ 32 ≤ c := by omega
    rw [decide_eq_false n] at k
    exact k
  · have y : 32 ≤ c := by omega
    rw [decide_eq_false c1]
    rw [decide_eq_true y] at k
    refine iteY rfl ⟨_, _, rfl, rfl, ?_⟩
    rw [e2]
    by_cases c2 : 126 < c
    · rw [decide_eq_true c2]
      have n : ¬ c ≤ 126 := by omega
      rw [decide_eq_false n] at k
      exact ⟨_, rfl, iteN rfl k⟩
    · have y2 : c ≤ 126 := by omega
      rw [decide_eq_false c2]
      rw [decide_eq_true y2] at k
      refine ⟨_, rfl, iteY rfl ?_⟩
      refine ⟨_, rfl, mkS [c], rfl, rfl, ?_⟩
      refine ⟨rfl, ?_⟩
      have e3 : decide (V.int (((mkS [c]).cps.getD 0 0 : Nat) : Int) = V.int 37) = decide (c = 37) := by
        show decide (V.int (c : Int) = V.int 37) = _
        by_cases h : c = 37
        · subst h; rfl
        · have h' : ¬ V.int (c : Int) = V.int 37 := fun z => h (by have := V.int.inj z; omega)
          rw [decide_eq_false h, decide_eq_false h']
      rw [e3]
      exact k
theorem sc_is_number : FnScope ["value"] ["value"] (defScope s_is_number) := ⟨rfl, rfl, rfl, by decide +kernel, rfl, by decide +kernel, by decide +kernel⟩
def sp_is_number (K : PySem.W.Frag) : Sp := fun vs H Q _ => vs.length = 1 ∧ ∃ n : Nat, vs = [.int n] ∧ Q (.bl true) H
theorem ok_is_number (T : Tx K mg) : Fn P w K mg base CX0 1 ("is_number", none) ["value"] (sp_is_number K) := by
  refine Fn.mk0 (d := d_is_number) T 1 rfl rfl rfl sc_is_number (fun _ _ _ _ _ _ us hl => match us, hl with | [_], _ => rfl) (fun vs H Q E h => h.1) (fun cdv A outer s H vs Q E hr h => ?_)
  have hu := hu_of hr
  refine ⟨_, (pss_one (ps_ret (pe_and (pe_callB call_isi rfl (T.free 55) (by decide +kernel) (pa_cons (pv 0) (pa_cons (pe_bt (T := "int") rfl (T.free 56) (by decide +kernel)) pa_nil))) (pe_and (pe_not (pe_callB call_isi rfl (T.free 55) (by decide +kernel) (pa_cons (pv 0) (pa_cons (pe_bt (T := "bool") rfl (T.free 57) (by decide +kernel)) pa_nil)))) (pe_one (pe_cmpR op_ge (pv 0) pe_int (nomark _))))))), ?_⟩
  obtain ⟨_, n, rfl, k⟩ := h
  refine ⟨_, rfl, _, _, _, _, _, rfl, .ty _, .base (.int _), kit_ty kb_ii, _, rfl, iteY rfl ?_⟩
  refine ⟨_, rfl, _, _, _, _, _, rfl, .ty _, .base (.int _), kit_ty kb_ib, _, rfl, _, rfl, iteY rfl ?_⟩
  refine ⟨_, rfl, _, _, rfl, rfl, ?_⟩
  have e : decide ((0 : Int) ≤ (n : Int)) = true := decide_eq_true (Int.natCast_nonneg n)
  show Q (.bl (decide ((0 : Int) ≤ (n : Int)))) H
  rw [e]
  exact k
theorem sc_is_word : FnScope ["value", "sign"] ["value"] (defScope s_is_word) := ⟨rfl, rfl, rfl, by decide +kernel, rfl, by decide +kernel, by decide +kernel⟩
def sp_is_word (K : PySem.W.Frag) : Sp := fun vs H Q _ => vs.length = 1 ∧ ∃ l : Ws, vs = [vS l] ∧ wOk l ∧ ∀ H', Same H H' → Q (.bl true) H'
theorem ok_is_word (T : Tx K mg) : Fn P w K mg base CX0 1 ("is_word", none) ["value"] (sp_is_word K) := by
  refine Fn.mk0 (d := d_is_word) T 2 rfl rfl rfl sc_is_word (fun _ _ _ _ _ _ us hl => match us, hl with | [_], _ => rfl) (fun vs H Q E h => h.1) (fun cdv A outer s H vs Q E hr h => ?_)
  have hu := hu_of hr
  refine ⟨_, (pss_cons (ps_if (PW.pt (pw_or (pt_not (pt_val (pe_callB call_isi rfl (T.free 55) (by decide +kernel) (pa_cons (pv 0) (pa_cons (pe_bt (T := "str") rfl (T.free 58) (by decide +kernel)) pa_nil))))) (pw_or1 (pt_not (pt_chain op_le op_le pe_int (pe_callB call_len_str rfl (T.free 59) (by decide +kernel) (pa_cons (pv 0) pa_nil)) (pe_gI rfl (T.int 51))))))) (pss_one (ps_ret pe_bl)) pss_nil) (pss_one (ps_ret (pe_callB (cr_all rfl) rfl (T.free 60) (by decide +kernel) (pa_cons (pe_lc (own := [("sign", 1)]) rfl sc_is_word.nd (pi_str (pv 0)) (blkOk_by (N := ["value", "sign"]) (sc := defScope s_is_word) (by decide +kernel)) (fun _ _ _ _ _ => (pg_name (i := 1) sc_is_word.nd rfl (Or.inl rfl))) (fun _ _ _ _ _ => pts_nil) (fun _ _ _ _ _ => (pe_cmpR op_in_sign (pv 1) (pe_gS rfl (T.str 50)) rfl))) pa_nil))))), ?_⟩
  obtain ⟨_, l, rfl, o, k⟩ := h
  refine ⟨_, rfl, _, _, _, _, _, rfl, .ty _, .base (.str _), kit_ty kb_ss, _, rfl, iteN rfl ?_⟩
  have h1 : 0 < l.length := List.length_pos_iff.mpr o.1
  have h2 := o.2.1
  refine ⟨_, rfl, _, rfl, lenOk (by omega), _, _, rfl, rfl, _, rfl, ?_⟩
  rw [mkS_len]
  have e1 : decide ((1 : Int) ≤ ((l.length : Nat) : Int)) = true := decide_eq_true (by omega)
  have e2 : decide (((l.length : Nat) : Int) ≤ 8) = true := decide_eq_true (by omega)
  refine iteY e1 ⟨_, _, rfl, rfl, _, rfl, ?_⟩
  rw [e2]
  refine iteN rfl ?_
  refine ⟨_, rfl, mkS l, rfl, fun D hD => ?_⟩
  refine lc_pure (wk_str l) (fun _ _ v => v = .bl true) hD (fun _ _ => trivial) (by omega) (fun _ _ _ _ _ h => h) (fun i H1 Q1 hi s q => ?_) (fun H1 vs s hv hl ha => ?_)
  · refine ⟨_, rfl, l.getD i 0, _, rfl, rfl, ?_⟩
    refine q _ H1 (Same.refl _) ?_
    rw [let_in, o.2.2 _ (getD_mem hi)]
  · exact all_fin hv ha (k _ s)
theorem sc_is_line : FnScope ["value", "sign"] ["value"] (defScope s_is_line) := ⟨rfl, rfl, rfl, by decide +kernel, rfl, by decide +kernel, by decide +kernel⟩
def sp_is_line (K : PySem.W.Frag) : Sp := fun vs H Q _ => vs.length = 1 ∧ ∃ l : Ws, vs = [vS l] ∧ sOk l ∧ l.length ≤ 1000000 ∧ ∀ H', Same H H' → Q (.bl true) H'
theorem ok_is_line (T : Tx K mg) : Fn P w K mg base CX0 2 ("is_line", none) ["value"] (sp_is_line K) := by
  refine Fn.mk0 (d := d_is_line) T 4 rfl rfl rfl sc_is_line (fun _ _ _ _ _ _ us hl => match us, hl with | [_], _ => rfl) (fun vs H Q E h => h.1) (fun cdv A outer s H vs Q E hr h => ?_)
  have hu := hu_of hr
  have G_is_sign : Fn P w K mg base CX0 1 ("is_sign", none) ["sign"] (sp_is_sign K) := ok_is_sign T
  refine ⟨_, (pss_one (ps_ret (pe_and (pe_callB call_isi rfl (T.free 55) (by decide +kernel) (pa_cons (pv 0) (pa_cons (pe_bt (T := "str") rfl (T.free 58) (by decide +kernel)) pa_nil))) (pe_one (pe_callB (cr_all rfl) rfl (T.free 60) (by decide +kernel) (pa_cons (pe_lc (own := [("sign", 1)]) rfl sc_is_line.nd (pi_str (pv 0)) (blkOk_by (N := ["value", "sign"]) (sc := defScope s_is_line) (by decide +kernel)) (fun _ _ _ _ _ => (pg_name (i := 1) sc_is_line.nd rfl (Or.inl rfl))) (fun _ _ _ _ _ => pts_nil) (fun _ _ _ _ _ => (pc G_is_sign (hr.mono (by decide)) rfl (T.glo 2) pass0 (pa_cons (pv 1) pa_nil)))) pa_nil)))))), ?_⟩
  obtain ⟨_, l, rfl, o, hn, k⟩ := h
  refine ⟨_, rfl, _, _, _, _, _, rfl, .ty _, .base (.str _), kit_ty kb_ss, _, rfl, iteY rfl ?_⟩
  refine ⟨_, rfl, mkS l, rfl, fun D hD => ?_⟩
  refine lc_pure (wk_str l) (fun _ _ v => v = .bl true) hD (fun _ _ => trivial) hn (fun _ _ _ _ _ h => h) (fun i H1 Q1 hi s q => ?_) (fun H1 vs s hv hl ha => ?_)
  · refine ⟨_, rfl, rfl, _, rfl, ?_⟩
    refine q _ H1 (Same.refl _) ?_
    rw [o _ (getD_mem hi)]
  · exact all_fin hv ha (k _ s)
theorem sc_is_argument : FnScope ["value", "sign"] ["value"] (defScope s_is_argument) := ⟨rfl, rfl, rfl, by decide +kernel, rfl, by decide +kernel, by decide +kernel⟩
def sp_is_argument (K : PySem.W.Frag) : Sp := fun vs H Q _ => vs.length = 1 ∧ ∃ l : Ws, vs = [vS l] ∧ aOk l ∧ l.length ≤ 1000000 ∧ ∀ H', Same H H' → Q (.bl true) H'
theorem isArg_sgn {c : Nat} (h : isArg c = true) : isSgn c = true ∧ isBr c = false := by
  unfold isArg at h
  simpa using h
theorem ok_is_argument (T : Tx K mg) : Fn P w K mg base CX0 3 ("is_argument", none) ["value"] (sp_is_argument K) := by
  refine Fn.mk0 (d := d_is_argument) T 5 rfl rfl rfl sc_is_argument (fun _ _ _ _ _ _ us hl => match us, hl with | [_], _ => rfl) (fun vs H Q E h => h.1) (fun cdv A outer s H vs Q E hr h => ?_)
  have hu := hu_of hr
  have G_is_line : Fn P w K mg base CX0 2 ("is_line", none) ["value"] (sp_is_line K) := ok_is_line T
  refine ⟨_, (pss_cons (ps_if (PW.pt (pw_or (pt_not (pt_val (pc G_is_line (hr.mono (by decide)) rfl (T.glo 3) pass0 (pa_cons (pv 0) pa_nil)))) (pw_or (pt_cmpR op_eq (pv 0) pe_str (nomark _)) (pw_or (pt_cmpR op_eq (pe_ix ix_str (pv 0) pe_int (fun _ _ => rfl)) pe_str (nomark _)) (pw_or1 (pt_cmpR op_eq (pe_ix ix_str (pv 0) (pe_un un_neg pe_int) (fun _ _ => rfl)) pe_str (nomark _))))))) (pss_one (ps_ret pe_bl)) pss_nil) (pss_one (ps_ret (pe_callB (cr_all rfl) rfl (T.free 60) (by decide +kernel) (pa_cons (pe_lc (own := [("sign", 1)]) rfl sc_is_argument.nd (pi_str (pv 0)) (blkOk_by (N := ["value", "sign"]) (sc := defScope s_is_argument) (by decide +kernel)) (fun _ _ _ _ _ => (pg_name (i := 1) sc_is_argument.nd rfl (Or.inl rfl))) (fun _ _ _ _ _ => pts_nil) (fun _ _ _ _ _ => (pe_cmpR op_notIn_sign (pv 1) pe_str rfl))) pa_nil))))), ?_⟩
  obtain ⟨_, l, rfl, o, hn, k⟩ := h
  obtain ⟨o1, o2, o3, o4⟩ := o
  refine ⟨_, rfl, rfl, l, rfl, fun c hc => (isArg_sgn (o2 c hc)).1, hn, fun H1 s1 => ⟨_, rfl, iteN rfl ?_⟩⟩
  refine ⟨_, rfl, rfl, _, rfl, ?_⟩
  rw [eq_nil, decide_eq_false o1]
  refine iteN rfl ?_
  obtain ⟨c, m, rfl⟩ : ∃ c m, l = c :: m := by
    cases l with
    | nil => exact absurd rfl o1
    | cons c m => exact ⟨c, m, rfl⟩
  refine ⟨_, rfl, mkS (c :: m), 0, c, rfl, rfl, lenOk hn, atI_nat (j := 0) rfl, ?_⟩
  refine ⟨rfl, _, rfl, ?_⟩
  have n1 : ¬ ([c] : Ws) = [32] := fun z => o3 (by rw [(List.cons.inj z).1]; rfl)
  rw [show decide (V.str ⟨#[c]⟩ = V.str (" " : Str)) = decide ([c] = ([32] : Ws)) from eq_blank [c], decide_eq_false n1]
  refine iteN rfl ?_
  obtain ⟨st, d, e⟩ : ∃ st d, c :: m = st ++ [d] := by
    rcases List.eq_nil_or_concat (c :: m) with z | ⟨st, d, z⟩
    · cases z
    · exact ⟨st, d, by rw [z, List.concat_eq_append]⟩
  have lst : atI (mkS (c :: m)).cps.toList (-1) = some d := by
    rw [cps_mkS, e]
    exact atI_last st d
  refine ⟨_, rfl, 1, rfl, mkS (c :: m), -1, d, rfl, rfl, lenOk hn, lst, ?_⟩
  refine ⟨rfl, _, rfl, ?_⟩
  have n2 : ¬ ([d] : Ws) = [32] := fun z => o4 (by rw [e, (List.cons.inj z).1]; simp)
  rw [show decide (V.str ⟨#[d]⟩ = V.str (" " : Str)) = decide ([d] = ([32] : Ws)) from eq_blank [d], decide_eq_false n2]
  refine iteN rfl ?_
  refine ⟨_, rfl, mkS (c :: m), rfl, fun D hD => ?_⟩
  refine lc_pure (wk_str (c :: m)) (fun _ _ v => v = .bl true) hD (fun _ _ => trivial) hn (fun _ _ _ _ _ h => h) (fun i H2 Q1 hi s q => ?_) (fun H2 vs s hv hl ha => ?_)
  · refine ⟨_, rfl, (c :: m).getD i 0, _, rfl, rfl, ?_⟩
    refine q _ H2 (Same.refl _) ?_
    rw [br_in, (isArg_sgn (o2 _ (getD_mem hi))).2]
    rfl
  · exact all_fin hv ha (k _ (s1.trans s))
end
end Kn

set_option maxHeartbeats 4000000
/-! Comprehensions with any target, any walk; for loops; helpers for reading. -/
namespace Kn
open PySem PySem.Spec PyProof.Rows L2 KnR
section
variable {J : It} {n : Nat} {Y : Nat → Hp → V → Hp → Prop} {g : TG} {vs : List Nat} {te : TE} {σ : L2.St} {H1 : Hp} {D : Addr} {Qd : Hp → Prop} {G : Hp → Prop}
theorem lc_gen (w : Walk J n G Y) (R : Nat → Hp → V → Prop) (hD : H1 D = none) (hG : ∀ H, Same H1 H → G H) (hn : n ≤ 1000000)
    (hR : ∀ i H H' v, KT H H' → R i H v → R i H' v)
    (hs : ∀ i x H H' (Q : VK), i < n → Same H1 H → Y i H x H' → (∀ v H', Same H H' → R i H' v → Q v H') → g x (wipe σ vs) H' fun σ2 H2 => wipe σ2 vs = wipe σ vs ∧ te σ2 H2 Q)
    (hd : ∀ H vs, Same H1 H → H D = some (.lst vs) → vs.length = n → (∀ i v, vs[i]? = some v → R i H v) → Qd H) :
    ∃ W : Nat → Nat → Hp → Prop, (∃ m, W 0 m (upd H1 D (.lst []))) ∧ ∀ i m H, W i m H →
      (J.stop i H ∧ Qd H) ∨ (J.go i H ∧ ∃ Nx : Hp → Prop, (∀ H', Nx H' → ∃ m', m' < m ∧ W (i + 1) m' H') ∧ ∀ x H', J.yld i H x H' → g x (wipe σ vs) H' fun σ2 H2 => wipe σ2 vs = wipe σ vs ∧ tYes σ2 H2 fun b H3 =>
        if b = true then te σ2 H3 fun y H4 => ∃ acc, H4 D = some (.lst acc) ∧ acc.length < sizeLine ∧ Nx (upd H4 D (.lst (acc ++ [y]))) else Nx H3) := by
  refine lc_it w (fun i H => Same H1 H ∧ ∃ vs, H D = some (.lst vs) ∧ vs.length = i ∧ ∀ k v, vs[k]? = some v → R k H v) ?_ (fun i H _ p => hG H p.1) ?_ ?_
  · exact ⟨sm_new hD, [], upd_same, rfl, fun k v e => by simp at e⟩
  · rintro i x H H' hi ⟨s, ws, hv, hl, hr⟩ y
    refine hs i x H H' _ hi s y fun v H4 s4 r4 => ?_
    have ntD : NT H4 D := NT.lst (s4 _ _ hv)
    refine ⟨ws, s4 _ _ hv, sz_lt (by omega), sm_mut (s.trans s4) hD, ws ++ [v], upd_same, by simp [hl], fun k u e => ?_⟩
    by_cases hk : k < ws.length
    · rw [List.getElem?_append_left hk] at e
      exact hR k _ _ u ((sm_kt s4).trans (KT.up ntD)) (hr k u e)
    · have hk' : k = i := by
        have := (List.getElem?_eq_some_iff.mp e).1
        simp at this
        omega
      subst hk'
      rw [← hl, List.getElem?_concat_length] at e
      cases e
      exact hR _ _ _ _ (KT.up ntD) r4
  · rintro H ⟨s, ws, hv, hl, hr⟩
    exact hd H ws s hv hl hr
end
section
variable {X : Cx} {K : PySem.W.Frag}
theorem ix_tupK (h : X.K = K) : IxR X (rIxT K) := by subst h; exact ix_tup
theorem ix_listK (h : X.K = K) : IxR X (rIxL K) := by subst h; exact ix_list
theorem call_len_seqK (h : X.K = K) : CallR X (.builtin "len") (fun xs H Q => ∃ p ys, xs = [.ref p] ∧ (SqL K H p ys ∨ SqT K H p ys) ∧ Q (.int ys.length) H) := by subst h; exact call_len_seq
theorem op_eqDK (h : X.K = K) (hu : X.A.units + 64 < cLine) : OpR X (compareOp .Eq) (rEqD K) := by subst h; exact op_eqD hu
theorem pg_tupK {es : List Expr} {k : Nat} {t : TGs} {n : Nat} {pos : Pos} (e : X.K = K) (hc : X.calm = true) (h : PGs X es t)
    (hn : (assignEach es X.env).length = n := by rfl) (hst : (assignEach es X.env).findIdx? (·.1) = none := by rfl) : PG X (.Tuple es k pos) (gTup K n t) := by subst e; exact pg_tup hc h hn hst
end
theorem mapS_get {as : List Ws} {i : Nat} (hi : i < (as.map vS).length) : ∃ a ∈ as, as[i]? = some a ∧ (as.map vS).getD i .non = vS a := by
  have h : i < as.length := by simpa using hi
  refine ⟨as[i], List.getElem_mem h, List.getElem?_eq_getElem h, ?_⟩
  rw [List.getD_eq_getElem?_getD, List.getElem?_map, List.getElem?_eq_getElem h]
  rfl
theorem DtAll.getD {α : Type} {f : α → PyData} {l : List α} {xs : List V} {H : Hp} (h : DtAll H xs (l.map f)) {i : Nat} (hi : i < xs.length) : ∃ y ∈ l, l[i]? = some y ∧ Dt H (xs.getD i .non) (f y) := by
  obtain ⟨y, h1, h2⟩ := h.map_get (getD_lt .non hi)
  exact ⟨y, List.mem_of_getElem? h1, h1, h2⟩
theorem all_sq {K : PySem.W.Frag} {H : Hp} {D : Addr} {vs : List V} (hv : H D = some (.lst vs)) (h : ∀ (i : Nat) (v : V), vs[i]? = some v → v = V.bl true) : SqL K H D ((List.replicate vs.length true).map V.bl) := SqL.of (by rw [← all_true h]; exact hv)
theorem all_rep (n : Nat) : (List.replicate n true).all id = true := by simp
theorem all_repN (n : Nat) : (!(List.replicate n true).all id) = false := by simp
theorem DGet_at {H : Hp} {a : Addr} {kvs : List (Key × V)} {n : Ws} {r : Option V} (e : H a = some (.dK kvs)) (h : valV kvs (Sum.inr (mkS n) : Key) = r) : DGet H a (vS n) r := h ▸ DGet.k (k := Sum.inr (mkS n)) e
theorem put_len {κ : Type} [DecidableEq κ] (kvs : List (κ × V)) (k : κ) (v : V) : (putK kvs k v).length ≤ kvs.length + 1 := by
  unfold putK
  split
  · simp
  · simp
theorem dint (i j : Int) : decide (V.int i = V.int j) = decide (i = j) := by
  by_cases h : i = j
  · subst h; simp
  · have : ¬ V.int i = V.int j := fun z => h (V.int.inj z)
    rw [decide_eq_false h, decide_eq_false this]
theorem dbl (i j : Bool) : decide (V.bl i = V.bl j) = decide (i = j) := by
  by_cases h : i = j
  · subst h; simp
  · have : ¬ V.bl i = V.bl j := fun z => h (V.bl.inj z)
    rw [decide_eq_false h, decide_eq_false this]
/-! written words -/
theorem s_plain_use : decide (V.str ("use" : Str) = V.str ("plain" : Str)) = false := by decide +kernel
theorem str_plain : ("plain" : Str) = mkS [112, 108, 97, 105, 110] := by decide +kernel
theorem str_use : ("use" : Str) = mkS [117, 115, 101] := by decide +kernel
end Kn

set_option maxHeartbeats 4000000
/-! The checks of a web, part two. -/
namespace Kn
open PySem PySem.Spec PyProof.Rows L2 KnR
section
variable {P : Program} {w : World} {K : PySem.W.Frag} {mg : Str → Option Value} {base : Heap}
theorem sc_is_code_line : FnScope ["value", "arguments", "one"] ["value"] (defScope s_is_code_line) := ⟨rfl, rfl, rfl, by decide +kernel, rfl, by decide +kernel, by decide +kernel⟩
def sp_is_code_line (K : PySem.W.Frag) : Sp := fun vs H Q _ => vs.length = 1 ∧ ∃ x u, vs = [x] ∧ Dt H x (dL u) ∧ lOk u ∧ (lnTxt u).length ≤ 1000000 ∧ ∀ H', Same H H' → Q (.bl true) H'
theorem ok_is_code_line (T : Tx K mg) : Fn P w K mg base CX0 4 ("is_code_line", none) ["value"] (sp_is_code_line K) := by
  refine Fn.mk0 (d := d_is_code_line) T 6 rfl rfl rfl sc_is_code_line (fun _ _ _ _ _ _ us hl => match us, hl with | [_], _ => rfl) (fun vs H Q E h => h.1) (fun cdv A outer s H vs Q E hr h => ?_)
  have hu := hu_of hr
  have G_is_argument : Fn P w K mg base CX0 3 ("is_argument", none) ["value"] (sp_is_argument K) := ok_is_argument T
  have G_is_word : Fn P w K mg base CX0 1 ("is_word", none) ["value"] (sp_is_word K) := ok_is_word T
  have G_is_number : Fn P w K mg base CX0 1 ("is_number", none) ["value"] (sp_is_number K) := ok_is_number T
  have G_is_line : Fn P w K mg base CX0 2 ("is_line", none) ["value"] (sp_is_line K) := ok_is_line T
  refine ⟨_, (pss_cons (ps_if (PW.pt (pw_or (pt_not (pt_val (pe_callB call_isi rfl (T.free 55) (by decide +kernel) (pa_cons (pv 0) (pa_cons (pe_bt (T := "tuple") rfl (T.free 62) (by decide +kernel)) pa_nil))))) (pw_or (pt_cmpR op_eq (pe_callB call_len_seq rfl (T.free 59) (by decide +kernel) (pa_cons (pv 0) pa_nil)) pe_int (nomark _)) (pw_or1 (pt_not (pt_val (pe_callB call_isi rfl (T.free 55) (by decide +kernel) (pa_cons (pe_ix ix_tup (pv 0) pe_int (fun _ _ => rfl)) (pa_cons (pe_bt (T := "str") rfl (T.free 58) (by decide +kernel)) pa_nil))))))))) (pss_one (ps_ret pe_bl)) pss_nil) (pss_cons (ps_if (pt_cmpR op_eq (pe_ix ix_tup (pv 0) pe_int (fun _ _ => rfl)) pe_str (nomark _)) (pss_one (ps_ret (pe_and (pe_cmpR op_eq (pe_callB call_len_seq rfl (T.free 59) (by decide +kernel) (pa_cons (pv 0) pa_nil)) pe_int (nomark _)) (pe_one (pc G_is_line (hr.mono (by decide)) rfl (T.glo 3) pass0 (pa_cons (pe_ix ix_tup (pv 0) pe_int (fun _ _ => rfl)) pa_nil)))))) pss_nil) (pss_cons (ps_if (PW.pt (pw_or (pt_cmpR op_ne (pe_ix ix_tup (pv 0) pe_int (fun _ _ => rfl)) pe_str (nomark _)) (pw_or (pt_cmpR op_ne (pe_callB call_len_seq rfl (T.free 59) (by decide +kernel) (pa_cons (pv 0) pa_nil)) pe_int (nomark _)) (pw_or (pt_not (pt_val (pc G_is_number (hr.mono (by decide)) rfl (T.glo 0) pass0 (pa_cons (pe_ix ix_tup (pv 0) pe_int (fun _ _ => rfl)) pa_nil)))) (pw_or1 (pt_cmpR op_gt (pe_ix ix_tup (pv 0) pe_int (fun _ _ => rfl)) (pe_gI rfl (T.int 54)) (nomark _))))))) (pss_one (ps_ret pe_bl)) pss_nil) (pss_cons (ps_set (i := 1) sc_is_code_line.nd rfl (Or.inl rfl) (pe_ix ix_tup (pv 0) pe_int (fun _ _ => rfl))) (pss_cons (ps_if (PW.pt (pw_or (pt_not (pt_val (pc G_is_word (hr.mono (by decide)) rfl (T.glo 1) pass0 (pa_cons (pe_ix ix_tup (pv 0) pe_int (fun _ _ => rfl)) pa_nil)))) (pw_or (pt_not (pt_val (pe_callB call_isi rfl (T.free 55) (by decide +kernel) (pa_cons (pv 1) (pa_cons (pe_bt (T := "tuple") rfl (T.free 62) (by decide +kernel)) pa_nil))))) (pw_or1 (pt_cmpR op_gt (pe_callB call_len_seq rfl (T.free 59) (by decide +kernel) (pa_cons (pv 1) pa_nil)) (pe_gI rfl (T.int 53)) (nomark _)))))) (pss_one (ps_ret pe_bl)) pss_nil) (pss_one (ps_ret (pe_callB (cr_all rfl) rfl (T.free 60) (by decide +kernel) (pa_cons (pe_lc (own := [("one", 2)]) rfl sc_is_code_line.nd (pi_tup (pv 1)) (blkOk_by (N := ["value", "arguments", "one"]) (sc := defScope s_is_code_line) (by decide +kernel)) (fun _ _ _ _ _ => (pg_name (i := 2) sc_is_code_line.nd rfl (Or.inl rfl))) (fun _ _ _ _ _ => pts_nil) (fun _ _ _ _ _ => (pc G_is_argument (hr.mono (by decide)) rfl (T.glo 4) pass0 (pa_cons (pv 2) pa_nil)))) pa_nil))))))))), ?_⟩
  obtain ⟨_, x, u, rfl, dt, o, hn, k⟩ := h
  cases u with
  | plain s =>
    obtain ⟨a, rfl, ha⟩ := dt.plain_inv
    refine ⟨_, rfl, _, _, _, _, _, rfl, .ty _, .base (.tup ha), kit_ty kb_tt, _, rfl, iteN rfl ?_⟩
    refine ⟨_, rfl, _, _, rfl, .inr (SqT.of ha), rfl, _, rfl, iteN rfl ?_⟩
    refine ⟨_, rfl, _, _, _, _, rfl, rfl, SqT.of ha, rfl, _, _, _, _, _, rfl, .ty _, .base (.str _), kit_ty kb_ss, _, rfl, iteN rfl ?_⟩
    refine ⟨_, rfl, _, _, _, _, rfl, rfl, SqT.of ha, rfl, rfl, _, rfl, iteY (decide_eq_true rfl) ?_⟩
    refine ⟨_, rfl, _, _, rfl, .inr (SqT.of ha), rfl, _, rfl, iteY rfl ?_⟩
    refine ⟨_, rfl, _, _, _, _, rfl, rfl, SqT.of ha, rfl, rfl, s, rfl, o, ?_, fun H' sm => k H' sm⟩
    have : (lnTxt (.plain s)).length = s.length + 1 := by simp [lnTxt]
    omega
  | use i n as =>
    obtain ⟨a, b, rfl, ha, hb⟩ := dt.use_inv
    obtain ⟨o1, o2, o3, o4⟩ := o
    have hl := use_len i n as
    refine ⟨_, rfl, _, _, _, _, _, rfl, .ty _, .base (.tup ha), kit_ty kb_tt, _, rfl, iteN rfl ?_⟩
    refine ⟨_, rfl, _, _, rfl, .inr (SqT.of ha), rfl, _, rfl, iteN rfl ?_⟩
    refine ⟨_, rfl, _, _, _, _, rfl, rfl, SqT.of ha, rfl, _, _, _, _, _, rfl, .ty _, .base (.str _), kit_ty kb_ss, _, rfl, iteN rfl ?_⟩
    refine ⟨_, rfl, _, _, _, _, rfl, rfl, SqT.of ha, rfl, rfl, _, rfl, iteN s_plain_use ?_⟩
    refine ⟨_, rfl, _, _, _, _, rfl, rfl, SqT.of ha, rfl, rfl, _, rfl, iteN (by rw [decide_eq_true rfl]; rfl) ?_⟩
    refine ⟨_, rfl, _, _, rfl, .inr (SqT.of ha), rfl, _, rfl, iteN rfl ?_⟩
    refine ⟨_, rfl, _, _, _, _, rfl, rfl, SqT.of ha, rfl, rfl, i, rfl, _, rfl, iteN rfl ?_⟩
    refine ⟨_, rfl, _, _, _, _, rfl, rfl, SqT.of ha, rfl, _, _, rfl, rfl, _, rfl, iteN (decide_eq_false (by omega)) ?_⟩
    refine ⟨_, rfl, _, _, _, _, rfl, rfl, SqT.of ha, rfl, ?_⟩
    refine ⟨_, rfl, _, _, _, _, rfl, rfl, SqT.of ha, rfl, rfl, n, rfl, o2, fun H1 s1 => ⟨_, rfl, iteN rfl ?_⟩⟩
    refine ⟨_, rfl, _, _, _, _, _, rfl, .ty _, .base (.tup (s1 _ _ hb)), kit_ty kb_tt, _, rfl, iteN rfl ?_⟩
    refine ⟨_, rfl, _, _, rfl, .inr (SqT.of (s1 _ _ hb)), _, _, rfl, rfl, _, rfl, iteN (decide_eq_false (by simp; omega)) ?_⟩
    refine ⟨_, rfl, b, rfl, ⟨_, SqT.of (s1 _ _ hb)⟩, fun D hD => ?_⟩
    refine lc_pure (wk_tup (xs := as.map vS)) (fun _ _ v => v = .bl true) hD (fun _ s => SqT.of (s _ _ (s1 _ _ hb))) (by simp; omega) (fun _ _ _ _ _ h => h) (fun j H2 Q1 hi s q => ?_) (fun H2 vs s hv hl ha => ?_)
    · obtain ⟨z, hz, _, e⟩ := mapS_get hi
      rw [e]
      have := joinC_mem hz
      exact ⟨_, rfl, rfl, z, rfl, o4 z hz, by omega, fun H' sm => q _ H' sm rfl⟩
    · exact all_fin hv ha (k _ (s1.trans s))
theorem sc_is_head : FnScope ["value", "params", "one"] ["value"] (defScope s_is_head) := ⟨rfl, rfl, rfl, by decide +kernel, rfl, by decide +kernel, by decide +kernel⟩
def sp_is_head (K : PySem.W.Frag) : Sp := fun vs H Q _ => vs.length = 1 ∧ ∃ x o, vs = [x] ∧ Dt H x (dH o) ∧ hOk o ∧ ∀ H', Same H H' → Q (.bl true) H'
theorem ok_is_head (T : Tx K mg) : Fn P w K mg base CX0 2 ("is_head", none) ["value"] (sp_is_head K) := by
  refine Fn.mk0 (d := d_is_head) T 7 rfl rfl rfl sc_is_head (fun _ _ _ _ _ _ us hl => match us, hl with | [_], _ => rfl) (fun vs H Q E h => h.1) (fun cdv A outer s H vs Q E hr h => ?_)
  have hu := hu_of hr
  have G_is_word : Fn P w K mg base CX0 1 ("is_word", none) ["value"] (sp_is_word K) := ok_is_word T
  refine ⟨_, (pss_cons (ps_if (PW.pt (pw_or (pt_not (pt_val (pe_callB call_isi rfl (T.free 55) (by decide +kernel) (pa_cons (pv 0) (pa_cons (pe_bt (T := "tuple") rfl (T.free 62) (by decide +kernel)) pa_nil))))) (pw_or (pt_cmpR op_ne (pe_callB call_len_seq rfl (T.free 59) (by decide +kernel) (pa_cons (pv 0) pa_nil)) pe_int (nomark _)) (pw_or1 (pt_not (pt_val (pc G_is_word (hr.mono (by decide)) rfl (T.glo 1) pass0 (pa_cons (pe_ix ix_tup (pv 0) pe_int (fun _ _ => rfl)) pa_nil)))))))) (pss_one (ps_ret pe_bl)) pss_nil) (pss_cons (ps_set (i := 1) sc_is_head.nd rfl (Or.inl rfl) (pe_ix ix_tup (pv 0) pe_int (fun _ _ => rfl))) (pss_cons (ps_if (PW.pt (pw_or (pt_not (pt_val (pe_callB call_isi rfl (T.free 55) (by decide +kernel) (pa_cons (pv 1) (pa_cons (pe_bt (T := "tuple") rfl (T.free 62) (by decide +kernel)) pa_nil))))) (pw_or (pt_cmpR op_gt (pe_callB call_len_seq rfl (T.free 59) (by decide +kernel) (pa_cons (pv 1) pa_nil)) (pe_gI rfl (T.int 52)) (nomark _)) (pw_or1 (pt_not (pt_val (pe_callB (cr_all rfl) rfl (T.free 60) (by decide +kernel) (pa_cons (pe_lc (own := [("one", 2)]) rfl sc_is_head.nd (pi_tup (pv 1)) (blkOk_by (N := ["value", "params", "one"]) (sc := defScope s_is_head) (by decide +kernel)) (fun _ _ _ _ _ => (pg_name (i := 2) sc_is_head.nd rfl (Or.inl rfl))) (fun _ _ _ _ _ => pts_nil) (fun _ _ _ _ _ => (pc G_is_word (hr.mono (by decide)) rfl (T.glo 1) pass0 (pa_cons (pv 2) pa_nil)))) pa_nil)))))))) (pss_one (ps_ret pe_bl)) pss_nil) (pss_cons (ps_if (PW.pt (pw_or (pt_cmpR op_ne (pe_lenT rfl rfl (T.free 59) rfl (T.free 63) (pv 1)) (pe_callB call_len_seq rfl (T.free 59) (by decide +kernel) (pa_cons (pv 1) pa_nil)) (nomark _)) (pw_or1 (pt_not (pt_val (pe_callB call_isi rfl (T.free 55) (by decide +kernel) (pa_cons (pe_ix ix_tup (pv 0) pe_int (fun _ _ => rfl)) (pa_cons (pe_bt (T := "bool") rfl (T.free 57) (by decide +kernel)) pa_nil)))))))) (pss_one (ps_ret pe_bl)) pss_nil) (pss_one (ps_ret (pe_or (pe_not (pe_ix ix_tup (pv 0) pe_int (fun _ _ => rfl))) (pe_one (pe_cmpR op_eq (pe_callB call_len_seq rfl (T.free 59) (by decide +kernel) (pa_cons (pv 1) pa_nil)) pe_int (nomark _)))))))))), ?_⟩
  obtain ⟨_, x, o, rfl, dt, ⟨o1, o2, o3, o4, o5⟩, k⟩ := h
  obtain ⟨a, b, rfl, ha, hb⟩ := dt.head_inv
  refine ⟨_, rfl, _, _, _, _, _, rfl, .ty _, .base (.tup ha), kit_ty kb_tt, _, rfl, iteN rfl ?_⟩
  refine ⟨_, rfl, _, _, rfl, .inr (SqT.of ha), rfl, _, rfl, iteN rfl ?_⟩
  refine ⟨_, rfl, _, _, _, _, rfl, rfl, SqT.of ha, rfl, rfl, o.name, rfl, o1, fun H1 s1 => ⟨_, rfl, iteN rfl ?_⟩⟩
  refine ⟨_, rfl, _, _, _, _, rfl, rfl, SqT.of (s1 _ _ ha), rfl, ?_⟩
  refine ⟨_, rfl, _, _, _, _, _, rfl, .ty _, .base (.tup (s1 _ _ hb)), kit_ty kb_tt, _, rfl, iteN rfl ?_⟩
  refine ⟨_, rfl, _, _, rfl, .inr (SqT.of (s1 _ _ hb)), _, _, rfl, rfl, _, rfl, iteN (decide_eq_false (by simp; omega)) ?_⟩
  refine ⟨_, rfl, b, rfl, ⟨_, SqT.of (s1 _ _ hb)⟩, fun D hD => ?_⟩
  refine lc_pure (wk_tup (xs := o.params.map vS)) (fun _ _ v => v = .bl true) hD (fun _ s => SqT.of (s _ _ (s1 _ _ hb))) (by simp; omega) (fun _ _ _ _ _ h => h) (fun j H2 Q1 hi s q => ?_) (fun H2 vs s hv hl hA => ?_)
  · obtain ⟨z, hz, _, e⟩ := mapS_get hi
    rw [e]
    exact ⟨_, rfl, rfl, z, rfl, o3 z hz, fun H' sm => q _ H' sm rfl⟩
  · have s2 := s1.trans s
    refine ⟨D, List.replicate vs.length true, rfl, all_sq hv hA, _, rfl, iteN (all_repN _) ?_⟩
    have hm : o.params.map vS = (o.params.map mkS).map V.str := by simp
    have nd : (o.params.map mkS).Nodup := List.pairwise_map.mpr (o4.imp fun h e => h (mkS_inj e))
    refine ⟨_, rfl, b, o.params.map mkS, rfl, by rw [← hm]; exact SqT.of (s2 _ _ hb), nd, by simp; omega, ?_⟩
    refine ⟨_, rfl, _, _, rfl, .inr (SqT.of (s2 _ _ hb)), rfl, _, rfl, iteN (by simp) ?_⟩
    refine ⟨_, rfl, _, _, _, _, rfl, rfl, SqT.of (s2 _ _ ha), rfl, _, _, _, _, _, rfl, .ty _, .base (.bl _), kit_ty kb_bb, _, rfl, iteN rfl ?_⟩
    refine ⟨_, rfl, _, _, _, _, rfl, rfl, SqT.of (s2 _ _ ha), rfl, _, rfl, _, rfl, ?_⟩
    cases e : o.isf with
    | false => exact iteY rfl (k _ s2)
    | true =>
      refine iteN rfl ⟨_, rfl, _, _, rfl, .inr (SqT.of (s2 _ _ hb)), rfl, ?_⟩
      rw [o5 e]
      exact k _ s2
theorem sc_is_section : FnScope ["value", "prose", "head", "code", "one"] ["value"] (defScope s_is_section) := ⟨rfl, rfl, rfl, by decide +kernel, rfl, by decide +kernel, by decide +kernel⟩
def sp_is_section (K : PySem.W.Frag) : Sp := fun vs H Q _ => vs.length = 1 ∧ ∃ x c, vs = [x] ∧ Dt H x (dC c) ∧ cOk c ∧ (txt (secRows 0 c)).length ≤ 1000000 ∧ ∀ H', Same H H' → Q (.bl true) H'
theorem ok_is_section (T : Tx K mg) : Fn P w K mg base CX0 5 ("is_section", none) ["value"] (sp_is_section K) := by
  refine Fn.mk0 (d := d_is_section) T 8 rfl rfl rfl sc_is_section (fun _ _ _ _ _ _ us hl => match us, hl with | [_], _ => rfl) (fun vs H Q E h => h.1) (fun cdv A outer s H vs Q E hr h => ?_)
  have hu := hu_of hr
  have G_is_code_line : Fn P w K mg base CX0 4 ("is_code_line", none) ["value"] (sp_is_code_line K) := ok_is_code_line T
  have G_is_head : Fn P w K mg base CX0 2 ("is_head", none) ["value"] (sp_is_head K) := ok_is_head T
  have G_is_line : Fn P w K mg base CX0 2 ("is_line", none) ["value"] (sp_is_line K) := ok_is_line T
  refine ⟨_, (pss_cons (ps_if (PW.pt (pw_or (pt_not (pt_val (pe_callB call_isi rfl (T.free 55) (by decide +kernel) (pa_cons (pv 0) (pa_cons (pe_bt (T := "tuple") rfl (T.free 62) (by decide +kernel)) pa_nil))))) (pw_or1 (pt_cmpR op_ne (pe_callB call_len_seq rfl (T.free 59) (by decide +kernel) (pa_cons (pv 0) pa_nil)) pe_int (nomark _))))) (pss_one (ps_ret pe_bl)) pss_nil) (pss_cons (ps_asg (pv 0) (pg_tup rfl (pgs_cons (pg_name (i := 1) sc_is_section.nd rfl (Or.inl rfl)) (pgs_cons (pg_name (i := 2) sc_is_section.nd rfl (Or.inl rfl)) (pgs_cons (pg_name (i := 3) sc_is_section.nd rfl (Or.inl rfl)) pgs_nil))))) (pss_cons (ps_if (PW.pt (pw_or (pt_not (pt_val (pe_callB call_isi rfl (T.free 55) (by decide +kernel) (pa_cons (pv 1) (pa_cons (pe_bt (T := "tuple") rfl (T.free 62) (by decide +kernel)) pa_nil))))) (pw_or (pt_not (pt_val (pe_callB call_isi rfl (T.free 55) (by decide +kernel) (pa_cons (pv 3) (pa_cons (pe_bt (T := "tuple") rfl (T.free 62) (by decide +kernel)) pa_nil))))) (pw_or1 (pt_not (pt_val (pe_callB (cr_all rfl) rfl (T.free 60) (by decide +kernel) (pa_cons (pe_lc (own := [("one", 4)]) rfl sc_is_section.nd (pi_tup (pv 1)) (blkOk_by (N := ["value", "prose", "head", "code", "one"]) (sc := defScope s_is_section) (by decide +kernel)) (fun _ _ _ _ _ => (pg_name (i := 4) sc_is_section.nd rfl (Or.inl rfl))) (fun _ _ _ _ _ => pts_nil) (fun _ _ _ _ _ => (pc G_is_line (hr.mono (by decide)) rfl (T.glo 3) pass0 (pa_cons (pv 4) pa_nil)))) pa_nil)))))))) (pss_one (ps_ret pe_bl)) pss_nil) (pss_cons (ps_if (pt_cmpR op_isN (pv 2) pe_non (nomark _)) (pss_one (ps_ret (pe_cmpR op_eq (pe_callB call_len_seq rfl (T.free 59) (by decide +kernel) (pa_cons (pv 3) pa_nil)) pe_int (nomark _)))) pss_nil) (pss_one (ps_ret (pe_and (pc G_is_head (hr.mono (by decide)) rfl (T.glo 6) pass0 (pa_cons (pv 2) pa_nil)) (pe_one (pe_callB (cr_all rfl) rfl (T.free 60) (by decide +kernel) (pa_cons (pe_lc (own := [("one", 4)]) rfl sc_is_section.nd (pi_tup (pv 3)) (blkOk_by (N := ["value", "prose", "head", "code", "one"]) (sc := defScope s_is_section) (by decide +kernel)) (fun _ _ _ _ _ => (pg_name (i := 4) sc_is_section.nd rfl (Or.inl rfl))) (fun _ _ _ _ _ => pts_nil) (fun _ _ _ _ _ => (pc G_is_code_line (hr.mono (by decide)) rfl (T.glo 5) pass0 (pa_cons (pv 4) pa_nil)))) pa_nil)))))))))), ?_⟩
  obtain ⟨_, x, c, rfl, dt, ⟨o1, o2, o3, o4⟩, hn, k⟩ := h
  obtain ⟨a, p, hv, q, cs, rfl, ha, hp, hh, hq, hcs⟩ := dt.sec_inv
  rw [sec_txt] at hn
  have np : c.prose.length ≤ 1000000 := by
    have := txt_ge (proseRows 0 0 c.prose)
    rw [proseRows_len] at this
    omega
  have nc : cs.length ≤ 1000000 := by
    have := txt_ge (codeRows 0 0 c.code)
    rw [codeRows_len] at this
    rw [hcs.map_len]
    omega
  refine ⟨_, rfl, _, _, _, _, _, rfl, .ty _, .base (.tup ha), kit_ty kb_tt, _, rfl, iteN rfl ?_⟩
  refine ⟨_, rfl, _, _, rfl, .inr (SqT.of ha), rfl, _, rfl, iteN rfl ?_⟩
  refine ⟨_, rfl, _, _, rfl, SqT.of ha, rfl, _, _, rfl, _, _, rfl, _, _, rfl, rfl, ?_⟩
  refine ⟨_, rfl, _, _, _, _, _, rfl, .ty _, .base (.tup hp), kit_ty kb_tt, _, rfl, iteN rfl ?_⟩
  refine ⟨_, rfl, _, _, _, _, _, rfl, .ty _, .base (.tup hq), kit_ty kb_tt, _, rfl, iteN rfl ?_⟩
  refine ⟨_, rfl, p, rfl, ⟨_, SqT.of hp⟩, fun D hD => ?_⟩
  refine lc_pure (wk_tup (xs := c.prose.map vS)) (fun _ _ v => v = .bl true) hD (fun _ s => SqT.of (s _ _ hp)) (by simp; omega) (fun _ _ _ _ _ h => h) (fun j H2 Q1 hi s q => ?_) (fun H2 vs s hw hl hA => ?_)
  · obtain ⟨z, hz, _, e⟩ := mapS_get hi
    rw [e]
    have := prose_mem 0 0 hz
    exact ⟨_, rfl, rfl, z, rfl, o1 z hz, by omega, fun H' sm => q _ H' sm rfl⟩
  · refine ⟨D, List.replicate vs.length true, rfl, all_sq hw hA, _, rfl, iteN (all_repN _) ?_⟩
    obtain ⟨pr, hd, cd⟩ := c
    cases hd with
    | none =>
      obtain rfl := hh.none_inv
      refine ⟨_, rfl, rfl, _, rfl, iteY rfl ?_⟩
      refine ⟨_, rfl, _, _, rfl, .inr (SqT.of (s _ _ hq)), rfl, ?_⟩
      have e : cs = [] := List.length_eq_zero_iff.mp (by rw [hcs.map_len, o2 rfl]; rfl)
      subst e
      exact k _ s
    | some o =>
      obtain ⟨b1, b2, rfl, _, _⟩ := Dt.head_inv hh
      refine ⟨_, rfl, rfl, _, rfl, iteN rfl ?_⟩
      refine ⟨_, rfl, rfl, _, o, rfl, Dt.mono (sm_kt s) _ _ hh, o3 o rfl, fun H3 s3 => ⟨_, rfl, iteY rfl ?_⟩⟩
      have s4 := s.trans s3
      refine ⟨_, rfl, q, rfl, ⟨_, SqT.of (s4 _ _ hq)⟩, fun D hD => ?_⟩
      refine lc_pure (wk_tup (xs := cs)) (fun _ _ v => v = .bl true) hD (fun _ s => SqT.of (s _ _ (s4 _ _ hq))) nc (fun _ _ _ _ _ h => h) (fun j H2 Q1 hi s5 q => ?_) (fun H2 vs s5 hw hl hA => ?_)
      · obtain ⟨z, hz, _, e⟩ := (DtAll.mono (sm_kt (s4.trans s5)) _ _ hcs).getD hi
        have := code_mem 0 0 hz
        exact ⟨_, rfl, rfl, _, z, rfl, e, o4 z hz, by omega, fun H' sm => q _ H' sm rfl⟩
      · exact all_fin hw hA (k _ (s4.trans s5))
theorem sc_heads_of : FnScope ["web", "heads", "_", "head"] ["web"] (defScope s_heads_of) := ⟨rfl, rfl, rfl, by decide +kernel, rfl, by decide +kernel, by decide +kernel⟩
def sp_heads_of (K : PySem.W.Frag) : Sp := fun vs H Q _ => vs.length = 1 ∧ ∃ x w, vs = [x] ∧ Dt H x (dW w) ∧ w.length ≤ 1000000 ∧ ∀ p kvs H', Same H H' → H' p = some (.dK kvs) → HdsAt H' kvs (heads w) → Q (.ref p) H'
theorem ok_heads_of (T : Tx K mg) : Fn P w K mg base CX0 1 ("heads_of", none) ["web"] (sp_heads_of K) := by
  refine Fn.mk0 (d := d_heads_of) T 9 rfl rfl rfl sc_heads_of (fun _ _ _ _ _ _ us hl => match us, hl with | [_], _ => rfl) (fun vs H Q E h => h.1) (fun cdv A outer s H vs Q E hr h => ?_)
  have hu := hu_of hr
  refine ⟨_, (pss_cons (ps_set (i := 1) sc_heads_of.nd rfl (Or.inl rfl) pe_dnewK) (pss_cons (ps_for PassesOwn.never rfl (pi_tup (pv 0)) (pg_tup rfl (pgs_cons (pg_name (i := 2) sc_heads_of.nd rfl (Or.inl rfl)) (pgs_cons (pg_name (i := 3) sc_heads_of.nd rfl (Or.inl rfl)) (pgs_cons (pg_name (i := 2) sc_heads_of.nd rfl (Or.inl rfl)) pgs_nil)))) (pss_one (ps_if (PW.pt (pw_and (pt_cmpR op_notN (pv 3) pe_non (nomark _)) (pw_and1 (pt_cmp (pc_dnotin hu (pe_ix ix_tup (pv 3) pe_int (fun _ _ => rfl)) (pv 1)))))) (pss_one (ps_dput hu (pv 1) (pe_ix ix_tup (pv 3) pe_int (fun _ _ => rfl)) (pv 3) rfl)) pss_nil))) (pss_one (ps_ret (pv 1))))), ?_⟩
  obtain ⟨_, x, ss, rfl, dt, hn, k⟩ := h
  obtain ⟨a, xs, rfl, ha, hxs⟩ := dt.tup_inv
  refine fun p hp => ?_
  refine ⟨_, rfl, a, rfl, ⟨_, SqT.of (sm_new hp _ _ ha)⟩, ?_⟩
  refine for_it (wk_tup (xs := xs)) (fun i σ H1 => ∃ (u v : Option V) (kvs : List (Key × V)), σ = [some (.ref a), some (.ref p), u, v] ∧ Same H H1 ∧ H1 p = some (.dK kvs) ∧ HdsAt H1 kvs (heads (ss.take i)) ∧ kvs.length ≤ i) ?_ (fun i σ H1 _ ⟨u, v, kvs, _, s, _⟩ => SqT.of (s _ _ ha)) ?_ ?_
  · exact ⟨none, none, [], rfl, sm_new hp, upd_same, HdsAt.nil, Nat.le_refl _⟩
  · rintro i y σ H1 H2 hi ⟨u, v, kvs, rfl, s, hk, hd, hl⟩ ⟨rfl, rfl⟩
    obtain ⟨c, hc, hci, dc⟩ := (DtAll.mono (sm_kt s) _ _ hxs).getD hi
    obtain ⟨b, p1, hv, q, cs, e, hb, hp1, hh, hq, hcs⟩ := dc.sec_inv
    rw [e]
    have ft := filter_take Sc.head ss i c hci
    refine ⟨_, _, rfl, SqT.of hb, rfl, _, _, rfl, _, _, rfl, _, _, rfl, rfl, ?_⟩
    obtain ⟨pr, ho, cd⟩ := c
    have hil : i < ss.length := (List.getElem?_eq_some_iff.mp hci).1
    cases ho with
    | none =>
      obtain rfl := hh.none_inv
      refine ⟨_, rfl, rfl, _, rfl, iteN rfl (iteN rfl ?_)⟩
      refine ⟨_, _, kvs, rfl, s, hk, ?_, by omega⟩
      have ft2 : heads (ss.take (i + 1)) = heads (ss.take i) := by
        unfold heads
        rw [ft]
        simp
      rw [ft2]
      exact hd
    | some o =>
      obtain ⟨b1, b2, rfl, h1, h2⟩ := Dt.head_inv hh
      have ft2 : heads (ss.take (i + 1)) = heads (ss.take i) ++ [o] := by
        unfold heads
        rw [ft]
        rfl
      refine ⟨_, rfl, rfl, _, rfl, iteY rfl ?_⟩
      refine ⟨_, rfl, _, _, _, _, rfl, rfl, SqT.of h1, rfl, _, rfl, p, _, rfl, DGet.k (k := Sum.inr (mkS o.name)) hk, _, rfl, ?_⟩
      cases ef : first (heads (ss.take i)) o.name with
      | some g =>
        obtain ⟨v0, e0, _⟩ := hd.some ef
        refine iteN (by rw [e0]; rfl) ⟨_, _, kvs, rfl, s, hk, ?_, by omega⟩
        rw [ft2]
        exact hd.old ef
      | none =>
        refine iteY (by rw [hd.none ef]; rfl) ?_
        refine ⟨_, rfl, _, rfl, _, rfl, _, _, _, _, rfl, rfl, SqT.of h1, rfl, p, _, rfl, DPut.k (k := Sum.inr (mkS o.name)) hk (sz_lt (by omega)), ?_⟩
        have ntp : NT H2 p := fun ys z => by rw [hk] at z; cases z
        refine ⟨_, _, _, rfl, sm_mut s hp, upd_same, ?_, Nat.le_trans (put_len _ _ _) (by omega)⟩
        rw [ft2]
        exact (hd.put ef (h := o) hh).mono (KT.up ntp)
  · rintro σ H1 ⟨u, v, kvs, rfl, s, hk, hd, hl⟩
    refine ⟨_, rfl, k p kvs H1 s hk ?_⟩
    rw [hxs.map_len, List.take_length] at hd
    exact hd
theorem sc_is_web : FnScope ["value", "heads", "one", "_", "head"] ["value"] (defScope s_is_web) := ⟨rfl, rfl, rfl, by decide +kernel, rfl, by decide +kernel, by decide +kernel⟩
theorem wOk_let {w : Ws} (h : wOk w) : ∀ c ∈ w, isLet c = true := h.2.2
theorem hOk_let {h : Hd} (o : hOk h) : hL h := fun w hw => by
  simp at hw
  rcases hw with rfl | hw
  · exact o.1.2.2
  · exact (o.2.2.1 _ hw).2.2
def sp_is_web (K : PySem.W.Frag) : Sp := fun vs H Q _ => vs.length = 1 ∧ ∃ x w, vs = [x] ∧ Dt H x (dW w) ∧ webOk w ∧ (webTxt w).length ≤ 1000000 ∧ ∀ H', Same H H' → Q (.bl true) H'
theorem ok_is_web (T : Tx K mg) : Fn P w K mg base CX0 6 ("is_web", none) ["value"] (sp_is_web K) := by
  refine Fn.mk0 (d := d_is_web) T 10 rfl rfl rfl sc_is_web (fun _ _ _ _ _ _ us hl => match us, hl with | [_], _ => rfl) (fun vs H Q E h => h.1) (fun cdv A outer s H vs Q E hr h => ?_)
  have hu := hu_of hr
  have G_heads_of : Fn P w K mg base CX0 1 ("heads_of", none) ["web"] (sp_heads_of K) := ok_heads_of T
  have G_is_section : Fn P w K mg base CX0 5 ("is_section", none) ["value"] (sp_is_section K) := ok_is_section T
  refine ⟨_, (pss_cons (ps_if (PW.pt (pw_or (pt_not (pt_val (pe_callB call_isi rfl (T.free 55) (by decide +kernel) (pa_cons (pv 0) (pa_cons (pe_bt (T := "tuple") rfl (T.free 62) (by decide +kernel)) pa_nil))))) (pw_or1 (pt_not (pt_val (pe_callB (cr_all rfl) rfl (T.free 60) (by decide +kernel) (pa_cons (pe_lc (own := [("one", 2)]) rfl sc_is_web.nd (pi_tup (pv 0)) (blkOk_by (N := ["value", "heads", "one", "_", "head"]) (sc := defScope s_is_web) (by decide +kernel)) (fun _ _ _ _ _ => (pg_name (i := 2) sc_is_web.nd rfl (Or.inl rfl))) (fun _ _ _ _ _ => pts_nil) (fun _ _ _ _ _ => (pc G_is_section (hr.mono (by decide)) rfl (T.glo 7) pass0 (pa_cons (pv 2) pa_nil)))) pa_nil))))))) (pss_one (ps_ret pe_bl)) pss_nil) (pss_cons (ps_set (i := 1) sc_is_web.nd rfl (Or.inr rfl) (pc G_heads_of (hr.mono (by decide)) rfl (T.glo 8) pass0 (pa_cons (pv 0) pa_nil))) (pss_one (ps_ret (pe_callB (cr_all rfl) rfl (T.free 60) (by decide +kernel) (pa_cons (pe_lc (own := [("_", 3), ("head", 4)]) rfl sc_is_web.nd (pi_tup (pv 0)) (blkOk_by (N := ["value", "heads", "one", "_", "head"]) (sc := defScope s_is_web) (by decide +kernel)) (fun _ _ _ _ _ => (pg_tupK (K := K) (n := 3) rfl rfl (pgs_cons (pg_name (i := 3) sc_is_web.nd rfl (Or.inl rfl)) (pgs_cons (pg_name (i := 4) sc_is_web.nd rfl (Or.inl rfl)) (pgs_cons (pg_name (i := 3) sc_is_web.nd rfl (Or.inl rfl)) pgs_nil))))) (fun _ _ _ _ _ => pts_nil) (fun _ _ _ _ _ => (pe_or (pe_cmpR op_isN (pv 4) pe_non (nomark _)) (pe_one (pe_cmpR (op_eqDK (K := K) rfl hr.units) (pe_dget hu (pv 1) (pe_ix (ix_tupK (K := K) rfl) (pv 4) pe_int (fun _ _ => rfl)) (fun _ _ => rfl)) (pv 4) (nomark _)))))) pa_nil)))))), ?_⟩
  obtain ⟨_, x, ss, rfl, dt, ⟨o1, o2⟩, hn, k⟩ := h
  obtain ⟨a, xs, rfl, ha, hxs⟩ := dt.tup_inv
  have hn : (txt (rowsFrom 0 ss)).length ≤ 1000000 := hn
  have hl := web_len ss 0
  have hxl := hxs.map_len
  refine ⟨_, rfl, _, _, _, _, _, rfl, .ty _, .base (.tup ha), kit_ty kb_tt, _, rfl, iteN rfl ?_⟩
  refine ⟨_, rfl, a, rfl, ⟨_, SqT.of ha⟩, fun D hD => ?_⟩
  refine lc_pure (wk_tup (xs := xs)) (fun _ _ v => v = .bl true) hD (fun _ s => SqT.of (s _ _ ha)) (by omega) (fun _ _ _ _ _ h => h) (fun j H2 Q1 hi s q => ?_) (fun H2 vs s hw _ hA => ?_)
  · obtain ⟨z, hz, _, e⟩ := (DtAll.mono (sm_kt s) _ _ hxs).getD hi
    have := web_sec ss 0 hz
    exact ⟨_, rfl, rfl, _, z, rfl, e, o1 z hz, by omega, fun H' sm => q _ H' sm rfl⟩
  · refine ⟨D, List.replicate vs.length true, rfl, all_sq hw hA, _, rfl, iteN (all_repN _) ?_⟩
    refine ⟨_, rfl, rfl, _, ss, rfl, Dt.mono (sm_kt s) _ _ dt, by omega, fun p kvs H3 s3 hp hd => ?_⟩
    have s4 := s.trans s3
    refine ⟨_, rfl, a, rfl, ⟨_, SqT.of (s4 _ _ ha)⟩, fun D hD => ?_⟩
    refine lc_gen (wk_tup (xs := xs)) (fun _ _ v => v = .bl true) hD (fun _ s => SqT.of (s _ _ (s4 _ _ ha))) (by omega) (fun _ _ _ _ _ h => h) (fun j y H4 H5 Q1 hi s5 e q => ?_) (fun H2 vs s5 hw hl hA => ?_)
    · obtain ⟨rfl, rfl⟩ := e
      obtain ⟨c, hc, hci, dc⟩ := (DtAll.mono (sm_kt (s4.trans s5)) _ _ hxs).getD hi
      obtain ⟨b, p1, hv, qa, cs, e, hb, hp1, hh, hq, hcs⟩ := dc.sec_inv
      rw [e]
      refine ⟨_, _, rfl, SqT.of hb, rfl, _, _, rfl, _, _, rfl, _, _, rfl, rfl, rfl, ?_⟩
      obtain ⟨pr, ho, cd⟩ := c
      cases ho with
      | none =>
        obtain rfl := hh.none_inv
        exact ⟨_, rfl, rfl, _, rfl, iteY rfl (q _ _ (Same.refl _) rfl)⟩
      | some o =>
        obtain ⟨b1, b2, rfl, h1, h2⟩ := Dt.head_inv hh
        refine ⟨_, rfl, rfl, _, rfl, iteN rfl ?_⟩
        have hm : o ∈ heads ss := List.mem_filterMap.mpr ⟨_, hc, rfl⟩
        obtain ⟨v0, e0, d0⟩ := hd.some (first_self hm fun a ha b hb => o2 a ha b hb)
        have hL0 := shaped_dH (hOk_let ((o1 _ hc).2.2.1 o rfl))
        refine ⟨_, rfl, _, rfl, _, _, _, _, rfl, rfl, SqT.of h1, rfl, p, _, rfl, DGet_at (n := o.name) (s5 _ _ hp) e0, ?_⟩
        refine ⟨_, rfl, _, _, Dt.dp _ _ (Dt.mono (sm_kt s5) _ _ d0), Dt.dp (dH o) _ hh, hL0, hL0, ?_⟩
        rw [eqv_dH, decide_eq_true rfl]
        exact q _ _ (Same.refl _) rfl
    · exact all_fin hw hA (k _ (s4.trans s5))
theorem sc_need_web : FnScope ["value"] ["value"] (defScope s_need_web) := ⟨rfl, rfl, rfl, by decide +kernel, rfl, by decide +kernel, by decide +kernel⟩
def sp_need_web (K : PySem.W.Frag) : Sp := fun vs H Q _ => vs.length = 1 ∧ ∃ x w, vs = [x] ∧ Dt H x (dW w) ∧ webOk w ∧ (webTxt w).length ≤ 1000000 ∧ ∀ H', Same H H' → Q x H'
theorem ok_need_web (T : Tx K mg) : Fn P w K mg base CX0 7 ("need_web", none) ["value"] (sp_need_web K) := by
  refine Fn.mk0 (d := d_need_web) T 11 rfl rfl rfl sc_need_web (fun _ _ _ _ _ _ us hl => match us, hl with | [_], _ => rfl) (fun vs H Q E h => h.1) (fun cdv A outer s H vs Q E hr h => ?_)
  have hu := hu_of hr
  have G_is_web : Fn P w K mg base CX0 6 ("is_web", none) ["value"] (sp_is_web K) := ok_is_web T
  refine ⟨_, (pss_cons (ps_if (pt_not (pt_val (pc G_is_web (hr.mono (by decide)) rfl (T.glo 9) pass0 (pa_cons (pv 0) pa_nil)))) (pss_one ps_never) pss_nil) (pss_one (ps_ret (pv 0)))), ?_⟩
  obtain ⟨_, x, ss, rfl, dt, o, hn, k⟩ := h
  exact ⟨_, rfl, rfl, _, ss, rfl, dt, o, hn, fun H' s => ⟨_, rfl, iteN rfl ⟨_, rfl, k H' s⟩⟩⟩
end
end Kn

set_option maxHeartbeats 4000000
/-! Rows as data; joins; concatenation of texts. -/
namespace Kn
open PySem PySem.Spec PyProof.Rows L2 KnR
/-! ### concatenation -/
theorem ap (a b : Ws) : V.str (mkS a ++ mkS b) = V.str (mkS (a ++ b)) := congrArg V.str (mkS_app a b)
theorem addOk {a b : Ws} (h : a.length + b.length ≤ 1000000) : (mkS a).length + (mkS b).length ≤ sizeLine := by
  rw [mkS_len, mkS_len]
  exact sz_ok h
theorem lt_eq : ("=" : Str) = mkS [61] := by decide +kernel
theorem lt_star : ("*" : Str) = mkS [42] := by decide +kernel
theorem lt_lp : ("(" : Str) = mkS [40] := by decide +kernel
theorem lt_rp : (")" : Str) = mkS [41] := by decide +kernel
theorem lt_com : ("," : Str) = mkS [44] := by decide +kernel
theorem lt_bar : ("|" : Str) = mkS [124] := by decide +kernel
theorem lt_gt : (">" : Str) = mkS [62] := by decide +kernel
theorem lt_dot : ("." : Str) = mkS [46] := by decide +kernel
theorem lt_at : ("@" : Str) = mkS [64] := by decide +kernel
theorem lt_nl : ("\n" : Str) = mkS [10] := by decide +kernel
abbrev cS {a b : Str} (h : a = b) : V.str a = V.str b := congrArg V.str h
theorem mul_blank (i : Nat) : (⟨(List.replicate ((i : Nat) : Int).toNat (" " : Str).cps.toList).flatten.toArray⟩ : Str) = mkS (List.replicate i 32) := by
  rw [str_blank, cps_mkS]
  unfold mkS
  congr 2
  rw [Int.toNat_natCast]
  induction i with
  | zero => rfl
  | succ n ih => rw [List.replicate_succ, List.flatten_cons, ih, List.replicate_succ]; rfl
/-! ### joins -/
theorem joinL_comma : ∀ as : List Ws, TL.joinL [44] as = joinC as
  | [] => rfl
  | [_] => rfl
  | a :: b :: r => by
    show a ++ ([44] ++ TL.joinL [44] (b :: r)) = a ++ 44 :: joinC (b :: r)
    rw [joinL_comma (b :: r)]
    rfl
theorem joinL_nil : ∀ as : List Ws, TL.joinL [] as = as.flatten
  | [] => rfl
  | [a] => by simp [TL.joinL]
  | a :: b :: r => by
    show a ++ ([] ++ TL.joinL [] (b :: r)) = a ++ (b :: r).flatten
    rw [joinL_nil (b :: r)]
    rfl
theorem map_mkS_tl (l : List Ws) : (l.map mkS).map TL.tl = l := by
  rw [List.map_map]
  exact (List.map_congr_left fun a _ => tl_mkS a).trans (List.map_id l)
theorem join_mkS (a : Ws) (ys : List Ws) : Txt.join (mkS a) (ys.map mkS) = mkS (TL.joinL a ys) := by
  have e := TL.tl_join (mkS a) (ys.map mkS)
  rw [map_mkS_tl] at e
  exact TL.ext_tl ((congrArg TL.tl (TL.join_eq (mkS a) (ys.map mkS))).trans e)
theorem join_comma (ys : List Ws) : Txt.join ("," : Str) (ys.map mkS) = mkS (joinC ys) := by rw [lt_com, join_mkS, joinL_comma]
theorem join_none (ys : List Ws) : Txt.join ("" : Str) (ys.map mkS) = mkS ys.flatten := by rw [str_nil, join_mkS, joinL_nil]
theorem len_map (ys : List Ws) : (ys.map mkS).map (·.length) = ys.map (·.length) := by
  rw [List.map_map]
  exact List.map_congr_left fun a _ => mkS_len a
theorem joinC_sum : ∀ as : List Ws, (as.map (·.length)).sum + as.length ≤ (joinC as).length + 1
  | [] => by simp
  | [a] => by simp [joinC]
  | a :: b :: r => by
    have := joinC_sum (b :: r)
    simp [joinC] at this ⊢
    omega
theorem joinOk {ys : List Ws} (h : (joinC ys).length ≤ 1000000) : ((ys.map mkS).map (·.length)).sum + (ys.map mkS).length * ("," : Str).length ≤ 16777216 := by
  rw [len_map, lt_com, mkS_len, List.length_map]
  have := joinC_sum ys
  simp at this ⊢
  omega
theorem flat_sum (ys : List Ws) : ys.flatten.length = (ys.map (·.length)).sum := by simp [List.length_flatten]
theorem joinOk0 {ys : List Ws} (h : ys.flatten.length ≤ 1000000) : ((ys.map mkS).map (·.length)).sum + (ys.map mkS).length * ("" : Str).length ≤ 16777216 := by
  rw [flat_sum] at h
  rw [len_map, str_nil, mkS_len]
  simp at h ⊢
  omega
theorem sqS {K : PySem.W.Frag} {H : Hp} {b : Addr} {l : List Ws} (h : H b = some (.tup (l.map vS))) : SqT K H b ((l.map mkS).map V.str) := by
  have e : (l.map mkS).map V.str = l.map vS := by rw [List.map_map]; rfl
  rw [e]
  exact SqT.of h
theorem sqL {K : PySem.W.Frag} {H : Hp} {b : Addr} {l : List Ws} (h : H b = some (.lst (l.map vS))) : SqL K H b ((l.map mkS).map V.str) := by
  have e : (l.map mkS).map V.str = l.map vS := by rw [List.map_map]; rfl
  rw [e]
  exact SqL.of h
/-! ### rows as data -/
def kindS : Nat → Str
  | 0 => "section"
  | 1 => "prose"
  | 2 => "head"
  | _ => "code"
def dR (r : Rw) : PyData := .tuple [.int (r.sec : Nat), .str (kindS r.kind), .int (r.num : Nat), dS r.line]
def rowV (r : Rw) : List V := [.int (r.sec : Nat), .str (kindS r.kind), .int (r.num : Nat), vS r.line]
section
variable {H H0 : Hp} {v : V}
theorem Dt.row_inv {r : Rw} (h : Dt H v (dR r)) : ∃ a, v = .ref a ∧ H a = some (.tup (rowV r)) := by
  obtain ⟨a, xs, e, h1, h2⟩ := h.tup_inv
  cases h2 with
  | cons q1 h2 =>
    cases h2 with
    | cons q2 h2 =>
      cases h2 with
      | cons q3 h2 =>
        cases h2 with
        | cons q4 h2 =>
          cases h2
          rw [q1.int_inv, q2.str_inv, q3.int_inv, q4.str_inv] at h1
          exact ⟨a, e, h1⟩
theorem Dt.row_mk {r : Rw} {a : Addr} (h : H a = some (.tup (rowV r))) : Dt H (.ref a) (dR r) := .tup h (.cons (.int _) (.cons (.str _) (.cons (.int _) (.cons (.str _) .nil))))
/-- the list of rows at p, new since H0 -/
structure RowsAt (H0 H : Hp) (p : Addr) (rs : List V) (rows : List Rw) : Prop where
  new : H0 p = none
  sm : Same H0 H
  lst : H p = some (.lst rs)
  dt : DtAll H rs (rows.map dR)
theorem RowsAt.len {p : Addr} {rs : List V} {rows : List Rw} (h : RowsAt H0 H p rs rows) : rs.length = rows.length := h.dt.map_len
theorem RowsAt.up {H' : Hp} {p : Addr} {rs : List V} {rows : List Rw} (h : RowsAt H0 H p rs rows) (s : Same H H') : RowsAt H0 H' p rs rows := ⟨h.new, h.sm.trans s, s _ _ h.lst, DtAll.mono (sm_kt s) _ _ h.dt⟩
theorem RowsAt.ext {p : Addr} {rs zs : List V} {rows more : List Rw} (h : RowsAt H0 H p rs rows) (hz : DtAll H zs (more.map dR)) : RowsAt H0 (upd H p (.lst (rs ++ zs))) p (rs ++ zs) (rows ++ more) := by
  have kt : KT H (upd H p (.lst (rs ++ zs))) := KT.up (NT.lst h.lst)
  refine ⟨h.new, sm_mut h.sm h.new, upd_same, DtAll.of_get ?_ ?_⟩
  · rw [List.length_append, List.length_append, h.len, hz.map_len]
  · intro i x y hx hy
    by_cases c : i < rs.length
    · rw [List.getElem?_append_left c] at hx
      rw [List.getElem?_append_left (by rw [← h.len]; exact c)] at hy
      obtain ⟨y', hy', d⟩ := h.dt.map_get hx
      rw [hy] at hy'
      cases hy'
      exact Dt.mono kt _ _ d
    · rw [List.getElem?_append_right (by omega)] at hx
      rw [List.getElem?_append_right (by rw [← h.len]; omega)] at hy
      obtain ⟨y', hy', d⟩ := hz.map_get hx
      rw [h.len, hy] at hy'
      cases hy'
      exact Dt.mono kt _ _ d
theorem RowsAt.app {p t : Addr} {rs : List V} {rows : List Rw} (h : RowsAt H0 H p rs rows) (r : Rw) (ht : H t = none) : RowsAt H0 (upd (upd H t (.tup (rowV r))) p (.lst (rs ++ [.ref t]))) p (rs ++ [.ref t]) (rows ++ [r]) := by
  have h2 := h.up (sm_new (o := .tup (rowV r)) ht)
  exact h2.ext (.cons (Dt.row_mk upd_same) .nil)
end
theorem rows_take_len (w : List Sc) (j : Nat) : (rowsOf (w.take j)).length ≤ (rowsOf w).length := by
  have e := rows_append (w.take j) (w.drop j) 0
  rw [List.take_append_drop] at e
  rw [rowsOf, rowsOf, e, List.length_append]
  omega
theorem rows_take {w : List Sc} {i : Nat} {s : Sc} (h : w[i]? = some s) : rowsOf (w.take (i + 1)) = rowsOf (w.take i) ++ secRows i s := by
  have hi := (List.getElem?_eq_some_iff.mp h).1
  rw [List.take_succ, h]
  have e := rows_snoc (w.take i) s
  rw [List.length_take, Nat.min_eq_left (by omega)] at e
  exact e
/-- a list of known values -/
theorem eq_map {α : Type} {f : α → V} : ∀ {l : List α} {vs : List V}, vs.length = l.length → (∀ (i : Nat) (v : V) (y : α), vs[i]? = some v → l[i]? = some y → v = f y) → vs = l.map f
  | [], [], _, _ => rfl
  | [], _ :: _, e, _ => by cases e
  | _ :: _, [], e, _ => by cases e
  | y :: l, v :: vs, e, h => by
    rw [List.map_cons, ← h 0 v y rfl rfl, ← eq_map (l := l) (vs := vs) (by simpa using e) fun i a b h1 h2 => h (i + 1) a b (by simpa using h1) (by simpa using h2)]
/-- where the rows begin -/
def offs : Nat → List Rw → List Nat
  | _, [] => []
  | n, r :: rs => n :: offs (n + (r.line.length + 1)) rs
theorem offs_len : ∀ (rs : List Rw) (n : Nat), (offs n rs).length = rs.length
  | [], _ => rfl
  | r :: rs, n => by simp [offs, offs_len rs]
theorem offs_snoc (r : Rw) : ∀ (rs : List Rw) (n : Nat), offs n (rs ++ [r]) = offs n rs ++ [n + (txt rs).length]
  | [], n => by simp [offs, txt_nil]
  | x :: rs, n => by
    show n :: offs _ (rs ++ [r]) = _
    rw [offs_snoc r rs, txt_cons]
    simp [offs]
    omega
theorem txt_snoc (rs : List Rw) (r : Rw) : (txt (rs ++ [r])).length = (txt rs).length + (r.line.length + 1) := by
  rw [txt_append, txt_cons, txt_nil]
  simp
theorem txt_take (rs : List Rw) (i : Nat) : (txt (rs.take i)).length ≤ (txt rs).length := by
  have e := txt_append (rs.take i) (rs.drop i)
  rw [List.take_append_drop] at e
  rw [e, List.length_append]
  omega
/-- indents that can be written -/
def iOk : Ln → Prop
  | .plain _ => True
  | .use i _ _ => i ≤ 20
def wI (w : List Sc) : Prop := ∀ s ∈ w, ∀ c ∈ s.code, iOk c
theorem lOk_i {c : Ln} (h : lOk c) : iOk c := by
  cases c with
  | plain _ => trivial
  | use i n as => exact h.1
theorem webOk_i {w : List Sc} (h : webOk w) : wI w := fun s hs c hc => lOk_i ((h.1 s hs).2.2.2 c hc)
end Kn

set_option maxHeartbeats 4000000
/-! The written form of a web. -/
namespace Kn
open PySem PySem.Spec PyProof.Rows L2 KnR
section
variable {P : Program} {w : World} {K : PySem.W.Frag} {mg : Str → Option Value} {base : Heap}
theorem sc_head_text : FnScope ["head", "name", "params", "is_file"] ["head"] (defScope s_head_text) := ⟨rfl, rfl, rfl, by decide +kernel, rfl, by decide +kernel, by decide +kernel⟩
def sp_head_text (K : PySem.W.Frag) : Sp := fun vs H Q _ => vs.length = 1 ∧ ∃ x o, vs = [x] ∧ Dt H x (dH o) ∧ (hdTxt o).length ≤ 1000000 ∧ Q (vS (hdTxt o)) H
theorem ok_head_text (T : Tx K mg) : Fn P w K mg base CX0 1 ("head_text", none) ["head"] (sp_head_text K) := by
  refine Fn.mk0 (d := d_head_text) T 12 rfl rfl rfl sc_head_text (fun _ _ _ _ _ _ us hl => match us, hl with | [_], _ => rfl) (fun vs H Q E h => h.1) (fun cdv A outer s H vs Q E hr h => ?_)
  have hu := hu_of hr
  refine ⟨_, (pss_cons (ps_asg (pv 0) (pg_tup rfl (pgs_cons (pg_name (i := 1) sc_head_text.nd rfl (Or.inl rfl)) (pgs_cons (pg_name (i := 2) sc_head_text.nd rfl (Or.inl rfl)) (pgs_cons (pg_name (i := 3) sc_head_text.nd rfl (Or.inl rfl)) pgs_nil))))) (pss_one (ps_ret (pe_op op_add_str (pe_op op_add_str (pe_op op_add_str (pe_op op_add_str (pe_ifExp (pt_val (pv 3)) pe_str pe_str) (pv 1)) pe_str) (pe_join pe_str (pv 2))) pe_str)))), ?_⟩
  obtain ⟨_, x, o, rfl, dt, hn, k⟩ := h
  obtain ⟨a, b, rfl, ha, hb⟩ := dt.head_inv
  rw [hd_len] at hn
  refine ⟨_, rfl, _, _, rfl, SqT.of ha, rfl, _, _, rfl, _, _, rfl, _, _, rfl, rfl, ?_⟩
  refine ⟨_, rfl, _, rfl, ?_⟩
  have fin : ∀ d : Nat, d = (if o.isf then 42 else 61) → [d] ++ o.name ++ [40] ++ joinC o.params ++ [41] = hdTxt o := fun d e => by
    unfold hdTxt
    rw [← e]
    simp
  cases e : o.isf with
  | true =>
    have f := fin 42 (by rw [e]; rfl)
    refine iteY rfl ?_
    refine ⟨_, rfl, mkS [42], mkS o.name, cS lt_star, rfl, addOk (by simp; omega), mkS ([42] ++ o.name), mkS [40], ap _ _, cS lt_lp, addOk (by simp; omega), ⟨_, rfl⟩, _, rfl, _, b, o.params.map mkS, rfl, rfl, .inr (sqS hb), joinOk (by omega), ?_⟩
    refine ⟨mkS ([42] ++ o.name ++ [40]), mkS (joinC o.params), ap _ _, cS (join_comma _), addOk (by simp; omega), mkS ([42] ++ o.name ++ [40] ++ joinC o.params), mkS [41], ap _ _, cS lt_rp, addOk (by simp; omega), ?_⟩
    rw [mkS_app, f]
    exact k
  | false =>
    have f := fin 61 (by rw [e]; rfl)
    refine iteN rfl ?_
    refine ⟨_, rfl, mkS [61], mkS o.name, cS lt_eq, rfl, addOk (by simp; omega), mkS ([61] ++ o.name), mkS [40], ap _ _, cS lt_lp, addOk (by simp; omega), ⟨_, rfl⟩, _, rfl, _, b, o.params.map mkS, rfl, rfl, .inr (sqS hb), joinOk (by omega), ?_⟩
    refine ⟨mkS ([61] ++ o.name ++ [40]), mkS (joinC o.params), ap _ _, cS (join_comma _), addOk (by simp; omega), mkS ([61] ++ o.name ++ [40] ++ joinC o.params), mkS [41], ap _ _, cS lt_rp, addOk (by simp; omega), ?_⟩
    rw [mkS_app, f]
    exact k
theorem sc_code_text : FnScope ["line"] ["line"] (defScope s_code_text) := ⟨rfl, rfl, rfl, by decide +kernel, rfl, by decide +kernel, by decide +kernel⟩
def sp_code_text (K : PySem.W.Frag) : Sp := fun vs H Q _ => vs.length = 1 ∧ ∃ x u, vs = [x] ∧ Dt H x (dL u) ∧ iOk u ∧ (lnTxt u).length ≤ 1000000 ∧ Q (vS (lnTxt u)) H
theorem ok_code_text (T : Tx K mg) : Fn P w K mg base CX0 1 ("code_text", none) ["line"] (sp_code_text K) := by
  refine Fn.mk0 (d := d_code_text) T 13 rfl rfl rfl sc_code_text (fun _ _ _ _ _ _ us hl => match us, hl with | [_], _ => rfl) (fun vs H Q E h => h.1) (fun cdv A outer s H vs Q E hr h => ?_)
  have hu := hu_of hr
  refine ⟨_, (pss_cons (ps_if (pt_cmpR op_eq (pe_ix ix_tup (pv 0) pe_int (fun _ _ => rfl)) pe_str (nomark _)) (pss_one (ps_ret (pe_op op_add_str pe_str (pe_ix ix_tup (pv 0) pe_int (fun _ _ => rfl))))) pss_nil) (pss_one (ps_ret (pe_op op_add_str (pe_op op_add_str (pe_op op_add_str (pe_op op_add_str (pe_op op_add_str pe_str (pe_op op_mulS pe_str (pe_ix ix_tup (pv 0) pe_int (fun _ _ => rfl)))) (pe_ix ix_tup (pv 0) pe_int (fun _ _ => rfl))) pe_str) (pe_join pe_str (pe_ix ix_tup (pv 0) pe_int (fun _ _ => rfl)))) pe_str)))), ?_⟩
  obtain ⟨_, x, u, rfl, dt, o, hn, k⟩ := h
  cases u with
  | plain s =>
    obtain ⟨a, rfl, ha⟩ := dt.plain_inv
    have hl : (lnTxt (.plain s)).length = s.length + 1 := by simp [lnTxt]
    refine ⟨_, rfl, _, _, _, _, rfl, rfl, SqT.of ha, rfl, rfl, _, rfl, iteY (decide_eq_true rfl) ?_⟩
    refine ⟨_, rfl, _, _, _, _, rfl, rfl, SqT.of ha, rfl, mkS [124], mkS s, cS lt_bar, rfl, addOk (by simp; omega), ?_⟩
    rw [mkS_app]
    exact k
  | use i n as =>
    obtain ⟨a, b, rfl, ha, hb⟩ := dt.use_inv
    have o : i ≤ 20 := o
    have hl := use_len i n as
    refine ⟨_, rfl, _, _, _, _, rfl, rfl, SqT.of ha, rfl, rfl, _, rfl, iteN s_plain_use ?_⟩
    refine ⟨_, rfl, _, _, _, _, rfl, rfl, SqT.of ha, rfl, (" " : Str), (i : Nat), rfl, rfl, by omega, by omega, by decide +kernel, ?_⟩
    refine ⟨mkS [62], mkS (List.replicate i 32), cS lt_gt, cS (mul_blank i), addOk (by simp; omega), ?_⟩
    refine ⟨_, rfl, _, _, _, _, rfl, rfl, SqT.of ha, rfl, mkS ([62] ++ List.replicate i 32), mkS n, ap _ _, rfl, addOk (by simp; omega), ?_⟩
    refine ⟨mkS ([62] ++ List.replicate i 32 ++ n), mkS [40], ap _ _, cS lt_lp, addOk (by simp; omega), ⟨_, rfl⟩, ?_⟩
    refine ⟨_, rfl, _, _, _, _, rfl, rfl, SqT.of ha, rfl, _, b, as.map mkS, rfl, rfl, .inr (sqS hb), joinOk (by omega), ?_⟩
    refine ⟨mkS ([62] ++ List.replicate i 32 ++ n ++ [40]), mkS (joinC as), ap _ _, cS (join_comma _), addOk (by simp; omega), mkS ([62] ++ List.replicate i 32 ++ n ++ [40] ++ joinC as), mkS [41], ap _ _, cS lt_rp, addOk (by simp; omega), ?_⟩
    have f : [62] ++ List.replicate i 32 ++ n ++ [40] ++ joinC as ++ [41] = lnTxt (.use i n as) := by simp [lnTxt]
    rw [mkS_app, f]
    exact k
theorem sc_rows_of : FnScope ["web", "rows", "section", "prose", "head", "code", "number", "line"] ["web"] (defScope s_rows_of) := ⟨rfl, rfl, rfl, by decide +kernel, rfl, by decide +kernel, by decide +kernel⟩
def sp_rows_of (K : PySem.W.Frag) : Sp := fun vs H Q _ => vs.length = 1 ∧ ∃ x w, vs = [x] ∧ Dt H x (dW w) ∧ wI w ∧ (webTxt w).length ≤ 1000000 ∧ ∀ p rs H', RowsAt H H' p rs (rowsOf w) → Q (.ref p) H'
theorem ok_rows_of (T : Tx K mg) : Fn P w K mg base CX0 2 ("rows_of", none) ["web"] (sp_rows_of K) := by
  refine Fn.mk0 (d := d_rows_of) T 14 rfl rfl rfl sc_rows_of (fun _ _ _ _ _ _ us hl => match us, hl with | [_], _ => rfl) (fun vs H Q E h => h.1) (fun cdv A outer s H vs Q E hr h => ?_)
  have hu := hu_of hr
  have G_code_text : Fn P w K mg base CX0 1 ("code_text", none) ["line"] (sp_code_text K) := ok_code_text T
  have G_head_text : Fn P w K mg base CX0 1 ("head_text", none) ["head"] (sp_head_text K) := ok_head_text T
  refine ⟨_, (pss_cons (ps_set (i := 1) sc_rows_of.nd rfl (Or.inl rfl) (pe_lst pa_nil)) (pss_cons (ps_for PassesOwn.never rfl (pi_enumT rfl (T.free 64) (pa_cons (pv 0) pa_nil)) (pg_tup rfl (pgs_cons (pg_name (i := 2) sc_rows_of.nd rfl (Or.inr rfl)) (pgs_cons (pg_tup rfl (pgs_cons (pg_name (i := 3) sc_rows_of.nd rfl (Or.inl rfl)) (pgs_cons (pg_name (i := 4) sc_rows_of.nd rfl (Or.inl rfl)) (pgs_cons (pg_name (i := 5) sc_rows_of.nd rfl (Or.inl rfl)) pgs_nil)))) pgs_nil))) (pss_cons (ps_expr (pe_bm PySem.F.plainAttrs_list PySem.F.slot_list_append PySem.F.type_list_append mt_append (pv 1) (pa_cons (pe_tup (pa_cons (pv 2) (pa_cons pe_str (pa_cons pe_int (pa_cons pe_str pa_nil))))) pa_nil))) (pss_cons (ps_expr (pe_bm PySem.F.plainAttrs_list PySem.F.slot_list_extend PySem.F.type_list_extend mt_extend (pv 1) (pa_cons (pe_lc (own := [("number", 6), ("line", 7)]) rfl sc_rows_of.nd (pi_enumT rfl (T.free 64) (pa_cons (pv 3) pa_nil)) (blkOk_by (N := ["web", "rows", "section", "prose", "head", "code", "number", "line"]) (sc := defScope s_rows_of) (by decide +kernel)) (fun _ _ _ _ _ => (pg_tupK (K := K) (n := 2) rfl rfl (pgs_cons (pg_name (i := 6) sc_rows_of.nd rfl (Or.inl rfl)) (pgs_cons (pg_name (i := 7) sc_rows_of.nd rfl (Or.inl rfl)) pgs_nil)))) (fun _ _ _ _ _ => pts_nil) (fun _ _ _ _ _ => (pe_tup (pa_cons (pv 2) (pa_cons pe_str (pa_cons (pv 6) (pa_cons (pe_op op_add_str pe_str (pv 7)) pa_nil))))))) pa_nil))) (C8.pss_cut (ps_if (pt_cmpR op_notN (pv 4) pe_non (nomark _)) (pss_one (ps_expr (pe_bm PySem.F.plainAttrs_list PySem.F.slot_list_append PySem.F.type_list_append mt_append (pv 1) (pa_cons (pe_tup (pa_cons (pv 2) (pa_cons pe_str (pa_cons pe_int (pa_cons (pc G_head_text (hr.mono (by decide)) rfl (T.glo 11) pass0 (pa_cons (pv 4) pa_nil)) pa_nil))))) pa_nil)))) pss_nil) (pss_one (ps_expr (pe_bm PySem.F.plainAttrs_list PySem.F.slot_list_extend PySem.F.type_list_extend mt_extend (pv 1) (pa_cons (pe_lc (own := [("number", 6), ("line", 7)]) rfl sc_rows_of.nd (pi_enumT rfl (T.free 64) (pa_cons (pv 5) pa_nil)) (blkOk_by (N := ["web", "rows", "section", "prose", "head", "code", "number", "line"]) (sc := defScope s_rows_of) (by decide +kernel)) (fun _ _ _ _ _ => (pg_tupK (K := K) (n := 2) rfl rfl (pgs_cons (pg_name (i := 6) sc_rows_of.nd rfl (Or.inl rfl)) (pgs_cons (pg_name (i := 7) sc_rows_of.nd rfl (Or.inl rfl)) pgs_nil)))) (fun _ _ _ _ _ => pts_nil) (fun _ _ _ _ _ => (pe_tup (pa_cons (pv 2) (pa_cons pe_str (pa_cons (pv 6) (pa_cons (pc G_code_text (hr.mono (by decide)) rfl (T.glo 12) pass0 (pa_cons (pv 7) pa_nil)) pa_nil))))))) pa_nil)))))))) (pss_one (ps_ret (pv 1))))), ?_⟩
  obtain ⟨_, x, ss, rfl, dt, hi0, hn, k⟩ := h
  obtain ⟨a, xs, rfl, ha, hxs⟩ := dt.tup_inv
  have hn : (txt (rowsFrom 0 ss)).length ≤ 1000000 := hn
  have hwl := web_len ss 0
  have hrl : (rowsOf ss).length ≤ 1000000 := Nat.le_trans (txt_ge (rowsFrom 0 ss)) hn
  refine ⟨Nat.zero_le _, fun p hp => ?_⟩
  refine ⟨_, rfl, a, _, rfl, SqT.of (sm_new hp _ _ ha), ?_⟩
  refine for_it (walk_enumT (xs := xs)) (fun i σ H1 => ∃ (u2 u3 u4 u5 : Option V) (rs : List V), σ = [some (.ref a), some (.ref p), u2, u3, u4, u5, none, none] ∧ RowsAt H H1 p rs (rowsOf (ss.take i))) ?_ (fun i σ H1 _ ⟨_, _, _, _, _, _, r⟩ => SqT.of (r.sm _ _ ha)) ?_ ?_
  · exact ⟨none, none, none, none, [], rfl, hp, sm_new hp, upd_same, .nil⟩
  · rintro i y σ H1 H2 hi ⟨u2, u3, u4, u5, rs, rfl, r⟩ ⟨t, x0, y0, rfl, ht, rfl, e0, e1⟩
    cases e0
    obtain ⟨c, hci, dc⟩ := hxs.map_get e1
    have hc := List.mem_of_getElem? hci
    have rt := rows_take hci
    have rl := rows_take_len ss (i + 1)
    have hsec := web_sec ss 0 hc
    rw [sec_txt] at hsec
    rw [rt, List.length_append] at rl
    have r1 := r.up (sm_new (o := .tup [.int (i : Nat), y0]) ht)
    obtain ⟨b, p1, hv, q, cs, rfl, hb, hp1, hh, hq, hcs⟩ := dc.sec_inv
    have hpl := proseRows_len i c.prose 0
    have hcl := codeRows_len i c.code 0
    have hsl : (secRows i c).length = 1 + (c.prose.length + ((headRows i c.head).length + c.code.length)) := by
      unfold secRows
      rw [List.length_cons, List.length_append, List.length_append, hpl, hcl]
      omega
    have rn := r1.len
    refine ⟨_, _, rfl, SqT.of upd_same, rfl, _, _, rfl, _, _, rfl, _, _, rfl, SqT.of (r1.sm _ _ hb), rfl, _, _, rfl, _, _, rfl, _, _, rfl, rfl, rfl, ?_⟩
    refine ⟨_, rfl, .inl ⟨rfl, _, SqL.of r1.lst⟩, _, rfl, sz_ok (by simp), fun t1 ht1 => ?_⟩
    have hrow : rowV ⟨i, 0, 0, [64], none⟩ = [.int (i : Nat), .str "section", .int 0, .str "@"] := by
      rw [lt_at]
      rfl
    have r2 := r1.app ⟨i, 0, 0, [64], none⟩ ht1
    rw [hrow] at r2
    refine ⟨p, rs, _, rfl, rfl, (r1.up (sm_new ht1)).lst, sz_lt (by omega), ?_⟩
    refine ⟨_, rfl, .inl ⟨rfl, _, SqL.of r2.lst⟩, _, rfl, _, _, rfl, SqT.of (r2.sm _ _ hp1), fun D hD => ?_⟩
    refine lc_gen (walk_enumT (xs := c.prose.map vS)) (fun j H v => ∀ s : Ws, c.prose[j]? = some s → Dt H v (dR ⟨i, 1, j, 46 :: s, none⟩)) hD (fun _ s => SqT.of (s _ _ (r2.sm _ _ hp1))) (by simp; omega) (fun _ _ _ _ k h s e => Dt.mono k _ _ (h s e)) (fun j y H3 H4 Q1 hj s3 ⟨t2, x2, y2, e, ht2, e2, e3, e4⟩ q => ?_) (fun H3 zs s3 hw hl hA => ?_)
    · subst e e2
      cases e3
      obtain ⟨s, hs, hsj, e5⟩ := mapS_get hj
      rw [getD_at e4] at e5
      subst e5
      have := prose_mem 0 0 hs
      refine ⟨_, _, rfl, SqT.of upd_same, rfl, _, _, rfl, _, _, rfl, rfl, rfl, ?_⟩
      refine ⟨_, rfl, _, rfl, _, rfl, mkS [46], mkS s, cS lt_dot, rfl, addOk (by simp; omega), sz_ok (by simp), fun t3 ht3 => ?_⟩
      rw [mkS_app]
      refine q _ _ ((sm_new ht2).trans (sm_new ht3)) fun s' e6 => ?_
      rw [hsj] at e6
      cases e6
      exact Dt.row_mk (r := ⟨i, 1, j, 46 :: s, none⟩) upd_same
    · have hz : DtAll H3 zs ((proseRows i 0 c.prose).map dR) := by
        refine DtAll.of_get (by rw [hl, hpl]; simp) fun j x y hx hy => ?_
        have hj : j < c.prose.length := by
          have := (List.getElem?_eq_some_iff.mp hy).1
          omega
        have hg := List.getElem?_eq_getElem hj
        have e6 := proseRows_get i c.prose 0 j _ hg
        rw [hy, Nat.zero_add] at e6
        cases e6
        exact hA j x hx _ hg
      have r3 := (r2.up s3).ext hz
      have rn3 := r3.len
      rw [List.length_append, List.length_append, List.length_append] at rn3
      refine ⟨p, D, _, zs, rfl, rfl, (r2.up s3).lst, hw, sz_ok (by simp at rn3 ⊢; omega), ?_⟩
      refine ⟨fun σ5 H5 => σ5 = [some (.ref a), some (.ref p), some (.int (i : Nat)), some (.ref p1), some hv, some (.ref q), none, none] ∧ ∃ rs5, RowsAt H H5 p rs5 (rowsOf (ss.take i) ++ (⟨i, 0, 0, [64], none⟩ :: (proseRows i 0 c.prose ++ headRows i c.head))), ?_, ?_⟩
      · cases eh : c.head with
        | none =>
          rw [eh] at hh
          obtain rfl := hh.none_inv
          refine ⟨_, rfl, rfl, _, rfl, iteN rfl ⟨rfl, rs ++ [.ref t1] ++ zs, ?_⟩⟩
          have e7 : rowsOf (ss.take i) ++ (⟨i, 0, 0, [64], none⟩ :: (proseRows i 0 c.prose ++ headRows i none)) = rowsOf (ss.take i) ++ [⟨i, 0, 0, [64], none⟩] ++ proseRows i 0 c.prose := by simp [headRows]
          rw [e7]
          exact r3
        | some o =>
          rw [eh] at hh hsec
          obtain ⟨b1, b2, rfl, h1, h2⟩ := Dt.head_inv hh
          refine ⟨_, rfl, rfl, _, rfl, iteY rfl ?_⟩
          have hlh : (hdTxt o).length < (txt (headRows i (some o))).length := txt_mem (r := ⟨i, 2, 0, hdTxt o, some o⟩) (by simp [headRows])
          have hlh2 : (txt (headRows i (some o))).length = (txt (headRows 0 (some o))).length := by simp [headRows, txt_cons, txt_nil]
          refine ⟨_, rfl, .inl ⟨rfl, _, SqL.of r3.lst⟩, _, rfl, _, rfl, rfl, _, o, rfl, Dt.mono (sm_kt r3.sm) _ _ hh, by omega, sz_ok (by simp), fun t3 ht3 => ?_⟩
          have r4 := r3.app ⟨i, 2, 0, hdTxt o, some o⟩ ht3
          refine ⟨p, _, _, rfl, rfl, (r3.up (sm_new ht3)).lst, sz_lt (by simp at rn3 ⊢; omega), rfl, rs ++ [.ref t1] ++ zs ++ [.ref t3], ?_⟩
          have e7 : rowsOf (ss.take i) ++ (⟨i, 0, 0, [64], none⟩ :: (proseRows i 0 c.prose ++ headRows i (some o))) = rowsOf (ss.take i) ++ [⟨i, 0, 0, [64], none⟩] ++ proseRows i 0 c.prose ++ [⟨i, 2, 0, hdTxt o, some o⟩] := by simp [headRows]
          rw [e7]
          exact r4
      · rintro σ5 H5 ⟨rfl, rs5, r5⟩
        have rn5 := r5.len
        refine ⟨_, rfl, .inl ⟨rfl, _, SqL.of r5.lst⟩, _, rfl, _, _, rfl, SqT.of (r5.sm _ _ hq), fun D hD => ?_⟩
        refine lc_gen (walk_enumT (xs := cs)) (fun j H v => ∀ s : Ln, c.code[j]? = some s → Dt H v (dR ⟨i, 3, j, lnTxt s, none⟩)) hD (fun _ s => SqT.of (s _ _ (r5.sm _ _ hq))) (by rw [hcs.map_len]; omega) (fun _ _ _ _ k h s e => Dt.mono k _ _ (h s e)) (fun j y H3 H4 Q1 hj s3 ⟨t2, x2, y2, e, ht2, e2, e3, e4⟩ q => ?_) (fun H3 zs s3 hw hl hA => ?_)
        · subst e e2
          cases e3
          obtain ⟨u, hsj, du⟩ := hcs.map_get e4
          have hu2 := List.mem_of_getElem? hsj
          have := code_mem 0 0 hu2
          refine ⟨_, _, rfl, SqT.of upd_same, rfl, _, _, rfl, _, _, rfl, rfl, rfl, ?_⟩
          refine ⟨_, rfl, _, rfl, _, rfl, rfl, _, u, rfl, Dt.mono (sm_kt ((r5.sm.trans s3).trans (sm_new ht2))) _ _ du, hi0 c hc u hu2, by omega, sz_ok (by simp), fun t3 ht3 => ?_⟩
          refine q _ _ ((sm_new ht2).trans (sm_new ht3)) fun s' e6 => ?_
          rw [hsj] at e6
          cases e6
          exact Dt.row_mk (r := ⟨i, 3, j, lnTxt u, none⟩) upd_same
        · have hz : DtAll H3 zs ((codeRows i 0 c.code).map dR) := by
            refine DtAll.of_get (by rw [hl, hcl, hcs.map_len]) fun j x y hx hy => ?_
            have hj : j < c.code.length := by
              have := (List.getElem?_eq_some_iff.mp hy).1
              omega
            have hg := List.getElem?_eq_getElem hj
            have e6 := codeRows_get i c.code 0 j _ hg
            rw [hy, Nat.zero_add] at e6
            cases e6
            exact hA j x hx _ hg
          have r6 := (r5.up s3).ext hz
          have rn6 := r6.len
          rw [List.length_append, List.length_append] at rn6
          have e8 : rowsOf (ss.take i) ++ (⟨i, 0, 0, [64], none⟩ :: (proseRows i 0 c.prose ++ headRows i c.head)) ++ codeRows i 0 c.code = rowsOf (ss.take (i + 1)) := by
            rw [rt]
            simp [secRows]
          refine ⟨p, D, _, zs, rfl, rfl, (r5.up s3).lst, hw, sz_ok (by simp at rn6 ⊢; omega), ?_⟩
          rw [e8] at r6
          exact ⟨_, _, _, _, _, rfl, r6⟩
  · rintro σ H1 ⟨u2, u3, u4, u5, rs, rfl, r⟩
    rw [hxs.map_len, List.take_length] at r
    exact ⟨_, rfl, k p rs H1 r⟩
theorem sc_text_in : FnScope ["web", "row"] ["web"] (defScope s_text_in) := ⟨rfl, rfl, rfl, by decide +kernel, rfl, by decide +kernel, by decide +kernel⟩
def sp_text_in (K : PySem.W.Frag) : Sp := fun vs H Q _ => vs.length = 1 ∧ ∃ x w, vs = [x] ∧ Dt H x (dW w) ∧ wI w ∧ (webTxt w).length ≤ 1000000 ∧ ∀ H', Same H H' → Q (vS (webTxt w)) H'
theorem ok_text_in (T : Tx K mg) : Fn P w K mg base CX0 3 ("text_in", none) ["web"] (sp_text_in K) := by
  refine Fn.mk0 (d := d_text_in) T 15 rfl rfl rfl sc_text_in (fun _ _ _ _ _ _ us hl => match us, hl with | [_], _ => rfl) (fun vs H Q E h => h.1) (fun cdv A outer s H vs Q E hr h => ?_)
  have hu := hu_of hr
  have G_rows_of : Fn P w K mg base CX0 2 ("rows_of", none) ["web"] (sp_rows_of K) := ok_rows_of T
  refine ⟨_, (pss_one (ps_ret (pe_join pe_str (pe_lc (own := [("row", 1)]) rfl sc_text_in.nd (pi_list (pc G_rows_of (hr.mono (by decide)) rfl (T.glo 13) pass0 (pa_cons (pv 0) pa_nil))) (blkOk_by (N := ["web", "row"]) (sc := defScope s_text_in) (by decide +kernel)) (fun _ _ _ _ _ => (pg_name (i := 1) sc_text_in.nd rfl (Or.inl rfl))) (fun _ _ _ _ _ => pts_nil) (fun _ _ _ _ _ => (pe_op op_add_str (pe_ix (ix_tupK (K := K) rfl) (pv 1) pe_int (fun _ _ => rfl)) pe_str)))))), ?_⟩
  obtain ⟨_, x, ss, rfl, dt, hi0, hn, k⟩ := h
  have hrl : (rowsOf ss).length ≤ 1000000 := Nat.le_trans (txt_ge (rowsFrom 0 ss)) hn
  have hn : (txt (rowsOf ss)).length ≤ 1000000 := hn
  refine ⟨⟨_, rfl⟩, ?_⟩
  refine ⟨_, rfl, rfl, _, ss, rfl, dt, hi0, hn, fun p rs H1 r => ⟨p, rfl, ⟨_, SqL.of r.lst⟩, fun D hD => ?_⟩⟩
  refine lc_gen (wk_lst (xs := rs)) (fun j H v => ∀ o : Rw, (rowsOf ss)[j]? = some o → v = vS (o.line ++ [10])) hD (fun _ s => SqL.of (s _ _ r.lst)) (by rw [r.len]; exact hrl) (fun _ _ _ _ _ h => h) (fun j y H2 H3 Q1 hj s e q => ?_) (fun H2 zs s hw hl hA => ?_)
  · obtain ⟨rfl, rfl⟩ := e
    obtain ⟨o, ho, hoj, d⟩ := (DtAll.mono (sm_kt s) _ _ r.dt).getD hj
    obtain ⟨a, e, ha⟩ := d.row_inv
    rw [e]
    have := txt_mem ho
    refine ⟨rfl, _, rfl, _, _, _, _, rfl, rfl, SqT.of ha, rfl, mkS o.line, mkS [10], rfl, cS lt_nl, addOk (by simp; omega), ?_⟩
    rw [mkS_app]
    refine q _ _ (Same.refl _) fun o' e' => ?_
    rw [hoj] at e'
    cases e'
    rfl
  · have ez : zs = ((rowsOf ss).map fun o : Rw => o.line ++ [10]).map vS := by
      rw [List.map_map]
      refine eq_map (by rw [hl, r.len]) fun i v y h1 h2 => hA i v h1 y h2
    rw [ez] at hw
    refine ⟨_, D, ((rowsOf ss).map fun o : Rw => o.line ++ [10]).map mkS, rfl, rfl, .inl (sqL hw), joinOk0 (ys := (rowsOf ss).map fun o : Rw => o.line ++ [10]) hn, ?_⟩
    rw [join_none]
    exact k H2 (r.sm.trans s)
theorem sc_web_text : FnScope ["web"] ["web"] (defScope s_web_text) := ⟨rfl, rfl, rfl, by decide +kernel, rfl, by decide +kernel, by decide +kernel⟩
def sp_web_text (K : PySem.W.Frag) : Sp := fun vs H Q _ => vs.length = 1 ∧ ∃ x w, vs = [x] ∧ Dt H x (dW w) ∧ webOk w ∧ (webTxt w).length ≤ 1000000 ∧ ∀ H', Same H H' → Q (vS (webTxt w)) H'
theorem ok_web_text (T : Tx K mg) : Fn P w K mg base CX0 8 ("web_text", none) ["web"] (sp_web_text K) := by
  refine Fn.mk0 (d := d_web_text) T 16 rfl rfl rfl sc_web_text (fun _ _ _ _ _ _ us hl => match us, hl with | [_], _ => rfl) (fun vs H Q E h => h.1) (fun cdv A outer s H vs Q E hr h => ?_)
  have hu := hu_of hr
  have G_text_in : Fn P w K mg base CX0 3 ("text_in", none) ["web"] (sp_text_in K) := ok_text_in T
  have G_need_web : Fn P w K mg base CX0 7 ("need_web", none) ["value"] (sp_need_web K) := ok_need_web T
  refine ⟨_, (pss_one (ps_ret (pc G_text_in (hr.mono (by decide)) rfl (T.glo 14) pass0 (pa_cons (pc G_need_web (hr.mono (by decide)) rfl (T.glo 10) pass0 (pa_cons (pv 0) pa_nil)) pa_nil)))), ?_⟩
  obtain ⟨_, x, ss, rfl, dt, o, hn, k⟩ := h
  exact ⟨_, rfl, rfl, _, ss, rfl, dt, o, hn, fun H1 s1 => ⟨rfl, _, ss, rfl, Dt.mono (sm_kt s1) _ _ dt, webOk_i o, hn, fun H2 s2 => k _ (s1.trans s2)⟩⟩
theorem sc_starts_in : FnScope ["web", "starts", "at", "row"] ["web"] (defScope s_starts_in) := ⟨rfl, rfl, rfl, by decide +kernel, rfl, by decide +kernel, by decide +kernel⟩
def sp_starts_in (K : PySem.W.Frag) : Sp := fun vs H Q _ => vs.length = 1 ∧ ∃ x w, vs = [x] ∧ Dt H x (dW w) ∧ wI w ∧ (webTxt w).length ≤ 1000000 ∧ ∀ p H', Same H H' → H' p = some (.lst ((offs 0 (rowsOf w)).map fun n => .int (n : Nat))) → Q (.ref p) H'
theorem ok_starts_in (T : Tx K mg) : Fn P w K mg base CX0 3 ("starts_in", none) ["web"] (sp_starts_in K) := by
  refine Fn.mk0 (d := d_starts_in) T 17 rfl rfl rfl sc_starts_in (fun _ _ _ _ _ _ us hl => match us, hl with | [_], _ => rfl) (fun vs H Q E h => h.1) (fun cdv A outer s H vs Q E hr h => ?_)
  have hu := hu_of hr
  have G_rows_of : Fn P w K mg base CX0 2 ("rows_of", none) ["web"] (sp_rows_of K) := ok_rows_of T
  refine ⟨_, (pss_cons (ps_set (i := 1) sc_starts_in.nd rfl (Or.inl rfl) (pe_lst pa_nil)) (pss_cons (ps_set (i := 2) sc_starts_in.nd rfl (Or.inl rfl) pe_int) (pss_cons (ps_for PassesOwn.never rfl (pi_list (pc G_rows_of (hr.mono (by decide)) rfl (T.glo 13) pass0 (pa_cons (pv 0) pa_nil))) (pg_name (i := 3) sc_starts_in.nd rfl (Or.inl rfl)) (pss_cons (ps_expr (pe_bm PySem.F.plainAttrs_list PySem.F.slot_list_append PySem.F.type_list_append mt_append (pv 1) (pa_cons (pv 2) pa_nil))) (pss_one (ps_aug (i := 2) sc_starts_in.nd rfl (Or.inl rfl) (pe_op op_add (pe_callB call_len_str rfl (T.free 59) (by decide +kernel) (pa_cons (pe_ix ix_tup (pv 3) pe_int (fun _ _ => rfl)) pa_nil)) pe_int) ip_add)))) (pss_one (ps_ret (pv 1)))))), ?_⟩
  obtain ⟨_, x, ss, rfl, dt, hi0, hn, k⟩ := h
  have hrl : (rowsOf ss).length ≤ 1000000 := Nat.le_trans (txt_ge (rowsFrom 0 ss)) hn
  have hn : (txt (rowsOf ss)).length ≤ 1000000 := hn
  refine ⟨Nat.zero_le _, fun p hp => ?_⟩
  refine ⟨_, rfl, rfl, _, ss, rfl, Dt.mono (sm_kt (sm_new hp)) _ _ dt, hi0, hn, fun q rs H1 r => ⟨q, rfl, ⟨_, SqL.of r.lst⟩, ?_⟩⟩
  have nqp : q ≠ p := fun z => by
    have := r.new
    rw [z, upd_same] at this
    cases this
  refine for_it (wk_lst (xs := rs)) (fun i σ H2 => ∃ u : Option V, σ = [some x, some (.ref p), some (.int ((txt ((rowsOf ss).take i)).length : Nat)), u] ∧ Same H H2 ∧ (∀ a o, a ≠ p → H1 a = some o → H2 a = some o) ∧ H2 p = some (.lst ((offs 0 ((rowsOf ss).take i)).map fun n => .int (n : Nat)))) ?_ (fun i σ H2 _ ⟨_, _, _, r2, _⟩ => SqL.of (r2 _ _ nqp r.lst)) ?_ ?_
  · exact ⟨none, rfl, (sm_new hp).trans r.sm, fun _ _ _ h => h, r.sm _ _ upd_same⟩
  · rintro i y σ H2 H3 hi ⟨u, rfl, s, kp, hl⟩ ⟨rfl, rfl⟩
    have kt : KT H1 H3 := fun a xs h => kp a _ (fun z => by
      rw [z, r.sm _ _ upd_same] at h
      cases h) h
    obtain ⟨o, ho, hoj, d⟩ := (DtAll.mono kt _ _ r.dt).getD hi
    obtain ⟨a, e, ha⟩ := d.row_inv
    rw [e]
    have hi2 : i < (rowsOf ss).length := (List.getElem?_eq_some_iff.mp hoj).1
    have tk : (rowsOf ss).take (i + 1) = (rowsOf ss).take i ++ [o] := by rw [List.take_succ, hoj]; rfl
    have hol := txt_mem ho
    refine ⟨_, rfl, .inl ⟨rfl, _, SqL.of hl⟩, _, rfl, p, _, _, rfl, rfl, hl, sz_lt (by rw [List.length_map, offs_len, List.length_take]; omega), ?_⟩
    have ha2 : upd H3 p (.lst (((offs 0 ((rowsOf ss).take i)).map fun n => V.int (n : Nat)) ++ [V.int ((txt ((rowsOf ss).take i)).length : Nat)])) a = some (.tup (rowV o)) := by
      rw [upd_ne (fun z => by rw [z, hl] at ha; cases ha)]
      exact ha
    refine ⟨_, rfl, _, rfl, _, _, _, _, rfl, rfl, SqT.of ha2, rfl, _, rfl, lenOk (l := o.line) (by omega), _, _, rfl, rfl, _, _, rfl, rfl, ?_⟩
    refine ⟨some (.ref a), ?_, sm_mut s hp, fun b u nb hb => by rw [upd_ne nb]; exact kp b u nb hb, ?_⟩
    · rw [tk, txt_snoc, mkS_len]
      rfl
    · rw [upd_same, tk, offs_snoc, List.map_append]
      simp
  · rintro σ H2 ⟨u, rfl, s, kp, hl⟩
    rw [r.len, List.take_length] at hl
    exact ⟨_, rfl, k p H2 s hl⟩
end
end Kn

set_option maxHeartbeats 4000000
/-! The Reader: its state, what a method promises, the small methods. -/
namespace Kn
open PySem PySem.Spec PyProof.Rows L2 KnR
abbrev fsR (t : Ws) (n : Int) : List (Str × V) := [("text", vS t), ("at", .int n)]
abbrev rO (K : PySem.W.Frag) (dx : Addr) (t : Ws) (n : Nat) : HO := .ins (He.ga K "Reader") dx (fsR t n)
theorem ne_at_text : (("at" : Str) == ("text" : Str)) = false := by decide +kernel
theorem ne_at_text' : ¬ ("text" : Str) = ("at" : Str) := by decide +kernel
theorem lk_text {a b : V} : List.lookup ("text" : Str) [(("text" : Str), a), (("at" : Str), b)] = some a := by simp [List.lookup]
theorem lk_at {a b : V} : List.lookup ("at" : Str) [(("text" : Str), a), (("at" : Str), b)] = some b := by simp [List.lookup, ne_at_text]
theorem lk_none {a b : V} {m : Str} (h1 : (m == ("text" : Str)) = false := by decide +kernel) (h2 : (m == ("at" : Str)) = false := by decide +kernel) : List.lookup m [(("text" : Str), a), (("at" : Str), b)] = none := by simp [List.lookup, h1, h2]
theorem put_at {a b z : V} : putF ("at" : Str) z [(("text" : Str), a), (("at" : Str), b)] = [(("text" : Str), a), (("at" : Str), z)] := by
  simp [putF, ne_at_text']
theorem put_text {a : V} : putF ("text" : Str) a [] = [(("text" : Str), a)] := rfl
theorem put_at0 {a b : V} : putF ("at" : Str) b [(("text" : Str), a)] = [(("text" : Str), a), (("at" : Str), b)] := by
  simp [putF, ne_at_text']
def Stp (K : PySem.W.Frag) (E : XK) (p : Addr) (H : Hp) (t r : Ws) : Prop := ∀ (d : Addr) (fs : List (Str × V)) (H' : Hp) (m : Nat), Kp p H H' → H' d = some (.xd fs) → List.lookup ("text" : Str) fs = some (vS t) → List.lookup ("at" : Str) fs = some (V.int (m : Nat)) → At t m r → E (.ref (He.ga K "InvalidText")) (some d) H'
theorem Stp.mono {K : PySem.W.Frag} {E : XK} {p : Addr} {H H1 : Hp} {t r : Ws} (h : Stp K E p H t r) (k : Kp p H H1) : Stp K E p H1 t r := fun d fs H' m k' a b c e => h d fs H' m (k.trans k') a b c e
def Res {α : Type} (K : PySem.W.Frag) (Q : VK) (E : XK) (p dx : Addr) (H : Hp) (t : Ws) (G : Hp → V → α → Prop) (x : Rs α) : Prop := match x with
  | .ok (a, r) => ∀ v H' m, Kp p H H' → H' p = some (rO K dx t m) → At t m r → G H' v a → Q v H'
  | .error r => Stp K E p H t r
theorem Res.ok {α : Type} {K : PySem.W.Frag} {Q : VK} {E : XK} {p dx : Addr} {H : Hp} {t : Ws} {G : Hp → V → α → Prop} {x : Rs α} {a : α} {r : Ws} (h : Res K Q E p dx H t G x) (e : x = .ok (a, r)) :
    ∀ v H' m, Kp p H H' → H' p = some (rO K dx t m) → At t m r → G H' v a → Q v H' := by subst e; exact h
theorem Res.err {α : Type} {K : PySem.W.Frag} {Q : VK} {E : XK} {p dx : Addr} {H : Hp} {t : Ws} {G : Hp → V → α → Prop} {x : Rs α} {r : Ws} (h : Res K Q E p dx H t G x) (e : x = .error r) : Stp K E p H t r := by subst e; exact h
theorem Res.of {α : Type} {K : PySem.W.Frag} {Q : VK} {E : XK} {p dx : Addr} {H : Hp} {t : Ws} {G : Hp → V → α → Prop} {x : Rs α}
    (h1 : ∀ a r, x = .ok (a, r) → ∀ v H' m, Kp p H H' → H' p = some (rO K dx t m) → At t m r → G H' v a → Q v H') (h2 : ∀ r, x = .error r → Stp K E p H t r) : Res K Q E p dx H t G x := by
  cases x with
  | ok y => exact h1 y.1 y.2 rfl
  | error r => exact h2 r rfl
section
variable {P : Program} {w : World} {K : PySem.W.Frag} {mg : Str → Option Value} {base : Heap}
theorem sc_T_init : FnScope ["self", "text", "at"] ["self", "text", "at"] (defScope s_T_init) := ⟨rfl, rfl, rfl, by decide +kernel, rfl, by decide +kernel, by decide +kernel⟩
def sp_T_init (K : PySem.W.Frag) : Sp := fun vs H Q _ => vs.length = 3 ∧ ∃ (a : Addr) (x y : V), vs = [.ref a, x, y] ∧ H a = some (exo a (He.ga K "InvalidText") none) ∧
  ∀ dx, H dx = none → dx ≠ a → ∀ H', H' a = some (exo a (He.ga K "InvalidText") (some dx)) → H' dx = some (exd dx [("at", y), ("text", x)]) → (∀ b, b ≠ a → b ≠ dx → H' b = H b) → Q .non H'
theorem ok_T_init (T : Tx K mg) : Fn P w K mg base CX0 1 ("InvalidText", some "__init__") ["self", "text", "at"] (sp_T_init K) := by
  refine Fn.mk0 (d := d_T_init) T 0 rfl rfl rfl sc_T_init (fun _ _ _ _ _ _ us hl => match us, hl with | [_, _, _], _ => rfl) (fun vs H Q E h => h.1) (fun cdv A outer s H vs Q E hr h => ?_)
  have hu := hu_of hr
  refine ⟨_, (pss_cons (ps_ost (pv 0) (pv 1)) (pss_one (ps_ost (pv 0) (pv 2)))), ?_⟩
  obtain ⟨_, a, x, y, rfl, ha, k⟩ := h
  refine ⟨_, rfl, _, rfl, a, _, rfl, T.oex.1, T.noat 83, .inl ⟨ha, fun dx hd hne => ?_⟩⟩
  refine ⟨_, rfl, _, rfl, a, _, rfl, T.oex.1, T.noat 84, .inr ⟨dx, [("text", x)], upd_same, ?_, (by decide : 1 ≤ 900), ?_⟩⟩
  · rw [upd_ne hne]
    exact upd_same
  · refine k dx hd hne _ ?_ upd_same fun b h1 h2 => ?_
    · rw [upd_ne (Ne.symm hne)]
      exact upd_same
    · rw [upd_ne h2, upd_ne h1, upd_ne h2]
theorem sc_R_init : FnScope ["self", "text"] ["self", "text"] (defScope s_R_init) := ⟨rfl, rfl, rfl, by decide +kernel, rfl, by decide +kernel, by decide +kernel⟩
def sp_R_init (K : PySem.W.Frag) : Sp := fun vs H Q _ => vs.length = 2 ∧ ∃ p dx t, vs = [.ref p, vS t] ∧ H p = some (.ins (He.ga K "Reader") dx []) ∧ ∀ H', H' p = some (rO K dx t 0) → (∀ b, b ≠ p → H' b = H b) → Q .non H'
theorem ok_R_init (T : Tx K mg) : Fn P w K mg base CX0 1 ("Reader", some "__init__") ["self", "text"] (sp_R_init K) := by
  refine Fn.mk0 (d := d_R_init) T 18 rfl rfl rfl sc_R_init (fun _ _ _ _ _ _ us hl => match us, hl with | [_, _], _ => rfl) (fun vs H Q E h => h.1) (fun cdv A outer s H vs Q E hr h => ?_)
  have hu := hu_of hr
  refine ⟨_, (pss_cons (ps_fld (pv 0) (pv 1) rfl) (pss_one (ps_fld (pv 0) pe_int rfl))), ?_⟩
  obtain ⟨_, p, dx, t, rfl, hp, k⟩ := h
  refine ⟨_, rfl, _, rfl, p, _, _, _, rfl, hp, T.cls 68, T.noat 69, by simp, ?_⟩
  refine ⟨_, rfl, p, _, _, _, rfl, upd_same, T.cls 68, T.noat 70, by rw [put_text]; simp, ?_⟩
  refine k _ ?_ fun b hb => by rw [upd_ne hb, upd_ne hb]
  rw [upd_same, put_text, put_at0]
  rfl
theorem sc_R_stop : FnScope ["self"] ["self"] (defScope s_R_stop) := ⟨rfl, rfl, rfl, by decide +kernel, rfl, by decide +kernel, by decide +kernel⟩
def sp_R_stop (K : PySem.W.Frag) : Sp := fun vs H Q E => vs.length = 1 ∧ ∃ p dx t n l, vs = [.ref p] ∧ H p = some (rO K dx t n) ∧ At t n l ∧ Stp K E p H t l
theorem ok_R_stop (T : Tx K mg) : Fn P w K mg base (L2.CX P w) 3 ("Reader", some "stop") ["self"] (sp_R_stop K) := by
  refine Fn.mkX (d := d_R_stop) T 19 rfl rfl rfl sc_R_stop (fun _ _ _ _ _ _ us hl => match us, hl with | [_], _ => rfl) (fun vs H Q E h => h.1) (fun cdv A outer s H vs Q E hr h => ?_)
  have hu := hu_of hr
  obtain ⟨fd_T_init, FO_T_init, FB_T_init, _⟩ := (ok_T_init (P := P) (w := w) (base := base) T).ex
  refine ⟨_, (pss_one (ps_raise rfl (takes_of rfl rfl rfl rfl) (pmk_oex T.oex.1 T.oex.2.2.1 T.oex.2.2.2 FO_T_init (hr.mono (by decide)) FB_T_init .nil (by exact pass0) rfl (T.glo 48) (pa_cons (pe_fld (pv 0) rfl) (pa_cons (pe_fld (pv 0) rfl) pa_nil))))), ?_⟩
  obtain ⟨_, p, dx, t, n, l, rfl, hp, hA, k⟩ := h
  refine ⟨_, rfl, p, _, _, _, _, rfl, hp, T.cls 68, T.noat 69, lk_text, ?_⟩
  refine ⟨_, rfl, p, _, _, _, _, rfl, hp, T.cls 68, T.noat 70, lk_at, by simp, fun a ha => ?_⟩
  refine ⟨rfl, a, vS t, .int n, rfl, upd_same, fun d hd hne H' h1 h2 h3 => ?_⟩
  refine ⟨rfl, d, _, h1, h2, ?_, ?_⟩
  · rw [upd_ne hne] at hd
    exact hd
  · rw [upd_ne hne] at hd
    refine k d _ _ n (fun b u hb e => ?_) upd_same ?_ ?_ hA
    · have nd : b ≠ d := ne_of_none e hd
      have na : b ≠ a := ne_of_none e ha
      rw [upd_ne nd, del_ne na, h3 b na nd, upd_ne na]
      exact e
    · have : (("text" : Str) == ("at" : Str)) = false := by decide +kernel
      simp [List.lookup, this]
    · simp [List.lookup]
theorem sc_R_now : FnScope ["self"] ["self"] (defScope s_R_now) := ⟨rfl, rfl, rfl, by decide +kernel, rfl, by decide +kernel, by decide +kernel⟩
def sp_R_now (K : PySem.W.Frag) : Sp := fun vs H Q _ => vs.length = 1 ∧ ∃ p dx t n l, vs = [.ref p] ∧ H p = some (rO K dx t n) ∧ At t n l ∧ t.length ≤ 1000000 ∧ Q (vS (l.take 1)) H
theorem ok_R_now (T : Tx K mg) : Fn P w K mg base CX0 1 ("Reader", some "now") ["self"] (sp_R_now K) := by
  refine Fn.mk0 (d := d_R_now) T 20 rfl rfl rfl sc_R_now (fun _ _ _ _ _ _ us hl => match us, hl with | [_], _ => rfl) (fun vs H Q E h => h.1) (fun cdv A outer s H vs Q E hr h => ?_)
  have hu := hu_of hr
  refine ⟨_, (pss_one (ps_ret (pe_slice sl_str (pe_fld (pv 0) rfl) (po_some (pe_fld (pv 0) rfl)) (po_some (pe_op op_add (pe_fld (pv 0) rfl) pe_int))))), ?_⟩
  obtain ⟨_, p, dx, t, n, l, rfl, hp, hA, ht, k⟩ := h
  refine ⟨_, rfl, p, _, _, _, _, rfl, hp, T.cls 68, T.noat 69, lk_text, ?_⟩
  refine ⟨_, rfl, p, _, _, _, _, rfl, hp, T.cls 68, T.noat 70, lk_at, _, rfl, ?_⟩
  refine ⟨_, rfl, p, _, _, _, _, rfl, hp, T.cls 68, T.noat 70, lk_at, _, _, rfl, rfl, _, rfl, ?_⟩
  refine ⟨mkS t, rfl, lenOk ht, ?_⟩
  show Q (V.str (cutS (mkS t) (some ((n : Nat) : Int)) (some ((n + 1 : Nat) : Int)))) H
  rw [hA.slice (k := 1) rfl]
  exact k
def RExp (K : PySem.W.Frag) (Q : VK) (E : XK) (p dx : Addr) (H : Hp) (t : Ws) (x : Except Ws Ws) : Prop := match x with
  | .ok r => ∀ H' m, H' p = some (rO K dx t m) → At t m r → Kp p H H' → Q .non H'
  | .error r => Stp K E p H t r
theorem RExp.of {Q : VK} {E : XK} {p dx : Addr} {H : Hp} {t : Ws} {x : Except Ws Ws} (h1 : ∀ r, x = .ok r → ∀ H' m, H' p = some (rO K dx t m) → At t m r → Kp p H H' → Q .non H') (h2 : ∀ r, x = .error r → Stp K E p H t r) : RExp K Q E p dx H t x := by
  cases x with
  | ok r => exact h1 r rfl
  | error r => exact h2 r rfl
theorem sc_R_expect : FnScope ["self", "sign"] ["self", "sign"] (defScope s_R_expect) := ⟨rfl, rfl, rfl, by decide +kernel, rfl, by decide +kernel, by decide +kernel⟩
def sp_R_expect (K : PySem.W.Frag) : Sp := fun vs H Q E => vs.length = 2 ∧ ∃ p dx t n l c, vs = [.ref p, vS [c]] ∧ H p = some (rO K dx t n) ∧ At t n l ∧ t.length ≤ 1000000 ∧
  RExp K Q E p dx H t (ex1 c l)
theorem ok_R_expect (T : Tx K mg) : Fn P w K mg base (L2.CX P w) 4 ("Reader", some "expect") ["self", "sign"] (sp_R_expect K) := by
  refine Fn.mkX (d := d_R_expect) T 21 rfl rfl rfl sc_R_expect (fun _ _ _ _ _ _ us hl => match us, hl with | [_, _], _ => rfl) (fun vs H Q E h => h.1) (fun cdv A outer s H vs Q E hr h => ?_)
  have hu := hu_of hr
  have G_R_now : Fn P w K mg base CX0 1 ("Reader", some "now") ["self"] (sp_R_now K) := ok_R_now T
  have G_R_stop : Fn P w K mg base (L2.CX P w) 3 ("Reader", some "stop") ["self"] (sp_R_stop K) := ok_R_stop T
  refine ⟨_, (pss_cons (ps_if (pt_cmpR op_ne (pm0 (pv 0) (T.cls 68) (T.meth 73) G_R_now (hr.mono (by decide)) pass0) (pv 1) (nomark _)) (pss_one (ps_expr (pm0 (pv 0) (T.cls 68) (T.meth 72) G_R_stop (hr.mono (by decide)) (passes_call (E := E) (takes_of rfl rfl rfl rfl) (fun _ _ _ _ h => h))))) pss_nil) (pss_one (ps_fldaug (pv 0) pe_int in_add))), ?_⟩
  obtain ⟨_, p, dx, t, n, l, c, rfl, hp, hA, ht, k⟩ := h
  refine ⟨_, rfl, p, dx, _, rfl, hp, lk_none, rfl, p, dx, t, n, l, rfl, hp, hA, ht, _, rfl, rfl, _, rfl, ?_⟩
  rw [dec_vS]
  unfold RExp at k
  cases l with
  | nil => exact iteY rfl ⟨_, rfl, p, dx, _, rfl, hp, lk_none, rfl, p, dx, t, n, [], rfl, hp, hA, k⟩
  | cons d r =>
    rw [ex1_cons] at k
    by_cases c1 : d = c
    · rw [if_pos c1] at k
      refine iteN (by rw [c1]; simp) ⟨_, rfl, p, _, _, _, _, rfl, hp, T.cls 68, T.noat 70, lk_at, _, _, rfl, rfl, _, _, hp, (by decide : 2 < 1000), ?_⟩
      rw [put_at]
      exact k _ (n + 1) upd_same hA.cons Kp.self
    · rw [if_neg c1] at k
      exact iteY (by simp [c1]) ⟨_, rfl, p, dx, _, rfl, hp, lk_none, rfl, p, dx, t, n, d :: r, rfl, hp, hA, k⟩
end
end Kn

set_option maxHeartbeats 4000000
/-! The Reader: lines, words, arguments. -/
namespace Kn
open PySem PySem.Spec PyProof.Rows L2 KnR
theorem tw_end {p : Nat → Bool} : ∀ {a l : Ws}, (∀ c ∈ a, p c = true) → (∀ c r, l = c :: r → p c = false) → (a ++ l).takeWhile p = a ∧ (a ++ l).dropWhile p = l
  | [], [], _, _ => ⟨rfl, rfl⟩
  | [], c :: r, _, e => by
    have h := e c r rfl
    simp [List.takeWhile, List.dropWhile, h]
  | c :: a, l, h, e => by
    have h1 := h c (by simp)
    obtain ⟨q1, q2⟩ := tw_end (a := a) (l := l) (fun x hx => h x (by simp [hx])) e
    rw [List.cons_append]
    exact ⟨by rw [List.takeWhile_cons_of_pos h1, q1], by rw [List.dropWhile_cons_of_pos h1, q2]⟩
theorem snoc_all {p : Nat → Bool} {a : Ws} {c : Nat} (h : ∀ x ∈ a, p x = true) (hc : p c = true) : ∀ x ∈ a ++ [c], p x = true := fun x hx => by
  rw [List.mem_append] at hx
  rcases hx with hx | hx
  · exact h x hx
  · rw [List.mem_singleton.mp hx]
    exact hc
theorem inV_strs (a : Ws) (bs : List Ws) : inV (vS a) (bs.map vS) = decide (a ∈ bs) := by
  unfold inV
  rw [Bool.eq_iff_iff, decide_eq_true_eq, List.any_eq_true]
  constructor
  · rintro ⟨y, hy, e⟩
    obtain ⟨b, hb, rfl⟩ := List.mem_map.mp hy
    have e : (mkS b == mkS a) = true := e
    rw [← mkS_inj (eq_of_beq e)]
    exact hb
  · intro h
    exact ⟨vS a, List.mem_map.mpr ⟨a, h, rfl⟩, (beq_self_eq_true (mkS a) : (mkS a == mkS a) = true)⟩
theorem flat_strs (bs : List Ws) : (bs.map vS).all flatV = true := by
  rw [List.all_map, List.all_eq_true]
  exact fun _ _ => rfl
section
variable {P : Program} {w : World} {K : PySem.W.Frag} {mg : Str → Option Value} {base : Heap}
abbrev isS : Hp → V → Ws → Prop := fun _ v s => v = vS s
theorem sc_R_read_line : FnScope ["self", "begin", "line"] ["self"] (defScope s_R_read_line) := ⟨rfl, rfl, rfl, by decide +kernel, rfl, by decide +kernel, by decide +kernel⟩
def sp_R_read_line (K : PySem.W.Frag) : Sp := fun vs H Q E => vs.length = 1 ∧ ∃ p dx t n l, vs = [.ref p] ∧ H p = some (rO K dx t n) ∧ At t n l ∧ t.length ≤ 1000000 ∧ Res K Q E p dx H t isS (rdLine l)
theorem ok_R_read_line (T : Tx K mg) : Fn P w K mg base (L2.CX P w) 5 ("Reader", some "read_line") ["self"] (sp_R_read_line K) := by
  refine Fn.mkX (d := d_R_read_line) T 22 rfl rfl rfl sc_R_read_line (fun _ _ _ _ _ _ us hl => match us, hl with | [_], _ => rfl) (fun vs H Q E h => h.1) (fun cdv A outer s H vs Q E hr h => ?_)
  have hu := hu_of hr
  have G_R_expect : Fn P w K mg base (L2.CX P w) 4 ("Reader", some "expect") ["self", "sign"] (sp_R_expect K) := ok_R_expect T
  have G_is_sign : Fn P w K mg base CX0 1 ("is_sign", none) ["sign"] (sp_is_sign K) := ok_is_sign T
  have G_R_now : Fn P w K mg base CX0 1 ("Reader", some "now") ["self"] (sp_R_now K) := ok_R_now T
  refine ⟨_, (pss_cons (ps_set (i := 1) sc_R_read_line.nd rfl (Or.inl rfl) (pe_fld (pv 0) rfl)) (pss_cons (ps_while (passes_of rfl) (PW.pt (pw_and (pt_cmpR op_ne (pm0 (pv 0) (T.cls 68) (T.meth 73) G_R_now (hr.mono (by decide)) pass0) pe_str (nomark _)) (pw_and1 (pt_val (pc G_is_sign (hr.mono (by decide)) rfl (T.glo 2) pass0 (pa_cons (pm0 (pv 0) (T.cls 68) (T.meth 73) G_R_now (hr.mono (by decide)) pass0) pa_nil)))))) (pss_one (ps_fldaug (pv 0) pe_int in_add))) (pss_cons (ps_set (i := 2) sc_R_read_line.nd rfl (Or.inl rfl) (pe_slice sl_str (pe_fld (pv 0) rfl) (po_some (pv 1)) (po_some (pe_fld (pv 0) rfl)))) (pss_cons (ps_expr (pm (pv 0) (T.cls 68) (T.meth 74) G_R_expect (hr.mono (by decide)) (passes_call (E := E) (takes_of rfl rfl rfl rfl) (fun _ _ _ _ h => h)) (pa_cons pe_str pa_nil))) (pss_one (ps_ret (pv 2))))))), ?_⟩
  obtain ⟨_, p, dx, t, n, l, rfl, hp, hA, ht, k⟩ := h
  refine ⟨_, rfl, p, _, _, _, _, rfl, hp, T.cls 68, T.noat 70, lk_at, ?_⟩
  refine ⟨fun q σ H1 => σ = [some (.ref p), some (.int (n : Nat)), none] ∧ ∃ m a l', H1 p = some (rO K dx t m) ∧ At t m l' ∧ Kp p H H1 ∧ l = a ++ l' ∧ (∀ c ∈ a, isSgn c = true) ∧ m = n + a.length ∧ q = l'.length, ⟨l.length, rfl, n, [], l, hp, hA, Kp.refl _ _, rfl, by simp, rfl, rfl⟩, ?_⟩
  rintro q σ H1 ⟨rfl, m, a, l', h1, hA1, kp, hl, ha, hm, rfl⟩
  refine ⟨_, rfl, p, dx, _, rfl, h1, lk_none, rfl, p, dx, t, m, l', rfl, h1, hA1, ht, rfl, _, rfl, ?_⟩
  rw [eq_nil]
  cases l' with
  | nil =>
    refine iteN rfl (iteN rfl ?_)
    obtain ⟨w1, w2⟩ := tw_end (l := []) ha (fun _ _ e => by cases e)
    rw [← hl] at w1 w2
    have hs : cutS (mkS t) (some ((n : Nat) : Int)) (some ((m : Nat) : Int)) = mkS a := by
      rw [hA.slice hm, hl, List.take_left]
    refine ⟨_, rfl, p, _, _, _, _, rfl, h1, T.cls 68, T.noat 69, lk_text, _, rfl, _, rfl, _, rfl, p, _, _, _, _, rfl, h1, T.cls 68, T.noat 70, lk_at, _, rfl, mkS t, rfl, lenOk ht, ?_⟩
    rw [hs]
    refine ⟨_, rfl, p, dx, _, rfl, h1, lk_none, rfl, p, dx, t, m, [], 10, by rw [lt_nl], h1, hA1, ht, RExp.of (fun r2 e2 H2 m2 h2 hA2 kp2 => ?_) (fun r2 e2 => ?_)⟩
    · refine ⟨_, rfl, k.ok (a := a) (r := r2) ?_ _ H2 m2 (kp.trans kp2) h2 hA2 rfl⟩
      unfold rdLine
      rw [w1, w2, e2]
    · refine (k.err (r := r2) ?_).mono kp
      unfold rdLine
      rw [w2, e2]
  | cons c r =>
    refine iteY rfl ⟨_, rfl, p, dx, _, rfl, h1, lk_none, rfl, p, dx, t, m, (c :: r), rfl, h1, hA1, ht, rfl, c, rfl, _, rfl, ?_⟩
    by_cases hc : isSgn c = true
    · refine iteY hc ⟨fun σ' H' => ∃ m', m' < (c :: r).length ∧ _, fun _ _ h => h, _, rfl, p, _, _, _, _, rfl, h1, T.cls 68, T.noat 70, lk_at, _, _, rfl, rfl, _, _, h1, (by decide : 2 < 1000), ?_⟩
      rw [put_at]
      exact ⟨r.length, by simp, rfl, m + 1, a ++ [c], r, upd_same, hA1.cons, kp.selfT, by simp [hl], snoc_all ha hc, by simp; omega, rfl⟩
    · refine iteN (Bool.eq_false_iff.mpr hc) ?_
      obtain ⟨w1, w2⟩ := tw_end (l := (c :: r)) ha (fun _ _ e => by cases e; exact Bool.eq_false_iff.mpr hc)
      rw [← hl] at w1 w2
      have hs : cutS (mkS t) (some ((n : Nat) : Int)) (some ((m : Nat) : Int)) = mkS a := by
        rw [hA.slice hm, hl, List.take_left]
      refine ⟨_, rfl, p, _, _, _, _, rfl, h1, T.cls 68, T.noat 69, lk_text, _, rfl, _, rfl, _, rfl, p, _, _, _, _, rfl, h1, T.cls 68, T.noat 70, lk_at, _, rfl, mkS t, rfl, lenOk ht, ?_⟩
      rw [hs]
      refine ⟨_, rfl, p, dx, _, rfl, h1, lk_none, rfl, p, dx, t, m, (c :: r), 10, by rw [lt_nl], h1, hA1, ht, RExp.of (fun r2 e2 H2 m2 h2 hA2 kp2 => ?_) (fun r2 e2 => ?_)⟩
      · refine ⟨_, rfl, k.ok (a := a) (r := r2) ?_ _ H2 m2 (kp.trans kp2) h2 hA2 rfl⟩
        unfold rdLine
        rw [w1, w2, e2]
      · refine (k.err (r := r2) ?_).mono kp
        unfold rdLine
        rw [w2, e2]
theorem wd_pre {a : Ws} (l : Ws) (h : ∀ c ∈ a, isLet c = true) (h8 : a.length ≤ 8) (e : (∀ c r, l = c :: r → isLet c = false) ∨ a.length = 8) : wd (a ++ l) = a := by
  unfold wd
  rcases e with e | e
  · rw [(tw_end h e).1, List.take_of_length_le h8]
  · have : ∀ (a l : Ws), (∀ c ∈ a, isLet c = true) → (a ++ l).takeWhile isLet = a ++ l.takeWhile isLet := fun a l h => by
      induction a with
      | nil => rfl
      | cons c a ih => rw [List.cons_append, List.takeWhile_cons_of_pos (h c (by simp)), ih fun x hx => h x (by simp [hx])]; rfl
    rw [this a l h, ← e, List.take_left]
theorem letS : ("abcdefghijklmnopqrstuvwxyz" : Str) = mkS letters := letters_is
theorem sc_R_read_word : FnScope ["self", "barred", "begin", "word"] ["self", "barred"] (defScope s_R_read_word) := ⟨rfl, rfl, rfl, by decide +kernel, rfl, by decide +kernel, by decide +kernel⟩
def sp_R_read_word (K : PySem.W.Frag) : Sp := fun vs H Q E => vs.length = 2 ∧ ∃ p dx t n l b bs, vs = [.ref p, .ref b] ∧ H p = some (rO K dx t n) ∧ H b = some (.lst (bs.map vS)) ∧ At t n l ∧ t.length ≤ 1000000 ∧ Res K Q E p dx H t isS (rdWord bs l)
theorem ok_R_read_word (T : Tx K mg) : Fn P w K mg base (L2.CX P w) 4 ("Reader", some "read_word") ["self", "barred"] (sp_R_read_word K) := by
  refine Fn.mkX (d := d_R_read_word) T 23 rfl rfl rfl sc_R_read_word (fun _ _ _ _ _ _ us hl => match us, hl with | [_, _], _ => rfl) (fun vs H Q E h => h.1) (fun cdv A outer s H vs Q E hr h => ?_)
  have hu := hu_of hr
  have G_R_stop : Fn P w K mg base (L2.CX P w) 3 ("Reader", some "stop") ["self"] (sp_R_stop K) := ok_R_stop T
  have G_R_now : Fn P w K mg base CX0 1 ("Reader", some "now") ["self"] (sp_R_now K) := ok_R_now T
  refine ⟨_, (pss_cons (ps_set (i := 2) sc_R_read_word.nd rfl (Or.inl rfl) (pe_fld (pv 0) rfl)) (pss_cons (ps_while (passes_of rfl) (PW.pt (pw_and (pt_cmpR op_ne (pm0 (pv 0) (T.cls 68) (T.meth 73) G_R_now (hr.mono (by decide)) pass0) pe_str (nomark _)) (pw_and (pt_cmpR op_in_sign (pm0 (pv 0) (T.cls 68) (T.meth 73) G_R_now (hr.mono (by decide)) pass0) (pe_gS rfl (T.str 50)) rfl) (pw_and1 (pt_cmpR op_lt (pe_op op_sub (pe_fld (pv 0) rfl) (pv 2)) (pe_gI rfl (T.int 51)) (nomark _)))))) (pss_cons (ps_if (PW.pt (pw_and (pt_cmpR op_eq (pe_op op_sub (pe_fld (pv 0) rfl) (pv 2)) (pe_op op_sub (pe_gI rfl (T.int 51)) pe_int) (nomark _)) (pw_and1 (pt_cmpR op_in_seq (pe_slice sl_str (pe_fld (pv 0) rfl) (po_some (pv 2)) (po_some (pe_op op_add (pe_fld (pv 0) rfl) pe_int))) (pv 1) rfl)))) (pss_one (ps_expr (pm0 (pv 0) (T.cls 68) (T.meth 72) G_R_stop (hr.mono (by decide)) (passes_call (E := E) (takes_of rfl rfl rfl rfl) (fun _ _ _ _ h => h))))) pss_nil) (pss_one (ps_fldaug (pv 0) pe_int in_add)))) (pss_cons (ps_set (i := 3) sc_R_read_word.nd rfl (Or.inl rfl) (pe_slice sl_str (pe_fld (pv 0) rfl) (po_some (pv 2)) (po_some (pe_fld (pv 0) rfl)))) (pss_cons (ps_if (PW.pt (pw_or (pt_cmpR op_eq (pv 3) pe_str (nomark _)) (pw_or1 (pt_cmpR op_in_seq (pv 3) (pv 1) rfl)))) (pss_one (ps_expr (pm0 (pv 0) (T.cls 68) (T.meth 72) G_R_stop (hr.mono (by decide)) (passes_call (E := E) (takes_of rfl rfl rfl rfl) (fun _ _ _ _ h => h))))) pss_nil) (pss_one (ps_ret (pv 3))))))), ?_⟩
  obtain ⟨_, p, dx, t, n, l, b, bs, rfl, hp, hb, hA, ht, k⟩ := h
  have nbp : b ≠ p := fun z => by rw [z, hp] at hb; cases hb
  refine ⟨_, rfl, p, _, _, _, _, rfl, hp, T.cls 68, T.noat 70, lk_at, ?_⟩
  refine ⟨fun q σ H1 => σ = [some (.ref p), some (.ref b), some (.int (n : Nat)), none] ∧ ∃ m a l', H1 p = some (rO K dx t m) ∧ At t m l' ∧ Kp p H H1 ∧ l = a ++ l' ∧ (∀ c ∈ a, isLet c = true) ∧ m = n + a.length ∧ a.length ≤ 8 ∧ (a.length = 8 → a ∉ bs) ∧ q = l'.length, ⟨l.length, rfl, n, [], l, hp, hA, Kp.refl _ _, rfl, by simp, rfl, by simp, by simp, rfl⟩, ?_⟩
  rintro q σ H1 ⟨rfl, m, a, l', h1, hA1, kp, hl, ha, hm, h8, hbar, rfl⟩
  have hb1 := kp _ _ nbp hb
  refine ⟨_, rfl, p, dx, _, rfl, h1, lk_none, rfl, p, dx, t, m, l', rfl, h1, hA1, ht, rfl, _, rfl, ?_⟩
  rw [eq_nil]
  cases l' with
  | nil =>
    refine iteN rfl (iteN rfl ?_)
    have hwd : wd l = a := by rw [hl]; exact wd_pre [] ha h8 (.inl fun _ _ (e : [] = _ :: _) => by cases e)
    have hdr : l.drop a.length = [] := by rw [hl, List.drop_left]
    have hs : cutS (mkS t) (some ((n : Nat) : Int)) (some ((m : Nat) : Int)) = mkS a := by
      rw [hA.slice hm, hl, List.take_left]
    refine ⟨_, rfl, p, _, _, _, _, rfl, h1, T.cls 68, T.noat 69, lk_text, _, rfl, _, rfl, _, rfl, p, _, _, _, _, rfl, h1, T.cls 68, T.noat 70, lk_at, _, rfl, mkS t, rfl, lenOk ht, ?_⟩
    rw [hs]
    refine ⟨_, rfl, rfl, _, rfl, ?_⟩
    rw [eq_nil]
    have nb : ¬ ((wd l).length = 8 ∧ wd l ∈ bs) := by
      rw [hwd]
      exact fun z => hbar z.1 z.2
    by_cases hz : a = []
    · refine iteY (decide_eq_true hz) (iteY rfl ⟨_, rfl, p, dx, _, rfl, h1, lk_none, rfl, p, dx, t, m, [], rfl, h1, hA1, (k.err ?_).mono kp⟩)
      unfold rdWord
      rw [if_neg nb, if_pos (by rw [hwd]; exact .inl hz), hwd, hdr]
    · refine iteN (decide_eq_false hz) ⟨_, rfl, _, rfl, b, _, rfl, .inl (SqL.of hb1), rfl, flat_strs bs, _, rfl, ?_⟩
      refine iteB (fun e => ?_) (fun e => ?_)
      · have e' : inV (vS a) (bs.map vS) = true := e
        rw [inV_strs, decide_eq_true_eq] at e'
        refine ⟨_, rfl, p, dx, _, rfl, h1, lk_none, rfl, p, dx, t, m, [], rfl, h1, hA1, (k.err ?_).mono kp⟩
        unfold rdWord
        rw [if_neg nb, if_pos (by rw [hwd]; exact .inr e'), hwd, hdr]
      · have e' : inV (vS a) (bs.map vS) = false := e
        rw [inV_strs, decide_eq_false_iff_not] at e'
        refine ⟨_, rfl, k.ok (a := a) (r := []) ?_ _ H1 m kp h1 hA1 rfl⟩
        unfold rdWord
        rw [if_neg nb, if_neg (by rw [hwd]; exact fun z => z.elim hz e'), hwd, hdr]
  | cons c r =>
    refine iteY rfl ⟨_, rfl, p, dx, _, rfl, h1, lk_none, rfl, p, dx, t, m, (c :: r), rfl, h1, hA1, ht, c, _, rfl, rfl, _, rfl, ?_⟩
    rw [let_in]
    by_cases hc : isLet c = true
    · refine iteY hc ⟨_, rfl, p, _, _, _, _, rfl, h1, T.cls 68, T.noat 70, lk_at, _, rfl, _, _, rfl, rfl, _, _, rfl, rfl, _, rfl, ?_⟩
      by_cases c8 : a.length = 8
      · refine iteN (decide_eq_false (by omega)) ?_
        have hwd : wd l = a := by rw [hl]; exact wd_pre (c :: r) ha h8 (.inr c8)
        have hdr : l.drop a.length = (c :: r) := by rw [hl, List.drop_left]
        have hs : cutS (mkS t) (some ((n : Nat) : Int)) (some ((m : Nat) : Int)) = mkS a := by
          rw [hA.slice hm, hl, List.take_left]
        refine ⟨_, rfl, p, _, _, _, _, rfl, h1, T.cls 68, T.noat 69, lk_text, _, rfl, _, rfl, _, rfl, p, _, _, _, _, rfl, h1, T.cls 68, T.noat 70, lk_at, _, rfl, mkS t, rfl, lenOk ht, ?_⟩
        rw [hs]
        refine ⟨_, rfl, rfl, _, rfl, ?_⟩
        rw [eq_nil]
        have nb : ¬ ((wd l).length = 8 ∧ wd l ∈ bs) := by
          rw [hwd]
          exact fun z => hbar z.1 z.2
        by_cases hz : a = []
        · refine iteY (decide_eq_true hz) (iteY rfl ⟨_, rfl, p, dx, _, rfl, h1, lk_none, rfl, p, dx, t, m, (c :: r), rfl, h1, hA1, (k.err ?_).mono kp⟩)
          unfold rdWord
          rw [if_neg nb, if_pos (by rw [hwd]; exact .inl hz), hwd, hdr]
        · refine iteN (decide_eq_false hz) ⟨_, rfl, _, rfl, b, _, rfl, .inl (SqL.of hb1), rfl, flat_strs bs, _, rfl, ?_⟩
          refine iteB (fun e => ?_) (fun e => ?_)
          · have e' : inV (vS a) (bs.map vS) = true := e
            rw [inV_strs, decide_eq_true_eq] at e'
            refine ⟨_, rfl, p, dx, _, rfl, h1, lk_none, rfl, p, dx, t, m, (c :: r), rfl, h1, hA1, (k.err ?_).mono kp⟩
            unfold rdWord
            rw [if_neg nb, if_pos (by rw [hwd]; exact .inr e'), hwd, hdr]
          · have e' : inV (vS a) (bs.map vS) = false := e
            rw [inV_strs, decide_eq_false_iff_not] at e'
            refine ⟨_, rfl, k.ok (a := a) (r := (c :: r)) ?_ _ H1 m kp h1 hA1 rfl⟩
            unfold rdWord
            rw [if_neg nb, if_neg (by rw [hwd]; exact fun z => z.elim hz e'), hwd, hdr]
      · refine iteY (decide_eq_true (by omega)) ⟨fun σ' H' => ∃ m', m' < (c :: r).length ∧ _, fun _ _ h => h, ?_⟩
        refine ⟨_, rfl, p, _, _, _, _, rfl, h1, T.cls 68, T.noat 70, lk_at, _, rfl, _, _, rfl, rfl, _, _, rfl, rfl, rfl, _, rfl, ?_⟩
        rw [dint]
        have hw1 : ∀ c' ∈ a ++ [c], isLet c' = true := snoc_all ha hc
        have hl1 : l = (a ++ [c]) ++ r := by simp [hl]
        have hm1 : m + 1 = n + (a ++ [c]).length := by simp; omega
        have hs : cutS (mkS t) (some ((n : Nat) : Int)) (some ((m : Nat) + 1 : Int)) = mkS (a ++ [c]) := by
          show cutS (mkS t) (some ((n : Nat) : Int)) (some ((m + 1 : Nat) : Int)) = _
          rw [hA.slice hm1, hl1, List.take_left]
        by_cases c7 : a.length = 7
        · refine iteY (decide_eq_true (by omega)) ⟨_, rfl, p, _, _, _, _, rfl, h1, T.cls 68, T.noat 69, lk_text, _, rfl, _, rfl, _, rfl, p, _, _, _, _, rfl, h1, T.cls 68, T.noat 70, lk_at, _, _, rfl, rfl, _, rfl, mkS t, rfl, lenOk ht, ?_⟩
          rw [hs]
          refine ⟨_, rfl, b, _, rfl, .inl (SqL.of hb1), rfl, flat_strs bs, _, rfl, ?_⟩
          refine iteB (fun e => ?_) (fun e => ?_)
          · have e' : inV (vS (a ++ [c])) (bs.map vS) = true := e
            rw [inV_strs, decide_eq_true_eq] at e'
            refine ⟨_, rfl, p, dx, _, rfl, h1, lk_none, rfl, p, dx, t, m, (c :: r), rfl, h1, hA1, (k.err ?_).mono kp⟩
            have hwd : wd l = a ++ [c] := by rw [hl1]; exact wd_pre r hw1 (by simp; omega) (.inr (by simp; omega))
            unfold rdWord
            rw [if_pos (by rw [hwd]; exact ⟨by simp; omega, e'⟩), hl, ← c7, List.drop_left]
          · have e' : inV (vS (a ++ [c])) (bs.map vS) = false := e
            rw [inV_strs, decide_eq_false_iff_not] at e'
            refine ⟨_, rfl, p, _, _, _, _, rfl, h1, T.cls 68, T.noat 70, lk_at, _, _, rfl, rfl, _, _, h1, (by decide : 2 < 1000), ?_⟩
            rw [put_at]
            exact ⟨r.length, by simp, rfl, m + 1, a ++ [c], r, upd_same, hA1.cons, kp.selfT, hl1, hw1, hm1, by simp; omega, fun _ => e', rfl⟩
        · refine iteN (decide_eq_false (by omega)) (iteN rfl ⟨_, rfl, p, _, _, _, _, rfl, h1, T.cls 68, T.noat 70, lk_at, _, _, rfl, rfl, _, _, h1, (by decide : 2 < 1000), ?_⟩)
          rw [put_at]
          exact ⟨r.length, by simp, rfl, m + 1, a ++ [c], r, upd_same, hA1.cons, kp.selfT, hl1, hw1, hm1, by simp; omega, fun z => absurd z (by simp; omega), rfl⟩
    · refine iteN (Bool.eq_false_iff.mpr hc) (iteN rfl ?_)
      have hwd : wd l = a := by rw [hl]; exact wd_pre (c :: r) ha h8 (.inl fun _ _ e => by cases e; exact Bool.eq_false_iff.mpr hc)
      have hdr : l.drop a.length = (c :: r) := by rw [hl, List.drop_left]
      have hs : cutS (mkS t) (some ((n : Nat) : Int)) (some ((m : Nat) : Int)) = mkS a := by
        rw [hA.slice hm, hl, List.take_left]
      refine ⟨_, rfl, p, _, _, _, _, rfl, h1, T.cls 68, T.noat 69, lk_text, _, rfl, _, rfl, _, rfl, p, _, _, _, _, rfl, h1, T.cls 68, T.noat 70, lk_at, _, rfl, mkS t, rfl, lenOk ht, ?_⟩
      rw [hs]
      refine ⟨_, rfl, rfl, _, rfl, ?_⟩
      rw [eq_nil]
      have nb : ¬ ((wd l).length = 8 ∧ wd l ∈ bs) := by
        rw [hwd]
        exact fun z => hbar z.1 z.2
      by_cases hz : a = []
      · refine iteY (decide_eq_true hz) (iteY rfl ⟨_, rfl, p, dx, _, rfl, h1, lk_none, rfl, p, dx, t, m, (c :: r), rfl, h1, hA1, (k.err ?_).mono kp⟩)
        unfold rdWord
        rw [if_neg nb, if_pos (by rw [hwd]; exact .inl hz), hwd, hdr]
      · refine iteN (decide_eq_false hz) ⟨_, rfl, _, rfl, b, _, rfl, .inl (SqL.of hb1), rfl, flat_strs bs, _, rfl, ?_⟩
        refine iteB (fun e => ?_) (fun e => ?_)
        · have e' : inV (vS a) (bs.map vS) = true := e
          rw [inV_strs, decide_eq_true_eq] at e'
          refine ⟨_, rfl, p, dx, _, rfl, h1, lk_none, rfl, p, dx, t, m, (c :: r), rfl, h1, hA1, (k.err ?_).mono kp⟩
          unfold rdWord
          rw [if_neg nb, if_pos (by rw [hwd]; exact .inr e'), hwd, hdr]
        · have e' : inV (vS a) (bs.map vS) = false := e
          rw [inV_strs, decide_eq_false_iff_not] at e'
          refine ⟨_, rfl, k.ok (a := a) (r := (c :: r)) ?_ _ H1 m kp h1 hA1 rfl⟩
          unfold rdWord
          rw [if_neg nb, if_neg (by rw [hwd]; exact fun z => z.elim hz e'), hwd, hdr]
end
end Kn

set_option maxHeartbeats 4000000
/-! The Reader: arguments, parameters. -/
namespace Kn
open PySem PySem.Spec PyProof.Rows L2 KnR
theorem take1 {l : Ws} {c : Nat} : decide (l.take 1 = [c]) = decide (l.head? = some c) := by
  cases l with
  | nil => rfl
  | cons d r =>
    by_cases h : d = c
    · subst h; simp
    · simp [h]
theorem more_end {rd : List Ws → Ws → Rs Ws} {k : Nat} {ps : List Ws} {l : Ws} (h : k = 0 ∨ l.head? ≠ some 44) : more rd k ps l = match ex1 41 l with
    | .ok r => .ok (ps, r)
    | .error e => .error e := by
  cases l with
  | nil => simp [more, ex1]
  | cons d r =>
    rw [ex1_cons]
    cases k with
    | zero =>
      unfold more
      by_cases c : d = 41
      · rw [if_pos c, if_pos c]
      · rw [if_neg c, if_neg c]
    | succ k =>
      have h : ¬ d = 44 := by
        rcases h with h | h
        · cases h
        · exact fun z => h (by rw [z]; rfl)
      unfold more
      by_cases c : d = 41
      · rw [if_pos c, if_pos c]
      · rw [if_neg c, if_neg c, if_neg h]
theorem lt_sp : (" " : Str) = mkS [32] := str_blank
section
variable {P : Program} {w : World} {K : PySem.W.Frag} {mg : Str → Option Value} {base : Heap}
theorem sc_R_read_argument : FnScope ["self", "begin"] ["self"] (defScope s_R_read_argument) := ⟨rfl, rfl, rfl, by decide +kernel, rfl, by decide +kernel, by decide +kernel⟩
def sp_R_read_argument (K : PySem.W.Frag) : Sp := fun vs H Q E => vs.length = 1 ∧ ∃ p dx t n l, vs = [.ref p] ∧ H p = some (rO K dx t n) ∧ At t n l ∧ t.length ≤ 1000000 ∧ Res K Q E p dx H t isS (rdArg l)
theorem ok_R_read_argument (T : Tx K mg) : Fn P w K mg base (L2.CX P w) 4 ("Reader", some "read_argument") ["self"] (sp_R_read_argument K) := by
  refine Fn.mkX (d := d_R_read_argument) T 26 rfl rfl rfl sc_R_read_argument (fun _ _ _ _ _ _ us hl => match us, hl with | [_], _ => rfl) (fun vs H Q E h => h.1) (fun cdv A outer s H vs Q E hr h => ?_)
  have hu := hu_of hr
  have G_R_stop : Fn P w K mg base (L2.CX P w) 3 ("Reader", some "stop") ["self"] (sp_R_stop K) := ok_R_stop T
  have G_R_now : Fn P w K mg base CX0 1 ("Reader", some "now") ["self"] (sp_R_now K) := ok_R_now T
  have G_is_sign : Fn P w K mg base CX0 1 ("is_sign", none) ["sign"] (sp_is_sign K) := ok_is_sign T
  refine ⟨_, (pss_cons (ps_set (i := 1) sc_R_read_argument.nd rfl (Or.inl rfl) (pe_fld (pv 0) rfl)) (pss_cons (ps_if (pt_cmpR op_eq (pm0 (pv 0) (T.cls 68) (T.meth 73) G_R_now (hr.mono (by decide)) pass0) pe_str (nomark _)) (pss_one (ps_expr (pm0 (pv 0) (T.cls 68) (T.meth 72) G_R_stop (hr.mono (by decide)) (passes_call (E := E) (takes_of rfl rfl rfl rfl) (fun _ _ _ _ h => h))))) pss_nil) (pss_cons (ps_while (passes_of rfl) (PW.pt (pw_and (pt_cmpR op_ne (pm0 (pv 0) (T.cls 68) (T.meth 73) G_R_now (hr.mono (by decide)) pass0) pe_str (nomark _)) (pw_and (pt_val (pc G_is_sign (hr.mono (by decide)) rfl (T.glo 2) pass0 (pa_cons (pm0 (pv 0) (T.cls 68) (T.meth 73) G_R_now (hr.mono (by decide)) pass0) pa_nil))) (pw_and1 (pt_cmpR op_notIn_sign (pm0 (pv 0) (T.cls 68) (T.meth 73) G_R_now (hr.mono (by decide)) pass0) pe_str rfl))))) (pss_one (ps_fldaug (pv 0) pe_int in_add))) (pss_cons (ps_if (PW.pt (pw_or (pt_cmpR op_eq (pe_fld (pv 0) rfl) (pv 1) (nomark _)) (pw_or1 (pt_cmpR op_eq (pe_ix ix_str (pe_fld (pv 0) rfl) (pe_op op_sub (pe_fld (pv 0) rfl) pe_int) (fun _ _ => rfl)) pe_str (nomark _))))) (pss_one (ps_expr (pm0 (pv 0) (T.cls 68) (T.meth 72) G_R_stop (hr.mono (by decide)) (passes_call (E := E) (takes_of rfl rfl rfl rfl) (fun _ _ _ _ h => h))))) pss_nil) (pss_one (ps_ret (pe_slice sl_str (pe_fld (pv 0) rfl) (po_some (pv 1)) (po_some (pe_fld (pv 0) rfl))))))))), ?_⟩
  obtain ⟨_, p, dx, t, n, l, rfl, hp, hA, ht, k⟩ := h
  refine ⟨_, rfl, p, _, _, _, _, rfl, hp, T.cls 68, T.noat 70, lk_at, ?_⟩
  refine ⟨_, rfl, p, dx, _, rfl, hp, lk_none, rfl, p, dx, t, n, l, rfl, hp, hA, ht, rfl, _, rfl, ?_⟩
  rw [eq_blank, take1]
  by_cases h32 : l.head? = some 32
  · refine iteY (decide_eq_true h32) ⟨_, rfl, p, dx, _, rfl, hp, lk_none, rfl, p, dx, t, n, l, rfl, hp, hA, k.err ?_⟩
    unfold rdArg
    rw [if_pos h32]
  · refine iteN (decide_eq_false h32) ?_
    refine ⟨fun q σ H1 => σ = [some (.ref p), some (.int (n : Nat))] ∧ ∃ m a l', H1 p = some (rO K dx t m) ∧ At t m l' ∧ Kp p H H1 ∧ l = a ++ l' ∧ (∀ c ∈ a, isArg c = true) ∧ m = n + a.length ∧ q = l'.length, ⟨l.length, rfl, n, [], l, hp, hA, Kp.refl _ _, rfl, by simp, rfl, rfl⟩, ?_⟩
    rintro q σ H1 ⟨rfl, m, a, l', h1, hA1, kp, hl, ha, hm, rfl⟩
    refine ⟨_, rfl, p, dx, _, rfl, h1, lk_none, rfl, p, dx, t, m, l', rfl, h1, hA1, ht, rfl, _, rfl, ?_⟩
    rw [eq_nil]
    cases l' with
    | nil =>
      refine iteN rfl (iteN rfl ?_)
      obtain ⟨w1, w2⟩ := tw_end (l := []) ha (fun _ _ (e : [] = _ :: _) => by cases e)
      rw [← hl] at w1 w2
      have hs : cutS (mkS t) (some ((n : Nat) : Int)) (some ((m : Nat) : Int)) = mkS a := by
        rw [hA.slice hm, hl, List.take_left]
      refine ⟨_, rfl, p, _, _, _, _, rfl, h1, T.cls 68, T.noat 70, lk_at, _, rfl, rfl, _, rfl, ?_⟩
      rw [dint]
      by_cases hz : a = []
      · refine iteY (decide_eq_true (by rw [hm, hz]; simp)) (iteY rfl ⟨_, rfl, p, dx, _, rfl, h1, lk_none, rfl, p, dx, t, m, [], rfl, h1, hA1, (k.err ?_).mono kp⟩)
        unfold rdArg
        rw [if_neg h32, if_pos (.inl (by unfold ar; rw [w1, hz])), w2]
      · have hne := List.length_pos_iff.mpr hz
        refine iteN (decide_eq_false (by omega)) ?_
        obtain ⟨a0, d, rfl⟩ : ∃ a0 d, a = a0 ++ [d] := by
          rcases List.eq_nil_or_concat a with z | ⟨st, d, z⟩
          · exact absurd z hz
          · exact ⟨st, d, by rw [z, List.concat_eq_append]⟩
        have hd : t[n + a0.length]? = some d := by
          have q : At t n (a0 ++ (d :: [])) := by
            rw [hl] at hA
            simpa using hA
          exact q.app.get
        have hi : ((m : Nat) : Int) - 1 = ((n + a0.length : Nat) : Int) := by
          simp at hm
          omega
        have hat : atI (mkS t).cps.toList (((m : Nat) : Int) - 1) = some d := by
          rw [hi, cps_mkS]
          exact atI_nat hd
        refine ⟨_, rfl, p, _, _, _, _, rfl, h1, T.cls 68, T.noat 69, lk_text, _, rfl, p, _, _, _, _, rfl, h1, T.cls 68, T.noat 70, lk_at, _, _, rfl, rfl, _, _, d, rfl, rfl, lenOk ht, hat, rfl, _, rfl, ?_⟩
        rw [show decide (V.str ⟨#[d]⟩ = V.str (" " : Str)) = decide ([d] = ([32] : Ws)) from eq_blank [d]]
        have hgl : (a0 ++ [d]).getLast? = some d := by simp
        by_cases hb : d = 32
        · refine iteY (decide_eq_true (by rw [hb])) ⟨_, rfl, p, dx, _, rfl, h1, lk_none, rfl, p, dx, t, m, [], rfl, h1, hA1, (k.err ?_).mono kp⟩
          unfold rdArg
          rw [if_neg h32, if_pos (.inr (by unfold ar; rw [w1, hgl, hb])), w2]
        · refine iteN (decide_eq_false (by simp [hb])) ?_
          refine ⟨_, rfl, p, _, _, _, _, rfl, h1, T.cls 68, T.noat 69, lk_text, _, rfl, _, rfl, _, rfl, p, _, _, _, _, rfl, h1, T.cls 68, T.noat 70, lk_at, _, rfl, mkS t, rfl, lenOk ht, ?_⟩
          rw [hs]
          refine k.ok (a := a0 ++ [d]) (r := []) ?_ _ H1 m kp h1 hA1 rfl
          unfold rdArg
          rw [if_neg h32, if_neg (by unfold ar; rw [w1, hgl]; exact fun z => z.elim (by simp) fun z => hb (Option.some.inj z)), w2]
          unfold ar
          rw [w1]
    | cons c r =>
      refine iteY rfl ⟨_, rfl, p, dx, _, rfl, h1, lk_none, rfl, p, dx, t, m, (c :: r), rfl, h1, hA1, ht, rfl, c, rfl, _, rfl, ?_⟩
      by_cases hc : isSgn c = true
      · refine iteY hc ⟨_, rfl, p, dx, _, rfl, h1, lk_none, rfl, p, dx, t, m, (c :: r), rfl, h1, hA1, ht, c, _, rfl, rfl, _, rfl, ?_⟩
        rw [br_in]
        by_cases hb : isBr c = true
        · refine iteN (by rw [hb]; rfl) ?_
          have na : isArg c = false := by unfold isArg; rw [hb]; simp
          obtain ⟨w1, w2⟩ := tw_end (l := (c :: r)) ha (fun _ _ e => by cases e; exact na)
          rw [← hl] at w1 w2
          have hs : cutS (mkS t) (some ((n : Nat) : Int)) (some ((m : Nat) : Int)) = mkS a := by
            rw [hA.slice hm, hl, List.take_left]
          refine ⟨_, rfl, p, _, _, _, _, rfl, h1, T.cls 68, T.noat 70, lk_at, _, rfl, rfl, _, rfl, ?_⟩
          rw [dint]
          by_cases hz : a = []
          · refine iteY (decide_eq_true (by rw [hm, hz]; simp)) (iteY rfl ⟨_, rfl, p, dx, _, rfl, h1, lk_none, rfl, p, dx, t, m, (c :: r), rfl, h1, hA1, (k.err ?_).mono kp⟩)
            unfold rdArg
            rw [if_neg h32, if_pos (.inl (by unfold ar; rw [w1, hz])), w2]
          · have hne := List.length_pos_iff.mpr hz
            refine iteN (decide_eq_false (by omega)) ?_
            obtain ⟨a0, d, rfl⟩ : ∃ a0 d, a = a0 ++ [d] := by
              rcases List.eq_nil_or_concat a with z | ⟨st, d, z⟩
              · exact absurd z hz
              · exact ⟨st, d, by rw [z, List.concat_eq_append]⟩
            have hd : t[n + a0.length]? = some d := by
              have q : At t n (a0 ++ (d :: (c :: r))) := by
                rw [hl] at hA
                simpa using hA
              exact q.app.get
            have hi : ((m : Nat) : Int) - 1 = ((n + a0.length : Nat) : Int) := by
              simp at hm
              omega
            have hat : atI (mkS t).cps.toList (((m : Nat) : Int) - 1) = some d := by
              rw [hi, cps_mkS]
              exact atI_nat hd
            refine ⟨_, rfl, p, _, _, _, _, rfl, h1, T.cls 68, T.noat 69, lk_text, _, rfl, p, _, _, _, _, rfl, h1, T.cls 68, T.noat 70, lk_at, _, _, rfl, rfl, _, _, d, rfl, rfl, lenOk ht, hat, rfl, _, rfl, ?_⟩
            rw [show decide (V.str ⟨#[d]⟩ = V.str (" " : Str)) = decide ([d] = ([32] : Ws)) from eq_blank [d]]
            have hgl : (a0 ++ [d]).getLast? = some d := by simp
            by_cases hb : d = 32
            · refine iteY (decide_eq_true (by rw [hb])) ⟨_, rfl, p, dx, _, rfl, h1, lk_none, rfl, p, dx, t, m, (c :: r), rfl, h1, hA1, (k.err ?_).mono kp⟩
              unfold rdArg
              rw [if_neg h32, if_pos (.inr (by unfold ar; rw [w1, hgl, hb])), w2]
            · refine iteN (decide_eq_false (by simp [hb])) ?_
              refine ⟨_, rfl, p, _, _, _, _, rfl, h1, T.cls 68, T.noat 69, lk_text, _, rfl, _, rfl, _, rfl, p, _, _, _, _, rfl, h1, T.cls 68, T.noat 70, lk_at, _, rfl, mkS t, rfl, lenOk ht, ?_⟩
              rw [hs]
              refine k.ok (a := a0 ++ [d]) (r := (c :: r)) ?_ _ H1 m kp h1 hA1 rfl
              unfold rdArg
              rw [if_neg h32, if_neg (by unfold ar; rw [w1, hgl]; exact fun z => z.elim (by simp) fun z => hb (Option.some.inj z)), w2]
              unfold ar
              rw [w1]
        · refine iteY (by simp [hb]) ⟨fun σ' H' => ∃ m', m' < (c :: r).length ∧ _, fun _ _ h => h, _, rfl, p, _, _, _, _, rfl, h1, T.cls 68, T.noat 70, lk_at, _, _, rfl, rfl, _, _, h1, (by decide : 2 < 1000), ?_⟩
          have na : isArg c = true := by unfold isArg; simp [hb, hc]
          rw [put_at]
          exact ⟨r.length, by simp, rfl, m + 1, a ++ [c], r, upd_same, hA1.cons, kp.selfT, by simp [hl], snoc_all ha na, by simp; omega, rfl⟩
      · refine iteN (Bool.eq_false_iff.mpr hc) (iteN rfl ?_)
        have na : isArg c = false := by unfold isArg; simp [hc]
        obtain ⟨w1, w2⟩ := tw_end (l := (c :: r)) ha (fun _ _ e => by cases e; exact na)
        rw [← hl] at w1 w2
        have hs : cutS (mkS t) (some ((n : Nat) : Int)) (some ((m : Nat) : Int)) = mkS a := by
          rw [hA.slice hm, hl, List.take_left]
        refine ⟨_, rfl, p, _, _, _, _, rfl, h1, T.cls 68, T.noat 70, lk_at, _, rfl, rfl, _, rfl, ?_⟩
        rw [dint]
        by_cases hz : a = []
        · refine iteY (decide_eq_true (by rw [hm, hz]; simp)) (iteY rfl ⟨_, rfl, p, dx, _, rfl, h1, lk_none, rfl, p, dx, t, m, (c :: r), rfl, h1, hA1, (k.err ?_).mono kp⟩)
          unfold rdArg
          rw [if_neg h32, if_pos (.inl (by unfold ar; rw [w1, hz])), w2]
        · have hne := List.length_pos_iff.mpr hz
          refine iteN (decide_eq_false (by omega)) ?_
          obtain ⟨a0, d, rfl⟩ : ∃ a0 d, a = a0 ++ [d] := by
            rcases List.eq_nil_or_concat a with z | ⟨st, d, z⟩
            · exact absurd z hz
            · exact ⟨st, d, by rw [z, List.concat_eq_append]⟩
          have hd : t[n + a0.length]? = some d := by
            have q : At t n (a0 ++ (d :: (c :: r))) := by
              rw [hl] at hA
              simpa using hA
            exact q.app.get
          have hi : ((m : Nat) : Int) - 1 = ((n + a0.length : Nat) : Int) := by
            simp at hm
            omega
          have hat : atI (mkS t).cps.toList (((m : Nat) : Int) - 1) = some d := by
            rw [hi, cps_mkS]
            exact atI_nat hd
          refine ⟨_, rfl, p, _, _, _, _, rfl, h1, T.cls 68, T.noat 69, lk_text, _, rfl, p, _, _, _, _, rfl, h1, T.cls 68, T.noat 70, lk_at, _, _, rfl, rfl, _, _, d, rfl, rfl, lenOk ht, hat, rfl, _, rfl, ?_⟩
          rw [show decide (V.str ⟨#[d]⟩ = V.str (" " : Str)) = decide ([d] = ([32] : Ws)) from eq_blank [d]]
          have hgl : (a0 ++ [d]).getLast? = some d := by simp
          by_cases hb : d = 32
          · refine iteY (decide_eq_true (by rw [hb])) ⟨_, rfl, p, dx, _, rfl, h1, lk_none, rfl, p, dx, t, m, (c :: r), rfl, h1, hA1, (k.err ?_).mono kp⟩
            unfold rdArg
            rw [if_neg h32, if_pos (.inr (by unfold ar; rw [w1, hgl, hb])), w2]
          · refine iteN (decide_eq_false (by simp [hb])) ?_
            refine ⟨_, rfl, p, _, _, _, _, rfl, h1, T.cls 68, T.noat 69, lk_text, _, rfl, _, rfl, _, rfl, p, _, _, _, _, rfl, h1, T.cls 68, T.noat 70, lk_at, _, rfl, mkS t, rfl, lenOk ht, ?_⟩
            rw [hs]
            refine k.ok (a := a0 ++ [d]) (r := (c :: r)) ?_ _ H1 m kp h1 hA1 rfl
            unfold rdArg
            rw [if_neg h32, if_neg (by unfold ar; rw [w1, hgl]; exact fun z => z.elim (by simp) fun z => hb (Option.some.inj z)), w2]
            unfold ar
            rw [w1]
theorem sc_R_read_params : FnScope ["self", "params"] ["self"] (defScope s_R_read_params) := ⟨rfl, rfl, rfl, by decide +kernel, rfl, by decide +kernel, by decide +kernel⟩
def sp_R_read_params (K : PySem.W.Frag) : Sp := fun vs H Q E => vs.length = 1 ∧ ∃ p dx t n l, vs = [.ref p] ∧ H p = some (rO K dx t n) ∧ At t n l ∧ t.length ≤ 1000000 ∧ Res K Q E p dx H t (fun H v qs => Dt H v (dSs qs)) (rdParams l)
theorem ok_R_read_params (T : Tx K mg) : Fn P w K mg base (L2.CX P w) 5 ("Reader", some "read_params") ["self"] (sp_R_read_params K) := by
  refine Fn.mkX (d := d_R_read_params) T 24 rfl rfl rfl sc_R_read_params (fun _ _ _ _ _ _ us hl => match us, hl with | [_], _ => rfl) (fun vs H Q E h => h.1) (fun cdv A outer s H vs Q E hr h => ?_)
  have hu := hu_of hr
  have G_R_expect : Fn P w K mg base (L2.CX P w) 4 ("Reader", some "expect") ["self", "sign"] (sp_R_expect K) := ok_R_expect T
  have G_R_now : Fn P w K mg base CX0 1 ("Reader", some "now") ["self"] (sp_R_now K) := ok_R_now T
  have G_R_read_word : Fn P w K mg base (L2.CX P w) 4 ("Reader", some "read_word") ["self", "barred"] (sp_R_read_word K) := ok_R_read_word T
  refine ⟨_, (pss_cons (ps_set (i := 1) sc_R_read_params.nd rfl (Or.inl rfl) (pe_lst pa_nil)) (C8.pss_cut (ps_if (pt_cmpR op_ne (pm0 (pv 0) (T.cls 68) (T.meth 73) G_R_now (hr.mono (by decide)) pass0) pe_str (nomark _)) (pss_cons (ps_expr (pe_bm PySem.F.plainAttrs_list PySem.F.slot_list_append PySem.F.type_list_append mt_append (pv 1) (pa_cons (pm (pv 0) (T.cls 68) (T.meth 76) G_R_read_word (hr.mono (by decide)) (passes_call (E := E) (takes_of rfl rfl rfl rfl) (fun _ _ _ _ h => h)) (pa_cons (pv 1) pa_nil)) pa_nil))) (pss_one (ps_while (passes_of rfl) (PW.pt (pw_and (pt_cmpR op_eq (pm0 (pv 0) (T.cls 68) (T.meth 73) G_R_now (hr.mono (by decide)) pass0) pe_str (nomark _)) (pw_and1 (pt_cmpR op_lt (pe_callB call_len_seq rfl (T.free 59) (by decide +kernel) (pa_cons (pv 1) pa_nil)) (pe_gI rfl (T.int 52)) (nomark _))))) (pss_cons (ps_fldaug (pv 0) pe_int in_add) (pss_one (ps_expr (pe_bm PySem.F.plainAttrs_list PySem.F.slot_list_append PySem.F.type_list_append mt_append (pv 1) (pa_cons (pm (pv 0) (T.cls 68) (T.meth 76) G_R_read_word (hr.mono (by decide)) (passes_call (E := E) (takes_of rfl rfl rfl rfl) (fun _ _ _ _ h => h)) (pa_cons (pv 1) pa_nil)) pa_nil)))))))) pss_nil) (pss_cons (ps_expr (pm (pv 0) (T.cls 68) (T.meth 74) G_R_expect (hr.mono (by decide)) (passes_call (E := E) (takes_of rfl rfl rfl rfl) (fun _ _ _ _ h => h)) (pa_cons pe_str pa_nil))) (pss_one (ps_ret (pe_callTy call_tuple_of rfl (T.free 62) (by decide +kernel) (pa_cons (pv 1) pa_nil))))))), ?_⟩
  obtain ⟨_, p, dx, t, n, l, rfl, hp, hA, ht, k⟩ := h
  refine ⟨Nat.zero_le _, fun b hb => ?_⟩
  have nbp : b ≠ p := Kp.ne hp hb |>.symm |> fun z => fun e => z e.symm
  have hp0 : upd H b (.lst []) p = some (rO K dx t n) := by rw [upd_ne (fun z => nbp z.symm)]; exact hp
  refine ⟨fun σ' H' => σ' = [some (.ref p), some (.ref b)] ∧ ∃ m l' qs, H' p = some (rO K dx t m) ∧ H' b = some (.lst (qs.map vS)) ∧ At t m l' ∧ Kp p H H' ∧ rdParams l = (match ex1 41 l' with | .ok r => .ok (qs, r) | .error e => .error e), ?_, ?_⟩
  · refine ⟨_, rfl, p, dx, _, rfl, hp0, lk_none, rfl, p, dx, t, n, l, rfl, hp0, hA, ht, rfl, _, rfl, ?_⟩
    rw [eq_wr lt_rp, take1]
    by_cases h41 : l.head? = some 41
    · refine iteN (by rw [decide_eq_true h41]; rfl) ⟨rfl, n, l, [], hp0, upd_same, hA, Kp.new hb, ?_⟩
      cases l with
      | nil => cases h41
      | cons d r =>
        cases h41
        rfl
    · refine iteY (by rw [decide_eq_false h41]; rfl) ?_
      have e0 : rdParams l = match rdWord [] l with
          | .ok (w, r) => more rdWord 2 [w] r
          | .error e => .error e := by
        show items rdWord l = _
        unfold items
        rw [if_neg h41]
        all_goals (cases rdWord [] l <;> rfl)
      refine ⟨_, rfl, .inl ⟨rfl, [], SqL.of upd_same⟩, ?_⟩
      refine ⟨_, rfl, p, dx, _, rfl, hp0, lk_none, _, rfl, rfl, p, dx, t, n, l, b, [], rfl, hp0, upd_same, hA, ht, Res.of (fun w r ew v H1 m kp h1 hA1 hv => ?_) (fun r er => (k.err (by rw [e0, er])).mono (Kp.new hb))⟩
      subst hv
      rw [ew] at e0
      have hb1 : H1 b = some (.lst []) := kp _ _ nbp upd_same
      have kp1 : Kp p H H1 := (Kp.new hb).trans kp
      refine ⟨b, [], _, rfl, rfl, hb1, sz_lt (by simp), ?_⟩
      refine ⟨fun q σ H2 => σ = [some (.ref p), some (.ref b)] ∧ ∃ m l' qs, H2 p = some (rO K dx t m) ∧ H2 b = some (.lst (qs.map vS)) ∧ At t m l' ∧ Kp p H H2 ∧ qs.length + q = 3 ∧ rdParams l = more rdWord q qs l', ⟨2, rfl, m, r, [w], ?_, upd_same, hA1, kp1.mut hb, rfl, e0⟩, ?_⟩
      · rw [upd_ne (fun z => nbp z.symm)]
        exact h1
      · rintro q σ H2 ⟨rfl, m2, l2, qs, h2, hb2, hA2, kp2, hq, e2⟩
        refine ⟨_, rfl, p, dx, _, rfl, h2, lk_none, rfl, p, dx, t, m2, l2, rfl, h2, hA2, ht, rfl, _, rfl, ?_⟩
        rw [eq_wr lt_com, take1]
        by_cases h44 : l2.head? = some 44
        · refine iteY (decide_eq_true h44) ⟨_, rfl, _, _, rfl, .inl (SqL.of hb2), _, _, rfl, rfl, _, rfl, ?_⟩
          rw [List.length_map]
          cases q with
          | zero =>
            exact iteN (decide_eq_false (by omega)) ⟨rfl, m2, l2, qs, h2, hb2, hA2, kp2, by rw [e2]; exact more_end (.inl rfl)⟩
          | succ q =>
            cases l2 with
            | nil => cases h44
            | cons d r2 =>
              cases h44
              have e3 : rdParams l = match rdWord qs r2 with
                  | .ok (w, r') => more rdWord q (qs ++ [w]) r'
                  | .error e => .error e := by
                rw [e2]
                rfl
              refine iteY (decide_eq_true (by omega)) ⟨fun σ' H' => ∃ m', m' < q + 1 ∧ _, fun _ _ h => h, _, rfl, p, _, _, _, _, rfl, h2, T.cls 68, T.noat 70, lk_at, _, _, rfl, rfl, _, _, h2, (by decide : 2 < 1000), ?_⟩
              rw [put_at]
              have hb3 : upd H2 p (rO K dx t (m2 + 1)) b = some (.lst (qs.map vS)) := by rw [upd_ne nbp]; exact hb2
              refine ⟨_, rfl, .inl ⟨rfl, _, SqL.of hb3⟩, ?_⟩
              refine ⟨_, rfl, p, dx, _, rfl, upd_same, lk_none, _, rfl, rfl, p, dx, t, m2 + 1, r2, b, qs, rfl, upd_same, hb3, hA2.cons, ht, Res.of (fun w r ew v H3 m3 kp3 h3 hA3 hv => ?_) (fun r er => (k.err (by rw [e3, er])).mono kp2.selfT)⟩
              subst hv
              rw [ew] at e3
              have hb4 : H3 b = some (.lst (qs.map vS)) := kp3 _ _ nbp hb3
              refine ⟨b, _, _, rfl, rfl, hb4, sz_lt (by simp; omega), ?_⟩
              refine ⟨q, by omega, rfl, m3, r, qs ++ [w], ?_, ?_, hA3, (kp2.selfT.trans kp3).mut hb, by simp; omega, e3⟩
              · rw [upd_ne (fun z => nbp z.symm)]
                exact h3
              · rw [upd_same, List.map_append]
                rfl
        · exact iteN (decide_eq_false h44) (iteN rfl ⟨rfl, m2, l2, qs, h2, hb2, hA2, kp2, by rw [e2]; exact more_end (.inr h44)⟩)
  · rintro σ H1 ⟨rfl, m, l', qs, h1, hb1, hA1, kp, e⟩
    refine ⟨_, rfl, p, dx, _, rfl, h1, lk_none, rfl, p, dx, t, m, l', 41, by rw [lt_rp], h1, hA1, ht, RExp.of (fun r2 e2 H2 m2 h2 hA2 kp2 => ?_) (fun r2 e2 => (k.err (by rw [e, e2])).mono kp)⟩
    have hb2 := kp2 _ _ nbp hb1
    refine ⟨_, rfl, _, _, rfl, .inl ⟨SqL.of hb2, fun c hc => ?_⟩⟩
    refine k.ok (a := qs) (r := r2) (by rw [e, e2]) _ _ m2 ((kp.trans kp2).newT hc) ?_ hA2 (Dt.strs_mk upd_same)
    rw [upd_ne (fun z => by rw [z, hc] at h2; cases h2)]
    exact h2
end
end Kn

set_option maxHeartbeats 4000000
/-! The Reader: heads, uses, code, sections. -/
namespace Kn
open PySem PySem.Spec PyProof.Rows L2 KnR
section
variable {P : Program} {w : World} {K : PySem.W.Frag} {mg : Str → Option Value} {base : Heap}
theorem keep_p {K : PySem.W.Frag} {H : Hp} {p dx b : Addr} {t : Ws} {n : Nat} {o : HO} (hp : H p = some (rO K dx t n)) (hb : H b = none) : upd H b o p = some (rO K dx t n) := by
  rw [upd_ne (fun z => by rw [z, hb] at hp; cases hp)]
  exact hp
theorem rdHead_1 {f : Bool} {l r : Ws} (e : rdWord [] l = .error r) : rdHead f l = .error r := by unfold rdHead; rw [e]
theorem rdHead_2 {f : Bool} {l n r q : Ws} (e : rdWord [] l = .ok (n, r)) (e2 : ex1 40 r = .error q) : rdHead f l = .error q := by unfold rdHead; rw [e]; dsimp only; rw [e2]
theorem rdHead_3 {f : Bool} {l n r q z : Ws} (e : rdWord [] l = .ok (n, r)) (e2 : ex1 40 r = .ok q) (e3 : rdPs f q = .error z) : rdHead f l = .error z := by unfold rdHead; rw [e]; dsimp only; rw [e2]; dsimp only; rw [e3]
theorem rdHead_4 {f : Bool} {l n r q z u : Ws} {ps : List Ws} (e : rdWord [] l = .ok (n, r)) (e2 : ex1 40 r = .ok q) (e3 : rdPs f q = .ok (ps, z)) (e4 : ex1 10 z = .error u) : rdHead f l = .error u := by unfold rdHead; rw [e]; dsimp only; rw [e2]; dsimp only; rw [e3]; dsimp only; rw [e4]
theorem rdHead_5 {f : Bool} {l n r q z u : Ws} {ps : List Ws} (e : rdWord [] l = .ok (n, r)) (e2 : ex1 40 r = .ok q) (e3 : rdPs f q = .ok (ps, z)) (e4 : ex1 10 z = .ok u) : rdHead f l = .ok (⟨n, ps, f⟩, u) := by unfold rdHead; rw [e]; dsimp only; rw [e2]; dsimp only; rw [e3]; dsimp only; rw [e4]
theorem rdUse_1 {l r : Ws} (e : rdWord [] (l.drop (blanks l)) = .error r) : rdUse l = .error r := by unfold rdUse; rw [e]
theorem rdUse_2 {l n r q : Ws} (e : rdWord [] (l.drop (blanks l)) = .ok (n, r)) (e2 : ex1 40 r = .error q) : rdUse l = .error q := by unfold rdUse; rw [e]; dsimp only; rw [e2]
theorem rdUse_3 {l n r q z : Ws} (e : rdWord [] (l.drop (blanks l)) = .ok (n, r)) (e2 : ex1 40 r = .ok q) (e3 : rdArgs q = .error z) : rdUse l = .error z := by unfold rdUse; rw [e]; dsimp only; rw [e2]; dsimp only; rw [e3]
theorem rdUse_4 {l n r q z u : Ws} {ps : List Ws} (e : rdWord [] (l.drop (blanks l)) = .ok (n, r)) (e2 : ex1 40 r = .ok q) (e3 : rdArgs q = .ok (ps, z)) (e4 : ex1 10 z = .error u) : rdUse l = .error u := by unfold rdUse; rw [e]; dsimp only; rw [e2]; dsimp only; rw [e3]; dsimp only; rw [e4]
theorem rdUse_5 {l n r q z u : Ws} {ps : List Ws} (e : rdWord [] (l.drop (blanks l)) = .ok (n, r)) (e2 : ex1 40 r = .ok q) (e3 : rdArgs q = .ok (ps, z)) (e4 : ex1 10 z = .ok u) : rdUse l = .ok (.use (blanks l) n ps, u) := by unfold rdUse; rw [e]; dsimp only; rw [e2]; dsimp only; rw [e3]; dsimp only; rw [e4]
theorem rdPs_ok {r q : Ws} (e : ex1 41 r = .ok q) : rdPs true r = .ok ([], q) := by
  show (match ex1 41 r with | .ok r => Except.ok ([], r) | .error e => .error e) = _
  rw [e]
theorem rdPs_er {r q : Ws} (e : ex1 41 r = .error q) : rdPs true r = .error q := by
  show (match ex1 41 r with | .ok r => Except.ok (([] : List Ws), r) | .error e => .error e) = _
  rw [e]
theorem sc_R_read_head : FnScope ["self", "is_file", "name", "params"] ["self"] (defScope s_R_read_head) := ⟨rfl, rfl, rfl, by decide +kernel, rfl, by decide +kernel, by decide +kernel⟩
def sp_R_read_head (K : PySem.W.Frag) : Sp := fun vs H Q E => vs.length = 1 ∧ ∃ p dx t n d l, vs = [.ref p] ∧ H p = some (rO K dx t n) ∧ At t n (d :: l) ∧ t.length ≤ 1000000 ∧ Res K Q E p dx H t (fun H v h => Dt H v (dH h)) (rdHead (d == 42) l)
theorem ok_R_read_head (T : Tx K mg) : Fn P w K mg base (L2.CX P w) 6 ("Reader", some "read_head") ["self"] (sp_R_read_head K) := by
  refine Fn.mkX (d := d_R_read_head) T 25 rfl rfl rfl sc_R_read_head (fun _ _ _ _ _ _ us hl => match us, hl with | [_], _ => rfl) (fun vs H Q E h => h.1) (fun cdv A outer s H vs Q E hr h => ?_)
  have hu := hu_of hr
  have G_R_expect : Fn P w K mg base (L2.CX P w) 4 ("Reader", some "expect") ["self", "sign"] (sp_R_expect K) := ok_R_expect T
  have G_R_read_params : Fn P w K mg base (L2.CX P w) 5 ("Reader", some "read_params") ["self"] (sp_R_read_params K) := ok_R_read_params T
  have G_R_read_word : Fn P w K mg base (L2.CX P w) 4 ("Reader", some "read_word") ["self", "barred"] (sp_R_read_word K) := ok_R_read_word T
  have G_R_now : Fn P w K mg base CX0 1 ("Reader", some "now") ["self"] (sp_R_now K) := ok_R_now T
  refine ⟨_, (pss_cons (ps_set (i := 1) sc_R_read_head.nd rfl (Or.inl rfl) (pe_cmpR op_eq (pm0 (pv 0) (T.cls 68) (T.meth 73) G_R_now (hr.mono (by decide)) pass0) pe_str (nomark _))) (pss_cons (ps_fldaug (pv 0) pe_int in_add) (pss_cons (ps_set (i := 2) sc_R_read_head.nd rfl (Or.inl rfl) (pm (pv 0) (T.cls 68) (T.meth 76) G_R_read_word (hr.mono (by decide)) (passes_call (E := E) (takes_of rfl rfl rfl rfl) (fun _ _ _ _ h => h)) (pa_cons (pe_lst pa_nil) pa_nil))) (pss_cons (ps_expr (pm (pv 0) (T.cls 68) (T.meth 74) G_R_expect (hr.mono (by decide)) (passes_call (E := E) (takes_of rfl rfl rfl rfl) (fun _ _ _ _ h => h)) (pa_cons pe_str pa_nil))) (pss_cons (ps_set (i := 3) sc_R_read_head.nd rfl (Or.inl rfl) (pe_tup pa_nil)) (C8.pss_cut (ps_if (pt_val (pv 1)) (pss_one (ps_expr (pm (pv 0) (T.cls 68) (T.meth 74) G_R_expect (hr.mono (by decide)) (passes_call (E := E) (takes_of rfl rfl rfl rfl) (fun _ _ _ _ h => h)) (pa_cons pe_str pa_nil)))) (pss_one (ps_set (i := 3) sc_R_read_head.nd rfl (Or.inl rfl) (pm0 (pv 0) (T.cls 68) (T.meth 77) G_R_read_params (hr.mono (by decide)) (passes_call (E := E) (takes_of rfl rfl rfl rfl) (fun _ _ _ _ h => h)))))) (pss_cons (ps_expr (pm (pv 0) (T.cls 68) (T.meth 74) G_R_expect (hr.mono (by decide)) (passes_call (E := E) (takes_of rfl rfl rfl rfl) (fun _ _ _ _ h => h)) (pa_cons pe_str pa_nil))) (pss_one (ps_ret (pe_tup (pa_cons (pv 2) (pa_cons (pv 3) (pa_cons (pv 1) pa_nil))))))))))))), ?_⟩
  obtain ⟨_, p, dx, t, n, d, l, rfl, hp, hA, ht, k⟩ := h
  refine ⟨_, rfl, p, dx, _, rfl, hp, lk_none, rfl, p, dx, t, n, (d :: l), rfl, hp, hA, ht, rfl, ?_⟩
  rw [eq_wr lt_star]
  have ed : decide (((d :: l).take 1 : Ws) = [42]) = (d == 42) := by
    rw [take1]
    show decide (some d = some 42) = _
    by_cases h : d = 42
    · subst h; rfl
    · simp [h]
  rw [ed]
  generalize (d == 42) = isf at k
  refine ⟨_, rfl, p, _, _, _, _, rfl, hp, T.cls 68, T.noat 70, lk_at, _, _, rfl, rfl, _, _, hp, (by decide : 2 < 1000), ?_⟩
  rw [put_at]
  refine ⟨_, rfl, p, dx, _, rfl, upd_same, lk_none, Nat.zero_le _, fun b hb => ?_⟩
  have kb : Kp p H (upd (upd H p (rO K dx t (n + 1))) b (.lst [])) := Kp.self.newT hb
  refine ⟨rfl, p, dx, t, n + 1, l, b, [], rfl, keep_p upd_same hb, upd_same, hA.cons, ht, Res.of (fun nm r1 e1 v H1 m1 kp1 h1 hA1 hv => ?_) (fun r1 e1 => (k.err (rdHead_1 e1)).mono kb)⟩
  subst hv
  have k1 := kb.trans kp1
  refine ⟨_, rfl, p, dx, _, rfl, h1, lk_none, rfl, p, dx, t, m1, r1, 40, by rw [lt_lp], h1, hA1, ht, RExp.of (fun r2 e2 H2 m2 h2 hA2 kp2 => ?_) (fun r2 e2 => (k.err (rdHead_2 e1 e2)).mono k1)⟩
  have k2 := k1.trans kp2
  refine ⟨Nat.zero_le _, fun pa hpa => ?_⟩
  have h2' := keep_p (o := .tup []) h2 hpa
  have k2' := k2.newT (o := .tup []) hpa
  refine ⟨fun σ' H' => ∃ m ps r v, σ' = [some (.ref p), some (.bl isf), some (vS nm), some v] ∧ H' p = some (rO K dx t m) ∧ At t m r ∧ Kp p H H' ∧ Dt H' v (dSs ps) ∧ rdPs isf r2 = .ok (ps, r), ?_, ?_⟩
  · cases isf with
    | true =>
      refine ⟨_, rfl, _, rfl, iteY rfl ?_⟩
      refine ⟨_, rfl, p, dx, _, rfl, h2', lk_none, rfl, p, dx, t, m2, r2, 41, by rw [lt_rp], h2', hA2, ht, RExp.of (fun r3 e3 H3 m3 h3 hA3 kp3 => ?_) (fun r3 e3 => (k.err (rdHead_3 e1 e2 (rdPs_er e3))).mono k2')⟩
      have hpa3 : H3 pa = some (.tup []) := kp3 _ _ (fun z => by rw [z, h2] at hpa; cases hpa) upd_same
      exact ⟨m3, [], r3, _, rfl, h3, hA3, k2'.trans kp3, Dt.strs_mk hpa3, rdPs_ok e3⟩
    | false =>
      refine ⟨_, rfl, _, rfl, iteN rfl ?_⟩
      refine ⟨_, rfl, p, dx, _, rfl, h2', lk_none, rfl, p, dx, t, m2, r2, rfl, h2', hA2, ht, Res.of (fun ps r3 e3 v H3 m3 kp3 h3 hA3 hv => ?_) (fun r3 e3 => (k.err (rdHead_3 e1 e2 e3)).mono k2')⟩
      exact ⟨m3, ps, r3, v, rfl, h3, hA3, k2'.trans kp3, hv, e3⟩
  · rintro σ H3 ⟨m3, ps, r3, v, rfl, h3, hA3, k3, hv, e3⟩
    refine ⟨_, rfl, p, dx, _, rfl, h3, lk_none, rfl, p, dx, t, m3, r3, 10, by rw [lt_nl], h3, hA3, ht, RExp.of (fun r4 e4 H4 m4 h4 hA4 kp4 => ?_) (fun r4 e4 => (k.err (rdHead_4 e1 e2 e3 e4)).mono k3)⟩
    refine ⟨_, rfl, _, rfl, _, rfl, sz_ok (by simp), fun tp htp => ?_⟩
    have hv4 := Dt.mono ((kp4.newT (o := .tup [vS nm, v, .bl isf]) htp).kt (NT.ins h3)) _ _ hv
    obtain ⟨pa2, rfl, hpa2⟩ := hv4.strs_inv
    exact k.ok (a := ⟨nm, ps, isf⟩) (r := r4) (rdHead_5 e1 e2 e3 e4) _ _ m4 ((k3.trans kp4).newT htp) (keep_p h4 htp) hA4 (Dt.head_mk upd_same hpa2)
theorem sc_R_read_use : FnScope ["self", "begin", "indent", "name", "arguments"] ["self"] (defScope s_R_read_use) := ⟨rfl, rfl, rfl, by decide +kernel, rfl, by decide +kernel, by decide +kernel⟩
def sp_R_read_use (K : PySem.W.Frag) : Sp := fun vs H Q E => vs.length = 1 ∧ ∃ p dx t n l, vs = [.ref p] ∧ H p = some (rO K dx t n) ∧ At t n l ∧ t.length ≤ 1000000 ∧ Res K Q E p dx H t (fun H v u => Dt H v (dL u)) (rdUse l)
theorem items_no {rd : List Ws → Ws → Rs Ws} {l : Ws} (h41 : ¬ l.head? = some 41) : items rd l = match rd [] l with
    | .ok (w, r) => more rd 2 [w] r
    | .error e => .error e := by
  unfold items
  rw [if_neg h41]
  all_goals (cases rd [] l <;> rfl)
theorem tw_app {p : Nat → Bool} (l : Ws) : ∀ a : Ws, (∀ c ∈ a, p c = true) → (a ++ l).takeWhile p = a ++ l.takeWhile p
  | [], _ => rfl
  | c :: a, h => by
    rw [List.cons_append, List.takeWhile_cons_of_pos (h c (by simp)), tw_app l a fun x hx => h x (by simp [hx])]
    rfl
theorem bl_end {j : Nat} (l : Ws) (h : j ≤ 20) (e : (∀ c r, l = c :: r → ¬ c = 32) ∨ j = 20) : blanks (List.replicate j 32 ++ l) = j := by
  unfold blanks
  have ha : ∀ c ∈ List.replicate j 32, (c == 32) = true := fun c hc => by rw [List.eq_of_mem_replicate hc]; rfl
  rcases e with e | e
  · rw [(tw_end ha fun c r q => by simpa using e c r q).1, List.length_replicate]
    omega
  · rw [tw_app l _ ha, List.length_append, List.length_replicate]
    omega
theorem ok_R_read_use (T : Tx K mg) : Fn P w K mg base (L2.CX P w) 5 ("Reader", some "read_use") ["self"] (sp_R_read_use K) := by
  refine Fn.mkX (d := d_R_read_use) T 27 rfl rfl rfl sc_R_read_use (fun _ _ _ _ _ _ us hl => match us, hl with | [_], _ => rfl) (fun vs H Q E h => h.1) (fun cdv A outer s H vs Q E hr h => ?_)
  have hu := hu_of hr
  have G_R_expect : Fn P w K mg base (L2.CX P w) 4 ("Reader", some "expect") ["self", "sign"] (sp_R_expect K) := ok_R_expect T
  have G_R_now : Fn P w K mg base CX0 1 ("Reader", some "now") ["self"] (sp_R_now K) := ok_R_now T
  have G_R_read_argument : Fn P w K mg base (L2.CX P w) 4 ("Reader", some "read_argument") ["self"] (sp_R_read_argument K) := ok_R_read_argument T
  have G_R_read_word : Fn P w K mg base (L2.CX P w) 4 ("Reader", some "read_word") ["self", "barred"] (sp_R_read_word K) := ok_R_read_word T
  refine ⟨_, (pss_cons (ps_set (i := 1) sc_R_read_use.nd rfl (Or.inl rfl) (pe_fld (pv 0) rfl)) (C8.pss_cut (ps_while (passes_of rfl) (PW.pt (pw_and (pt_cmpR op_eq (pm0 (pv 0) (T.cls 68) (T.meth 73) G_R_now (hr.mono (by decide)) pass0) pe_str (nomark _)) (pw_and1 (pt_cmpR op_lt (pe_op op_sub (pe_fld (pv 0) rfl) (pv 1)) (pe_gI rfl (T.int 54)) (nomark _))))) (pss_one (ps_fldaug (pv 0) pe_int in_add))) (pss_cons (ps_set (i := 2) sc_R_read_use.nd rfl (Or.inl rfl) (pe_op op_sub (pe_fld (pv 0) rfl) (pv 1))) (pss_cons (ps_set (i := 3) sc_R_read_use.nd rfl (Or.inl rfl) (pm (pv 0) (T.cls 68) (T.meth 76) G_R_read_word (hr.mono (by decide)) (passes_call (E := E) (takes_of rfl rfl rfl rfl) (fun _ _ _ _ h => h)) (pa_cons (pe_lst pa_nil) pa_nil))) (pss_cons (ps_expr (pm (pv 0) (T.cls 68) (T.meth 74) G_R_expect (hr.mono (by decide)) (passes_call (E := E) (takes_of rfl rfl rfl rfl) (fun _ _ _ _ h => h)) (pa_cons pe_str pa_nil))) (pss_cons (ps_set (i := 4) sc_R_read_use.nd rfl (Or.inl rfl) (pe_lst pa_nil)) (C8.pss_cut (ps_if (pt_cmpR op_ne (pm0 (pv 0) (T.cls 68) (T.meth 73) G_R_now (hr.mono (by decide)) pass0) pe_str (nomark _)) (pss_cons (ps_expr (pe_bm PySem.F.plainAttrs_list PySem.F.slot_list_append PySem.F.type_list_append mt_append (pv 4) (pa_cons (pm0 (pv 0) (T.cls 68) (T.meth 79) G_R_read_argument (hr.mono (by decide)) (passes_call (E := E) (takes_of rfl rfl rfl rfl) (fun _ _ _ _ h => h))) pa_nil))) (pss_one (ps_while (passes_of rfl) (PW.pt (pw_and (pt_cmpR op_eq (pm0 (pv 0) (T.cls 68) (T.meth 73) G_R_now (hr.mono (by decide)) pass0) pe_str (nomark _)) (pw_and1 (pt_cmpR op_lt (pe_callB call_len_seq rfl (T.free 59) (by decide +kernel) (pa_cons (pv 4) pa_nil)) (pe_gI rfl (T.int 53)) (nomark _))))) (pss_cons (ps_fldaug (pv 0) pe_int in_add) (pss_one (ps_expr (pe_bm PySem.F.plainAttrs_list PySem.F.slot_list_append PySem.F.type_list_append mt_append (pv 4) (pa_cons (pm0 (pv 0) (T.cls 68) (T.meth 79) G_R_read_argument (hr.mono (by decide)) (passes_call (E := E) (takes_of rfl rfl rfl rfl) (fun _ _ _ _ h => h))) pa_nil)))))))) pss_nil) (pss_cons (ps_expr (pm (pv 0) (T.cls 68) (T.meth 74) G_R_expect (hr.mono (by decide)) (passes_call (E := E) (takes_of rfl rfl rfl rfl) (fun _ _ _ _ h => h)) (pa_cons pe_str pa_nil))) (pss_cons (ps_expr (pm (pv 0) (T.cls 68) (T.meth 74) G_R_expect (hr.mono (by decide)) (passes_call (E := E) (takes_of rfl rfl rfl rfl) (fun _ _ _ _ h => h)) (pa_cons pe_str pa_nil))) (pss_one (ps_ret (pe_tup (pa_cons pe_str (pa_cons (pv 2) (pa_cons (pv 3) (pa_cons (pe_callTy call_tuple_of rfl (T.free 62) (by decide +kernel) (pa_cons (pv 4) pa_nil)) pa_nil)))))))))))))))), ?_⟩
  obtain ⟨_, p, dx, t, n, l, rfl, hp, hA, ht, k⟩ := h
  refine ⟨_, rfl, p, _, _, _, _, rfl, hp, T.cls 68, T.noat 70, lk_at, ?_⟩
  refine ⟨fun σ' H' => σ' = [some (.ref p), some (.int (n : Nat)), none, none, none] ∧ ∃ m j l', H' p = some (rO K dx t m) ∧ At t m l' ∧ Kp p H H' ∧ l = List.replicate j 32 ++ l' ∧ m = n + j ∧ blanks l = j, ?_, ?_⟩
  · refine ⟨fun q σ H1 => σ = [some (.ref p), some (.int (n : Nat)), none, none, none] ∧ ∃ m j l', H1 p = some (rO K dx t m) ∧ At t m l' ∧ Kp p H H1 ∧ l = List.replicate j 32 ++ l' ∧ m = n + j ∧ j ≤ 20 ∧ q = l'.length, ⟨l.length, rfl, n, 0, l, hp, hA, Kp.refl _ _, rfl, rfl, by omega, rfl⟩, ?_⟩
    rintro q σ H1 ⟨rfl, m, j, l', h1, hA1, kp, hl, hm, hj, rfl⟩
    refine ⟨_, rfl, p, dx, _, rfl, h1, lk_none, rfl, p, dx, t, m, l', rfl, h1, hA1, ht, rfl, _, rfl, ?_⟩
    rw [eq_blank, take1]
    by_cases h32 : l'.head? = some 32
    · refine iteY (decide_eq_true h32) ⟨_, rfl, p, _, _, _, _, rfl, h1, T.cls 68, T.noat 70, lk_at, _, rfl, _, _, rfl, rfl, _, _, rfl, rfl, _, rfl, ?_⟩
      by_cases h20 : j = 20
      · exact iteN (decide_eq_false (by omega)) ⟨rfl, m, j, l', h1, hA1, kp, hl, hm, by rw [hl]; exact bl_end l' hj (.inr h20)⟩
      · refine iteY (decide_eq_true (by omega)) ⟨fun σ' H' => ∃ m', m' < l'.length ∧ _, fun _ _ h => h, _, rfl, p, _, _, _, _, rfl, h1, T.cls 68, T.noat 70, lk_at, _, _, rfl, rfl, _, _, h1, (by decide : 2 < 1000), ?_⟩
        rw [put_at]
        cases l' with
        | nil => cases h32
        | cons c r =>
          cases h32
          refine ⟨r.length, by simp, rfl, m + 1, j + 1, r, upd_same, hA1.cons, kp.selfT, ?_, by omega, by omega, rfl⟩
          rw [hl, List.replicate_succ', List.append_assoc]
          rfl
    · refine iteN (decide_eq_false h32) (iteN rfl ⟨rfl, m, j, l', h1, hA1, kp, hl, hm, ?_⟩)
      rw [hl]
      exact bl_end l' hj (.inl fun c r e z => h32 (by rw [e, z]; rfl))
  · rintro σ H1 ⟨rfl, m, j, l', h1, hA1, kp, hl, hm, hbl⟩
    have hdr : l.drop (blanks l) = l' := by
      rw [hbl, hl]
      have := List.drop_left (l₁ := List.replicate j 32) (l₂ := l')
      rwa [List.length_replicate] at this
    refine ⟨_, rfl, p, _, _, _, _, rfl, h1, T.cls 68, T.noat 70, lk_at, _, rfl, _, _, rfl, rfl, ?_⟩
    have hj : ((m : Nat) : Int) - ((n : Nat) : Int) = ((j : Nat) : Int) := by omega
    refine ⟨_, rfl, p, dx, _, rfl, h1, lk_none, Nat.zero_le _, fun b0 hb0 => ?_⟩
    refine ⟨rfl, p, dx, t, m, l', b0, [], rfl, keep_p h1 hb0, upd_same, hA1, ht, Res.of (fun nm r1 e1 v H2 m1 kp1 h2 hA2 hv => ?_) (fun r1 e1 => (k.err (rdUse_1 (by rw [hdr]; exact e1))).mono (kp.newT hb0))⟩
    subst hv
    rw [← hdr] at e1
    have k1 := (kp.newT hb0).trans kp1
    refine ⟨_, rfl, p, dx, _, rfl, h2, lk_none, rfl, p, dx, t, m1, r1, 40, by rw [lt_lp], h2, hA2, ht, RExp.of (fun r2 e2 H3 m3 h3 hA3 kp3 => ?_) (fun r2 e2 => (k.err (rdUse_2 e1 e2)).mono k1)⟩
    have k3 := k1.trans kp3
    refine ⟨Nat.zero_le _, fun b hb => ?_⟩
    have nbp : b ≠ p := fun z => by rw [z, h3] at hb; cases hb
    have hp0 := keep_p (o := .lst []) h3 hb
    have k4 := k3.newT (o := .lst []) hb
    have hH : H b = none := k3.free h3 hb
    refine ⟨fun σ' H' => σ' = [some (.ref p), some (.int (n : Nat)), some (.int (((m : Nat) : Int) - ((n : Nat) : Int))), some (vS nm), some (.ref b)] ∧ ∃ m l' qs, H' p = some (rO K dx t m) ∧ H' b = some (.lst (qs.map vS)) ∧ At t m l' ∧ Kp p H H' ∧ rdArgs r2 = (match ex1 41 l' with | .ok r => .ok (qs, r) | .error e => .error e), ?_, ?_⟩
    · refine ⟨_, rfl, p, dx, _, rfl, hp0, lk_none, rfl, p, dx, t, m3, r2, rfl, hp0, hA3, ht, rfl, _, rfl, ?_⟩
      rw [eq_wr lt_rp, take1]
      by_cases h41 : r2.head? = some 41
      · refine iteN (by rw [decide_eq_true h41]; rfl) ⟨rfl, m3, r2, [], hp0, upd_same, hA3, k4, ?_⟩
        cases r2 with
        | nil => cases h41
        | cons d r =>
          cases h41
          rfl
      · refine iteY (by rw [decide_eq_false h41]; rfl) ?_
        have e0 : rdArgs r2 = match rdArg r2 with
            | .ok (w, r) => more (fun _ => rdArg) 2 [w] r
            | .error e => .error e := items_no h41
        refine ⟨_, rfl, .inl ⟨rfl, [], SqL.of upd_same⟩, ?_⟩
        refine ⟨_, rfl, p, dx, _, rfl, hp0, lk_none, rfl, p, dx, t, m3, r2, rfl, hp0, hA3, ht, Res.of (fun w r ew v H1 m kp h1 hA1 hv => ?_) (fun r er => (k.err (rdUse_3 e1 e2 (by rw [e0, er]))).mono k4)⟩
        subst hv
        rw [ew] at e0
        have hb1 : H1 b = some (.lst []) := kp _ _ nbp upd_same
        have kp1 : Kp p H H1 := k4.trans kp
        refine ⟨b, [], _, rfl, rfl, hb1, sz_lt (by simp), ?_⟩
        refine ⟨fun q σ H2 => σ = [some (.ref p), some (.int (n : Nat)), some (.int _), some (vS nm), some (.ref b)] ∧ ∃ m l' qs, H2 p = some (rO K dx t m) ∧ H2 b = some (.lst (qs.map vS)) ∧ At t m l' ∧ Kp p H H2 ∧ qs.length + q = 3 ∧ rdArgs r2 = more (fun _ => rdArg) q qs l', ⟨2, rfl, m, r, [w], ?_, upd_same, hA1, kp1.mut hH, rfl, e0⟩, ?_⟩
        · rw [upd_ne (fun z => nbp z.symm)]
          exact h1
        · rintro q σ H2 ⟨rfl, m2, l2, qs, h2, hb2, hA2, kp2, hq, e2'⟩
          refine ⟨_, rfl, p, dx, _, rfl, h2, lk_none, rfl, p, dx, t, m2, l2, rfl, h2, hA2, ht, rfl, _, rfl, ?_⟩
          rw [eq_wr lt_com, take1]
          by_cases h44 : l2.head? = some 44
          · refine iteY (decide_eq_true h44) ⟨_, rfl, _, _, rfl, .inl (SqL.of hb2), _, _, rfl, rfl, _, rfl, ?_⟩
            rw [List.length_map]
            cases q with
            | zero =>
              exact iteN (decide_eq_false (by omega)) ⟨rfl, m2, l2, qs, h2, hb2, hA2, kp2, by rw [e2']; exact more_end (.inl rfl)⟩
            | succ q =>
              cases l2 with
              | nil => cases h44
              | cons d r4 =>
                cases h44
                have e3 : rdArgs r2 = match rdArg r4 with
                    | .ok (w, r') => more (fun _ => rdArg) q (qs ++ [w]) r'
                    | .error e => .error e := by
                  rw [e2']
                  rfl
                refine iteY (decide_eq_true (by omega)) ⟨fun σ' H' => ∃ m', m' < q + 1 ∧ _, fun _ _ h => h, _, rfl, p, _, _, _, _, rfl, h2, T.cls 68, T.noat 70, lk_at, _, _, rfl, rfl, _, _, h2, (by decide : 2 < 1000), ?_⟩
                rw [put_at]
                have hb3 : upd H2 p (rO K dx t (m2 + 1)) b = some (.lst (qs.map vS)) := by rw [upd_ne nbp]; exact hb2
                refine ⟨_, rfl, .inl ⟨rfl, _, SqL.of hb3⟩, ?_⟩
                refine ⟨_, rfl, p, dx, _, rfl, upd_same, lk_none, rfl, p, dx, t, m2 + 1, r4, rfl, upd_same, hA2.cons, ht, Res.of (fun w r ew v H3 m3 kp3 h3 hA3 hv => ?_) (fun r er => (k.err (rdUse_3 e1 e2 (by rw [e3, er]))).mono kp2.selfT)⟩
                subst hv
                rw [ew] at e3
                have hb4 : H3 b = some (.lst (qs.map vS)) := kp3 _ _ nbp hb3
                refine ⟨b, _, _, rfl, rfl, hb4, sz_lt (by simp; omega), ?_⟩
                refine ⟨q, by omega, rfl, m3, r, qs ++ [w], ?_, ?_, hA3, (kp2.selfT.trans kp3).mut hH, by simp; omega, e3⟩
                · rw [upd_ne (fun z => nbp z.symm)]
                  exact h3
                · rw [upd_same, List.map_append]
                  rfl
          · exact iteN (decide_eq_false h44) (iteN rfl ⟨rfl, m2, l2, qs, h2, hb2, hA2, kp2, by rw [e2']; exact more_end (.inr h44)⟩)
    · rintro σ H1 ⟨rfl, m5, l5, qs, h5, hb5, hA5, kp5, e5⟩
      refine ⟨_, rfl, p, dx, _, rfl, h5, lk_none, rfl, p, dx, t, m5, l5, 41, by rw [lt_rp], h5, hA5, ht, RExp.of (fun r6 e6 H6 m6 h6 hA6 kp6 => ?_) (fun r6 e6 => (k.err (rdUse_3 e1 e2 (by rw [e5, e6]))).mono kp5)⟩
      have e7 : rdArgs r2 = .ok (qs, r6) := by rw [e5, e6]
      refine ⟨_, rfl, p, dx, _, rfl, h6, lk_none, rfl, p, dx, t, m6, r6, 10, by rw [lt_nl], h6, hA6, ht, RExp.of (fun r8 e8 H8 m8 h8 hA8 kp8 => ?_) (fun r8 e8 => (k.err (rdUse_4 e1 e2 e7 e8)).mono (kp5.trans kp6))⟩
      have hb8 := kp8 _ _ nbp (kp6 _ _ nbp hb5)
      have k8 := (kp5.trans kp6).trans kp8
      refine ⟨_, rfl, _, rfl, _, rfl, _, _, rfl, .inl ⟨SqL.of hb8, fun c hc => ⟨sz_ok (by simp), fun d hd => ?_⟩⟩⟩
      have hv : some (HO.tup [V.str "use", V.int (((m : Nat) : Int) - ((n : Nat) : Int)), vS nm, .ref c]) = some (.tup [.str "use", .int (j : Nat), vS nm, .ref c]) := by rw [hj]
      have hcd : c ≠ d := fun z => by rw [← z, upd_same] at hd; cases hd
      refine k.ok (a := .use (blanks l) nm qs) (r := r8) (rdUse_5 e1 e2 e7 e8) _ _ m8 ((k8.newT hc).newT hd) (keep_p (keep_p h8 hc) hd) hA8 ?_
      rw [hbl]
      refine Dt.use_mk (b := c) (upd_same.trans hv) ?_
      rw [upd_ne hcd, upd_same]
end
end Kn

set_option maxHeartbeats 4000000
/-! The Reader: code, sections. -/
namespace Kn
open PySem PySem.Spec PyProof.Rows L2 KnR
theorem rdCode_stop {l : Ws} (h1 : l.head? ≠ some 124) (h2 : l.head? ≠ some 62) : rdCode l = .ok ([], l) := by
  cases l with
  | nil => exact rdCode_nil
  | cons d r =>
    rw [rdCode_cons, if_neg]
    rintro (z | z)
    · exact h1 (by rw [z]; rfl)
    · exact h2 (by rw [z]; rfl)
theorem rdProse_stop {l : Ws} (h1 : l.head? ≠ some 46) : rdProse l = .ok ([], l) := by
  cases l with
  | nil => exact rdProse_nil
  | cons d r =>
    rw [rdProse_cons, if_neg]
    exact fun z => h1 (by rw [z]; rfl)
/-- what is read behind what has been read -/
def aft {α : Type} (done : List α) (x : Rs (List α)) : Rs (List α) := match x with
  | .ok (cs, r) => .ok (done ++ cs, r)
  | .error e => .error e
theorem aft_nil {α : Type} (x : Rs (List α)) : aft [] x = x := by
  cases x <;> rfl
theorem aft_code {l l' : Ws} {done : List Ln} {d : Nat} {r : Ws} (e : rdCode l = aft done (rdCode (d :: r))) (hd : d = 124 ∨ d = 62) {u : Ln} {r' : Ws} (e2 : rdLn d r = .ok (u, r')) : rdCode l = aft (done ++ [u]) (rdCode r') := by
  rw [e, rdCode_cons, if_pos hd, e2]
  dsimp only
  cases rdCode r' with
  | error z => rfl
  | ok z => simp [aft]
theorem aft_codeE {l : Ws} {done : List Ln} {d : Nat} {r : Ws} (e : rdCode l = aft done (rdCode (d :: r))) (hd : d = 124 ∨ d = 62) {r' : Ws} (e2 : rdLn d r = .error r') : rdCode l = .error r' := by
  rw [e, rdCode_cons, if_pos hd, e2]
  rfl
theorem aft_prose {l : Ws} {done : List Ws} {r : Ws} (e : rdProse l = aft done (rdProse (46 :: r))) {u : Ws} {r' : Ws} (e2 : rdLine r = .ok (u, r')) : rdProse l = aft (done ++ [u]) (rdProse r') := by
  rw [e, rdProse_cons, if_pos rfl, e2]
  dsimp only
  cases rdProse r' with
  | error z => rfl
  | ok z => simp [aft]
theorem aft_proseE {l : Ws} {done : List Ws} {r : Ws} (e : rdProse l = aft done (rdProse (46 :: r))) {r' : Ws} (e2 : rdLine r = .error r') : rdProse l = .error r' := by
  rw [e, rdProse_cons, if_pos rfl, e2]
  rfl
theorem rdLn_p {r s r' : Ws} (e : rdLine r = .ok (s, r')) : rdLn 124 r = .ok (.plain s, r') := by unfold rdLn; rw [if_pos rfl, e]
theorem rdLn_pe {r r' : Ws} (e : rdLine r = .error r') : rdLn 124 r = .error r' := by unfold rdLn; rw [if_pos rfl, e]
theorem rdLn_u {r : Ws} : rdLn 62 r = rdUse r := by unfold rdLn; rw [if_neg (by decide)]
theorem rdSec_1 {l r : Ws} (e : ex1 64 l = .error r) : rdSec l = .error r := by unfold rdSec; rw [e]
theorem rdSec_2 {l r q : Ws} (e : ex1 64 l = .ok r) (e2 : ex1 10 r = .error q) : rdSec l = .error q := by unfold rdSec; rw [e]; dsimp only; rw [e2]
theorem rdSec_3 {l r q z : Ws} (e : ex1 64 l = .ok r) (e2 : ex1 10 r = .ok q) (e3 : rdProse q = .error z) : rdSec l = .error z := by unfold rdSec; rw [e]; dsimp only; rw [e2]; dsimp only; rw [e3]
theorem rdSec_4 {l r q z : Ws} {p : List Ws} (e : ex1 64 l = .ok r) (e2 : ex1 10 r = .ok q) (e3 : rdProse q = .ok (p, z)) : rdSec l = rdBody p z := by unfold rdSec; rw [e]; dsimp only; rw [e2]; dsimp only; rw [e3]
theorem rdBody_stop {p : List Ws} {l : Ws} (h1 : l.head? ≠ some 61) (h2 : l.head? ≠ some 42) : rdBody p l = .ok (⟨p, none, []⟩, l) := by
  cases l with
  | nil => rfl
  | cons d r =>
    rw [rdBody_cons, if_neg]
    rintro (z | z)
    · exact h1 (by rw [z]; rfl)
    · exact h2 (by rw [z]; rfl)
theorem rdBody_1 {p : List Ws} {d : Nat} {q r : Ws} (hd : d = 61 ∨ d = 42) (e : rdHead (d == 42) q = .error r) : rdBody p (d :: q) = .error r := by rw [rdBody_cons, if_pos hd, e]
theorem rdBody_2 {p : List Ws} {d : Nat} {q r z : Ws} {h : Hd} (hd : d = 61 ∨ d = 42) (e : rdHead (d == 42) q = .ok (h, r)) (e2 : rdCode r = .error z) : rdBody p (d :: q) = .error z := by rw [rdBody_cons, if_pos hd, e]; dsimp only; rw [e2]
theorem rdBody_3 {p : List Ws} {d : Nat} {q r z : Ws} {h : Hd} {c : List Ln} (hd : d = 61 ∨ d = 42) (e : rdHead (d == 42) q = .ok (h, r)) (e2 : rdCode r = .ok (c, z)) : rdBody p (d :: q) = .ok (⟨p, some h, c⟩, z) := by rw [rdBody_cons, if_pos hd, e]; dsimp only; rw [e2]
theorem DtAll.snocU {H H' : Hp} {α : Type} {f : α → PyData} {xs : List V} {l : List α} {v : V} {y : α} (h : DtAll H xs (l.map f)) (k : KT H H') (d : Dt H' v (f y)) : DtAll H' (xs ++ [v]) ((l ++ [y]).map f) := by
  rw [List.map_append]
  exact (DtAll.mono k _ _ h).snoc d
section
variable {P : Program} {w : World} {K : PySem.W.Frag} {mg : Str → Option Value} {base : Heap}
theorem sc_R_read_code : FnScope ["self", "code", "is_use"] ["self"] (defScope s_R_read_code) := ⟨rfl, rfl, rfl, by decide +kernel, rfl, by decide +kernel, by decide +kernel⟩
def sp_R_read_code (K : PySem.W.Frag) : Sp := fun vs H Q E => vs.length = 1 ∧ ∃ p dx t n l, vs = [.ref p] ∧ H p = some (rO K dx t n) ∧ At t n l ∧ t.length ≤ 1000000 ∧ Res K Q E p dx H t (fun H v cs => Dt H v (.tuple (cs.map dL))) (rdCode l)
theorem ok_R_read_code (T : Tx K mg) : Fn P w K mg base (L2.CX P w) 6 ("Reader", some "read_code") ["self"] (sp_R_read_code K) := by
  refine Fn.mkX (d := d_R_read_code) T 28 rfl rfl rfl sc_R_read_code (fun _ _ _ _ _ _ us hl => match us, hl with | [_], _ => rfl) (fun vs H Q E h => h.1) (fun cdv A outer s H vs Q E hr h => ?_)
  have hu := hu_of hr
  have G_R_now : Fn P w K mg base CX0 1 ("Reader", some "now") ["self"] (sp_R_now K) := ok_R_now T
  have G_R_read_use : Fn P w K mg base (L2.CX P w) 5 ("Reader", some "read_use") ["self"] (sp_R_read_use K) := ok_R_read_use T
  have G_R_read_line : Fn P w K mg base (L2.CX P w) 5 ("Reader", some "read_line") ["self"] (sp_R_read_line K) := ok_R_read_line T
  refine ⟨_, (pss_cons (ps_set (i := 1) sc_R_read_code.nd rfl (Or.inl rfl) (pe_lst pa_nil)) (pss_cons (ps_while (passes_of rfl) (PW.pt (pw_or (pt_cmpR op_eq (pm0 (pv 0) (T.cls 68) (T.meth 73) G_R_now (hr.mono (by decide)) pass0) pe_str (nomark _)) (pw_or1 (pt_cmpR op_eq (pm0 (pv 0) (T.cls 68) (T.meth 73) G_R_now (hr.mono (by decide)) pass0) pe_str (nomark _))))) (pss_cons (ps_set (i := 2) sc_R_read_code.nd rfl (Or.inl rfl) (pe_cmpR op_eq (pm0 (pv 0) (T.cls 68) (T.meth 73) G_R_now (hr.mono (by decide)) pass0) pe_str (nomark _))) (pss_cons (ps_fldaug (pv 0) pe_int in_add) (pss_one (ps_expr (pe_bm PySem.F.plainAttrs_list PySem.F.slot_list_append PySem.F.type_list_append mt_append (pv 1) (pa_cons (pe_ifExp (pt_val (pv 2)) (pm0 (pv 0) (T.cls 68) (T.meth 80) G_R_read_use (hr.mono (by decide)) (passes_call (E := E) (takes_of rfl rfl rfl rfl) (fun _ _ _ _ h => h))) (pe_tup (pa_cons pe_str (pa_cons (pm0 (pv 0) (T.cls 68) (T.meth 75) G_R_read_line (hr.mono (by decide)) (passes_call (E := E) (takes_of rfl rfl rfl rfl) (fun _ _ _ _ h => h))) pa_nil)))) pa_nil))))))) (pss_one (ps_ret (pe_callTy call_tuple_of rfl (T.free 62) (by decide +kernel) (pa_cons (pv 1) pa_nil)))))), ?_⟩
  obtain ⟨_, p, dx, t, n, l, rfl, hp, hA, ht, k⟩ := h
  refine ⟨Nat.zero_le _, fun b hb => ?_⟩
  have nbp : b ≠ p := fun z => by rw [z, hp] at hb; cases hb
  have hp0 := keep_p (o := .lst []) hp hb
  have hll : l.length ≤ t.length := by have := hA.len; omega
  refine ⟨fun q σ H1 => ∃ (u : Option V) (m : Nat) (l' : Ws) (done : List Ln) (xs : List V), σ = [some (.ref p), some (.ref b), u] ∧ H1 p = some (rO K dx t m) ∧ H1 b = some (.lst xs) ∧ DtAll H1 xs (done.map dL) ∧ At t m l' ∧ Kp p H H1 ∧ rdCode l = aft done (rdCode l') ∧ done.length + l'.length ≤ l.length ∧ q = l'.length, ⟨l.length, none, n, l, [], [], rfl, hp0, upd_same, .nil, hA, Kp.new hb, (aft_nil _).symm, by simp, rfl⟩, ?_⟩
  rintro q σ H1 ⟨u, m, l', done, xs, rfl, h1, hb1, hd1, hA1, kp, e, hlen, rfl⟩
  refine ⟨_, rfl, p, dx, _, rfl, h1, lk_none, rfl, p, dx, t, m, l', rfl, h1, hA1, ht, rfl, _, rfl, ?_⟩
  rw [eq_wr lt_bar, take1]
  by_cases h124 : l'.head? = some 124
  · refine iteY (decide_eq_true h124) (iteY rfl ⟨fun σ' H' => ∃ m', m' < l'.length ∧ _, fun _ _ h => h, ?_⟩)
    cases l' with
    | nil => cases h124
    | cons d r =>
      cases h124
      refine ⟨_, rfl, p, dx, _, rfl, h1, lk_none, rfl, p, dx, t, m, (124 :: r), rfl, h1, hA1, ht, rfl, ?_⟩
      rw [eq_wr lt_gt, take1]
      refine ⟨_, rfl, p, _, _, _, _, rfl, h1, T.cls 68, T.noat 70, lk_at, _, _, rfl, rfl, _, _, h1, (by decide : 2 < 1000), ?_⟩
      rw [put_at]
      have hb2 : upd H1 p (rO K dx t (m + 1)) b = some (.lst xs) := by rw [upd_ne nbp]; exact hb1
      refine ⟨_, rfl, .inl ⟨rfl, _, SqL.of hb2⟩, _, rfl, _, rfl, iteN rfl ?_⟩
      refine ⟨_, rfl, p, dx, _, rfl, upd_same, lk_none, rfl, p, dx, t, m + 1, r, rfl, upd_same, hA1.cons, ht, Res.of (fun s r' es v H2 m2 kp2 h2 hA2 hv => ?_) (fun r' es => (k.err (aft_codeE e (.inl rfl) (rdLn_pe es))).mono kp.selfT)⟩
      subst hv
      have hb3 := kp2 _ _ nbp hb2
      refine ⟨sz_ok (by simp), fun c hc => ?_⟩
      have hlt := rdLine_lt es
      have hxl := hd1.map_len
      have hb4 : upd H2 c (.tup [.str "plain", vS s]) b = some (.lst xs) := sm_new hc _ _ hb3
      refine ⟨b, xs, _, rfl, rfl, hb4, sz_lt (by simp at hlen; omega), ?_⟩
      have kt : KT H1 (upd (upd H2 c (.tup [.str "plain", vS s])) b (.lst (xs ++ [.ref c]))) := ((Kp.self.trans kp2).newT hc).kt (NT.ins h1) |>.trans (KT.up (NT.lst hb4))
      have hcb : c ≠ b := fun z => by rw [z, hb3] at hc; cases hc
      refine ⟨r'.length, by simp; omega, _, m2, r', done ++ [.plain s], xs ++ [.ref c], rfl, ?_, upd_same, hd1.snocU kt (Dt.plain_mk ?_), hA2, ((kp.selfT.trans kp2).newT hc).mut hb, aft_code (l' := r') e (.inl rfl) (rdLn_p es), by simp at hlen ⊢; omega, rfl⟩
      · rw [upd_ne (fun z => nbp z.symm)]
        exact keep_p h2 hc
      · rw [upd_ne hcb]
        exact upd_same
  · refine iteN (decide_eq_false h124) ⟨_, rfl, p, dx, _, rfl, h1, lk_none, rfl, p, dx, t, m, l', rfl, h1, hA1, ht, rfl, _, rfl, ?_⟩
    rw [eq_wr lt_gt, take1]
    by_cases h62 : l'.head? = some 62
    · refine iteY (decide_eq_true h62) ⟨fun σ' H' => ∃ m', m' < l'.length ∧ _, fun _ _ h => h, ?_⟩
      cases l' with
      | nil => cases h62
      | cons d r =>
        cases h62
        refine ⟨_, rfl, p, dx, _, rfl, h1, lk_none, rfl, p, dx, t, m, (62 :: r), rfl, h1, hA1, ht, rfl, ?_⟩
        rw [eq_wr lt_gt, take1]
        refine ⟨_, rfl, p, _, _, _, _, rfl, h1, T.cls 68, T.noat 70, lk_at, _, _, rfl, rfl, _, _, h1, (by decide : 2 < 1000), ?_⟩
        rw [put_at]
        have hb2 : upd H1 p (rO K dx t (m + 1)) b = some (.lst xs) := by rw [upd_ne nbp]; exact hb1
        refine ⟨_, rfl, .inl ⟨rfl, _, SqL.of hb2⟩, _, rfl, _, rfl, iteY rfl ?_⟩
        refine ⟨_, rfl, p, dx, _, rfl, upd_same, lk_none, rfl, p, dx, t, m + 1, r, rfl, upd_same, hA1.cons, ht, Res.of (fun s r' es v H2 m2 kp2 h2 hA2 hv => ?_) (fun r' es => (k.err (aft_codeE e (.inr rfl) (by rw [rdLn_u]; exact es))).mono kp.selfT)⟩
        have hb3 := kp2 _ _ nbp hb2
        have es' : rdLn 62 r = .ok (s, r') := by rw [rdLn_u]; exact es
        have hlt := rdLn_lt (.inr rfl) es'
        have hxl := hd1.map_len
        refine ⟨b, xs, _, rfl, rfl, hb3, sz_lt (by simp at hlen; omega), ?_⟩
        have kt : KT H1 (upd H2 b (.lst (xs ++ [v]))) := (Kp.self.trans kp2).kt (NT.ins h1) |>.trans (KT.up (NT.lst hb3))
        refine ⟨r'.length, by simp; omega, _, m2, r', done ++ [s], xs ++ [v], rfl, ?_, upd_same, hd1.snocU kt (Dt.mono (KT.up (NT.lst hb3)) _ _ hv), hA2, (kp.selfT.trans kp2).mut hb, aft_code (l' := r') e (.inr rfl) es', by simp at hlen ⊢; omega, rfl⟩
        rw [upd_ne (fun z => nbp z.symm)]
        exact h2
    · refine iteN (decide_eq_false h62) ⟨_, rfl, _, _, rfl, .inl ⟨SqL.of hb1, fun c hc => ?_⟩⟩
      refine k.ok (a := done) (r := l') (by rw [e, rdCode_stop h124 h62]; simp [aft]) _ _ m (kp.newT hc) (keep_p h1 hc) hA1 (.tup upd_same (DtAll.mono (KT.new hc) _ _ hd1))
theorem sc_R_read_section : FnScope ["self", "prose", "head", "code"] ["self"] (defScope s_R_read_section) := ⟨rfl, rfl, rfl, by decide +kernel, rfl, by decide +kernel, by decide +kernel⟩
def sp_R_read_section (K : PySem.W.Frag) : Sp := fun vs H Q E => vs.length = 1 ∧ ∃ p dx t n l, vs = [.ref p] ∧ H p = some (rO K dx t n) ∧ At t n l ∧ t.length ≤ 1000000 ∧ Res K Q E p dx H t (fun H v s => Dt H v (dC s)) (rdSec l)
theorem ok_R_read_section (T : Tx K mg) : Fn P w K mg base (L2.CX P w) 7 ("Reader", some "read_section") ["self"] (sp_R_read_section K) := by
  refine Fn.mkX (d := d_R_read_section) T 29 rfl rfl rfl sc_R_read_section (fun _ _ _ _ _ _ us hl => match us, hl with | [_], _ => rfl) (fun vs H Q E h => h.1) (fun cdv A outer s H vs Q E hr h => ?_)
  have hu := hu_of hr
  have G_R_now : Fn P w K mg base CX0 1 ("Reader", some "now") ["self"] (sp_R_now K) := ok_R_now T
  have G_R_read_code : Fn P w K mg base (L2.CX P w) 6 ("Reader", some "read_code") ["self"] (sp_R_read_code K) := ok_R_read_code T
  have G_R_read_head : Fn P w K mg base (L2.CX P w) 6 ("Reader", some "read_head") ["self"] (sp_R_read_head K) := ok_R_read_head T
  have G_R_read_line : Fn P w K mg base (L2.CX P w) 5 ("Reader", some "read_line") ["self"] (sp_R_read_line K) := ok_R_read_line T
  have G_R_expect : Fn P w K mg base (L2.CX P w) 4 ("Reader", some "expect") ["self", "sign"] (sp_R_expect K) := ok_R_expect T
  refine ⟨_, (pss_cons (ps_expr (pm (pv 0) (T.cls 68) (T.meth 74) G_R_expect (hr.mono (by decide)) (passes_call (E := E) (takes_of rfl rfl rfl rfl) (fun _ _ _ _ h => h)) (pa_cons pe_str pa_nil))) (pss_cons (ps_expr (pm (pv 0) (T.cls 68) (T.meth 74) G_R_expect (hr.mono (by decide)) (passes_call (E := E) (takes_of rfl rfl rfl rfl) (fun _ _ _ _ h => h)) (pa_cons pe_str pa_nil))) (pss_cons (ps_set (i := 1) sc_R_read_section.nd rfl (Or.inl rfl) (pe_lst pa_nil)) (pss_cons (ps_while (passes_of rfl) (pt_cmpR op_eq (pm0 (pv 0) (T.cls 68) (T.meth 73) G_R_now (hr.mono (by decide)) pass0) pe_str (nomark _)) (pss_cons (ps_fldaug (pv 0) pe_int in_add) (pss_one (ps_expr (pe_bm PySem.F.plainAttrs_list PySem.F.slot_list_append PySem.F.type_list_append mt_append (pv 1) (pa_cons (pm0 (pv 0) (T.cls 68) (T.meth 75) G_R_read_line (hr.mono (by decide)) (passes_call (E := E) (takes_of rfl rfl rfl rfl) (fun _ _ _ _ h => h))) pa_nil)))))) (pss_cons (ps_set (i := 2) sc_R_read_section.nd rfl (Or.inl rfl) pe_non) (pss_cons (ps_set (i := 3) sc_R_read_section.nd rfl (Or.inl rfl) (pe_tup pa_nil)) (C8.pss_cut (ps_if (PW.pt (pw_or (pt_cmpR op_eq (pm0 (pv 0) (T.cls 68) (T.meth 73) G_R_now (hr.mono (by decide)) pass0) pe_str (nomark _)) (pw_or1 (pt_cmpR op_eq (pm0 (pv 0) (T.cls 68) (T.meth 73) G_R_now (hr.mono (by decide)) pass0) pe_str (nomark _))))) (pss_cons (ps_set (i := 2) sc_R_read_section.nd rfl (Or.inl rfl) (pm0 (pv 0) (T.cls 68) (T.meth 78) G_R_read_head (hr.mono (by decide)) (passes_call (E := E) (takes_of rfl rfl rfl rfl) (fun _ _ _ _ h => h)))) (pss_one (ps_set (i := 3) sc_R_read_section.nd rfl (Or.inl rfl) (pm0 (pv 0) (T.cls 68) (T.meth 81) G_R_read_code (hr.mono (by decide)) (passes_call (E := E) (takes_of rfl rfl rfl rfl) (fun _ _ _ _ h => h)))))) pss_nil) (pss_one (ps_ret (pe_tup (pa_cons (pe_callTy call_tuple_of rfl (T.free 62) (by decide +kernel) (pa_cons (pv 1) pa_nil)) (pa_cons (pv 2) (pa_cons (pv 3) pa_nil))))))))))))), ?_⟩
  obtain ⟨_, p, dx, t, n, l, rfl, hp, hA, ht, k⟩ := h
  have hll : l.length ≤ t.length := by have := hA.len; omega
  refine ⟨_, rfl, p, dx, _, rfl, hp, lk_none, rfl, p, dx, t, n, l, 64, by rw [lt_at], hp, hA, ht, RExp.of (fun r1 e1 H1 m1 h1 hA1 k1 => ?_) (fun r1 e1 => k.err (rdSec_1 e1))⟩
  refine ⟨_, rfl, p, dx, _, rfl, h1, lk_none, rfl, p, dx, t, m1, r1, 10, by rw [lt_nl], h1, hA1, ht, RExp.of (fun r2 e2 H2 m2 h2 hA2 kp2 => ?_) (fun r2 e2 => (k.err (rdSec_2 e1 e2)).mono k1)⟩
  have k2 := k1.trans kp2
  have hl2 := hA2.len
  refine ⟨Nat.zero_le _, fun b hb => ?_⟩
  have nbp : b ≠ p := fun z => by rw [z, h2] at hb; cases hb
  have hb0 : H b = none := k2.free h2 hb
  refine ⟨fun q σ H3 => σ = [some (.ref p), some (.ref b), none, none] ∧ ∃ m l' done, H3 p = some (rO K dx t m) ∧ H3 b = some (.lst (done.map vS)) ∧ At t m l' ∧ Kp p H H3 ∧ rdProse r2 = aft done (rdProse l') ∧ done.length + l'.length ≤ r2.length ∧ q = l'.length, ⟨r2.length, rfl, m2, r2, [], keep_p h2 hb, upd_same, hA2, k2.newT hb, (aft_nil _).symm, by simp, rfl⟩, ?_⟩
  rintro q σ H3 ⟨rfl, m, l', done, h3, hb3, hA3, k3, e, hlen, rfl⟩
  refine ⟨_, rfl, p, dx, _, rfl, h3, lk_none, rfl, p, dx, t, m, l', rfl, h3, hA3, ht, rfl, _, rfl, ?_⟩
  rw [eq_wr lt_dot, take1]
  by_cases h46 : l'.head? = some 46
  · refine iteY (decide_eq_true h46) ⟨fun σ' H' => ∃ m', m' < l'.length ∧ _, fun _ _ h => h, ?_⟩
    cases l' with
    | nil => cases h46
    | cons d r =>
      cases h46
      refine ⟨_, rfl, p, _, _, _, _, rfl, h3, T.cls 68, T.noat 70, lk_at, _, _, rfl, rfl, _, _, h3, (by decide : 2 < 1000), ?_⟩
      rw [put_at]
      have hb4 : upd H3 p (rO K dx t (m + 1)) b = some (.lst (done.map vS)) := by rw [upd_ne nbp]; exact hb3
      refine ⟨_, rfl, .inl ⟨rfl, _, SqL.of hb4⟩, ?_⟩
      refine ⟨_, rfl, p, dx, _, rfl, upd_same, lk_none, rfl, p, dx, t, m + 1, r, rfl, upd_same, hA3.cons, ht, Res.of (fun s r' es v H5 m5 k5 h5 hA5 hv => ?_) (fun r' es => (k.err (rdSec_3 e1 e2 (aft_proseE e es))).mono k3.selfT)⟩
      subst hv
      have hb5 := k5 _ _ nbp hb4
      have hlt := rdLine_lt es
      refine ⟨b, _, _, rfl, rfl, hb5, sz_lt (by simp at hlen ⊢; omega), ?_⟩
      refine ⟨r'.length, by simp; omega, rfl, m5, r', done ++ [s], ?_, ?_, hA5, (k3.selfT.trans k5).mut hb0, aft_prose e es, by simp at hlen ⊢; omega, rfl⟩
      · rw [upd_ne (fun z => nbp z.symm)]
        exact h5
      · rw [upd_same, List.map_append]
        rfl
  · refine iteN (decide_eq_false h46) ?_
    have e3 : rdProse r2 = .ok (done, l') := by rw [e, rdProse_stop h46]; simp [aft]
    have e4 := rdSec_4 e1 e2 e3
    refine ⟨Nat.zero_le _, fun q hq => ?_⟩
    have nqb : b ≠ q := fun z => by rw [← z, hb3] at hq; cases hq
    refine ⟨fun σ' H' => ∃ m s r hv cv, σ' = [some (.ref p), some (.ref b), some hv, some cv] ∧ s.prose = done ∧ H' p = some (rO K dx t m) ∧ H' b = some (.lst (done.map vS)) ∧ Dt H' hv (dO s.head) ∧ Dt H' cv (.tuple (s.code.map dL)) ∧ At t m r ∧ Kp p H H' ∧ rdBody done l' = .ok (s, r), ?_, ?_⟩
    · have k4 := k3.newT (o := .tup []) hq
      have h4 := keep_p (o := .tup []) h3 hq
      have hb4 : upd H3 q (.tup []) b = some (.lst (done.map vS)) := by rw [upd_ne nqb]; exact hb3
      refine ⟨_, rfl, p, dx, _, rfl, h4, lk_none, rfl, p, dx, t, m, l', rfl, h4, hA3, ht, rfl, _, rfl, ?_⟩
      rw [eq_wr lt_eq, take1]
      by_cases h61 : l'.head? = some 61
      · refine iteY (decide_eq_true h61) (iteY rfl ?_)
        cases l' with
        | nil => cases h61
        | cons d r =>
          have hd : d = 61 ∨ d = 42 := by cases h61; exact .inl rfl
          refine ⟨_, rfl, p, dx, _, rfl, h4, lk_none, rfl, p, dx, t, m, d, r, rfl, h4, hA3, ht, Res.of (fun o r5 e5 v H5 m5 k5 h5 hA5 hv => ?_) (fun r5 e5 => (k.err (by rw [e4]; exact rdBody_1 hd e5)).mono k4)⟩
          refine ⟨_, rfl, p, dx, _, rfl, h5, lk_none, rfl, p, dx, t, m5, r5, rfl, h5, hA5, ht, Res.of (fun c r6 e6 v6 H6 m6 k6 h6 hA6 hv6 => ?_) (fun r6 e6 => (k.err (by rw [e4]; exact rdBody_2 hd e5 e6)).mono (k4.trans k5))⟩
          exact ⟨m6, ⟨done, some o, c⟩, r6, v, v6, rfl, rfl, h6, k6 _ _ nbp (k5 _ _ nbp hb4), Dt.mono (k6.kt (NT.ins h5)) _ _ hv, hv6, hA6, (k4.trans k5).trans k6, rdBody_3 hd e5 e6⟩
      · refine iteN (decide_eq_false h61) ⟨_, rfl, p, dx, _, rfl, h4, lk_none, rfl, p, dx, t, m, l', rfl, h4, hA3, ht, rfl, _, rfl, ?_⟩
        rw [eq_wr lt_star, take1]
        by_cases h42 : l'.head? = some 42
        · refine iteY (decide_eq_true h42) ?_
          cases l' with
          | nil => cases h42
          | cons d r =>
            have hd : d = 61 ∨ d = 42 := by cases h42; exact .inr rfl
            refine ⟨_, rfl, p, dx, _, rfl, h4, lk_none, rfl, p, dx, t, m, d, r, rfl, h4, hA3, ht, Res.of (fun o r5 e5 v H5 m5 k5 h5 hA5 hv => ?_) (fun r5 e5 => (k.err (by rw [e4]; exact rdBody_1 hd e5)).mono k4)⟩
            refine ⟨_, rfl, p, dx, _, rfl, h5, lk_none, rfl, p, dx, t, m5, r5, rfl, h5, hA5, ht, Res.of (fun c r6 e6 v6 H6 m6 k6 h6 hA6 hv6 => ?_) (fun r6 e6 => (k.err (by rw [e4]; exact rdBody_2 hd e5 e6)).mono (k4.trans k5))⟩
            exact ⟨m6, ⟨done, some o, c⟩, r6, v, v6, rfl, rfl, h6, k6 _ _ nbp (k5 _ _ nbp hb4), Dt.mono (k6.kt (NT.ins h5)) _ _ hv, hv6, hA6, (k4.trans k5).trans k6, rdBody_3 hd e5 e6⟩
        · refine iteN (decide_eq_false h42) ?_
          exact ⟨m, ⟨done, none, []⟩, l', .non, .ref q, rfl, rfl, h4, hb4, .non, .tup upd_same .nil, hA3, k4, rdBody_stop h61 h42⟩
    · rintro σ H5 ⟨m5, s, r, hv, cv, rfl, hs, h5, hb5, d1, d2, hA5, k5, e5⟩
      refine ⟨_, rfl, _, _, rfl, .inl ⟨SqL.of hb5, fun c hc => ⟨_, rfl, _, rfl, sz_ok (by simp), fun d hd => ?_⟩⟩⟩
      have s1 := (sm_new (o := .tup (done.map vS)) hc).trans (sm_new (o := .tup [.ref c, hv, cv]) hd)
      have hcd : c ≠ d := fun z => by rw [← z, upd_same] at hd; cases hd
      refine k.ok (a := s) (r := r) (by rw [e4, e5]) _ _ m5 ((k5.newT hc).newT hd) (keep_p (keep_p h5 hc) hd) hA5 ?_
      refine .tup upd_same (.cons (.tup ?_ (DtAll.strs _)) (.cons (Dt.mono (sm_kt s1) _ _ d1) (.cons (Dt.mono (sm_kt s1) _ _ d2) .nil)))
      rw [upd_ne hcd, upd_same, hs]
end
end Kn

set_option maxHeartbeats 4000000
/-! read_web. -/
namespace Kn
open PySem PySem.Spec PyProof.Rows L2 KnR
theorem blanks_le (l : Ws) : blanks l ≤ 20 := Nat.min_le_left _ _
theorem rdUse_i {l : Ws} {u : Ln} {r : Ws} (e : rdUse l = .ok (u, r)) : iOk u := by
  unfold rdUse at e
  split at e
  · cases e
  · split at e
    · cases e
    · split at e
      · cases e
      · split at e
        · cases e
        · cases e
          exact blanks_le l
theorem rdLn_i {d : Nat} {l : Ws} {u : Ln} {r : Ws} (e : rdLn d l = .ok (u, r)) : iOk u := by
  unfold rdLn at e
  split at e
  · split at e
    · cases e
      trivial
    · cases e
  · exact rdUse_i e
theorem rdCode_i : ∀ (n : Nat) (l : Ws), l.length ≤ n → ∀ cs r, rdCode l = .ok (cs, r) → ∀ c ∈ cs, iOk c := by
  intro n
  induction n with
  | zero =>
    intro l hl cs r e
    have : l = [] := List.length_eq_zero_iff.mp (by omega)
    subst this
    rw [rdCode_nil] at e
    cases e
    simp
  | succ n ih =>
    intro l hl cs r e
    cases l with
    | nil =>
      rw [rdCode_nil] at e
      cases e
      simp
    | cons d q =>
      rw [rdCode_cons] at e
      split at e
      · rename_i hd
        split at e
        · cases e
        · rename_i s r' h1
          split at e
          · cases e
          · rename_i ss q' h2
            cases e
            intro c hc
            rcases List.mem_cons.mp hc with z | z
            · subst z
              exact rdLn_i h1
            · have := rdLn_lt hd h1
              exact ih r' (by simp at hl; omega) ss _ h2 c z
      · cases e
        simp
theorem rdBody_i {p : List Ws} {l : Ws} {s : Sc} {r : Ws} (e : rdBody p l = .ok (s, r)) : ∀ c ∈ s.code, iOk c := by
  cases l with
  | nil =>
    cases e
    simp
  | cons d q =>
    rw [rdBody_cons] at e
    split at e
    · split at e
      · cases e
      · split at e
        · cases e
        · rename_i h2
          cases e
          exact rdCode_i _ _ (Nat.le_refl _) _ _ h2
    · cases e
      simp
theorem rdSec_i {l : Ws} {s : Sc} {r : Ws} (e : rdSec l = .ok (s, r)) : ∀ c ∈ s.code, iOk c := by
  unfold rdSec at e
  split at e
  · cases e
  · split at e
    · cases e
    · split at e
      · cases e
      · exact rdBody_i e
theorem rdWeb_i : ∀ (n : Nat) (l : Ws), l.length ≤ n → ∀ w, rdWeb l = .ok w → wI w := by
  intro n
  induction n with
  | zero =>
    intro l hl w e
    have : l = [] := List.length_eq_zero_iff.mp (by omega)
    subst this
    rw [rdWeb_nil] at e
    cases e
    intro s hs
    cases hs
  | succ n ih =>
    intro l hl w e
    cases l with
    | nil =>
      rw [rdWeb_nil] at e
      cases e
      intro s hs
      cases hs
    | cons d q =>
      rw [rdWeb_cons] at e
      split at e
      · cases e
      · rename_i s r h1
        split at e
        · cases e
        · rename_i ss h2
          cases e
          have := rdSec_lt h1
          intro s' hs'
          rcases List.mem_cons.mp hs' with z | z
          · subst z
            exact rdSec_i h1
          · exact ih r (by simp at hl this; omega) ss h2 s' z
def aftW (done : List Sc) (x : Except Ws (List Sc)) : Except Ws (List Sc) := match x with
  | .ok cs => .ok (done ++ cs)
  | .error e => .error e
theorem aftW_nil (x : Except Ws (List Sc)) : aftW [] x = x := by cases x <;> rfl
theorem aftW_ok {t : Ws} {done : List Sc} {d : Nat} {q : Ws} (e : rdWeb t = aftW done (rdWeb (d :: q))) {s : Sc} {r : Ws} (e2 : rdSec (d :: q) = .ok (s, r)) : rdWeb t = aftW (done ++ [s]) (rdWeb r) := by
  rw [e, rdWeb_cons, e2]
  dsimp only
  cases rdWeb r with
  | error z => rfl
  | ok z => simp [aftW]
theorem aftW_er {t : Ws} {done : List Sc} {d : Nat} {q : Ws} (e : rdWeb t = aftW done (rdWeb (d :: q))) {r : Ws} (e2 : rdSec (d :: q) = .error r) : rdWeb t = .error r := by
  rw [e, rdWeb_cons, e2]
  rfl
theorem row_hd : ∀ (w : List Sc) (k : Nat) (r : Rw), r ∈ rowsFrom k w → (r.hd = none ∧ r.kind ≠ 2) ∨ ∃ h j s, r.hd = some h ∧ r.kind = 2 ∧ r.sec = k + j ∧ w[j]? = some s ∧ s.head = some h
  | [], _, r, h => by cases h
  | s :: w, k, r, h => by
    have h : r ∈ secRows k s ++ rowsFrom (k + 1) w := h
    rcases List.mem_append.mp h with h | h
    · unfold secRows at h
      rcases List.mem_cons.mp h with h | h
      · subst h
        exact .inl ⟨rfl, by show (0 : Nat) ≠ 2; decide⟩
      · rcases List.mem_append.mp h with h | h
        · have : ∀ (ps : List Ws) (i : Nat), r ∈ proseRows k i ps → r.hd = none ∧ r.kind ≠ 2 := fun ps => by
            induction ps with
            | nil => intro i h; cases h
            | cons p ps ih =>
              intro i h
              rcases List.mem_cons.mp h with h | h
              · subst h; exact ⟨rfl, by show (1 : Nat) ≠ 2; decide⟩
              · exact ih _ h
          exact .inl (this _ _ h)
        · rcases List.mem_append.mp h with h | h
          · cases e : s.head with
            | none => rw [e] at h; cases h
            | some o =>
              rw [e] at h
              have h := List.mem_singleton.mp h
              subst h
              exact .inr ⟨o, 0, s, rfl, rfl, rfl, rfl, e⟩
          · have : ∀ (ps : List Ln) (i : Nat), r ∈ codeRows k i ps → r.hd = none ∧ r.kind ≠ 2 := fun ps => by
              induction ps with
              | nil => intro i h; cases h
              | cons p ps ih =>
                intro i h
                rcases List.mem_cons.mp h with h | h
                · subst h; exact ⟨rfl, by show (3 : Nat) ≠ 2; decide⟩
                · exact ih _ h
            exact .inl (this _ _ h)
    · rcases row_hd w (k + 1) r h with h | ⟨o, j, s', h1, h2, h3, h4, h5⟩
      · exact .inl h
      · exact .inr ⟨o, j + 1, s', h1, h2, by omega, by simpa using h4, h5⟩
theorem kind_head : ∀ k : Nat, decide (V.str (kindS k) = V.str ("head" : Str)) = decide (k = 2)
  | 0 => by decide +kernel
  | 1 => by decide +kernel
  | 2 => by decide +kernel
  | k + 3 => by
    have : decide (V.str ("code" : Str) = V.str ("head" : Str)) = false := by decide +kernel
    rw [decide_eq_false (by omega : ¬ k + 3 = 2)]
    exact this
theorem offs_get : ∀ (rs : List Rw) (n i : Nat), i < rs.length → (offs n rs)[i]? = some (n + (txt (rs.take i)).length)
  | [], _, i, h => by simp at h
  | r :: rs, n, 0, _ => by simp [offs, txt_nil]
  | r :: rs, n, i + 1, h => by
    show (offs (n + (r.line.length + 1)) rs)[i]? = _
    rw [offs_get rs _ i (by simpa using h), List.take_succ_cons, txt_cons]
    simp
    omega
theorem headsIn_step {rs : List Rw} {i : Nat} {r : Rw} (h : rs[i]? = some r) (n : Nat) : headsIn n (rs.drop i) = (match r.hd with | some h => [(h, n)] | none => []) ++ headsIn (n + (r.line.length + 1)) (rs.drop (i + 1)) := by
  have hi := (List.getElem?_eq_some_iff.mp h).1
  rw [List.drop_eq_getElem_cons hi]
  have e : rs[i] = r := (List.getElem?_eq_some_iff.mp h).2
  rw [e]
  rfl
def RdW (K : PySem.W.Frag) (Q : VK) (E : XK) (H : Hp) (t : Ws) (x : Except Nat (List Sc)) : Prop := match x with
  | .ok w => ∀ v H', Same H H' → Dt H' v (dW w) → Q v H'
  | .error n => ∀ (d : Addr) (fs : List (Str × V)) (H' : Hp), Same H H' → H' d = some (.xd fs) → List.lookup ("text" : Str) fs = some (vS t) → List.lookup ("at" : Str) fs = some (V.int (n : Nat)) → E (.ref (He.ga K "InvalidText")) (some d) H'
theorem RdW.ok {K : PySem.W.Frag} {Q : VK} {E : XK} {H : Hp} {t : Ws} {x : Except Nat (List Sc)} (h : RdW K Q E H t x) {w : List Sc} (e : x = .ok w) : ∀ v H', Same H H' → Dt H' v (dW w) → Q v H' := by subst e; exact h
theorem RdW.er {K : PySem.W.Frag} {Q : VK} {E : XK} {H : Hp} {t : Ws} {x : Except Nat (List Sc)} (h : RdW K Q E H t x) {n : Nat} (e : x = .error n) : ∀ (d : Addr) (fs : List (Str × V)) (H' : Hp), Same H H' → H' d = some (.xd fs) → List.lookup ("text" : Str) fs = some (vS t) → List.lookup ("at" : Str) fs = some (V.int (n : Nat)) → E (.ref (He.ga K "InvalidText")) (some d) H' := by subst e; exact h
theorem kp_same {H H1 H2 : Hp} {p : Addr} (s : Same H H1) (hp : H p = none) (k : Kp p H1 H2) : Same H H2 := fun a u e => k a u (ne_of_none e hp) (s a u e)
theorem xd_text {a b : V} : List.lookup ("text" : Str) [(("at" : Str), a), (("text" : Str), b)] = some b := by
  have : (("text" : Str) == ("at" : Str)) = false := by decide +kernel
  simp [List.lookup, this]
theorem xd_at {a b : V} : List.lookup ("at" : Str) [(("at" : Str), a), (("text" : Str), b)] = some a := by simp [List.lookup]
section
variable {P : Program} {w : World} {K : PySem.W.Frag} {mg : Str → Option Value} {base : Heap}
theorem sc_read_web : FnScope ["text", "reader", "sections", "web", "heads", "start", "row"] ["text"] (defScope s_read_web) := ⟨rfl, rfl, rfl, by decide +kernel, rfl, by decide +kernel, by decide +kernel⟩
def sp_read_web (K : PySem.W.Frag) : Sp := fun vs H Q E => vs.length = 1 ∧ ∃ t, vs = [vS t] ∧ t.length ≤ 1000000 ∧ RdW K Q E H t (readAll t)
theorem ok_read_web (T : Tx K mg) : Fn P w K mg base (L2.CX P w) 8 ("read_web", none) ["text"] (sp_read_web K) := by
  refine Fn.mkX (d := d_read_web) T 30 rfl rfl rfl sc_read_web (fun _ _ _ _ _ _ us hl => match us, hl with | [_], _ => rfl) (fun vs H Q E h => h.1) (fun cdv A outer s H vs Q E hr h => ?_)
  have hu := hu_of hr
  have G_rows_of : Fn P w K mg base CX0 2 ("rows_of", none) ["web"] (sp_rows_of K) := ok_rows_of T
  have G_starts_in : Fn P w K mg base CX0 3 ("starts_in", none) ["web"] (sp_starts_in K) := ok_starts_in T
  obtain ⟨fd_T_init, FO_T_init, FB_T_init, _⟩ := (ok_T_init (P := P) (w := w) (base := base) T).ex
  have G_heads_of : Fn P w K mg base CX0 1 ("heads_of", none) ["web"] (sp_heads_of K) := ok_heads_of T
  have G_R_now : Fn P w K mg base CX0 1 ("Reader", some "now") ["self"] (sp_R_now K) := ok_R_now T
  have G_R_read_section : Fn P w K mg base (L2.CX P w) 7 ("Reader", some "read_section") ["self"] (sp_R_read_section K) := ok_R_read_section T
  obtain ⟨fd_R_init, FO_R_init, FB_R_init, _⟩ := (ok_R_init (P := P) (w := w) (base := base) T).ex
  refine ⟨_, (pss_cons (ps_set (i := 1) sc_read_web.nd rfl (Or.inl rfl) (pe_make (T.mkr 71) FO_R_init (hr.mono (by decide)) rfl (T.glo 49) FB_R_init .nil pass0 (pa_cons (pv 0) pa_nil))) (pss_cons (ps_set (i := 2) sc_read_web.nd rfl (Or.inl rfl) (pe_lst pa_nil)) (pss_cons (ps_while (passes_of rfl) (pt_cmpR op_ne (pm0 (pv 1) (T.cls 68) (T.meth 73) G_R_now (hr.mono (by decide)) pass0) pe_str (nomark _)) (pss_one (ps_expr (pe_bm PySem.F.plainAttrs_list PySem.F.slot_list_append PySem.F.type_list_append mt_append (pv 2) (pa_cons (pm0 (pv 1) (T.cls 68) (T.meth 82) G_R_read_section (hr.mono (by decide)) (passes_call (E := E) (takes_of rfl rfl rfl rfl) (fun _ _ _ _ h => h))) pa_nil))))) (pss_cons (ps_set (i := 3) sc_read_web.nd rfl (Or.inl rfl) (pe_callTy call_tuple_of rfl (T.free 62) (by decide +kernel) (pa_cons (pv 2) pa_nil))) (pss_cons (ps_set (i := 4) sc_read_web.nd rfl (Or.inl rfl) (pc G_heads_of (hr.mono (by decide)) rfl (T.glo 8) pass0 (pa_cons (pv 3) pa_nil))) (pss_cons (ps_for (passes_of rfl) rfl (pi_zip rfl (T.free 65) (pa_cons (pc G_starts_in (hr.mono (by decide)) rfl (T.glo 16) pass0 (pa_cons (pv 3) pa_nil)) (pa_cons (pc G_rows_of (hr.mono (by decide)) rfl (T.glo 13) pass0 (pa_cons (pv 3) pa_nil)) pa_nil))) (pg_tup rfl (pgs_cons (pg_name (i := 5) sc_read_web.nd rfl (Or.inl rfl)) (pgs_cons (pg_name (i := 6) sc_read_web.nd rfl (Or.inl rfl)) pgs_nil))) (pss_one (ps_if (PW.pt (pw_and (pt_cmpR op_eq (pe_ix ix_tup (pv 6) pe_int (fun _ _ => rfl)) pe_str (nomark _)) (pw_and1 (pt_cmpR (op_neD hr.units) (pe_dget hu (pv 4) (pe_ix ix_tup (pe_ix ix_tup (pe_ix ix_tup (pv 3) (pe_ix ix_tup (pv 6) pe_int (fun _ _ => rfl)) (fun _ _ => rfl)) pe_int (fun _ _ => rfl)) pe_int (fun _ _ => rfl)) (fun _ _ => rfl)) (pe_ix ix_tup (pe_ix ix_tup (pv 3) (pe_ix ix_tup (pv 6) pe_int (fun _ _ => rfl)) (fun _ _ => rfl)) pe_int (fun _ _ => rfl)) (nomark _))))) (pss_one (ps_raise rfl (takes_of rfl rfl rfl rfl) (pmk_oex T.oex.1 T.oex.2.2.1 T.oex.2.2.2 FO_T_init (hr.mono (by decide)) FB_T_init .nil (by exact pass0) rfl (T.glo 48) (pa_cons (pv 0) (pa_cons (pv 5) pa_nil))))) pss_nil))) (pss_one (ps_ret (pv 3))))))))), ?_⟩
  obtain ⟨_, t, rfl, ht, k⟩ := h
  refine ⟨_, rfl, fun p dx hp hdx hne => ⟨rfl, p, dx, t, rfl, upd_same, fun H0 h0 ho0 => ⟨rfl, ?_⟩⟩⟩
  have s0 : Same H H0 := fun a u e => by
    have n1 : a ≠ p := ne_of_none e hp
    have n2 : a ≠ dx := ne_of_none e hdx
    rw [ho0 a n1, upd_ne n1, upd_ne n2]
    exact e
  refine ⟨Nat.zero_le _, fun b hb => ?_⟩
  have nbp : b ≠ p := fun z => by rw [z, h0] at hb; cases hb
  have hbH : H b = none := by
    cases e : H b with
    | none => rfl
    | some u => rw [s0 b u e] at hb; cases hb
  refine ⟨fun q σ H1 => σ = [some (vS t), some (.ref p), some (.ref b), none, none, none, none] ∧ ∃ m l' done xs, H1 p = some (rO K dx t m) ∧ H1 b = some (.lst xs) ∧ DtAll H1 xs (done.map dC) ∧ At t m l' ∧ Kp p H0 H1 ∧ rdWeb t = aftW done (rdWeb l') ∧ done.length + l'.length ≤ t.length ∧ q = l'.length, ⟨t.length, rfl, 0, t, [], [], keep_p h0 hb, upd_same, .nil, At.zero t, Kp.new hb, (aftW_nil _).symm, by simp, rfl⟩, ?_⟩
  rintro q σ H1 ⟨rfl, m, l', done, xs, h1, hb1, hd1, hA1, kp, e, hlen, rfl⟩
  refine ⟨_, rfl, p, dx, _, rfl, h1, lk_none, rfl, p, dx, t, m, l', rfl, h1, hA1, ht, rfl, _, rfl, ?_⟩
  rw [eq_nil]
  have hxl := hd1.map_len
  cases l' with
  | cons d r =>
    refine iteY rfl ⟨fun σ' H' => ∃ m', m' < (d :: r).length ∧ _, fun _ _ h => h, ?_⟩
    refine ⟨_, rfl, .inl ⟨rfl, _, SqL.of hb1⟩, ?_⟩
    refine ⟨_, rfl, p, dx, _, rfl, h1, lk_none, rfl, p, dx, t, m, d :: r, rfl, h1, hA1, ht, Res.of (fun s r' es v H2 m2 kp2 h2 hA2 hv => ?_) (fun r' es => ?_)⟩
    · have hb2 := kp2 _ _ nbp hb1
      have hlt := rdSec_lt es
      refine ⟨b, xs, _, rfl, rfl, hb2, sz_lt (by simp at hlen; omega), ?_⟩
      have kt : KT H1 (upd H2 b (.lst (xs ++ [v]))) := (kp2.kt (NT.ins h1)).trans (KT.up (NT.lst hb2))
      refine ⟨r'.length, hlt, rfl, m2, r', done ++ [s], xs ++ [v], ?_, upd_same, hd1.snocU kt (Dt.mono (KT.up (NT.lst hb2)) _ _ hv), hA2, (kp.trans kp2).mut hb, aftW_ok e es, by simp at hlen hlt ⊢; omega, rfl⟩
      rw [upd_ne (fun z => nbp z.symm)]
      exact h2
    · have er : readAll t = .error (t.length - r'.length) := by unfold readAll; rw [aftW_er e es]
      refine fun x fs H' m2 kp2 hx l1 l2 hA2 => k.er er x fs H' (kp_same s0 hp (kp.trans kp2)) hx l1 ?_
      rw [l2, hA2.place]
  | nil =>
    refine iteN rfl ?_
    have ew : rdWeb t = .ok done := by rw [e, rdWeb_nil]; simp [aftW]
    obtain ⟨wt, woc⟩ := web_txt ew
    have wi := rdWeb_i _ t (Nat.le_refl _) _ ew
    have wl := rdWeb_let _ t (Nat.le_refl _) _ ew
    have hwt : (webTxt done).length ≤ 1000000 := by rw [wt]; exact ht
    have s1 : Same H H1 := kp_same s0 hp kp
    refine ⟨_, rfl, _, _, rfl, .inl ⟨SqL.of hb1, fun a ha => ?_⟩⟩
    have s2 := s1.trans (sm_new (o := .tup xs) ha)
    have dt : Dt (upd H1 a (.tup xs)) (.ref a) (dW done) := .tup upd_same (DtAll.mono (KT.new ha) _ _ hd1)
    have hdl : done.length ≤ 1000000 := Nat.le_trans (web_len done 0) hwt
    refine ⟨_, rfl, rfl, _, done, rfl, dt, hdl, fun hd kvs H3 s3 h3 hds => ?_⟩
    have dt3 := Dt.mono (sm_kt s3) _ _ dt
    refine ⟨_, rfl, rfl, _, done, rfl, dt3, wi, hwt, fun q1 H4 s4 h4 => ?_⟩
    have dt4 := Dt.mono (sm_kt s4) _ _ dt3
    refine ⟨_, rfl, rfl, _, done, rfl, dt4, wi, hwt, fun q2 rs H5 r5 => ?_⟩
    have h4' := r5.sm _ _ h4
    have dt5 := Dt.mono (sm_kt r5.sm) _ _ dt4
    have s5 := s4.trans r5.sm
    have hk5 := s5 _ _ h3
    have hds5 := HdsAt.mono (sm_kt s5) hds
    have sA := (s2.trans s3).trans s5
    have hrl : (rowsOf done).length ≤ 1000000 := Nat.le_trans (txt_ge (rowsFrom 0 done)) hwt
    refine ⟨q1, q2, _, _, rfl, SqL.of h4', SqL.of r5.lst, ?_⟩
    have hn : rs.length = min ((offs 0 (rowsOf done)).map fun n => V.int (n : Nat)).length rs.length := by
      rw [List.length_map, offs_len, r5.len]
      omega
    have hdsH : (headsIn 0 (rowsOf done)).map (·.1) = heads done := by rw [heads_rows]; exact heads_web done 0
    refine for_it (walk_zip hn) (fun i σ H6 => ∃ u v : Option V, σ = [some (vS t), some (.ref p), some (.ref b), some (.ref a), some (.ref hd), u, v] ∧ Same H5 H6 ∧ badF (heads done) (headsIn 0 (rowsOf done)) = badF (heads done) (headsIn (txt ((rowsOf done).take i)).length ((rowsOf done).drop i))) ?_ (fun i σ H6 _ ⟨_, _, _, s6, _⟩ => ⟨SqL.of (s6 _ _ h4'), SqL.of (s6 _ _ r5.lst)⟩) ?_ ?_
    · exact ⟨none, none, rfl, Same.refl _, by simp [txt_nil]⟩
    · rintro i y σ H6 H7 hi ⟨u, v, rfl, s6, eb⟩ ⟨tp, x0, y0, rfl, htp, rfl, e0, e1⟩
      obtain ⟨r, hri, dr⟩ := r5.dt.map_get e1
      have hr := List.mem_of_getElem? hri
      have hi2 : i < (rowsOf done).length := by rw [← r5.len]; exact hi
      have e0' : ((offs 0 (rowsOf done)).map fun n => V.int (n : Nat))[i]? = some x0 := e0
      rw [List.getElem?_map, offs_get _ _ _ hi2] at e0'
      cases e0'
      have s7 : Same H5 (upd H6 tp (.tup [.int ((0 + (txt ((rowsOf done).take i)).length : Nat) : Int), y0])) := s6.trans (sm_new htp)
      obtain ⟨ra, rfl, hra⟩ := (Dt.mono (sm_kt s7) _ _ dr).row_inv
      refine ⟨_, _, rfl, SqT.of upd_same, rfl, _, _, rfl, _, _, rfl, rfl, ?_⟩
      refine ⟨_, rfl, _, _, _, _, rfl, rfl, SqT.of hra, rfl, rfl, _, rfl, ?_⟩
      rw [kind_head]
      have st := headsIn_step hri (txt ((rowsOf done).take i)).length
      have tk : (rowsOf done).take (i + 1) = (rowsOf done).take i ++ [r] := by rw [List.take_succ, hri]; rfl
      rcases row_hd done 0 r hr with ⟨g1, g2⟩ | ⟨o, j, s, g1, g2, g3, g4, g5⟩
      · refine iteN (decide_eq_false g2) (iteN rfl ⟨_, _, rfl, s7, ?_⟩)
        rw [eb, st, g1, tk, txt_snoc]
        rfl
      · have g3 : r.sec = j := by omega
        obtain ⟨a2, xs2, z, hxs2, dxs2⟩ := (Dt.mono (sm_kt s7) _ _ dt5).tup_inv
        cases z
        obtain ⟨sv, hsv, dsv⟩ := dxs2.map_at g4
        obtain ⟨b1, p1, hv, q3, cs, rfl, hb2, hp1, hh, hq, hcs⟩ := dsv.sec_inv
        rw [g5] at hh
        obtain ⟨b3, b4, rfl, f1, f2⟩ := Dt.head_inv hh
        have hom : o ∈ heads done := List.mem_filterMap.mpr ⟨s, List.mem_of_getElem? g4, g5⟩
        obtain ⟨f, hf⟩ : ∃ f, first (heads done) o.name = some f := by
          unfold first
          cases ef : (heads done).find? fun h => h.name == o.name with
          | some f => exact ⟨f, rfl⟩
          | none => exact absurd (beq_self_eq_true o.name) (by simpa using List.find?_eq_none.mp ef o hom)
        obtain ⟨fv, ef, df⟩ := (HdsAt.mono (sm_kt s7) hds5).some hf
        have lF : hL f := by
          obtain ⟨s', hs', e'⟩ := List.mem_filterMap.mp (first_mem hf).2
          exact wl s' hs' f e'
        have lO : hL o := wl s (List.mem_of_getElem? g4) o g5
        have hat : atI xs2 ((r.sec : Nat) : Int) = some (.ref b1) := by rw [g3]; exact atI_nat hsv
        refine iteY (decide_eq_true g2) ?_
        refine ⟨_, rfl, ⟨_, rfl, ⟨_, rfl, _, _, _, _, rfl, rfl, SqT.of hra, rfl, _, _, _, _, rfl, rfl, SqT.of hxs2, hat, _, _, _, _, rfl, rfl, SqT.of hb2, rfl, _, _, _, _, rfl, rfl, SqT.of f1, rfl, hd, _, rfl, DGet_at (n := o.name) (s7 _ _ hk5) ef, ?_⟩⟩⟩
        refine ⟨_, rfl, _, rfl, _, _, _, _, rfl, rfl, SqT.of hra, rfl, _, _, _, _, rfl, rfl, SqT.of hxs2, hat, _, _, _, _, rfl, rfl, SqT.of hb2, rfl, _, _, Dt.dp (dH f) _ df, Dt.dp (dH o) _ hh, shaped_dH lF, shaped_dH lO, _, rfl, ?_⟩
        rw [eqv_dH]
        have eb2 : badF (heads done) (headsIn 0 (rowsOf done)) = if first (heads done) o.name = some o then badF (heads done) (headsIn (txt ((rowsOf done).take (i + 1))).length ((rowsOf done).drop (i + 1))) else some (txt ((rowsOf done).take i)).length := by
          rw [eb, st, g1, tk, txt_snoc]
          rfl
        by_cases ho : f = o
        · refine iteN (by rw [decide_eq_true ho]; rfl) ⟨_, _, rfl, s7, ?_⟩
          rw [eb2, if_pos (by rw [hf, ho])]
        · refine iteY (by rw [decide_eq_false ho]; rfl) ?_
          have er : readAll t = .error (0 + (txt ((rowsOf done).take i)).length) := by
            unfold readAll
            rw [ew]
            dsimp only
            rw [bad_is, hdsH, eb2, if_neg (fun z => ho (by rw [hf] at z; exact Option.some.inj z)), Nat.zero_add]
          refine ⟨_, rfl, _, rfl, by simp, fun x hx => ?_⟩
          refine ⟨rfl, x, _, _, rfl, upd_same, fun d hd' hne' H' z1 z2 z3 => ⟨rfl, d, _, z1, z2, ?_, ?_⟩⟩
          · rw [upd_ne hne'] at hd'
            exact hd'
          · rw [upd_ne hne'] at hd'
            refine k.er er d _ _ (fun c u hc => ?_) upd_same xd_text xd_at
            have hc7 := (sA.trans s7) c u hc
            have nd : c ≠ d := ne_of_none hc7 hd'
            have na : c ≠ x := ne_of_none hc7 hx
            rw [upd_ne nd, del_ne na, z3 c na nd, upd_ne na]
            exact hc7
    · rintro σ H6 ⟨u, v, rfl, s6, eb⟩
      refine ⟨_, rfl, k.ok (w := done) ?_ _ _ (sA.trans s6) (Dt.mono (sm_kt s6) _ _ dt5)⟩
      have hz : (rowsOf done).drop rs.length = [] := List.drop_of_length_le (Nat.le_of_eq r5.len.symm)
      rw [hz] at eb
      unfold readAll
      rw [ew]
      dsimp only
      rw [bad_is, hdsH, eb]
      rfl
end
end Kn

set_option maxHeartbeats 4000000
/-! The law's helpers: the drawn numbers, the comparison. -/
namespace Kn
open PySem PySem.Spec PyProof.Rows L2 KnR
/-- a box of drawn numbers -/
def Bx (b c : Addr) (H : Hp) : Prop := c ≠ b ∧ ∃ (i0 i1 i2 i3 i4 : Int) (cs : List Int), H b = some (.lst [.int i0, .int i1, .int i2, .int i3, .int i4, .ref c]) ∧ 0 ≤ i2 ∧ H c = some (.lst (cs.map V.int))
theorem Bx.nt {b c : Addr} {H : Hp} (h : Bx b c H) : NT H b ∧ H b ≠ none := by
  obtain ⟨_, _, _, _, _, _, _, h, _⟩ := h
  exact ⟨NT.lst h, fun z => by rw [z] at h; cases h⟩
theorem Bx.new {b c p : Addr} {o : HO} {H : Hp} (h : Bx b c H) (hp : H p = none) : Bx b c (upd H p o) := by
  obtain ⟨n, i0, i1, i2, i3, i4, cs, h1, h2, h3⟩ := h
  exact ⟨n, i0, i1, i2, i3, i4, cs, sm_new hp _ _ h1, h2, sm_new hp _ _ h3⟩
theorem Bx.up {b c : Addr} {H H' : Hp} (h : Bx b c H) (s : Same H H') : Bx b c H' := by
  obtain ⟨n, i0, i1, i2, i3, i4, cs, h1, h2, h3⟩ := h
  exact ⟨n, i0, i1, i2, i3, i4, cs, s _ _ h1, h2, s _ _ h3⟩
theorem Bx.ne {b c p : Addr} {H : Hp} (h : Bx b c H) (hp : H p = none) : p ≠ b ∧ p ≠ c := by
  obtain ⟨n, i0, i1, i2, i3, i4, cs, h1, h2, h3⟩ := h
  exact ⟨(fun z => by rw [z, h1] at hp; cases hp), (fun z => by rw [z, h3] at hp; cases hp)⟩
/-- another cell is changed -/
theorem Bx.at_ {b c p : Addr} {o : HO} {H : Hp} (h : Bx b c H) (h1 : p ≠ b) (h2 : p ≠ c) : Bx b c (upd H p o) := by
  obtain ⟨n, i0, i1, i2, i3, i4, cs, q1, q2, q3⟩ := h
  exact ⟨n, i0, i1, i2, i3, i4, cs, by rw [upd_ne h1.symm]; exact q1, q2, by rw [upd_ne h2.symm]; exact q3⟩
theorem md1 : (0 : Int) < 2147483647 := by decide
theorem md2 : (0 : Int) < 2147483629 := by decide
theorem cm (i j : Int) (h : -(2 ^ 64) < j ∧ j < 2 ^ 64) : CMul i j := .inr h
section
variable {P : Program} {w : World} {K : PySem.W.Frag} {mg : Str → Option Value} {base : Heap}
theorem sc_law_mix : FnScope ["_law_cell", "_law_salt", "_law_one"] ["_law_cell", "_law_salt"] (defScope s_law_mix) := ⟨rfl, rfl, rfl, by decide +kernel, rfl, by decide +kernel, by decide +kernel⟩
def sp_law_mix (K : PySem.W.Frag) : Sp := fun vs H Q _ => vs.length = 2 ∧ ∃ i j : Int, vs = [.int i, .int j] ∧ ∀ r : Int, Q (.int r) H
theorem ok_law_mix (T : Tx K mg) : Fn P w K mg base CX0 1 ("_law_mix", none) ["_law_cell", "_law_salt"] (sp_law_mix K) := by
  refine Fn.mk0 (d := d_law_mix) T 31 rfl rfl rfl sc_law_mix (fun _ _ _ _ _ _ us hl => match us, hl with | [_, _], _ => rfl) (fun vs H Q E h => h.1) (fun cdv A outer s H vs Q E hr h => ?_)
  have hu := hu_of hr
  refine ⟨_, (pss_cons (ps_set (i := 2) sc_law_mix.nd rfl (Or.inl rfl) (pe_op op_mod (pe_callTy call_int1 rfl (T.free 56) (by decide +kernel) (pa_cons (pe_op op_add (pe_op op_add (pe_op op_mul (pv 0) pe_int) (pe_op op_mul (pv 1) pe_int)) pe_int) pa_nil)) pe_int)) (pss_one (ps_ret (pe_op op_mod (pe_callTy call_int1 rfl (T.free 56) (by decide +kernel) (pa_cons (pe_op op_add (pe_op op_add (pe_op op_mul (pv 2) (pv 2)) (pe_op op_mul (pv 2) pe_int)) (pe_op op_mul (pv 1) pe_int)) pa_nil)) pe_int)))), ?_⟩
  obtain ⟨_, i, j, rfl, k⟩ := h
  refine ⟨_, rfl, _, _, rfl, rfl, cm _ _ (by decide), _, rfl, _, _, rfl, rfl, cm _ _ (by decide), _, _, rfl, rfl, _, _, rfl, rfl, .inl ⟨_, rfl, _, _, rfl, rfl, md1, ?_⟩⟩
  have h1 := Int.emod_nonneg (i * 48271 + j * 69621 + 12345) (by decide : (2147483647 : Int) ≠ 0)
  have h2 := Int.emod_lt_of_pos (i * 48271 + j * 69621 + 12345) (by decide : (0 : Int) < 2147483647)
  refine ⟨_, rfl, _, rfl, _, _, rfl, rfl, cm _ _ ⟨?_, ?_⟩, ?_⟩
  · show -(2 ^ 64) < (i * 48271 + j * 69621 + 12345) % 2147483647
    omega
  · show (i * 48271 + j * 69621 + 12345) % 2147483647 < 2 ^ 64
    omega
  exact ⟨_, rfl, _, _, rfl, rfl, cm _ _ (by decide), _, _, rfl, rfl, _, rfl, _, _, rfl, rfl, cm _ _ (by decide), _, _, rfl, rfl, .inl ⟨_, rfl, _, _, rfl, rfl, md2, k _⟩⟩
theorem sc_law_box : FnScope ["_law_script", "_law_at_here", "_law_cell"] ["_law_script", "_law_at_here"] (defScope s_law_box) := ⟨rfl, rfl, rfl, by decide +kernel, rfl, by decide +kernel, by decide +kernel⟩
def sp_law_box (K : PySem.W.Frag) : Sp := fun vs H Q _ => vs.length = 2 ∧ ∃ (a : Addr) (ns : List Int) (j : Int), vs = [.ref a, .int j] ∧ SqL K H a (ns.map V.int) ∧ ns.length ≤ 1000000 ∧ (∀ H', Same H H' → SqL K H' a (ns.map V.int)) ∧ 0 ≤ j ∧ ∀ b c H', Same H H' → Bx b c H' → H b = none → Q (.ref b) H'
theorem ok_law_box (T : Tx K mg) : Fn P w K mg base CX0 1 ("_law_box", none) ["_law_script", "_law_at_here"] (sp_law_box K) := by
  refine Fn.mk0 (d := d_law_box) T 32 rfl rfl rfl sc_law_box (fun _ _ _ _ _ _ us hl => match us, hl with | [_, _], _ => rfl) (fun vs H Q E h => h.1) (fun cdv A outer s H vs Q E hr h => ?_)
  have hu := hu_of hr
  refine ⟨_, (pss_one (ps_ret (pe_lst (pa_cons pe_int (pa_cons pe_int (pa_cons (pv 1) (pa_cons pe_int (pa_cons (pv 1) (pa_cons (pe_lc (own := [("_law_cell", 2)]) rfl sc_law_box.nd (pi_list (pv 0)) (blkOk_by (N := ["_law_script", "_law_at_here", "_law_cell"]) (sc := defScope s_law_box) (by decide +kernel)) (fun _ _ _ _ _ => (pg_name (i := 2) sc_law_box.nd rfl (Or.inl rfl))) (fun _ _ _ _ _ => pts_nil) (fun _ _ _ _ _ => (pe_callTy call_int1 rfl (T.free 56) (by decide +kernel) (pa_cons (pv 2) pa_nil)))) pa_nil))))))))), ?_⟩
  obtain ⟨_, a, ns, j, rfl, ha, hn, hs, hj, k⟩ := h
  refine ⟨_, rfl, _, rfl, _, rfl, a, rfl, ⟨_, ha⟩, fun D hD => ?_⟩
  refine lc_gen (wk_lst (xs := ns.map V.int)) (fun i _ v => ∀ z : Int, ns[i]? = some z → v = .int z) hD (fun _ s => hs _ s) (by simpa using hn) (fun _ _ _ _ _ h => h) (fun i y H1 H2 Q1 hi s e q => ?_) (fun H1 vs s hv hl hA => ?_)
  · obtain ⟨rfl, rfl⟩ := e
    have hi' : i < ns.length := by simpa using hi
    have e : (ns.map V.int).getD i .non = .int ns[i] := by
      rw [List.getD_eq_getElem?_getD, List.getElem?_map, List.getElem?_eq_getElem hi']
      rfl
    rw [e]
    refine ⟨rfl, _, rfl, .inl ⟨_, rfl, ?_⟩⟩
    refine q _ _ (Same.refl _) fun z hz => ?_
    rw [List.getElem?_eq_getElem hi'] at hz
    cases hz
    rfl
  · refine ⟨sz_ok (by simp), fun b hb => ?_⟩
    have ev : vs = ns.map V.int := eq_map (by simpa using hl) fun i v y h1 h2 => hA i v h1 y h2
    rw [ev] at hv
    have hbH : H b = none := by
      cases e : H b with
      | none => rfl
      | some u => rw [s b u e] at hb; cases hb
    refine k b D _ (s.trans (sm_new hb)) ⟨(fun z => by rw [z, hb] at hv; cases hv), 0, 0, j, 0, j, ns, upd_same, hj, sm_new hb _ _ hv⟩ hbH
theorem sc_law_draw : FnScope ["_law_box_here", "_law_many", "_law_cell", "_law_drawn"] ["_law_box_here", "_law_many"] (defScope s_law_draw) := ⟨rfl, rfl, rfl, by decide +kernel, rfl, by decide +kernel, by decide +kernel⟩
def sp_law_draw (K : PySem.W.Frag) : Sp := fun vs H Q _ => vs.length = 2 ∧ ∃ (b c : Addr) (n : Int), vs = [.ref b, .int n] ∧ Bx b c H ∧ 0 < n ∧ n < 1073741824 ∧ ∀ (r : Int) H', Kp b H H' → Bx b c H' → 0 ≤ r → r < n → Q (.int r) H'
theorem ok_law_draw (T : Tx K mg) : Fn P w K mg base CX0 2 ("_law_draw", none) ["_law_box_here", "_law_many"] (sp_law_draw K) := by
  refine Fn.mk0 (d := d_law_draw) T 33 rfl rfl rfl sc_law_draw (fun _ _ _ _ _ _ us hl => match us, hl with | [_, _], _ => rfl) (fun vs H Q E h => h.1) (fun cdv A outer s H vs Q E hr h => ?_)
  have hu := hu_of hr
  have G_law_mix : Fn P w K mg base CX0 1 ("_law_mix", none) ["_law_cell", "_law_salt"] (sp_law_mix K) := ok_law_mix T
  refine ⟨_, (C8.pss_cut (ps_if (PW.pt (pw_and (pt_cmpR op_eq (pe_ix ix_list (pv 0) pe_int (fun _ _ => rfl)) pe_int (nomark _)) (pw_and1 (pt_cmpR op_lt (pe_ix ix_list (pv 0) pe_int (fun _ _ => rfl)) (pe_callB call_len_seq rfl (T.free 59) (by decide +kernel) (pa_cons (pe_ix ix_list (pv 0) pe_int (fun _ _ => rfl)) pa_nil)) (nomark _))))) (pss_cons (ps_set (i := 2) sc_law_draw.nd rfl (Or.inl rfl) (pe_ix ix_list (pe_ix ix_list (pv 0) pe_int (fun _ _ => rfl)) (pe_ix ix_list (pv 0) pe_int (fun _ _ => rfl)) (fun _ _ => rfl))) (pss_cons (ps_asg (pe_op op_add (pe_ix ix_list (pv 0) pe_int (fun _ _ => rfl)) pe_int) (pg_sub (pv 0) pe_int set_list)) (pss_cons (ps_asg (pe_op op_mod (pe_callTy call_int1 rfl (T.free 56) (by decide +kernel) (pa_cons (pe_op op_add (pe_op op_mul (pe_ix ix_list (pv 0) pe_int (fun _ _ => rfl)) pe_int) (pv 2)) pa_nil)) pe_int) (pg_sub (pv 0) pe_int set_list)) (pss_one (ps_if (pt_cmpR op_ge (pv 2) (pe_op op_pow pe_int pe_int) (nomark _)) (pss_cons (ps_asg (pe_op op_sub (pv 2) (pe_op op_pow pe_int pe_int)) (pg_sub (pv 0) pe_int set_list)) (pss_one (ps_asg pe_int (pg_sub (pv 0) pe_int set_list)))) pss_nil))))) pss_nil) (pss_cons (ps_if (PW.pt (pw_and (pt_cmpR op_gt (pe_ix ix_list (pv 0) pe_int (fun _ _ => rfl)) pe_int (nomark _)) (pw_and1 (pt_cmpR op_gt (pe_ix ix_list (pv 0) pe_int (fun _ _ => rfl)) pe_int (nomark _))))) (pss_cons (ps_set (i := 3) sc_law_draw.nd rfl (Or.inl rfl) (pe_op op_mod (pe_callTy call_int1 rfl (T.free 56) (by decide +kernel) (pa_cons (pe_ix ix_list (pv 0) pe_int (fun _ _ => rfl)) pa_nil)) (pv 1))) (pss_cons (ps_asg (pe_op op_fdiv (pe_ix ix_list (pv 0) pe_int (fun _ _ => rfl)) (pv 1)) (pg_sub (pv 0) pe_int set_list)) (pss_cons (ps_asg (pe_op op_sub (pe_ix ix_list (pv 0) pe_int (fun _ _ => rfl)) pe_int) (pg_sub (pv 0) pe_int set_list)) (pss_one (ps_ret (pv 3)))))) pss_nil) (pss_cons (ps_asg pe_int (pg_sub (pv 0) pe_int set_list)) (pss_cons (ps_asg (pe_op op_add (pe_ix ix_list (pv 0) pe_int (fun _ _ => rfl)) pe_int) (pg_sub (pv 0) pe_int set_list)) (pss_one (ps_ret (pe_op op_mod (pe_callTy call_int1 rfl (T.free 56) (by decide +kernel) (pa_cons (pc G_law_mix (hr.mono (by decide)) rfl (T.glo 18) pass0 (pa_cons (pe_ix ix_list (pv 0) pe_int (fun _ _ => rfl)) (pa_cons (pe_ix ix_list (pv 0) pe_int (fun _ _ => rfl)) pa_nil))) pa_nil)) (pv 1)))))))), ?_⟩
  obtain ⟨_, b, c, n, rfl, ⟨ncb, i0, i1, i2, i3, i4, cs, hb, hi2, hc⟩, n0, n1, k⟩ := h
  refine ⟨fun σ' H' => ∃ u, σ' = [some (.ref b), some (.int n), u, none] ∧ Kp b H H' ∧ Bx b c H', ?_, ?_⟩
  · have stay : ∃ u, [some (V.ref b), some (.int n), none, none] = [some (.ref b), some (.int n), u, none] ∧ Kp b H H ∧ Bx b c H := ⟨_, rfl, Kp.refl _ _, ncb, i0, i1, i2, i3, i4, cs, hb, hi2, hc⟩
    refine ⟨_, rfl, _, _, _, _, rfl, rfl, SqL.of hb, rfl, rfl, _, rfl, ?_⟩
    refine iteB (fun _ => ?_) (fun _ => iteN rfl stay)
    refine ⟨_, rfl, _, _, _, _, rfl, rfl, SqL.of hb, rfl, _, rfl, _, _, _, _, rfl, rfl, SqL.of hb, rfl, _, _, rfl, .inl (SqL.of hc), _, _, rfl, rfl, _, rfl, ?_⟩
    refine iteB (fun e => ?_) (fun _ => stay)
    have hlt : i2 < ((cs.map V.int).length : Int) := of_decide_eq_true e
    obtain ⟨v, hv, hat⟩ := atI_ex (xs := cs.map V.int) hi2 hlt
    obtain ⟨cell, _, rfl⟩ := List.mem_map.mp hv
    refine ⟨_, rfl, _, _, _, _, rfl, rfl, SqL.of hb, rfl, _, rfl, _, _, _, _, rfl, rfl, SqL.of hb, rfl, _, _, _, _, rfl, rfl, SqL.of hc, hat, ?_⟩
    refine ⟨_, rfl, _, _, _, _, rfl, rfl, SqL.of hb, rfl, _, _, rfl, rfl, _, rfl, b, _, 2, 2, rfl, rfl, hb, rfl, ?_⟩
    refine ⟨_, rfl, _, _, _, _, rfl, rfl, SqL.of upd_same, rfl, _, _, rfl, rfl, cm _ _ (by decide), _, rfl, _, _, rfl, rfl, .inl ⟨_, rfl, _, _, rfl, rfl, md1, _, rfl, b, _, 4, 4, rfl, rfl, upd_same, rfl, ?_⟩⟩
    refine ⟨_, rfl, _, _, rfl, rfl, ⟨by decide, by decide, by decide⟩, _, _, rfl, rfl, _, rfl, ?_⟩
    refine iteB (fun _ => ?_) (fun _ => ?_)
    · refine ⟨_, rfl, _, _, rfl, rfl, ⟨by decide, by decide, by decide⟩, _, _, rfl, rfl, _, rfl, b, _, 0, 0, rfl, rfl, upd_same, rfl, ?_⟩
      refine ⟨_, rfl, b, _, 1, 1, rfl, rfl, upd_same, rfl, _, rfl, ((Kp.self.selfT).selfT).selfT, ncb, _, _, i2 + 2, _, _, cs, upd_same, by omega, ?_⟩
      rw [upd_ne ncb, upd_ne ncb, upd_ne ncb, upd_ne ncb]
      exact hc
    · refine ⟨_, rfl, Kp.self.selfT, ncb, _, _, i2 + 2, _, _, cs, upd_same, by omega, ?_⟩
      rw [upd_ne ncb, upd_ne ncb]
      exact hc
  · rintro σ H1 ⟨u, rfl, kp, _, j0, j1, j2, j3, j4, ds, hb1, hj2, hc1⟩
    have last : ∀ x : Int, 0 ≤ x % n ∧ x % n < n := fun x => ⟨Int.emod_nonneg x (by omega), Int.emod_lt_of_pos x n0⟩

    refine ⟨_, rfl, _, _, _, _, rfl, rfl, SqL.of hb1, rfl, _, _, rfl, rfl, _, rfl, ?_⟩
    refine iteB (fun e1 => ?_) (fun _ => iteN rfl ?_)
    · refine ⟨_, rfl, _, _, _, _, rfl, rfl, SqL.of hb1, rfl, _, _, rfl, rfl, _, rfl, ?_⟩
      refine iteB (fun e0 => ?_) (fun _ => ?_)
      · refine ⟨_, rfl, _, _, _, _, rfl, rfl, SqL.of hb1, rfl, .inl ⟨_, rfl, _, rfl, _, _, rfl, rfl, n0, ?_⟩⟩
        refine ⟨_, rfl, _, _, _, _, rfl, rfl, SqL.of hb1, rfl, _, rfl, _, _, rfl, rfl, ⟨n0, n1⟩, _, rfl, b, _, 0, 0, rfl, rfl, hb1, rfl, ?_⟩
        refine ⟨_, rfl, _, _, _, _, rfl, rfl, SqL.of upd_same, rfl, _, _, rfl, rfl, _, rfl, b, _, 1, 1, rfl, rfl, upd_same, rfl, ?_⟩
        refine ⟨_, rfl, k _ _ ((kp.selfT).selfT) ⟨ncb, _, _, j2, _, _, ds, upd_same, hj2, ?_⟩ (last j0).1 (last j0).2⟩
        rw [upd_ne ncb, upd_ne ncb]
        exact hc1
      ·
        refine ⟨_, rfl, b, _, 1, 1, rfl, rfl, hb1, rfl, ?_⟩
        refine ⟨_, rfl, _, _, _, _, rfl, rfl, SqL.of upd_same, rfl, _, _, rfl, rfl, _, rfl, b, _, 3, 3, rfl, rfl, upd_same, rfl, ?_⟩
        refine ⟨_, rfl, _, _, _, _, rfl, rfl, SqL.of upd_same, rfl, _, rfl, _, _, _, _, rfl, rfl, SqL.of upd_same, rfl, rfl, _, _, rfl, fun r => .inl ⟨_, rfl, _, rfl, _, _, rfl, rfl, n0, ?_⟩⟩
        refine k _ _ ((kp.selfT).selfT) ⟨ncb, _, _, j2, _, _, ds, upd_same, hj2, ?_⟩ (last r).1 (last r).2
        rw [upd_ne ncb, upd_ne ncb]
        exact hc1
    ·
      refine ⟨_, rfl, b, _, 1, 1, rfl, rfl, hb1, rfl, ?_⟩
      refine ⟨_, rfl, _, _, _, _, rfl, rfl, SqL.of upd_same, rfl, _, _, rfl, rfl, _, rfl, b, _, 3, 3, rfl, rfl, upd_same, rfl, ?_⟩
      refine ⟨_, rfl, _, _, _, _, rfl, rfl, SqL.of upd_same, rfl, _, rfl, _, _, _, _, rfl, rfl, SqL.of upd_same, rfl, rfl, _, _, rfl, fun r => .inl ⟨_, rfl, _, rfl, _, _, rfl, rfl, n0, ?_⟩⟩
      refine k _ _ ((kp.selfT).selfT) ⟨ncb, _, _, j2, _, _, ds, upd_same, hj2, ?_⟩ (last r).1 (last r).2
      rw [upd_ne ncb, upd_ne ncb]
      exact hc1
end
/-! ### compared -/
def Al : Nat → PyData → Prop
  | 0, _ => False
  | d + 1, .tuple ds => ds.length ≤ 1000000 ∧ ∀ x ∈ ds, Al d x
  | _ + 1, .none => True
  | _ + 1, .bool _ => True
  | _ + 1, .int _ => True
  | _ + 1, .str _ => True
  | _ + 1, .list _ => False
  | _ + 1, .dict _ => False
theorem kb_nt : kitB "NoneType" "tuple" = some false := by decide +kernel
theorem kb_nl : kitB "NoneType" "list" = some false := by decide +kernel
theorem kb_bt : kitB "bool" "tuple" = some false := by decide +kernel
theorem kb_bl : kitB "bool" "list" = some false := by decide +kernel
theorem kb_it : kitB "int" "tuple" = some false := by decide +kernel
theorem kb_il : kitB "int" "list" = some false := by decide +kernel
theorem kb_st : kitB "str" "tuple" = some false := by decide +kernel
theorem kb_sl : kitB "str" "list" = some false := by decide +kernel
theorem kb_tl : kitB "tuple" "list" = some false := by decide +kernel
theorem kb_sb : kitB "str" "bool" = some false := by decide +kernel
theorem kb_is : kitB "int" "str" = some false := by decide +kernel
theorem any_no {K : PySem.W.Frag} {a : String} (h1 : kitB a "tuple" = some false) (h2 : kitB a "list" = some false) : PySem.W.kitAny K (.type a) [.type "tuple", .type "list"] = some false :=
  kitAny_cons (kit_ty h1) (fun _ => kitAny_cons (kit_ty h2) (fun _ => kitAny_nil) (fun z => by cases z)) (fun z => by cases z)
theorem any_tup {K : PySem.W.Frag} : PySem.W.kitAny K (.type "tuple") [.type "tuple", .type "list"] = some true :=
  kitAny_cons (kit_ty kb_tt) (fun z => by cases z) (fun _ => rfl)
theorem two_cls : Paired ClsV [.ty "tuple", .ty "list"] [.type "tuple", .type "list"] := .cons (.ty _) (.cons (.ty _) .nil)
end Kn

set_option maxHeartbeats 4000000
/-! The law's helpers: the comparison, signs. -/
namespace Kn
open PySem PySem.Spec PyProof.Rows L2 KnR
section
variable {P : Program} {w : World} {K : PySem.W.Frag} {mg : Str → Option Value} {base : Heap}
theorem sc_law_alike : FnScope ["_law_told", "_law_due", "_law_k"] ["_law_told", "_law_due"] (defScope s_law_alike) := ⟨rfl, rfl, rfl, by decide +kernel, rfl, by decide +kernel, by decide +kernel⟩
def sp_al (K : PySem.W.Frag) (d : Nat) : Sp := fun vs H Q _ => vs.length = 2 ∧ ∃ x y D, vs = [x, y] ∧ Dt H x D ∧ Dt H y D ∧ Al d D ∧ ∀ H', Same H H' → Q (.bl true) H'
theorem al_all (T : Tx K mg) : ∀ d : Nat, Fn P w K mg base CX0 (d + 1) ("_law_alike", none) ["_law_told", "_law_due"] (sp_al K d) := by
  intro d
  induction d with
  | zero =>
    refine Fn.mk0 (d := d_law_alike) T 34 rfl rfl rfl sc_law_alike (fun _ _ _ _ _ _ us hl => match us, hl with | [_, _], _ => rfl) (fun vs H Q E h => h.1) (fun cdv A outer s H vs Q E hr h => ?_)
    obtain ⟨_, x, y, D, rfl, h1, h2, h3, k⟩ := h
    exact h3.elim
  | succ d ih =>
    refine Fn.mk0 (d := d_law_alike) T 34 rfl rfl rfl sc_law_alike (fun _ _ _ _ _ _ us hl => match us, hl with | [_, _], _ => rfl) (fun vs H Q E h => h.1) (fun cdv A outer s H vs Q E hr h => ?_)
    have hu := hu_of hr
    have G_law_alike := ih
    refine ⟨_, (pss_cons (ps_if (pt_val (pe_callB call_isiT rfl (T.free 55) (by decide +kernel) (pa_cons (pv 1) (pa_cons (pe_tup (pa_cons (pe_bt (T := "tuple") rfl (T.free 62) (by decide +kernel)) (pa_cons (pe_bt (T := "list") rfl (T.free 67) (by decide +kernel)) pa_nil))) pa_nil)))) (pss_cons (ps_if (PW.pt (pw_or (pt_cmpR op_ne (pe_callB call_isi rfl (T.free 55) (by decide +kernel) (pa_cons (pv 0) (pa_cons (pe_bt (T := "tuple") rfl (T.free 62) (by decide +kernel)) pa_nil))) (pe_callB call_isi rfl (T.free 55) (by decide +kernel) (pa_cons (pv 1) (pa_cons (pe_bt (T := "tuple") rfl (T.free 62) (by decide +kernel)) pa_nil))) (nomark _)) (pw_or1 (pt_cmpR op_ne (pe_callB call_isi rfl (T.free 55) (by decide +kernel) (pa_cons (pv 0) (pa_cons (pe_bt (T := "list") rfl (T.free 67) (by decide +kernel)) pa_nil))) (pe_callB call_isi rfl (T.free 55) (by decide +kernel) (pa_cons (pv 1) (pa_cons (pe_bt (T := "list") rfl (T.free 67) (by decide +kernel)) pa_nil))) (nomark _))))) (pss_one (ps_ret pe_bl)) pss_nil) (pss_cons (ps_if (pt_cmpR op_ne (pe_callB call_len_seq rfl (T.free 59) (by decide +kernel) (pa_cons (pv 0) pa_nil)) (pe_callB call_len_seq rfl (T.free 59) (by decide +kernel) (pa_cons (pv 1) pa_nil)) (nomark _)) (pss_one (ps_ret pe_bl)) pss_nil) (pss_cons (ps_for PassesOwn.never rfl (pi_range1 rfl (T.free 66) (pa_cons (pe_callB call_len_seq rfl (T.free 59) (by decide +kernel) (pa_cons (pv 1) pa_nil)) pa_nil)) (pg_name (i := 2) sc_law_alike.nd rfl (Or.inl rfl)) (pss_one (ps_if (pt_not (pt_val (pc G_law_alike hr rfl (T.glo 21) pass0 (pa_cons (pe_ix ix_tup (pv 0) (pv 2) (fun _ _ => rfl)) (pa_cons (pe_ix ix_tup (pv 1) (pv 2) (fun _ _ => rfl)) pa_nil))))) (pss_one (ps_ret pe_bl)) pss_nil))) (pss_one (ps_ret pe_bl))))) pss_nil) (pss_cons (ps_if (pt_cmpR op_isN (pv 1) pe_non (nomark _)) (pss_one (ps_ret (pe_cmpR op_isN (pv 0) pe_non (nomark _)))) pss_nil) (pss_cons (ps_if (pt_val (pe_callB call_isi rfl (T.free 55) (by decide +kernel) (pa_cons (pv 1) (pa_cons (pe_bt (T := "bool") rfl (T.free 57) (by decide +kernel)) pa_nil)))) (pss_one (ps_ret (pe_and (pe_callB call_isi rfl (T.free 55) (by decide +kernel) (pa_cons (pv 0) (pa_cons (pe_bt (T := "bool") rfl (T.free 57) (by decide +kernel)) pa_nil))) (pe_one (pe_cmpR op_eq (pv 0) (pv 1) (nomark _)))))) pss_nil) (pss_cons (ps_if (pt_val (pe_callB call_isi rfl (T.free 55) (by decide +kernel) (pa_cons (pv 1) (pa_cons (pe_bt (T := "str") rfl (T.free 58) (by decide +kernel)) pa_nil)))) (pss_one (ps_ret (pe_and (pe_callB call_isi rfl (T.free 55) (by decide +kernel) (pa_cons (pv 0) (pa_cons (pe_bt (T := "str") rfl (T.free 58) (by decide +kernel)) pa_nil))) (pe_one (pe_cmpR op_eq (pv 0) (pv 1) (nomark _)))))) pss_nil) (pss_one (ps_ret (pe_and (pe_callB call_isi rfl (T.free 55) (by decide +kernel) (pa_cons (pv 0) (pa_cons (pe_bt (T := "int") rfl (T.free 56) (by decide +kernel)) pa_nil))) (pe_and (pe_not (pe_callB call_isi rfl (T.free 55) (by decide +kernel) (pa_cons (pv 0) (pa_cons (pe_bt (T := "bool") rfl (T.free 57) (by decide +kernel)) pa_nil)))) (pe_one (pe_cmpR op_eq (pv 0) (pv 1) (nomark _))))))))))), ?_⟩
    obtain ⟨_, x, y, D, rfl, h1, h2, h3, k⟩ := h
    cases D with
    | none =>
      obtain rfl := h1.non_inv
      obtain rfl := h2.non_inv
      refine ⟨_, rfl, sz_ok (by simp), fun tp htp => ⟨_, tp, _, _, _, _, rfl, upd_same, two_cls, (.base .non), any_no kb_nt kb_nl, _, rfl, iteN rfl ?_⟩⟩
      refine ⟨_, rfl, rfl, _, rfl, iteY rfl ⟨_, rfl, rfl, k _ (sm_new htp)⟩⟩
    | bool b =>
      obtain rfl := h1.bl_inv
      obtain rfl := h2.bl_inv
      refine ⟨_, rfl, sz_ok (by simp), fun tp htp => ⟨_, tp, _, _, _, _, rfl, upd_same, two_cls, (.base (.bl _)), any_no kb_bt kb_bl, _, rfl, iteN rfl ?_⟩⟩
      refine ⟨_, rfl, rfl, _, rfl, iteN rfl ?_⟩
      refine ⟨_, rfl, _, _, _, _, _, rfl, .ty _, .base (.bl _), kit_ty kb_bb, _, rfl, iteY rfl ?_⟩
      refine ⟨_, rfl, _, _, _, _, _, rfl, .ty _, .base (.bl _), kit_ty kb_bb, _, rfl, iteY rfl ?_⟩
      refine ⟨_, rfl, _, rfl, rfl, ?_⟩
      rw [decide_eq_true rfl]
      exact k _ (sm_new htp)
    | int i =>
      obtain rfl := h1.int_inv
      obtain rfl := h2.int_inv
      refine ⟨_, rfl, sz_ok (by simp), fun tp htp => ⟨_, tp, _, _, _, _, rfl, upd_same, two_cls, (.base (.int _)), any_no kb_it kb_il, _, rfl, iteN rfl ?_⟩⟩
      refine ⟨_, rfl, rfl, _, rfl, iteN rfl ?_⟩
      refine ⟨_, rfl, _, _, _, _, _, rfl, .ty _, .base (.int _), kit_ty kb_ib, _, rfl, iteN rfl ?_⟩
      refine ⟨_, rfl, _, _, _, _, _, rfl, .ty _, .base (.int _), kit_ty kb_is, _, rfl, iteN rfl ?_⟩
      refine ⟨_, rfl, _, _, _, _, _, rfl, .ty _, .base (.int _), kit_ty kb_ii, _, rfl, iteY rfl ?_⟩
      refine ⟨_, rfl, _, _, _, _, _, rfl, .ty _, .base (.int _), kit_ty kb_ib, _, rfl, _, rfl, iteY rfl ?_⟩
      refine ⟨_, rfl, _, rfl, rfl, ?_⟩
      rw [decide_eq_true rfl]
      exact k _ (sm_new htp)
    | str z =>
      obtain rfl := h1.str_inv
      obtain rfl := h2.str_inv
      refine ⟨_, rfl, sz_ok (by simp), fun tp htp => ⟨_, tp, _, _, _, _, rfl, upd_same, two_cls, (.base (.str _)), any_no kb_st kb_sl, _, rfl, iteN rfl ?_⟩⟩
      refine ⟨_, rfl, rfl, _, rfl, iteN rfl ?_⟩
      refine ⟨_, rfl, _, _, _, _, _, rfl, .ty _, .base (.str _), kit_ty kb_sb, _, rfl, iteN rfl ?_⟩
      refine ⟨_, rfl, _, _, _, _, _, rfl, .ty _, .base (.str _), kit_ty kb_ss, _, rfl, iteY rfl ?_⟩
      refine ⟨_, rfl, _, _, _, _, _, rfl, .ty _, .base (.str _), kit_ty kb_ss, _, rfl, iteY rfl ?_⟩
      refine ⟨_, rfl, _, rfl, rfl, ?_⟩
      rw [decide_eq_true rfl]
      exact k _ (sm_new htp)
    | list ds => exact h3.elim
    | dict ds => exact h3.elim
    | tuple ds =>
      obtain ⟨hl, hA⟩ := h3
      obtain ⟨a, xs, rfl, ha, da⟩ := h1.tup_inv
      obtain ⟨b, ys, rfl, hb, db⟩ := h2.tup_inv
      refine ⟨_, rfl, sz_ok (by simp), fun tp htp => ⟨_, tp, _, _, _, _, rfl, upd_same, two_cls, .base (.tup (sm_new htp _ _ hb)), any_tup, _, rfl, iteY rfl ?_⟩⟩
      have s1 := sm_new (o := .tup [.ty "tuple", .ty "list"]) htp
      have ha1 := s1 _ _ ha
      have hb1 := s1 _ _ hb
      refine ⟨_, rfl, _, _, _, _, _, rfl, .ty _, .base (.tup ha1), kit_ty kb_tt, _, rfl, _, _, _, _, _, rfl, .ty _, .base (.tup hb1), kit_ty kb_tt, rfl, _, rfl, iteN rfl ?_⟩
      refine ⟨_, rfl, _, _, _, _, _, rfl, .ty _, .base (.tup ha1), kit_ty kb_tl, _, rfl, _, _, _, _, _, rfl, .ty _, .base (.tup hb1), kit_ty kb_tl, rfl, _, rfl, iteN rfl ?_⟩
      refine ⟨_, rfl, _, _, rfl, .inr (SqT.of ha1), _, rfl, _, _, rfl, .inr (SqT.of hb1), rfl, _, rfl, iteN ?_ ?_⟩
      · rw [da.len, db.len, decide_eq_true rfl]
        rfl
      · refine ⟨_, rfl, _, _, rfl, .inr (SqT.of hb1), _, rfl, by omega, by rw [db.len]; omega, ?_⟩
        rw [db.len, Int.toNat_natCast]
        refine for_it (wk_rng ds.length) (fun i σ H1 => ∃ u : Option V, σ = [some (.ref a), some (.ref b), u] ∧ Same H H1) ⟨none, rfl, s1⟩ (fun _ _ _ _ _ => trivial) ?_ ?_
        · rintro i z σ H1 H2 hi ⟨u, rfl, s⟩ ⟨rfl, rfl⟩
          have hd := List.getElem?_eq_getElem hi
          obtain ⟨x, hx, dx⟩ := da.at_ hd
          obtain ⟨y, hy, dy⟩ := db.at_ hd
          rw [Int.zero_add]
          refine ⟨_, rfl, _, rfl, _, _, _, _, rfl, rfl, SqT.of (s _ _ ha), atI_nat hx, _, rfl, _, rfl, _, _, _, _, rfl, rfl, SqT.of (s _ _ hb), atI_nat hy, rfl, x, y, ds[i], rfl, Dt.mono (sm_kt s) _ _ dx, Dt.mono (sm_kt s) _ _ dy, hA _ (List.getElem_mem hi), fun H3 s3 => ?_⟩
          exact ⟨_, rfl, iteN rfl ⟨_, rfl, s.trans s3⟩⟩
        · rintro σ H1 ⟨u, rfl, s⟩
          exact k _ s
def sp_law_alike (K : PySem.W.Frag) : Sp := sp_al K 11
theorem ok_law_alike (T : Tx K mg) : Fn P w K mg base CX0 12 ("_law_alike", none) ["_law_told", "_law_due"] (sp_law_alike K) := al_all T 11
end
/-! ### signs -/
def sg1 : Ws := List.range' 32 5 ++ List.range' 38 59
def sg2 : Ws := List.range' 97 30
def sgs : Ws := sg1 ++ sg2
theorem sg1_is : (" !\"#$&'()*+,-./0123456789:;<=>?@ABCDEFGHIJKLMNOPQRSTUVWXYZ[\\]^_`" : Str) = mkS sg1 := by decide +kernel
theorem sg2_is : ("abcdefghijklmnopqrstuvwxyz{|}~" : Str) = mkS sg2 := by decide +kernel
theorem sgs_len : sgs.length = 94 := by decide +kernel
theorem mem_sgs (c : Nat) : decide (c ∈ sgs) = isSgn c := by
  rw [Bool.eq_iff_iff, decide_eq_true_eq]
  unfold sgs sg1 sg2 isSgn
  simp only [List.mem_append, List.mem_range'_1, Bool.and_eq_true, decide_eq_true_eq, Bool.not_eq_true', decide_eq_false_iff_not]
  omega
section
variable {P : Program} {w : World} {K : PySem.W.Frag} {mg : Str → Option Value} {base : Heap}
theorem sc_law_signs : FnScope ["_law_signs_here"] [] (defScope s_law_signs) := ⟨rfl, rfl, rfl, by decide +kernel, rfl, by decide +kernel, by decide +kernel⟩
def sp_law_signs (K : PySem.W.Frag) : Sp := fun vs H Q _ => vs.length = 0 ∧ vs = [] ∧ Q (vS sgs) H
theorem ok_law_signs (T : Tx K mg) : Fn P w K mg base CX0 1 ("_law_signs", none) [] (sp_law_signs K) := by
  refine Fn.mk0 (d := d_law_signs) T 36 rfl rfl rfl sc_law_signs (fun _ _ _ _ _ _ us hl => match us, hl with | [], _ => rfl) (fun vs H Q E h => h.1) (fun cdv A outer s H vs Q E hr h => ?_)
  have hu := hu_of hr
  refine ⟨_, (pss_cons (ps_set (i := 0) sc_law_signs.nd rfl (Or.inl rfl) pe_str) (pss_one (ps_ret (pe_op op_add_str (pv 0) pe_str)))), ?_⟩
  obtain ⟨_, rfl, k⟩ := h
  refine ⟨_, rfl, mkS sg1, mkS sg2, cS sg1_is, cS sg2_is, addOk (by decide), ?_⟩
  rw [mkS_app]
  exact k
end
end Kn

set_option maxHeartbeats 4000000
/-! Texts stripped of blanks; comprehensions over a range with the box. -/
namespace Kn
open PySem PySem.Spec PyProof.Rows L2 KnR
def st (l : Ws) : Ws := ((l.dropWhile (· == 32)).reverse.dropWhile (· == 32)).reverse
theorem st_take (p : Nat → Bool) (r : Ws) : r.take (r.length - (r.reverse.takeWhile p).length) = (r.reverse.dropWhile p).reverse := by
  have e : r = (r.reverse.dropWhile p).reverse ++ (r.reverse.takeWhile p).reverse := by
    rw [← List.reverse_append, List.takeWhile_append_dropWhile, List.reverse_reverse]
  have h : r.length - (r.reverse.takeWhile p).length = (r.reverse.dropWhile p).reverse.length := by
    have := congrArg List.length e
    rw [List.length_append, List.length_reverse (as := r.reverse.takeWhile p)] at this
    omega
  rw [h]
  conv => lhs; rw [e]
  rw [List.take_append_of_le_length (by simp), List.take_of_length_le (by simp)]
theorem drop_tw (p : Nat → Bool) (l : Ws) : l.drop (l.takeWhile p).length = l.dropWhile p := by
  conv => lhs; rw [← List.takeWhile_append_dropWhile (p := p) (l := l)]
  rw [List.drop_append_of_le_length (by simp), List.drop_of_length_le (by simp)]
  rfl
theorem blank_has : (((" " : Str).cps.contains : Nat → Bool)) = (· == 32) := by
  rw [str_blank]
  funext c
  show (#[32] : Array Nat).contains c = (c == 32)
  simp
  by_cases h : c = 32 <;> simp [h]
theorem strip_is (l : Ws) : Txt.stripChars (mkS l) (" " : Str) = mkS (st l) := by
  refine TL.ext_tl ?_
  unfold Txt.stripChars
  rw [stripBy_eq, TL.tl_strSub, tl_mkS, tl_mkS, blank_has]
  unfold stripLo stripHi
  rw [if_pos rfl, if_pos rfl, cps_mkS, drop_tw, mkS_len]
  unfold st
  rw [← st_take (· == 32) (l.dropWhile (· == 32))]
  congr 1
  have h1 := congrArg List.length (drop_tw (· == 32) l)
  rw [List.length_drop] at h1
  omega
theorem st_mem {l : Ws} {c : Nat} (h : c ∈ st l) : c ∈ l := by
  unfold st at h
  rw [List.mem_reverse] at h
  have h := (List.dropWhile_sublist _).subset h
  rw [List.mem_reverse] at h
  exact (List.dropWhile_sublist _).subset h
theorem st_len (l : Ws) : (st l).length ≤ l.length := by
  unfold st
  rw [List.length_reverse]
  have h1 := (List.dropWhile_sublist (l := (l.dropWhile (· == 32)).reverse) (· == 32)).length_le
  have h2 := (List.dropWhile_sublist (l := l) (· == 32)).length_le
  rw [List.length_reverse] at h1
  omega
theorem dw_head (l : Ws) : (l.dropWhile (· == 32)).head? ≠ some 32 := by
  induction l with
  | nil => simp
  | cons c r ih =>
    by_cases h : c = 32
    · subst h
      exact ih
    · have : ((c == 32) = false) := by simpa using h
      rw [List.dropWhile_cons_of_neg (by simp [this])]
      simpa using h
theorem st_last (l : Ws) : (st l).getLast? ≠ some 32 := by
  unfold st
  rw [List.getLast?_reverse]
  exact dw_head _
theorem st_head (l : Ws) : (st l).head? ≠ some 32 := by
  unfold st
  rw [← st_take (· == 32) (l.dropWhile (· == 32)), List.head?_take]
  split
  · simp
  · exact dw_head _
/-! ### what a comprehension has made -/
theorem collect {α : Type} {f : α → V} {P : α → Prop} : ∀ (vs : List V), (∀ (i : Nat) (v : V), vs[i]? = some v → ∃ a, P a ∧ v = f a) → ∃ l : List α, l.length = vs.length ∧ (∀ a ∈ l, P a) ∧ vs = l.map f
  | [], _ => ⟨[], rfl, by simp, rfl⟩
  | v :: vs, h => by
    obtain ⟨a, ha, e⟩ := h 0 v rfl
    obtain ⟨l, h1, h2, h3⟩ := collect vs fun i u hu => h (i + 1) u (by simpa using hu)
    exact ⟨a :: l, by simp [h1], (fun b hb => (List.mem_cons.mp hb).elim (fun z => z ▸ ha) (h2 b)), by rw [e, h3]; rfl⟩
theorem collectD {α : Type} {f : α → PyData} {P : α → Prop} {H : Hp} : ∀ (vs : List V), (∀ (i : Nat) (v : V), vs[i]? = some v → ∃ a, P a ∧ Dt H v (f a)) → ∃ l : List α, l.length = vs.length ∧ (∀ a ∈ l, P a) ∧ DtAll H vs (l.map f)
  | [], _ => ⟨[], rfl, by simp, .nil⟩
  | v :: vs, h => by
    obtain ⟨a, ha, e⟩ := h 0 v rfl
    obtain ⟨l, h1, h2, h3⟩ := collectD vs fun i u hu => h (i + 1) u (by simpa using hu)
    exact ⟨a :: l, by simp [h1], (fun b hb => (List.mem_cons.mp hb).elim (fun z => z ▸ ha) (h2 b)), .cons e h3⟩
section
variable {J : It} {n : Nat} {Y : Nat → Hp → V → Hp → Prop} {g : TG} {vs : List Nat} {te : TE} {σ : L2.St} {H1 : Hp} {D : Addr} {Qd : Hp → Prop} {G : Hp → Prop}
theorem lc_bx {b c : Addr} (w : Walk J n G Y) (R : Hp → V → Prop) (hD : H1 D = none) (hb : Bx b c H1) (hG : ∀ H, Kp b H1 H → G H) (hn : n ≤ 1000000)
    (hR : ∀ H H' v, KT H H' → R H v → R H' v)
    (hs : ∀ i x H H' (Q : VK), i < n → Kp b H1 H → Bx b c H → Y i H x H' → (∀ v H2, Kp b H H2 → Bx b c H2 → R H2 v → Q v H2) → g x (wipe σ vs) H' fun σ2 H2 => wipe σ2 vs = wipe σ vs ∧ te σ2 H2 Q)
    (hd : ∀ (H : Hp) (vs : List V), Kp b H1 H → Bx b c H → H D = some (.lst vs) → vs.length = n → (∀ (i : Nat) (v : V), vs[i]? = some v → R H v) → Qd H) :
    ∃ W : Nat → Nat → Hp → Prop, (∃ m, W 0 m (upd H1 D (.lst []))) ∧ ∀ i m H, W i m H →
      (J.stop i H ∧ Qd H) ∨ (J.go i H ∧ ∃ Nx : Hp → Prop, (∀ H', Nx H' → ∃ m', m' < m ∧ W (i + 1) m' H') ∧ ∀ x H', J.yld i H x H' → g x (wipe σ vs) H' fun σ2 H2 => wipe σ2 vs = wipe σ vs ∧ tYes σ2 H2 fun b H3 =>
        if b = true then te σ2 H3 fun y H4 => ∃ acc, H4 D = some (.lst acc) ∧ acc.length < sizeLine ∧ Nx (upd H4 D (.lst (acc ++ [y]))) else Nx H3) := by
  have nD := hb.ne hD
  refine lc_it w (fun i H => (Kp b H1 H ∧ Bx b c H) ∧ ∃ vs : List V, H D = some (.lst vs) ∧ vs.length = i ∧ ∀ (k : Nat) (v : V), vs[k]? = some v → R H v) ?_ (fun i H _ p => hG H p.1.1) ?_ ?_
  · exact ⟨⟨Kp.new hD, hb.new hD⟩, [], upd_same, rfl, fun k v e => by simp at e⟩
  · rintro i x H H' hi ⟨⟨s, hB⟩, ws, hv, hl, hr⟩ y
    refine hs i x H H' _ hi s hB y fun v H4 s4 hB4 r4 => ?_
    have hv4 := s4 _ _ nD.1 hv
    have ntD : NT H4 D := NT.lst hv4
    refine ⟨ws, hv4, sz_lt (by omega), ⟨Kp.mut (s.trans s4) hD, hB4.at_ nD.1 nD.2⟩, ws ++ [v], upd_same, by simp [hl], fun k u e => ?_⟩
    have k4 : KT H H4 := s4.kt hB.nt.1
    by_cases hk : k < ws.length
    · rw [List.getElem?_append_left hk] at e
      exact hR _ _ u (k4.trans (KT.up ntD)) (hr k u e)
    · have hk' : k = ws.length := by
        have := (List.getElem?_eq_some_iff.mp e).1
        simp at this
        omega
      subst hk'
      rw [List.getElem?_concat_length] at e
      cases e
      exact hR _ _ _ (KT.up ntD) r4
  · rintro H ⟨⟨s, hB⟩, ws, hv, hl, hr⟩
    exact hd H ws s hB hv hl hr
end
end Kn

set_option maxHeartbeats 4000000
/-! The law's helpers: words, lines, arguments drawn. -/
namespace Kn
open PySem PySem.Spec PyProof.Rows L2 KnR
theorem atN {l : Ws} {i : Int} (h0 : 0 ≤ i) (h1 : i < l.length) : ∃ c, c ∈ l ∧ atI (mkS l).cps.toList i = some c := atI_ex (xs := l) h0 h1
theorem rngOk {j : Int} (h0 : 0 ≤ j) (h1 : j ≤ 1000) : -(2 ^ 62) ≤ j ∧ j < 2 ^ 62 := by omega
theorem flat_ones (l : Ws) : (l.map fun c => [c]).flatten = l := by
  induction l with
  | nil => rfl
  | cons c l ih => rw [List.map_cons, List.flatten_cons, ih]; rfl
def wds : List Ws := [[97], [98], [99], [97, 98], [109, 97, 105, 110], [115, 97, 121], [120], [97, 98, 99, 100, 101, 102, 103, 104]]
theorem wds_is : ([.str "a", .str "b", .str "c", .str "ab", .str "main", .str "say", .str "x", .str "abcdefgh"] : List V) = wds.map vS := by decide +kernel
def wOkB (l : Ws) : Bool := !l.isEmpty && (decide (l.length ≤ 8) && l.all isLet)
theorem wOkB_ok {l : Ws} (h : wOkB l = true) : wOk l := by
  unfold wOkB at h
  simp only [Bool.and_eq_true, Bool.not_eq_true', List.isEmpty_eq_false_iff, decide_eq_true_eq, List.all_eq_true] at h
  exact ⟨h.1, h.2.1, h.2.2⟩
theorem wds_ok : ∀ l ∈ wds, wOk l := by
  have : wds.all wOkB = true := by decide +kernel
  exact fun l hl => wOkB_ok (List.all_eq_true.mp this l hl)
def ln1 : Ws := [97, 98, 32, 123, 120, 125, 97]
def ln2 : Ws := [64, 46, 124, 62, 61, 42, 40, 44, 41, 32, 97]
theorem ln1_is : ("ab {x}a" : Str) = mkS ln1 := by decide +kernel
theorem ln2_is : ("@.|>=*(,) a" : Str) = mkS ln2 := by decide +kernel
theorem lns_is : ([.str "ab {x}a", .str "@.|>=*(,) a", vS sgs] : List V) = [ln1, ln2, sgs].map vS := by rw [ln1_is, ln2_is]; rfl
theorem lns_ok : ∀ l ∈ [ln1, ln2, sgs], sOk l ∧ 0 < l.length ∧ l.length ≤ 94 := by
  have : [ln1, ln2, sgs].all (fun l => l.all isSgn && (decide (0 < l.length) && decide (l.length ≤ 94))) = true := by decide +kernel
  intro l hl
  have h := List.all_eq_true.mp this l hl
  simp only [Bool.and_eq_true, decide_eq_true_eq, List.all_eq_true] at h
  exact ⟨h.1, h.2.1, h.2.2⟩
def ags : List Ws := [[97], [98], [123, 120, 125], [123, 97, 125], [32], [64], [124], [62], [61], [126], [34], [48]]
theorem ags_is : ([.str "a", .str "b", .str "{x}", .str "{a}", .str " ", .str "@", .str "|", .str ">", .str "=", .str "~", .str "\"", .str "0"] : List V) = ags.map vS := by decide +kernel
theorem ags_ok : ∀ l ∈ ags, (∀ c ∈ l, isArg c = true) ∧ l.length ≤ 3 := by
  have : ags.all (fun l => l.all isArg && decide (l.length ≤ 3)) = true := by decide +kernel
  intro l hl
  have h := List.all_eq_true.mp this l hl
  simp only [Bool.and_eq_true, decide_eq_true_eq, List.all_eq_true] at h
  exact ⟨h.1, h.2⟩
def ag3 : List Ws := [[97], [123, 120, 125], [98]]
theorem ag3_is : ([.str "a", .str "{x}", .str "b"] : List V) = ag3.map vS := by decide +kernel
theorem ag3_ok : ∀ l ∈ ag3, aOk l ∧ l.length ≤ 20 := by
  have : ag3.all (fun l => !l.isEmpty && (l.all isArg && (l.head? != some 32 && (l.getLast? != some 32 && decide (l.length ≤ 20))))) = true := by decide +kernel
  intro l hl
  have h := List.all_eq_true.mp this l hl
  simp only [Bool.and_eq_true, Bool.not_eq_true', List.isEmpty_eq_false_iff, decide_eq_true_eq, List.all_eq_true, bne_iff_ne, ne_eq] at h
  exact ⟨⟨h.1, h.2.1, h.2.2.1, h.2.2.2.1⟩, h.2.2.2.2⟩
/-- one of a list of texts -/
theorem pick {ws : List Ws} {i : Int} (h0 : 0 ≤ i) (h1 : i < (ws.length : Int)) : ∃ l, l ∈ ws ∧ atI (ws.map vS) i = some (vS l) := by
  obtain ⟨v, hv, e⟩ := atI_ex (xs := ws.map vS) h0 (by rw [List.length_map]; exact h1)
  obtain ⟨l, hl, rfl⟩ := List.mem_map.mp hv
  exact ⟨l, hl, e⟩
section
variable {P : Program} {w : World} {K : PySem.W.Frag} {mg : Str → Option Value} {base : Heap}
theorem sc_law_word : FnScope ["_law_box_here", "_law_k"] ["_law_box_here"] (defScope s_law_word) := ⟨rfl, rfl, rfl, by decide +kernel, rfl, by decide +kernel, by decide +kernel⟩
def sp_law_word (K : PySem.W.Frag) : Sp := fun vs H Q _ => vs.length = 1 ∧ ∃ b c, vs = [.ref b] ∧ Bx b c H ∧ ∀ l H', Kp b H H' → Bx b c H' → wOk l → Q (vS l) H'
theorem ok_law_word (T : Tx K mg) : Fn P w K mg base CX0 3 ("_law_word", none) ["_law_box_here"] (sp_law_word K) := by
  refine Fn.mk0 (d := d_law_word) T 35 rfl rfl rfl sc_law_word (fun _ _ _ _ _ _ us hl => match us, hl with | [_], _ => rfl) (fun vs H Q E h => h.1) (fun cdv A outer s H vs Q E hr h => ?_)
  have hu := hu_of hr
  have G_law_draw : Fn P w K mg base CX0 2 ("_law_draw", none) ["_law_box_here", "_law_many"] (sp_law_draw K) := ok_law_draw T
  refine ⟨_, (pss_cons (ps_if (pt_cmpR op_gt (pc G_law_draw (hr.mono (by decide)) rfl (T.glo 20) pass0 (pa_cons (pv 0) (pa_cons pe_int pa_nil))) pe_int (nomark _)) (pss_one (ps_ret (pe_ix ix_list (pe_lst (pa_cons pe_str (pa_cons pe_str (pa_cons pe_str (pa_cons pe_str (pa_cons pe_str (pa_cons pe_str (pa_cons pe_str (pa_cons pe_str pa_nil))))))))) (pc G_law_draw (hr.mono (by decide)) rfl (T.glo 20) pass0 (pa_cons (pv 0) (pa_cons pe_int pa_nil))) (fun _ _ => rfl)))) pss_nil) (pss_one (ps_ret (pe_join pe_str (pe_lc (own := [("_law_k", 1)]) rfl sc_law_word.nd (pi_range1 rfl (T.free 66) (pa_cons (pe_op op_add pe_int (pc G_law_draw (hr.mono (by decide)) rfl (T.glo 20) pass0 (pa_cons (pv 0) (pa_cons pe_int pa_nil)))) pa_nil)) (blkOk_by (N := ["_law_box_here", "_law_k"]) (sc := defScope s_law_word) (by decide +kernel)) (fun _ _ _ _ _ => (pg_name (i := 1) sc_law_word.nd rfl (Or.inl rfl))) (fun _ _ _ _ _ => pts_nil) (fun _ _ _ _ _ => (pe_ix ix_str pe_str (pc G_law_draw (hr.mono (by decide)) rfl (T.glo 20) pass0 (pa_cons (pv 0) (pa_cons pe_int pa_nil))) (fun _ _ => rfl)))))))), ?_⟩
  obtain ⟨_, b, c, rfl, hB, k⟩ := h
  refine ⟨_, rfl, rfl, b, c, 4, rfl, hB, by decide, by decide, fun r H1 k1 B1 r0 r1 => ⟨_, _, rfl, rfl, _, rfl, iteB (fun _ => ?_) (fun _ => ?_)⟩⟩
  · refine ⟨sz_ok (by simp), fun p hp => ?_⟩
    rw [wds_is]
    refine ⟨_, rfl, rfl, b, c, 8, rfl, B1.new hp, by decide, by decide, fun r H2 k2 B2 r0 r1 => ?_⟩
    obtain ⟨l, hl, e⟩ := pick (ws := wds) r0 r1
    exact ⟨p, _, _, _, rfl, rfl, SqL.of (k2 _ _ (B1.ne hp).1 upd_same), e, k l H2 ((k1.newT hp).trans k2) B2 (wds_ok l hl)⟩
  · refine ⟨⟨_, rfl⟩, _, rfl, rfl, b, c, 8, rfl, B1, by decide, by decide, fun r H2 k2 B2 r0 r1 => ⟨_, _, rfl, rfl, _, rfl, by omega, by omega, fun D hD => ?_⟩⟩
    have h12 := k1.trans k2
    refine lc_bx (wk_rng _) (fun _ v => ∃ ch, isLet ch = true ∧ v = vS [ch]) hD B2 (fun _ _ => trivial) (by omega) (fun _ _ _ _ h => h) (fun i x H3 H4 Q1 hi k3 B3 y q => ?_) (fun H3 vs k3 B3 hv hl hA => ?_)
    · obtain ⟨rfl, rfl⟩ := y
      refine ⟨rfl, _, rfl, rfl, b, c, 26, rfl, B3, by decide, by decide, fun r H5 k5 B5 r0 r1 => ?_⟩
      obtain ⟨ch, hc, e⟩ := atN (l := letters) r0 r1
      refine ⟨_, _, ch, rfl, rfl, by rw [letters_is]; exact lenOk (by decide), by rw [letters_is]; exact e, ?_⟩
      exact q _ _ k5 B5 ⟨ch, by rw [← mem_letters]; exact decide_eq_true hc, rfl⟩
    · obtain ⟨ws, h1, h2, rfl⟩ := collect (f := fun ch => vS [ch]) (P := fun ch => isLet ch = true) vs fun i v e => hA i v e
      have e2 : ws.map (fun ch => vS [ch]) = (ws.map fun ch => [ch]).map vS := by rw [List.map_map]; rfl
      rw [e2] at hv
      rw [List.length_map] at hl
      refine ⟨_, D, (ws.map fun ch => [ch]).map mkS, rfl, rfl, .inl (sqL hv), joinOk0 (ys := ws.map fun ch => [ch]) (by rw [flat_ones]; omega), ?_⟩
      rw [join_none, flat_ones]
      refine k ws H3 (h12.trans k3) B3 ⟨fun z => ?_, by omega, h2⟩
      rw [z] at hl
      simp at hl
      omega
theorem sc_law_line : FnScope ["_law_box_here", "_law_signs_here", "_law_size", "_law_k"] ["_law_box_here"] (defScope s_law_line) := ⟨rfl, rfl, rfl, by decide +kernel, rfl, by decide +kernel, by decide +kernel⟩
def sp_law_line (K : PySem.W.Frag) : Sp := fun vs H Q _ => vs.length = 1 ∧ ∃ b c, vs = [.ref b] ∧ Bx b c H ∧ ∀ l H', Kp b H H' → Bx b c H' → sOk l → l.length ≤ 40 → Q (vS l) H'
theorem ok_law_line (T : Tx K mg) : Fn P w K mg base CX0 3 ("_law_line", none) ["_law_box_here"] (sp_law_line K) := by
  refine Fn.mk0 (d := d_law_line) T 37 rfl rfl rfl sc_law_line (fun _ _ _ _ _ _ us hl => match us, hl with | [_], _ => rfl) (fun vs H Q E h => h.1) (fun cdv A outer s H vs Q E hr h => ?_)
  have hu := hu_of hr
  have G_law_draw : Fn P w K mg base CX0 2 ("_law_draw", none) ["_law_box_here", "_law_many"] (sp_law_draw K) := ok_law_draw T
  have G_law_signs : Fn P w K mg base CX0 1 ("_law_signs", none) [] (sp_law_signs K) := ok_law_signs T
  refine ⟨_, (pss_cons (ps_set (i := 1) sc_law_line.nd rfl (Or.inr rfl) (pe_ix ix_list (pe_lst (pa_cons pe_str (pa_cons pe_str (pa_cons (pc0 G_law_signs (hr.mono (by decide)) rfl (T.glo 23) pass0) pa_nil)))) (pc G_law_draw (hr.mono (by decide)) rfl (T.glo 20) pass0 (pa_cons (pv 0) (pa_cons pe_int pa_nil))) (fun _ _ => rfl))) (pss_cons (ps_set (i := 2) sc_law_line.nd rfl (Or.inl rfl) (pc G_law_draw (hr.mono (by decide)) rfl (T.glo 20) pass0 (pa_cons (pv 0) (pa_cons (pe_ix ix_list (pe_lst (pa_cons pe_int (pa_cons pe_int (pa_cons pe_int (pa_cons pe_int pa_nil))))) (pc G_law_draw (hr.mono (by decide)) rfl (T.glo 20) pass0 (pa_cons (pv 0) (pa_cons pe_int pa_nil))) (fun _ _ => rfl)) pa_nil)))) (pss_one (ps_ret (pe_join pe_str (pe_lc (own := [("_law_k", 3)]) rfl sc_law_line.nd (pi_range1 rfl (T.free 66) (pa_cons (pv 2) pa_nil)) (blkOk_by (N := ["_law_box_here", "_law_signs_here", "_law_size", "_law_k"]) (sc := defScope s_law_line) (by decide +kernel)) (fun _ _ _ _ _ => (pg_name (i := 3) sc_law_line.nd rfl (Or.inl rfl))) (fun _ _ _ _ _ => pts_nil) (fun _ _ _ _ _ => (pe_ix ix_str (pv 1) (pc G_law_draw (hr.mono (by decide)) rfl (T.glo 20) pass0 (pa_cons (pv 0) (pa_cons (pe_callB call_len_str rfl (T.free 59) (by decide +kernel) (pa_cons (pv 1) pa_nil)) pa_nil))) (fun _ _ => rfl))))))))), ?_⟩
  obtain ⟨_, b, c, rfl, hB, k⟩ := h
  refine ⟨rfl, rfl, sz_ok (by simp), fun p hp => ?_⟩
  rw [lns_is]
  refine ⟨_, rfl, rfl, b, c, 3, rfl, hB.new hp, by decide, by decide, fun r H1 k1 B1 r0 r1 => ?_⟩
  obtain ⟨z, hz, e⟩ := pick (ws := [ln1, ln2, sgs]) r0 r1
  obtain ⟨z1, z2, z3⟩ := lns_ok z hz
  have kk1 := (Kp.new (b := b) (o := .lst ([ln1, ln2, sgs].map vS)) hp).trans k1
  refine ⟨p, _, _, _, rfl, rfl, SqL.of (k1 _ _ (hB.ne hp).1 upd_same), e, ?_⟩
  refine ⟨_, rfl, sz_ok (by simp), fun p2 hp2 => ⟨_, rfl, rfl, b, c, 4, rfl, B1.new hp2, by decide, by decide, fun r H2 k2 B2 r0 r1 => ?_⟩⟩
  obtain ⟨v, hv, e2⟩ := atI_ex (xs := [V.int 3, V.int 8, V.int 8, V.int 41]) r0 r1
  have hm : ∃ m : Int, v = .int m ∧ 0 < m ∧ m ≤ 41 := by
    simp at hv
    rcases hv with rfl | rfl | rfl
    · exact ⟨3, rfl, by decide, by decide⟩
    · exact ⟨8, rfl, by decide, by decide⟩
    · exact ⟨41, rfl, by decide, by decide⟩
  obtain ⟨m, rfl, m0, m1⟩ := hm
  refine ⟨p2, _, _, _, rfl, rfl, SqL.of (k2 _ _ (B1.ne hp2).1 upd_same), e2, ?_⟩
  have kk2 := (kk1.newT (o := .lst [.int 3, .int 8, .int 8, .int 41]) hp2).trans k2
  refine ⟨rfl, b, c, m, rfl, B2, m0, by omega, fun n H3 k3 B3 n0 n1 => ?_⟩
  have kk3 := kk2.trans k3
  refine ⟨⟨_, rfl⟩, _, rfl, _, rfl, by omega, by omega, fun D hD => ?_⟩
  refine lc_bx (wk_rng _) (fun _ v => ∃ ch, isSgn ch = true ∧ v = vS [ch]) hD B3 (fun _ _ => trivial) (by omega) (fun _ _ _ _ h => h) (fun i x H4 H5 Q1 hi k4 B4 y q => ?_) (fun H4 vs k4 B4 hv hl hA => ?_)
  · obtain ⟨rfl, rfl⟩ := y
    refine ⟨rfl, _, rfl, _, rfl, _, rfl, mkS z, rfl, lenOk (by omega), rfl, b, c, _, rfl, B4, by rw [mkS_len]; omega, by rw [mkS_len]; omega, fun r H5 k5 B5 r0 r1 => ?_⟩
    rw [mkS_len] at r1
    obtain ⟨ch, hc, e⟩ := atN (l := z) r0 r1
    exact ⟨_, _, ch, rfl, rfl, lenOk (by omega), e, q _ _ k5 B5 ⟨ch, z1 ch hc, rfl⟩⟩
  · obtain ⟨ws, h1, h2, rfl⟩ := collect (f := fun ch => vS [ch]) (P := fun ch => isSgn ch = true) vs fun i v e => hA i v e
    have e2 : ws.map (fun ch => vS [ch]) = (ws.map fun ch => [ch]).map vS := by rw [List.map_map]; rfl
    rw [e2] at hv
    rw [List.length_map] at hl
    refine ⟨_, D, (ws.map fun ch => [ch]).map mkS, rfl, rfl, .inl (sqL hv), joinOk0 (ys := ws.map fun ch => [ch]) (by rw [flat_ones]; omega), ?_⟩
    rw [join_none, flat_ones]
    exact k ws H4 (kk3.trans k4) B4 h2 (by omega)
theorem sc_law_argument : FnScope ["_law_box_here", "_law_signs_here", "_law_body", "_law_k"] ["_law_box_here"] (defScope s_law_argument) := ⟨rfl, rfl, rfl, by decide +kernel, rfl, by decide +kernel, by decide +kernel⟩
def sp_law_argument (K : PySem.W.Frag) : Sp := fun vs H Q _ => vs.length = 1 ∧ ∃ b c, vs = [.ref b] ∧ Bx b c H ∧ ∀ l H', Kp b H H' → Bx b c H' → aOk l → l.length ≤ 20 → Q (vS l) H'
theorem ok_law_argument (T : Tx K mg) : Fn P w K mg base CX0 3 ("_law_argument", none) ["_law_box_here"] (sp_law_argument K) := by
  refine Fn.mk0 (d := d_law_argument) T 38 rfl rfl rfl sc_law_argument (fun _ _ _ _ _ _ us hl => match us, hl with | [_], _ => rfl) (fun vs H Q E h => h.1) (fun cdv A outer s H vs Q E hr h => ?_)
  have hu := hu_of hr
  have G_law_draw : Fn P w K mg base CX0 2 ("_law_draw", none) ["_law_box_here", "_law_many"] (sp_law_draw K) := ok_law_draw T
  refine ⟨_, (pss_cons (ps_set (i := 1) sc_law_argument.nd rfl (Or.inr rfl) (pe_lst (pa_cons pe_str (pa_cons pe_str (pa_cons pe_str (pa_cons pe_str (pa_cons pe_str (pa_cons pe_str (pa_cons pe_str (pa_cons pe_str (pa_cons pe_str (pa_cons pe_str (pa_cons pe_str (pa_cons pe_str pa_nil)))))))))))))) (pss_cons (ps_set (i := 2) sc_law_argument.nd rfl (Or.inl rfl) (pe_bm PySem.F.plainAttrs_str PySem.F.slot_str_strip PySem.F.type_str_strip mt_stripChars (pe_join pe_str (pe_lc (own := [("_law_k", 3)]) rfl sc_law_argument.nd (pi_range1 rfl (T.free 66) (pa_cons (pc G_law_draw (hr.mono (by decide)) rfl (T.glo 20) pass0 (pa_cons (pv 0) (pa_cons pe_int pa_nil))) pa_nil)) (blkOk_by (N := ["_law_box_here", "_law_signs_here", "_law_body", "_law_k"]) (sc := defScope s_law_argument) (by decide +kernel)) (fun _ _ _ _ _ => (pg_name (i := 3) sc_law_argument.nd rfl (Or.inl rfl))) (fun _ _ _ _ _ => pts_nil) (fun _ _ _ _ _ => (pe_ix (ix_listK (K := K) rfl) (pv 1) (pc G_law_draw (hr.mono (by decide)) rfl (T.glo 20) pass0 (pa_cons (pv 0) (pa_cons pe_int pa_nil))) (fun _ _ => rfl))))) (pa_cons pe_str pa_nil))) (pss_cons (ps_if (pt_cmpR op_eq (pv 2) pe_str (nomark _)) (pss_one (ps_ret (pe_ix ix_list (pe_lst (pa_cons pe_str (pa_cons pe_str (pa_cons pe_str pa_nil)))) (pc G_law_draw (hr.mono (by decide)) rfl (T.glo 20) pass0 (pa_cons (pv 0) (pa_cons pe_int pa_nil))) (fun _ _ => rfl)))) pss_nil) (pss_one (ps_ret (pv 2)))))), ?_⟩
  obtain ⟨_, b, c, rfl, hB, k⟩ := h
  refine ⟨sz_ok (by simp), fun p hp => ?_⟩
  rw [ags_is]
  refine ⟨⟨_, rfl⟩, _, rfl, rfl, b, c, 5, rfl, hB.new hp, by decide, by decide, fun n H1 k1 B1 n0 n1 => ⟨_, rfl, by omega, by omega, fun D hD => ?_⟩⟩
  have kk1 := (Kp.new (b := b) (o := .lst (ags.map vS)) hp).trans k1
  have hp1 := k1 _ _ (hB.ne hp).1 upd_same
  refine lc_bx (wk_rng _) (fun _ v => ∃ l, ((∀ ch ∈ l, isArg ch = true) ∧ l.length ≤ 3) ∧ v = vS l) hD B1 (fun _ _ => trivial) (by omega) (fun _ _ _ _ h => h) (fun i x H2 H3 Q1 hi k2 B2 y q => ?_) (fun H2 vs k2 B2 hv hl hA => ?_)
  · obtain ⟨rfl, rfl⟩ := y
    refine ⟨rfl, _, rfl, _, rfl, rfl, b, c, 12, rfl, B2, by decide, by decide, fun r H3 k3 B3 r0 r1 => ?_⟩
    obtain ⟨l, hl, e⟩ := pick (ws := ags) r0 r1
    exact ⟨p, _, _, _, rfl, rfl, SqL.of (k3 _ _ (hB.ne hp).1 (k2 _ _ (hB.ne hp).1 hp1)), e, q _ _ k3 B3 ⟨l, ags_ok l hl, rfl⟩⟩
  · obtain ⟨ws, h1, h2, rfl⟩ := collect (f := vS) (P := fun l => (∀ ch ∈ l, isArg ch = true) ∧ l.length ≤ 3) vs fun i v e => hA i v e
    rw [List.length_map] at hl
    have hfl : ws.flatten.length ≤ 3 * ws.length := by
      clear hv hA hl h1
      induction ws with
      | nil => simp
      | cons a ws ih =>
        have := ih fun l hl => h2 l (by simp [hl])
        have := (h2 a (by simp)).2
        simp at *
        omega
    have kk2 := kk1.trans k2
    refine ⟨_, D, ws.map mkS, rfl, rfl, .inl (sqL hv), joinOk0 (by omega), ?_⟩
    rw [join_none]
    refine ⟨rfl, _, _, rfl, rfl, lenOk (by omega), ?_⟩
    rw [strip_is]
    refine ⟨_, rfl, rfl, _, rfl, ?_⟩
    rw [eq_nil]
    have hsl := st_len ws.flatten
    by_cases hz : st ws.flatten = []
    · refine iteY (decide_eq_true hz) ⟨sz_ok (by simp), fun p2 hp2 => ?_⟩
      rw [ag3_is]
      refine ⟨_, rfl, rfl, b, c, 3, rfl, B2.new hp2, by decide, by decide, fun r H3 k3 B3 r0 r1 => ?_⟩
      obtain ⟨l, hl, e⟩ := pick (ws := ag3) r0 r1
      exact ⟨p2, _, _, _, rfl, rfl, SqL.of (k3 _ _ (B2.ne hp2).1 upd_same), e, k l H3 ((kk2.newT hp2).trans k3) B3 (ag3_ok l hl).1 (ag3_ok l hl).2⟩
    · refine iteN (decide_eq_false hz) ⟨_, rfl, k _ H2 kk2 B2 ⟨hz, fun ch hc => ?_, st_head _, st_last _⟩ (by omega)⟩
      obtain ⟨l, hl, hc⟩ := List.mem_flatten.mp (st_mem hc)
      exact (h2 l hl).1 ch hc
end
end Kn

set_option maxHeartbeats 4000000
/-! The law's helpers: heads, code lines, webs drawn. -/
namespace Kn
open PySem PySem.Spec PyProof.Rows L2 KnR
theorem cutV_take (xs : List V) (n : Nat) : cutV xs none (some (n : Int)) = xs.take n := by
  show (xs.drop (HT.sIx xs.length 0 none)).take (HT.sIx xs.length xs.length (some (n : Int)) - HT.sIx xs.length 0 none) = _
  rw [HT.sIx_nat]
  show (xs.drop 0).take (min n xs.length - 0) = _
  rw [List.drop_zero, Nat.sub_zero]
  by_cases h : n ≤ xs.length
  · rw [Nat.min_eq_left h]
  · rw [Nat.min_eq_right (by omega), List.take_of_length_le (Nat.le_refl _), List.take_of_length_le (by omega)]
def wd4 : List Ws := [[120], [97], [121], [97, 98, 99, 100, 101, 102, 103, 104]]
theorem wd4_is : ([.str "x", .str "a", .str "y", .str "abcdefgh"] : List V) = wd4.map vS := by decide +kernel
theorem wd4_ok : ∀ l ∈ wd4, wOk l := by
  have : wd4.all wOkB = true := by decide +kernel
  exact fun l hl => wOkB_ok (List.all_eq_true.mp this l hl)
theorem ifs (k : Bool) {x y : V} : atI [x, y] (if k then 1 else 0) = some (if k then y else x) := by cases k <;> rfl
theorem names_ok {hs : List Hd} (nd : (hs.map Hd.name).Nodup) {h g : Hd} (hh : h ∈ hs) (hg : g ∈ hs) (e : h.name = g.name) : h = g := by
  induction hs with
  | nil => cases hh
  | cons a hs ih =>
    rw [List.map_cons, List.nodup_cons] at nd
    rcases List.mem_cons.mp hh with z | z
    · rcases List.mem_cons.mp hg with z2 | z2
      · rw [z, z2]
      · exact absurd (List.mem_map.mpr ⟨g, z2, by rw [← e, z]⟩) nd.1
    · rcases List.mem_cons.mp hg with z2 | z2
      · exact absurd (List.mem_map.mpr ⟨h, z, by rw [e, z2]⟩) nd.1
      · exact ih nd.2 z z2
section
variable {P : Program} {w : World} {K : PySem.W.Frag} {mg : Str → Option Value} {base : Heap}
/-- the drawn heads at p -/
structure Hds (H : Hp) (p : Addr) (hs : List Hd) : Prop where
  ex : ∃ xs, H p = some (.lst xs) ∧ DtAll H xs (hs.map dH)
  ok : ∀ h ∈ hs, hOk h
  nd : (hs.map Hd.name).Nodup
  len : hs.length ≤ 5
theorem Hds.keep {b p : Addr} {H H' : Hp} {hs : List Hd} (h : Hds H p hs) (k : Kp b H H') (hb : NT H b) (n : p ≠ b) : Hds H' p hs := by
  obtain ⟨⟨xs, h1, h2⟩, h3, h4, h5⟩ := h
  exact ⟨⟨xs, k _ _ n h1, DtAll.mono (k.kt hb) _ _ h2⟩, h3, h4, h5⟩
theorem sc_law_heads : FnScope ["_law_box_here", "_law_heads_here", "_law_k", "_law_name", "_law_params", "_law_j", "_law_word_here", "_law_is_file", "_law_head_here"] ["_law_box_here"] (defScope s_law_heads) := ⟨rfl, rfl, rfl, by decide +kernel, rfl, by decide +kernel, by decide +kernel⟩
def sp_law_heads (K : PySem.W.Frag) : Sp := fun vs H Q _ => vs.length = 1 ∧ ∃ b c, vs = [.ref b] ∧ Bx b c H ∧ ∀ p hs H', Kp b H H' → Bx b c H' → H p = none → Hds H' p hs → Q (.ref p) H'
theorem ok_law_heads (T : Tx K mg) : Fn P w K mg base CX0 4 ("_law_heads", none) ["_law_box_here"] (sp_law_heads K) := by
  refine Fn.mk0 (d := d_law_heads) T 39 rfl rfl rfl sc_law_heads (fun _ _ _ _ _ _ us hl => match us, hl with | [_], _ => rfl) (fun vs H Q E h => h.1) (fun cdv A outer s H vs Q E hr h => ?_)
  have hu := hu_of hr
  have G_law_draw : Fn P w K mg base CX0 2 ("_law_draw", none) ["_law_box_here", "_law_many"] (sp_law_draw K) := ok_law_draw T
  have G_law_word : Fn P w K mg base CX0 3 ("_law_word", none) ["_law_box_here"] (sp_law_word K) := ok_law_word T
  refine ⟨_, (pss_cons (ps_set (i := 1) sc_law_heads.nd rfl (Or.inl rfl) (pe_lst pa_nil)) (pss_cons (ps_for PassesOwn.never rfl (pi_range1 rfl (T.free 66) (pa_cons (pc G_law_draw (hr.mono (by decide)) rfl (T.glo 20) pass0 (pa_cons (pv 0) (pa_cons pe_int pa_nil))) pa_nil)) (pg_name (i := 2) sc_law_heads.nd rfl (Or.inl rfl)) (pss_cons (ps_set (i := 3) sc_law_heads.nd rfl (Or.inl rfl) (pc G_law_word (hr.mono (by decide)) rfl (T.glo 22) pass0 (pa_cons (pv 0) pa_nil))) (pss_cons (ps_set (i := 4) sc_law_heads.nd rfl (Or.inl rfl) (pe_lst pa_nil)) (pss_cons (ps_for PassesOwn.never rfl (pi_range1 rfl (T.free 66) (pa_cons (pc G_law_draw (hr.mono (by decide)) rfl (T.glo 20) pass0 (pa_cons (pv 0) (pa_cons pe_int pa_nil))) pa_nil)) (pg_name (i := 5) sc_law_heads.nd rfl (Or.inl rfl)) (pss_cons (ps_set (i := 6) sc_law_heads.nd rfl (Or.inl rfl) (pe_ix ix_list (pe_lst (pa_cons (pe_ix ix_list (pe_lst (pa_cons pe_str (pa_cons pe_str (pa_cons pe_str (pa_cons pe_str pa_nil))))) (pc G_law_draw (hr.mono (by decide)) rfl (T.glo 20) pass0 (pa_cons (pv 0) (pa_cons pe_int pa_nil))) (fun _ _ => rfl)) (pa_cons (pc G_law_word (hr.mono (by decide)) rfl (T.glo 22) pass0 (pa_cons (pv 0) pa_nil)) pa_nil))) (pe_callTy call_int1 rfl (T.free 56) (by decide +kernel) (pa_cons (pe_cmpR op_eq (pc G_law_draw (hr.mono (by decide)) rfl (T.glo 20) pass0 (pa_cons (pv 0) (pa_cons pe_int pa_nil))) pe_int (nomark _)) pa_nil)) (fun _ _ => rfl))) (pss_one (ps_if (pt_cmpR op_notIn_seq (pv 6) (pv 4) rfl) (pss_one (ps_expr (pe_bm PySem.F.plainAttrs_list PySem.F.slot_list_append PySem.F.type_list_append mt_append (pv 4) (pa_cons (pv 6) pa_nil)))) pss_nil)))) (pss_cons (ps_set (i := 7) sc_law_heads.nd rfl (Or.inl rfl) (pe_cmpR op_eq (pc G_law_draw (hr.mono (by decide)) rfl (T.glo 20) pass0 (pa_cons (pv 0) (pa_cons pe_int pa_nil))) pe_int (nomark _))) (pss_one (ps_if (pt_cmpR op_notIn_seq (pv 3) (pe_lc (own := [("_law_head_here", 8)]) rfl sc_law_heads.nd (pi_list (pv 1)) (blkOk_by (N := ["_law_box_here", "_law_heads_here", "_law_k", "_law_name", "_law_params", "_law_j", "_law_word_here", "_law_is_file", "_law_head_here"]) (sc := defScope s_law_heads) (by decide +kernel)) (fun _ _ _ _ _ => (pg_name (i := 8) sc_law_heads.nd rfl (Or.inl rfl))) (fun _ _ _ _ _ => pts_nil) (fun _ _ _ _ _ => (pe_ix (ix_tupK (K := K) rfl) (pv 8) pe_int (fun _ _ => rfl)))) rfl) (pss_one (ps_expr (pe_bm PySem.F.plainAttrs_list PySem.F.slot_list_append PySem.F.type_list_append mt_append (pv 1) (pa_cons (pe_tup (pa_cons (pv 3) (pa_cons (pe_callTy call_tuple_of rfl (T.free 62) (by decide +kernel) (pa_cons (pe_slice sl_list (pv 4) po_none (po_some (pe_op op_sub pe_int (pe_op op_mul pe_int (pe_callTy call_int1 rfl (T.free 56) (by decide +kernel) (pa_cons (pv 7) pa_nil)))))) pa_nil)) (pa_cons (pv 7) pa_nil)))) pa_nil)))) pss_nil))))))) (pss_one (ps_ret (pv 1))))), ?_⟩
  obtain ⟨_, b, c, rfl, hB, k⟩ := h
  refine ⟨Nat.zero_le _, fun p hp => ?_⟩
  have nB := hB.ne hp
  have B0 := hB.new (o := .lst []) hp
  refine ⟨_, rfl, rfl, b, c, 5, rfl, B0, by decide, by decide, fun n H1 k1 B1 n0 n1 => ⟨_, rfl, by omega, by omega, ?_⟩⟩
  have kk1 := (Kp.new (b := b) (o := .lst []) hp).trans k1
  refine for_it (wk_rng n.toNat) (fun i σ H2 => ∃ (u2 u3 u4 u5 u6 u7 : Option V) (hs : List Hd), σ = [some (.ref b), some (.ref p), u2, u3, u4, u5, u6, u7, none] ∧ Kp b H H2 ∧ Bx b c H2 ∧ hs.length ≤ i ∧ Hds H2 p hs) ?_ (fun _ _ _ _ _ => trivial) ?_ ?_
  · exact ⟨none, none, none, none, none, none, [], rfl, kk1, B1, Nat.le_refl _, ⟨[], k1 _ _ nB.1 upd_same, .nil⟩, by simp, by simp, by simp⟩
  · rintro i x σ H2 H3 hi ⟨u2, u3, u4, u5, u6, u7, hs, rfl, k2, B2, hl, hH⟩ ⟨rfl, rfl⟩
    refine ⟨_, rfl, rfl, b, c, rfl, B2, fun nm H4 k4 B4 wnm => ?_⟩
    have hH4 := hH.keep k4 B2.nt.1 nB.1
    have kk4 := k2.trans k4
    refine ⟨Nat.zero_le _, fun q hq => ?_⟩
    have nq := B4.ne hq
    have npq : p ≠ q := fun z => by
      obtain ⟨xs, h1, _⟩ := hH4.ex
      rw [z, hq] at h1
      cases h1
    refine ⟨_, rfl, rfl, b, c, 4, rfl, B4.new hq, by decide, by decide, fun m H5 k5 B5 m0 m1 => ⟨_, rfl, by omega, by omega, ?_⟩⟩
    have hq5 : H5 q = some (.lst (([] : List Ws).map vS)) := k5 _ _ nq.1 upd_same
    refine for_it (wk_rng m.toNat) (fun j σ H6 => ∃ (u5 u6 : Option V) (ps : List Ws), σ = [some (.ref b), some (.ref p), some (.int (0 + (i : Int))), some (vS nm), some (.ref q), u5, u6, u7, none] ∧ Kp b H4 H6 ∧ Bx b c H6 ∧ H6 q = some (.lst (ps.map vS)) ∧ (∀ l ∈ ps, wOk l) ∧ ps.Nodup ∧ ps.length ≤ j) ?_ (fun _ _ _ _ _ => trivial) ?_ ?_
    · exact ⟨u5, u6, [], rfl, (Kp.new hq).trans k5, B5, hq5, by simp, by simp, by simp⟩
    · rintro j y σ H6 H7 hj ⟨v5, v6, ps, rfl, k6, B6, hq6, hw, hnd, hpl⟩ ⟨rfl, rfl⟩
      refine ⟨sz_ok (by simp), fun p1 hp1 => ?_⟩
      rw [wd4_is]
      refine ⟨_, rfl, rfl, b, c, 4, rfl, B6.new hp1, by decide, by decide, fun r H8 k8 B8 r0 r1 => ?_⟩
      obtain ⟨l1, hl1, e1⟩ := pick (ws := wd4) r0 r1
      refine ⟨p1, _, _, _, rfl, rfl, SqL.of (k8 _ _ (B6.ne hp1).1 upd_same), e1, ?_⟩
      refine ⟨_, rfl, rfl, b, c, rfl, B8, fun l2 H9 k9 B9 wl2 => ⟨sz_ok (by simp), fun p2 hp2 => ?_⟩⟩
      refine ⟨_, rfl, rfl, b, c, 3, rfl, B9.new hp2, by decide, by decide, fun r H10 k10 B10 r0 r1 => ⟨rfl, .inr ⟨_, rfl, ?_⟩⟩⟩
      refine ⟨p2, _, _, _, rfl, rfl, SqL.of (k10 _ _ (B9.ne hp2).1 upd_same), ifs _, ?_⟩
      have kA : Kp b H7 H10 := (((Kp.new (b := b) (o := .lst (wd4.map vS)) hp1).trans k8).trans k9).newT hp2 |>.trans k10
      have kB := k6.trans kA
      have hq10 := kA _ _ nq.1 hq6
      obtain ⟨l, wl, el⟩ : ∃ l, wOk l ∧ (if decide (V.int r = V.int 0) = true then vS l2 else vS l1) = vS l := by
        cases decide (V.int r = V.int 0)
        · exact ⟨l1, wd4_ok l1 hl1, rfl⟩
        · exact ⟨l2, wl2, rfl⟩
      rw [el]
      refine ⟨_, rfl, _, rfl, q, _, rfl, .inl (SqL.of hq10), rfl, flat_strs ps, _, rfl, ?_⟩
      refine iteB (fun e => ?_) (fun e => ?_)
      · have e' : (!inV (vS l) (ps.map vS)) = true := e
        rw [inV_strs, Bool.not_eq_true', decide_eq_false_iff_not] at e'
        refine ⟨_, rfl, .inl ⟨rfl, _, SqL.of hq10⟩, _, rfl, q, _, _, rfl, rfl, hq10, sz_lt (by simp; omega), ?_⟩
        refine ⟨_, _, ps ++ [l], rfl, kB.mut hq, B10.at_ nq.1 nq.2, by rw [upd_same, List.map_append]; rfl, fun z hz => ?_, ?_, by simp; omega⟩
        · rcases List.mem_append.mp hz with hz | hz
          · exact hw z hz
          · rw [List.mem_singleton.mp hz]
            exact wl
        · rw [List.nodup_append]
          exact ⟨hnd, by simp, fun a ha b' hb' z => e' (by rw [List.mem_singleton.mp hb'] at z; rw [← z]; exact ha)⟩
      · exact ⟨_, _, ps, rfl, kB, B10, hq10, hw, hnd, by omega⟩
    · rintro σ H6 ⟨v5, v6, ps, rfl, k6, B6, hq6, hw, hnd, hpl⟩
      have kk6 := kk4.trans k6
      have hH6 := hH4.keep k6 B4.nt.1 nB.1
      obtain ⟨⟨xs, hx, dx⟩, hok, hnm, hlen⟩ := hH6
      refine ⟨_, rfl, rfl, b, c, 3, rfl, B6, by decide, by decide, fun r H7 k7 B7 r0 r1 => ⟨rfl, ?_⟩⟩
      have kt7 := k7.kt B6.nt.1
      have hx7 := k7 _ _ nB.1 hx
      have hq7 := k7 _ _ nq.1 hq6
      have dx7 := DtAll.mono kt7 _ _ dx
      have kk7 := kk6.trans k7
      refine ⟨_, rfl, _, rfl, p, rfl, ⟨_, SqL.of hx7⟩, fun D hD => ?_⟩
      refine lc_gen (wk_lst (xs := xs)) (fun z _ v => ∀ o : Hd, hs[z]? = some o → v = vS o.name) hD (fun _ s => SqL.of (s _ _ hx7)) (by rw [dx.map_len]; omega) (fun _ _ _ _ _ h => h) (fun z y H8 H9 Q1 hz s8 e q => ?_) (fun H8 vs s8 hv hl hA => ?_)
      · obtain ⟨rfl, rfl⟩ := e
        obtain ⟨o, _, ho, d⟩ := (DtAll.mono (sm_kt s8) _ _ dx7).getD hz
        obtain ⟨a1, a2, e, f1, f2⟩ := d.head_inv
        rw [e]
        refine ⟨rfl, _, rfl, _, _, _, _, rfl, rfl, SqT.of f1, rfl, q _ _ (Same.refl _) fun o' e' => ?_⟩
        rw [ho] at e'
        cases e'
        rfl
      · have ev : vs = (hs.map Hd.name).map vS := by
          rw [List.map_map]
          exact eq_map (by rw [hl, dx.map_len]) fun i v y h1 h2 => hA i v h1 y h2
        rw [ev] at hv
        have B8 := B7.up s8
        have kk8 := kk7.trans (sm_kp s8)
        refine ⟨D, _, rfl, .inl (SqL.of hv), rfl, flat_strs _, _, rfl, ?_⟩
        have hx8 := s8 _ _ hx7
        have hq8 := s8 _ _ hq7
        have dx8 := DtAll.mono (sm_kt s8) _ _ dx7
        refine iteB (fun e => ?_) (fun e => ?_)
        · have e' : (!inV (vS nm) ((hs.map Hd.name).map vS)) = true := e
          rw [inV_strs, Bool.not_eq_true', decide_eq_false_iff_not] at e'
          refine ⟨_, rfl, .inl ⟨rfl, _, SqL.of hx8⟩, _, rfl, _, rfl, ?_⟩
          refine ⟨_, rfl, .inr ⟨_, rfl, _, _, rfl, rfl, cm _ _ ?_, _, _, rfl, rfl, ?_⟩⟩
          · cases decide (V.int r = V.int 0)
            · exact ⟨by decide, by decide⟩
            · exact ⟨by decide, by decide⟩
          refine ⟨_, rfl, _, _, rfl, SqL.of hq8, fun p3 hp3 => ⟨_, _, rfl, .inl ⟨SqL.of upd_same, fun p4 hp4 => ?_⟩⟩⟩
          refine ⟨_, rfl, sz_ok (by simp), fun p5 hp5 => ?_⟩
          have cut : ∀ kk : Bool, cutV (ps.map vS) none (some ((fun i j => i - j) 3 ((fun i j => i * j) 3 (if kk then 1 else 0)))) = (ps.take (if kk then 0 else 3)).map vS := fun kk => by
            cases kk
            · exact (cutV_take (ps.map vS) 3).trans (by rw [List.map_take]; rfl)
            · exact (cutV_take (ps.map vS) 0).trans (by rw [List.map_take]; rfl)
          generalize decide (V.int r = V.int 0) = isf at *
          have s9 := sm_new (o := .lst (cutV (ps.map vS) none (some ((fun i j => i - j) 3 ((fun i j => i * j) 3 (if isf then 1 else 0)))))) hp3
          have s10 := s9.trans (sm_new (o := .tup (cutV (ps.map vS) none (some ((fun i j => i - j) 3 ((fun i j => i * j) 3 (if isf then 1 else 0)))))) hp4)
          have s11 := s10.trans (sm_new (o := .tup [vS nm, .ref p4, .bl isf]) hp5)
          have hx11 := s11 _ _ hx8
          have n45 : p4 ≠ p5 := fun z => by rw [← z, upd_same] at hp5; cases hp5
          have npp4 : p4 ≠ p := fun z => by
            have := s9 _ _ hx8
            rw [← z, hp4] at this
            cases this
          have npp5 : p5 ≠ p := fun z => by
            have := s10 _ _ hx8
            rw [← z, hp5] at this
            cases this
          refine ⟨p, xs, _, rfl, rfl, hx11, sz_lt (by rw [dx.map_len]; omega), ?_⟩
          have wp : ∀ l ∈ ps.take (if isf then 0 else 3), wOk l := fun l hl => hw l (List.mem_of_mem_take hl)
          refine ⟨_, _, _, _, _, _, hs ++ [⟨nm, ps.take (if isf then 0 else 3), isf⟩], rfl, (kk8.trans (sm_kp s11)).mut hp, (B8.up s11).at_ nB.1 nB.2, by simp; omega, ⟨xs ++ [.ref p5], upd_same, ?_⟩, fun o ho => ?_, ?_, by simp; omega⟩
          · refine dx8.snocU ((sm_kt s11).trans (KT.up (NT.lst hx11))) (Dt.head_mk (b := p4) ?_ ?_)
            · rw [upd_ne npp5, upd_same]
            · rw [upd_ne npp4, upd_ne n45, upd_same, cut]
          · rcases List.mem_append.mp ho with ho | ho
            · exact hok o ho
            · rw [List.mem_singleton.mp ho]
              refine ⟨wnm, ?_, wp, hnd.sublist (List.take_sublist _ _), fun z => ?_⟩
              · show (ps.take (if isf then 0 else 3)).length ≤ 3
                rw [List.length_take]
                cases isf
                · exact Nat.min_le_left _ _
                · exact Nat.le_trans (Nat.min_le_left _ _) (by decide)
              · have z : isf = true := z
                show ps.take (if isf then 0 else 3) = []
                rw [z]
                rfl
          · rw [List.map_append, List.nodup_append]
            exact ⟨hnm, by simp, fun a ha b' hb' z => e' (by rw [List.mem_singleton.mp hb'] at z; have z : a = nm := z; rw [← z]; exact ha)⟩
        · exact ⟨_, _, _, _, _, _, hs, rfl, kk8, B8, by omega, ⟨xs, hx8, dx8⟩, hok, hnm, hlen⟩
  · rintro σ H2 ⟨u2, u3, u4, u5, u6, u7, hs, rfl, k2, B2, hl, hH⟩
    exact ⟨_, rfl, k p hs H2 k2 B2 hp hH⟩
theorem sc_law_code : FnScope ["_law_box_here", "_law_heads_here", "_law_name", "_law_many", "_law_head_here", "_law_indent", "_law_k"] ["_law_box_here", "_law_heads_here"] (defScope s_law_code) := ⟨rfl, rfl, rfl, by decide +kernel, rfl, by decide +kernel, by decide +kernel⟩
theorem joinC_le {m : Nat} : ∀ {as : List Ws}, (∀ a ∈ as, a.length ≤ m) → (joinC as).length ≤ as.length * (m + 1)
  | [], _ => by simp [joinC]
  | [a], h => by
    have := h a (by simp)
    simp [joinC]
    omega
  | a :: b :: r, h => by
    have := h a (by simp)
    have ih := joinC_le (as := b :: r) fun x hx => h x (by simp [hx])
    simp [joinC] at ih ⊢
    rw [Nat.add_mul] at ih ⊢
    simp [Nat.add_mul] at ih ⊢
    omega
def sp_law_code (K : PySem.W.Frag) : Sp := fun vs H Q _ => vs.length = 2 ∧ ∃ b c p hs, vs = [.ref b, .ref p] ∧ Bx b c H ∧ p ≠ b ∧ Hds H p hs ∧ ∀ v u H', Kp b H H' → Bx b c H' → Dt H' v (dL u) → lOk u → (lnTxt u).length ≤ 100 → Q v H'
theorem ok_law_code (T : Tx K mg) : Fn P w K mg base CX0 4 ("_law_code", none) ["_law_box_here", "_law_heads_here"] (sp_law_code K) := by
  refine Fn.mk0 (d := d_law_code) T 40 rfl rfl rfl sc_law_code (fun _ _ _ _ _ _ us hl => match us, hl with | [_, _], _ => rfl) (fun vs H Q E h => h.1) (fun cdv A outer s H vs Q E hr h => ?_)
  have hu := hu_of hr
  have G_law_argument : Fn P w K mg base CX0 3 ("_law_argument", none) ["_law_box_here"] (sp_law_argument K) := ok_law_argument T
  have G_law_draw : Fn P w K mg base CX0 2 ("_law_draw", none) ["_law_box_here", "_law_many"] (sp_law_draw K) := ok_law_draw T
  have G_law_word : Fn P w K mg base CX0 3 ("_law_word", none) ["_law_box_here"] (sp_law_word K) := ok_law_word T
  have G_law_line : Fn P w K mg base CX0 3 ("_law_line", none) ["_law_box_here"] (sp_law_line K) := ok_law_line T
  refine ⟨_, (pss_cons (ps_if (pt_cmpR op_eq (pc G_law_draw (hr.mono (by decide)) rfl (T.glo 20) pass0 (pa_cons (pv 0) (pa_cons pe_int pa_nil))) pe_int (nomark _)) (pss_one (ps_ret (pe_tup (pa_cons pe_str (pa_cons (pc G_law_line (hr.mono (by decide)) rfl (T.glo 24) pass0 (pa_cons (pv 0) pa_nil)) pa_nil))))) pss_nil) (pss_cons (ps_set (i := 2) sc_law_code.nd rfl (Or.inl rfl) (pc G_law_word (hr.mono (by decide)) rfl (T.glo 22) pass0 (pa_cons (pv 0) pa_nil))) (pss_cons (ps_set (i := 3) sc_law_code.nd rfl (Or.inl rfl) (pc G_law_draw (hr.mono (by decide)) rfl (T.glo 20) pass0 (pa_cons (pv 0) (pa_cons pe_int pa_nil)))) (C8.pss_cut (ps_if (PW.pt (pw_and (pt_cmpR op_gt (pe_callB call_len_seq rfl (T.free 59) (by decide +kernel) (pa_cons (pv 1) pa_nil)) pe_int (nomark _)) (pw_and1 (pt_cmpR op_gt (pc G_law_draw (hr.mono (by decide)) rfl (T.glo 20) pass0 (pa_cons (pv 0) (pa_cons pe_int pa_nil))) pe_int (nomark _))))) (pss_cons (ps_set (i := 4) sc_law_code.nd rfl (Or.inl rfl) (pe_ix ix_list (pv 1) (pc G_law_draw (hr.mono (by decide)) rfl (T.glo 20) pass0 (pa_cons (pv 0) (pa_cons (pe_callB call_len_seq rfl (T.free 59) (by decide +kernel) (pa_cons (pv 1) pa_nil)) pa_nil))) (fun _ _ => rfl))) (pss_cons (ps_set (i := 2) sc_law_code.nd rfl (Or.inl rfl) (pe_ix ix_tup (pv 4) pe_int (fun _ _ => rfl))) (pss_one (ps_if (pt_cmpR op_gt (pc G_law_draw (hr.mono (by decide)) rfl (T.glo 20) pass0 (pa_cons (pv 0) (pa_cons pe_int pa_nil))) pe_int (nomark _)) (pss_one (ps_set (i := 3) sc_law_code.nd rfl (Or.inl rfl) (pe_callB call_len_seq rfl (T.free 59) (by decide +kernel) (pa_cons (pe_ix ix_tup (pv 4) pe_int (fun _ _ => rfl)) pa_nil)))) pss_nil)))) pss_nil) (pss_cons (ps_set (i := 5) sc_law_code.nd rfl (Or.inl rfl) (pc G_law_draw (hr.mono (by decide)) rfl (T.glo 20) pass0 (pa_cons (pv 0) (pa_cons (pe_ix ix_list (pe_lst (pa_cons pe_int (pa_cons pe_int pa_nil))) (pe_callTy call_int1 rfl (T.free 56) (by decide +kernel) (pa_cons (pe_cmpR op_eq (pc G_law_draw (hr.mono (by decide)) rfl (T.glo 20) pass0 (pa_cons (pv 0) (pa_cons pe_int pa_nil))) pe_int (nomark _)) pa_nil)) (fun _ _ => rfl)) pa_nil)))) (pss_one (ps_ret (pe_tup (pa_cons pe_str (pa_cons (pv 5) (pa_cons (pv 2) (pa_cons (pe_callTy call_tuple_of rfl (T.free 62) (by decide +kernel) (pa_cons (pe_lc (own := [("_law_k", 6)]) rfl sc_law_code.nd (pi_range1 rfl (T.free 66) (pa_cons (pv 3) pa_nil)) (blkOk_by (N := ["_law_box_here", "_law_heads_here", "_law_name", "_law_many", "_law_head_here", "_law_indent", "_law_k"]) (sc := defScope s_law_code) (by decide +kernel)) (fun _ _ _ _ _ => (pg_name (i := 6) sc_law_code.nd rfl (Or.inl rfl))) (fun _ _ _ _ _ => pts_nil) (fun _ _ _ _ _ => (pc G_law_argument (hr.mono (by decide)) rfl (T.glo 25) pass0 (pa_cons (pv 0) pa_nil)))) pa_nil)) pa_nil)))))))))))), ?_⟩
  obtain ⟨_, b, c, p, hs, rfl, hB, npb, hH, k⟩ := h
  refine ⟨_, rfl, rfl, b, c, 2, rfl, hB, by decide, by decide, fun r H1 k1 B1 r0 r1 => ⟨rfl, _, rfl, ?_⟩⟩
  refine iteB (fun _ => ?_) (fun _ => ?_)
  · refine ⟨_, rfl, rfl, b, c, rfl, B1, fun l H2 k2 B2 ol ll => ⟨sz_ok (by simp), fun t ht => ?_⟩⟩
    exact k _ (.plain l) _ ((k1.trans k2).newT ht) (B2.new ht) (Dt.plain_mk upd_same) ol (by simp [lnTxt]; omega)
  · refine ⟨_, rfl, rfl, b, c, rfl, B1, fun nm H2 k2 B2 wnm => ?_⟩
    refine ⟨_, rfl, rfl, b, c, 4, rfl, B2, by decide, by decide, fun m H3 k3 B3 m0 m1 => ?_⟩
    have kk3 := (k1.trans k2).trans k3
    have hH3 := hH.keep kk3 hB.nt.1 npb
    refine ⟨fun σ' H' => ∃ (nm : Ws) (m : Int) (u : Option V), σ' = [some (.ref b), some (.ref p), some (vS nm), some (.int m), u, none, none] ∧ Kp b H H' ∧ Bx b c H' ∧ wOk nm ∧ 0 ≤ m ∧ m ≤ 3, ?_, ?_⟩
    · obtain ⟨⟨xs, hx, dx⟩, hok, hnm, hlen⟩ := id hH3
      refine ⟨_, rfl, _, _, rfl, .inl (SqL.of hx), _, _, rfl, rfl, _, rfl, ?_⟩
      refine iteB (fun e => ?_) (fun _ => iteN rfl ⟨nm, m, none, rfl, kk3, B3, wnm, m0, by omega⟩)
      have e : (0 : Int) < (xs.length : Int) := of_decide_eq_true e
      refine ⟨_, rfl, rfl, b, c, 5, rfl, B3, by decide, by decide, fun r H4 k4 B4 r0 r1 => ⟨_, _, rfl, rfl, _, rfl, ?_⟩⟩
      have kk4 := kk3.trans k4
      refine iteB (fun e2 => ?_) (fun _ => ⟨nm, m, none, rfl, kk4, B4, wnm, m0, by omega⟩)
      have hx4 := k4 _ _ npb hx
      have dx4 := DtAll.mono (k4.kt B3.nt.1) _ _ dx
      have hxl := dx.map_len
      refine ⟨_, rfl, _, rfl, _, rfl, _, _, rfl, .inl (SqL.of hx4), rfl, b, c, _, rfl, B4, e, by omega, fun j H5 k5 B5 j0 j1 => ?_⟩
      have hx5 := k5 _ _ npb hx4
      have dx5 := DtAll.mono (k5.kt B4.nt.1) _ _ dx4
      obtain ⟨jn, rfl⟩ : ∃ jn : Nat, j = jn := ⟨j.toNat, by omega⟩
      have hjn : jn < xs.length := by omega
      obtain ⟨o, ho, hoj, d⟩ := dx5.getD hjn
      obtain ⟨a1, a2, ea, f1, f2⟩ := d.head_inv
      have hat : atI xs ((jn : Nat) : Int) = some (.ref a1) := by
        rw [← ea]
        exact atI_nat (getD_lt _ hjn)
      obtain ⟨w1, w2, w3, w4, w5⟩ := hok o ho
      refine ⟨p, _, _, _, rfl, rfl, SqL.of hx5, hat, ?_⟩
      refine ⟨_, rfl, _, _, _, _, rfl, rfl, SqT.of f1, rfl, ?_⟩
      refine ⟨_, rfl, rfl, b, c, 4, rfl, B5, by decide, by decide, fun r H6 k6 B6 r0 r1 => ⟨_, _, rfl, rfl, _, rfl, ?_⟩⟩
      have kt6 := k6.kt B5.nt.1
      have kk6 := (kk4.trans k5).trans k6
      refine iteB (fun _ => ?_) (fun _ => ⟨o.name, m, _, rfl, kk6, B6, w1, m0, by omega⟩)
      refine ⟨_, rfl, _, _, _, _, rfl, rfl, SqT.of (kt6 _ _ f1), rfl, _, _, rfl, .inr (SqT.of (kt6 _ _ f2)), ?_⟩
      exact ⟨o.name, _, _, rfl, kk6, B6, w1, by omega, by rw [List.length_map]; omega⟩
    · rintro σ H4 ⟨nm, m, u, rfl, kk4, B4, wnm, m0, m1⟩
      refine ⟨_, rfl, sz_ok (by simp), fun p1 hp1 => ?_⟩
      refine ⟨_, rfl, rfl, b, c, 4, rfl, B4.new hp1, by decide, by decide, fun r H5 k5 B5 r0 r1 => ⟨rfl, .inr ⟨_, rfl, ?_⟩⟩⟩
      refine ⟨p1, _, _, _, rfl, rfl, SqL.of (k5 _ _ (B4.ne hp1).1 upd_same), ifs _, ?_⟩
      have kk5 := (kk4.newT (o := .lst [.int 3, .int 21]) hp1).trans k5
      obtain ⟨z, ez, z0, z1⟩ : ∃ z : Int, (if decide (V.int r = V.int 0) = true then V.int 21 else V.int 3) = .int z ∧ 0 < z ∧ z ≤ 21 := by
        cases decide (V.int r = V.int 0)
        · exact ⟨3, rfl, by decide, by decide⟩
        · exact ⟨21, rfl, by decide, by decide⟩
      rw [ez]
      refine ⟨rfl, b, c, z, rfl, B5, z0, by omega, fun ind H6 k6 B6 i0 i1 => ?_⟩
      have kk6 := kk5.trans k6
      refine ⟨_, rfl, _, rfl, _, rfl, _, rfl, by omega, by omega, fun D hD => ?_⟩
      refine lc_bx (wk_rng _) (fun _ v => ∃ l, (aOk l ∧ l.length ≤ 20) ∧ v = vS l) hD B6 (fun _ _ => trivial) (by omega) (fun _ _ _ _ h => h) (fun i x H7 H8 Q1 hi k7 B7 y q => ?_) (fun H7 vs k7 B7 hv hl hA => ?_)
      · obtain ⟨rfl, rfl⟩ := y
        exact ⟨rfl, _, rfl, rfl, b, c, rfl, B7, fun l H9 k9 B9 ol ll => q _ _ k9 B9 ⟨l, ⟨ol, ll⟩, rfl⟩⟩
      · obtain ⟨as, h1, h2, rfl⟩ := collect (f := vS) (P := fun l => aOk l ∧ l.length ≤ 20) vs fun i v e => hA i v e
        rw [List.length_map] at hl
        obtain ⟨ni, rfl⟩ : ∃ ni : Nat, ind = ni := ⟨ind.toNat, by omega⟩
        have hj := joinC_le fun a ha => (h2 a ha).2
        have h3 : as.length ≤ 3 := by omega
        have h4 : as.length * (20 + 1) ≤ 3 * 21 := Nat.mul_le_mul_right _ h3
        refine ⟨_, _, rfl, .inl ⟨SqL.of hv, fun t1 ht1 => ⟨sz_ok (by simp), fun t2 ht2 => ?_⟩⟩⟩
        have n12 : t1 ≠ t2 := fun z => by rw [← z, upd_same] at ht2; cases ht2
        refine k _ (.use ni nm as) _ (((kk6.trans k7).newT ht1).newT ht2) ((B7.new ht1).new ht2) (Dt.use_mk (b := t1) upd_same (by rw [upd_ne n12, upd_same])) ⟨by omega, wnm, h3, fun a ha => (h2 a ha).1⟩ ?_
        rw [use_len]
        have := wnm.2.1
        omega
end
end Kn

set_option maxHeartbeats 4000000
/-! The law's helpers: webs drawn. -/
namespace Kn
open PySem PySem.Spec PyProof.Rows L2 KnR
theorem prose_le {m : Nat} (k : Nat) : ∀ (ps : List Ws) (i : Nat), (∀ p ∈ ps, p.length ≤ m) → (txt (proseRows k i ps)).length ≤ ps.length * (m + 2)
  | [], _, _ => by simp [proseRows, txt_nil]
  | p :: ps, i, h => by
    have h1 := h p (by simp)
    have ih := prose_le k ps (i + 1) fun x hx => h x (by simp [hx])
    show (txt (⟨k, 1, i, 46 :: p, none⟩ :: proseRows k (i + 1) ps)).length ≤ _
    rw [txt_cons, List.length_append, List.length_cons, List.length_cons, List.length_cons, Nat.add_mul, Nat.one_mul]
    omega
theorem code_le {m : Nat} (k : Nat) : ∀ (ps : List Ln) (i : Nat), (∀ p ∈ ps, (lnTxt p).length ≤ m) → (txt (codeRows k i ps)).length ≤ ps.length * (m + 1)
  | [], _, _ => by simp [codeRows, txt_nil]
  | p :: ps, i, h => by
    have h1 := h p (by simp)
    have ih := code_le k ps (i + 1) fun x hx => h x (by simp [hx])
    show (txt (⟨k, 3, i, lnTxt p, none⟩ :: codeRows k (i + 1) ps)).length ≤ _
    rw [txt_cons, List.length_append, List.length_cons, List.length_cons, Nat.add_mul, Nat.one_mul]
    have h1 : (lnTxt p).length ≤ m := h1
    show (lnTxt p).length + _ ≤ _
    omega
theorem web_le {m : Nat} : ∀ (w : List Sc) (k : Nat), (∀ s ∈ w, (txt (secRows 0 s)).length ≤ m) → (txt (rowsFrom k w)).length ≤ w.length * m
  | [], _, _ => by simp [rowsFrom, txt_nil]
  | s :: w, k, h => by
    have h1 := h s (by simp)
    have ih := web_le w (k + 1) fun x hx => h x (by simp [hx])
    show (txt (secRows k s ++ rowsFrom (k + 1) w)).length ≤ _
    rw [txt_append, List.length_append, sec_txt_k k 0, List.length_cons, Nat.add_mul, Nat.one_mul]
    omega
theorem head_le {h : Hd} (o : hOk h) : (hdTxt h).length ≤ 40 := by
  obtain ⟨o1, o2, o3, o4, o5⟩ := o
  rw [hd_len]
  have h1 := joinC_le fun p hp => (o3 p hp).2.1
  have h2 : h.params.length * (8 + 1) ≤ 3 * 9 := Nat.mul_le_mul_right _ o2
  have := o1.2.1
  omega
/-- a drawn section -/
def sOkD (hs : List Hd) (s : Sc) : Prop := cOk s ∧ (∀ h, s.head = some h → h ∈ hs) ∧ (txt (secRows 0 s)).length ≤ 1200
theorem sec_small {s : Sc} (h1 : ∀ p ∈ s.prose, p.length ≤ 40) (h2 : s.prose.length ≤ 6) (h3 : ∀ h, s.head = some h → hOk h) (h4 : ∀ c ∈ s.code, (lnTxt c).length ≤ 100) (h5 : s.code.length ≤ 8) : (txt (secRows 0 s)).length ≤ 1200 := by
  rw [sec_txt]
  have a := prose_le 0 s.prose 0 h1
  have a2 : s.prose.length * (40 + 2) ≤ 6 * 42 := Nat.mul_le_mul_right _ h2
  have c := code_le 0 s.code 0 h4
  have c2 : s.code.length * (100 + 1) ≤ 8 * 101 := Nat.mul_le_mul_right _ h5
  have b : (txt (headRows 0 s.head)).length ≤ 41 := by
    cases e : s.head with
    | none => simp [headRows, txt_nil]
    | some o =>
      have := head_le (h3 o e)
      simp [headRows, txt_cons, txt_nil]
      omega
  omega
theorem webOk_of {hs : List Hd} {w : List Sc} (nd : (hs.map Hd.name).Nodup) (h : ∀ s ∈ w, sOkD hs s) : webOk w := by
  refine ⟨fun s hs' => (h s hs').1, fun a ha b hb e => ?_⟩
  obtain ⟨s, hs1, e1⟩ := List.mem_filterMap.mp ha
  obtain ⟨t, hs2, e2⟩ := List.mem_filterMap.mp hb
  exact names_ok nd ((h s hs1).2.1 a e1) ((h t hs2).2.1 b e2) e
theorem pickI {xs : List Int} {i : Int} (h0 : 0 ≤ i) (h1 : i < (xs.length : Int)) : ∃ l, l ∈ xs ∧ atI (xs.map V.int) i = some (.int l) := by
  obtain ⟨v, hv, e⟩ := atI_ex (xs := xs.map V.int) h0 (by rw [List.length_map]; exact h1)
  obtain ⟨l, hl, rfl⟩ := List.mem_map.mp hv
  exact ⟨l, hl, e⟩
section
variable {P : Program} {w : World} {K : PySem.W.Frag} {mg : Str → Option Value} {base : Heap}
theorem sc_law_web : FnScope ["_law_box_here", "_law_most", "_law_heads_here", "_law_sections", "_law_k", "_law_prose", "_law_head_here", "_law_code_here", "_law_j"] ["_law_box_here", "_law_most"] (defScope s_law_web) := ⟨rfl, rfl, rfl, by decide +kernel, rfl, by decide +kernel, by decide +kernel⟩
def sp_law_web (K : PySem.W.Frag) : Sp := fun vs H Q _ => vs.length = 2 ∧ ∃ b c, vs = [.ref b, .int 4] ∧ Bx b c H ∧ ∀ v w H', Kp b H H' → Bx b c H' → Dt H' v (dW w) → webOk w → (webTxt w).length ≤ 5000 → Q v H'
theorem ok_law_web (T : Tx K mg) : Fn P w K mg base CX0 5 ("_law_web", none) ["_law_box_here", "_law_most"] (sp_law_web K) := by
  refine Fn.mk0 (d := d_law_web) T 41 rfl rfl rfl sc_law_web (fun _ _ _ _ _ _ us hl => match us, hl with | [_, _], _ => rfl) (fun vs H Q E h => h.1) (fun cdv A outer s H vs Q E hr h => ?_)
  have hu := hu_of hr
  have G_law_draw : Fn P w K mg base CX0 2 ("_law_draw", none) ["_law_box_here", "_law_many"] (sp_law_draw K) := ok_law_draw T
  have G_law_code : Fn P w K mg base CX0 4 ("_law_code", none) ["_law_box_here", "_law_heads_here"] (sp_law_code K) := ok_law_code T
  have G_law_line : Fn P w K mg base CX0 3 ("_law_line", none) ["_law_box_here"] (sp_law_line K) := ok_law_line T
  have G_law_heads : Fn P w K mg base CX0 4 ("_law_heads", none) ["_law_box_here"] (sp_law_heads K) := ok_law_heads T
  refine ⟨_, (pss_cons (ps_set (i := 2) sc_law_web.nd rfl (Or.inr rfl) (pc G_law_heads (hr.mono (by decide)) rfl (T.glo 26) pass0 (pa_cons (pv 0) pa_nil))) (pss_cons (ps_set (i := 3) sc_law_web.nd rfl (Or.inl rfl) (pe_lst pa_nil)) (pss_cons (ps_for PassesOwn.never rfl (pi_range1 rfl (T.free 66) (pa_cons (pc G_law_draw (hr.mono (by decide)) rfl (T.glo 20) pass0 (pa_cons (pv 0) (pa_cons (pe_op op_add (pv 1) pe_int) pa_nil))) pa_nil)) (pg_name (i := 4) sc_law_web.nd rfl (Or.inl rfl)) (pss_cons (ps_set (i := 5) sc_law_web.nd rfl (Or.inl rfl) (pe_callTy call_tuple_of rfl (T.free 62) (by decide +kernel) (pa_cons (pe_lc (own := [("_law_j", 8)]) rfl sc_law_web.nd (pi_range1 rfl (T.free 66) (pa_cons (pc G_law_draw (hr.mono (by decide)) rfl (T.glo 20) pass0 (pa_cons (pv 0) (pa_cons (pe_ix ix_list (pe_lst (pa_cons pe_int (pa_cons pe_int (pa_cons pe_int pa_nil)))) (pc G_law_draw (hr.mono (by decide)) rfl (T.glo 20) pass0 (pa_cons (pv 0) (pa_cons pe_int pa_nil))) (fun _ _ => rfl)) pa_nil))) pa_nil)) (blkOk_by (N := ["_law_box_here", "_law_most", "_law_heads_here", "_law_sections", "_law_k", "_law_prose", "_law_head_here", "_law_code_here", "_law_j"]) (sc := defScope s_law_web) (by decide +kernel)) (fun _ _ _ _ _ => (pg_name (i := 8) sc_law_web.nd rfl (Or.inl rfl))) (fun _ _ _ _ _ => pts_nil) (fun _ _ _ _ _ => (pc G_law_line (hr.mono (by decide)) rfl (T.glo 24) pass0 (pa_cons (pv 0) pa_nil)))) pa_nil))) (pss_cons (ps_set (i := 6) sc_law_web.nd rfl (Or.inl rfl) pe_non) (pss_cons (ps_set (i := 7) sc_law_web.nd rfl (Or.inl rfl) (pe_tup pa_nil)) (C8.pss_cut (ps_if (PW.pt (pw_and (pt_cmpR op_gt (pe_callB call_len_seq rfl (T.free 59) (by decide +kernel) (pa_cons (pv 2) pa_nil)) pe_int (nomark _)) (pw_and1 (pt_cmpR op_gt (pc G_law_draw (hr.mono (by decide)) rfl (T.glo 20) pass0 (pa_cons (pv 0) (pa_cons pe_int pa_nil))) pe_int (nomark _))))) (pss_cons (ps_set (i := 6) sc_law_web.nd rfl (Or.inl rfl) (pe_ix ix_list (pv 2) (pc G_law_draw (hr.mono (by decide)) rfl (T.glo 20) pass0 (pa_cons (pv 0) (pa_cons (pe_callB call_len_seq rfl (T.free 59) (by decide +kernel) (pa_cons (pv 2) pa_nil)) pa_nil))) (fun _ _ => rfl))) (pss_one (ps_set (i := 7) sc_law_web.nd rfl (Or.inl rfl) (pe_callTy call_tuple_of rfl (T.free 62) (by decide +kernel) (pa_cons (pe_lc (own := [("_law_j", 8)]) rfl sc_law_web.nd (pi_range1 rfl (T.free 66) (pa_cons (pc G_law_draw (hr.mono (by decide)) rfl (T.glo 20) pass0 (pa_cons (pv 0) (pa_cons (pe_ix ix_list (pe_lst (pa_cons pe_int (pa_cons pe_int (pa_cons pe_int pa_nil)))) (pc G_law_draw (hr.mono (by decide)) rfl (T.glo 20) pass0 (pa_cons (pv 0) (pa_cons pe_int pa_nil))) (fun _ _ => rfl)) pa_nil))) pa_nil)) (blkOk_by (N := ["_law_box_here", "_law_most", "_law_heads_here", "_law_sections", "_law_k", "_law_prose", "_law_head_here", "_law_code_here", "_law_j"]) (sc := defScope s_law_web) (by decide +kernel)) (fun _ _ _ _ _ => (pg_name (i := 8) sc_law_web.nd rfl (Or.inl rfl))) (fun _ _ _ _ _ => pts_nil) (fun _ _ _ _ _ => (pc G_law_code (hr.mono (by decide)) rfl (T.glo 27) pass0 (pa_cons (pv 0) (pa_cons (pv 2) pa_nil))))) pa_nil))))) pss_nil) (pss_one (ps_expr (pe_bm PySem.F.plainAttrs_list PySem.F.slot_list_append PySem.F.type_list_append mt_append (pv 3) (pa_cons (pe_tup (pa_cons (pv 5) (pa_cons (pv 6) (pa_cons (pv 7) pa_nil)))) pa_nil))))))))) (pss_one (ps_ret (pe_callTy call_tuple_of rfl (T.free 62) (by decide +kernel) (pa_cons (pv 3) pa_nil))))))), ?_⟩
  obtain ⟨_, b, c, rfl, hB, k⟩ := h
  refine ⟨_, rfl, rfl, b, c, rfl, hB, fun hp hs H1 k1 B1 hpn hH1 => ?_⟩
  have nH : hp ≠ b := (hB.ne hpn).1
  refine ⟨Nat.zero_le _, fun p hpp => ?_⟩
  have nB := B1.ne hpp
  refine ⟨_, rfl, _, rfl, _, _, rfl, rfl, rfl, b, c, _, rfl, B1.new hpp, by decide, by decide, fun n H2 k2 B2 n0 n1 => ⟨_, rfl, by omega, by omega, ?_⟩⟩
  have kk2 := (k1.newT (o := .lst []) hpp).trans k2
  have hp2 := k2 _ _ nB.1 upd_same
  have hpH : H p = none := by
    cases e : H p with
    | none => rfl
    | some u => rw [k1 p u nB.1 e] at hpp; cases hpp
  have k12 := (Kp.new (b := b) (o := .lst []) hpp).trans k2
  have hH2 := hH1.keep k12 B1.nt.1 nH
  refine for_it (wk_rng n.toNat) (fun i σ H3 => ∃ (u4 u5 u6 u7 : Option V) (ss : List Sc) (xs : List V), σ = [some (.ref b), some (.int 4), some (.ref hp), some (.ref p), u4, u5, u6, u7, none] ∧ Kp b H1 H3 ∧ Bx b c H3 ∧ Hds H3 hp hs ∧ H3 p = some (.lst xs) ∧ DtAll H3 xs (ss.map dC) ∧ (∀ s ∈ ss, sOkD hs s) ∧ ss.length ≤ i) ?_ (fun _ _ _ _ _ => trivial) ?_ ?_
  · exact ⟨none, none, none, none, [], [], rfl, k12, B2, hH2, hp2, .nil, by simp, by simp⟩
  · rintro i x σ H3 H4 hi ⟨u4, u5, u6, u7, ss, xs, rfl, k3, B3, hH3, hp3, dx3, hok, hl⟩ ⟨rfl, rfl⟩
    refine ⟨_, rfl, sz_ok (by simp), fun p1 hp1 => ?_⟩
    refine ⟨_, rfl, rfl, b, c, 3, rfl, B3.new hp1, by decide, by decide, fun r H5 k5 B5 r0 r1 => ?_⟩
    obtain ⟨m, hm, em⟩ := pickI (xs := [1, 3, 7]) r0 r1
    refine ⟨p1, _, _, _, rfl, rfl, SqL.of (k5 _ _ (B3.ne hp1).1 upd_same), em, ?_⟩
    have m0 : 0 < m ∧ m ≤ 7 := by
      simp at hm
      omega
    refine ⟨rfl, b, c, m, rfl, B5, m0.1, by omega, fun q H6 k6 B6 q0 q1 => ⟨_, rfl, by omega, by omega, fun D hD => ?_⟩⟩
    have k46 := ((Kp.new (b := b) (o := .lst [.int 1, .int 3, .int 7]) hp1).trans k5).trans k6
    refine lc_bx (wk_rng _) (fun _ v => ∃ l, (sOk l ∧ l.length ≤ 40) ∧ v = vS l) hD B6 (fun _ _ => trivial) (by omega) (fun _ _ _ _ h => h) (fun j x H7 H8 Q1 hj k7 B7 y q => ?_) (fun H7 vs k7 B7 hv hvl hA => ?_)
    · obtain ⟨rfl, rfl⟩ := y
      exact ⟨rfl, _, rfl, rfl, b, c, rfl, B7, fun l H9 k9 B9 ol ll => q _ _ k9 B9 ⟨l, ⟨ol, ll⟩, rfl⟩⟩
    · obtain ⟨ps, h1, h2, rfl⟩ := collect (f := vS) (P := fun l => sOk l ∧ l.length ≤ 40) vs fun i v e => hA i v e
      rw [List.length_map] at hvl
      refine ⟨_, _, rfl, .inl ⟨SqL.of hv, fun t1 ht1 => ?_⟩⟩
      refine ⟨Nat.zero_le _, fun t2 ht2 => ?_⟩
      have kx : Kp b H4 (upd (upd H7 t1 (.tup (ps.map vS))) t2 (.tup [])) := ((k46.trans k7).newT ht1).newT ht2
      have Bx2 := (B7.new (o := .tup (ps.map vS)) ht1).new (o := .tup []) ht2
      have n12 : t1 ≠ t2 := fun z => by rw [← z, upd_same] at ht2; cases ht2
      have nt1 : t1 ≠ b := (B7.ne ht1).1
      have ht1' : upd (upd H7 t1 (.tup (ps.map vS))) t2 (.tup []) t1 = some (.tup (ps.map vS)) := by rw [upd_ne n12, upd_same]
      refine ⟨fun σ' H' => ∃ (ho : Option Hd) (cd : List Ln) (hv cv : V), σ' = [some (.ref b), some (.int 4), some (.ref hp), some (.ref p), some (.int (0 + (i : Int))), some (.ref t1), some hv, some cv, none] ∧ Kp b (upd (upd H7 t1 (.tup (ps.map vS))) t2 (.tup [])) H' ∧ Bx b c H' ∧ Dt H' hv (dO ho) ∧ Dt H' cv (.tuple (cd.map dL)) ∧ (ho = none → cd = []) ∧ (∀ h, ho = some h → h ∈ hs) ∧ (∀ u ∈ cd, lOk u ∧ (lnTxt u).length ≤ 100) ∧ cd.length ≤ 8, ?_, ?_⟩
      · have hHx := hH3.keep kx B3.nt.1 nH
        obtain ⟨⟨ys, hy, dy⟩, hok', hnm, hlen⟩ := id hHx
        have stay : ∀ H', Kp b (upd (upd H7 t1 (.tup (ps.map vS))) t2 (.tup [])) H' → Bx b c H' → ∃ (ho : Option Hd) (cd : List Ln) (hv cv : V), [some (V.ref b), some (.int 4), some (.ref hp), some (.ref p), some (.int (0 + (i : Int))), some (.ref t1), some .non, some (.ref t2), none] = [some (.ref b), some (.int 4), some (.ref hp), some (.ref p), some (.int (0 + (i : Int))), some (.ref t1), some hv, some cv, none] ∧ Kp b (upd (upd H7 t1 (.tup (ps.map vS))) t2 (.tup [])) H' ∧ Bx b c H' ∧ Dt H' hv (dO ho) ∧ Dt H' cv (.tuple (cd.map dL)) ∧ (ho = none → cd = []) ∧ (∀ h, ho = some h → h ∈ hs) ∧ (∀ u ∈ cd, lOk u ∧ (lnTxt u).length ≤ 100) ∧ cd.length ≤ 8 :=
          fun H' k B => ⟨none, [], .non, .ref t2, rfl, k, B, .non, .tup (k _ _ (B7.new (o := .tup (ps.map vS)) ht1 |>.ne ht2).1 upd_same) .nil, fun _ => rfl, (fun h e => by cases e), by simp, by simp⟩
        refine ⟨_, rfl, _, _, rfl, .inl (SqL.of hy), _, _, rfl, rfl, _, rfl, ?_⟩
        refine iteB (fun e => ?_) (fun _ => iteN rfl (stay _ (Kp.refl _ _) Bx2))
        have e : (0 : Int) < (ys.length : Int) := of_decide_eq_true e
        refine ⟨_, rfl, rfl, b, c, 5, rfl, Bx2, by decide, by decide, fun r H8 k8 B8 r0 r1 => ⟨_, _, rfl, rfl, _, rfl, ?_⟩⟩
        refine iteB (fun e2 => ?_) (fun _ => stay _ k8 B8)
        have hy8 := k8 _ _ nH hy
        have dy8 := DtAll.mono (k8.kt Bx2.nt.1) _ _ dy
        have hyl := dy.map_len
        refine ⟨_, rfl, _, rfl, _, rfl, _, _, rfl, .inl (SqL.of hy8), rfl, b, c, _, rfl, B8, e, by omega, fun j H9 k9 B9 j0 j1 => ?_⟩
        have hy9 := k9 _ _ nH hy8
        have dy9 := DtAll.mono (k9.kt B8.nt.1) _ _ dy8
        obtain ⟨jn, rfl⟩ : ∃ jn : Nat, j = jn := ⟨j.toNat, by omega⟩
        have hjn : jn < ys.length := by omega
        obtain ⟨o, ho, hoj, d⟩ := dy9.getD hjn
        have hat : atI ys ((jn : Nat) : Int) = some (ys.getD jn .non) := atI_nat (getD_lt _ hjn)
        refine ⟨hp, _, _, _, rfl, rfl, SqL.of hy9, hat, ?_⟩
        refine ⟨_, rfl, sz_ok (by simp), fun p2 hp2 => ?_⟩
        refine ⟨_, rfl, rfl, b, c, 3, rfl, B9.new hp2, by decide, by decide, fun r H10 k10 B10 r0 r1 => ?_⟩
        obtain ⟨m2, hm2, em2⟩ := pickI (xs := [3, 4, 9]) r0 r1
        refine ⟨p2, _, _, _, rfl, rfl, SqL.of (k10 _ _ (B9.ne hp2).1 upd_same), em2, ?_⟩
        have m20 : 0 < m2 ∧ m2 ≤ 9 := by
          simp at hm2
          omega
        refine ⟨rfl, b, c, m2, rfl, B10, m20.1, by omega, fun q2 H11 k11 B11 q0 q1 => ⟨_, rfl, by omega, by omega, fun D hD => ?_⟩⟩
        have k911 := ((Kp.new (b := b) (o := .lst [.int 3, .int 4, .int 9]) hp2).trans k10).trans k11
        have kx11 := (k8.trans k9).trans k911
        have hH11 := hHx.keep kx11 Bx2.nt.1 nH
        refine lc_bx (wk_rng _) (fun H v => ∃ u, (lOk u ∧ (lnTxt u).length ≤ 100) ∧ Dt H v (dL u)) hD B11 (fun _ _ => trivial) (by omega) (fun _ _ _ k ⟨u, h1, h2⟩ => ⟨u, h1, Dt.mono k _ _ h2⟩) (fun j x H12 H13 Q1 hj k12' B12 y q => ?_) (fun H12 ws k12' B12 hw hwl hA => ?_)
        · obtain ⟨rfl, rfl⟩ := y
          exact ⟨rfl, _, rfl, _, rfl, rfl, b, c, hp, hs, rfl, B12, nH, hH11.keep k12' B11.nt.1 nH, fun v u H14 k14 B14 dv ou lu => q _ _ k14 B14 ⟨u, ⟨ou, lu⟩, dv⟩⟩
        · obtain ⟨cd, c1, c2, c3⟩ := collectD (f := dL) (P := fun u => lOk u ∧ (lnTxt u).length ≤ 100) ws fun i v e => hA i v e
          refine ⟨_, _, rfl, .inl ⟨SqL.of hw, fun t4 ht4 => ?_⟩⟩
          have k12a := (k911.trans k12').newT (o := .tup ws) ht4
          exact ⟨some o, cd, _, _, rfl, (kx11.trans k12').newT ht4, B12.new ht4, Dt.mono (k12a.kt B9.nt.1) _ _ d, .tup upd_same (DtAll.mono (KT.new ht4) _ _ c3), (fun z => by cases z), (fun h z => by cases z; exact ho), c2, by omega⟩
      · rintro σ5 H8 ⟨ho, cd, hv', cv, rfl, k8, B8, d1, d2, e1, e2, e3, e4⟩
        have k48 := kx.trans k8
        obtain ⟨qa, qs, rfl, hqa, dqs⟩ := d2.tup_inv
        have hp8 := k48 _ _ nB.1 hp3
        have dx8 := DtAll.mono (k48.kt B3.nt.1) _ _ dx3
        have ht8 := k8 _ _ nt1 ht1'
        have hxl := dx3.map_len
        refine ⟨_, rfl, .inl ⟨rfl, _, SqL.of hp8⟩, _, rfl, _, rfl, _, rfl, sz_ok (by simp), fun t3 ht3 => ?_⟩
        have s3 := sm_new (o := .tup [.ref t1, hv', .ref qa]) ht3
        have hp9 := s3 _ _ hp8
        have n3p : t3 ≠ p := fun z => by rw [z, hp8] at ht3; cases ht3
        refine ⟨p, xs, _, rfl, rfl, hp9, sz_lt (by omega), ?_⟩
        have ktp : KT H8 (upd (upd H8 t3 (.tup [.ref t1, hv', .ref qa])) p (.lst (xs ++ [.ref t3]))) := (sm_kt s3).trans (KT.up (NT.lst hp9))
        have hsd : sOkD hs ⟨ps, ho, cd⟩ := by
          have hho : ∀ h, ho = some h → hOk h := fun h z => hH1.ok h (e2 h z)
          exact ⟨⟨fun l hl => (h2 l hl).1, e1, hho, fun u hu => (e3 u hu).1⟩, e2, sec_small (fun l hl => (h2 l hl).2) (by show ps.length ≤ 6; omega) hho (fun u hu => (e3 u hu).2) e4⟩
        refine ⟨_, _, _, _, ss ++ [⟨ps, ho, cd⟩], xs ++ [.ref t3], rfl, ((k3.trans k48).newT ht3).mut hpp, (B8.new ht3).at_ nB.1 nB.2, ?_, upd_same, dx8.snocU ktp ?_, fun s hs' => ?_, by simp; omega⟩
        · have kq : Kp p H8 (upd (upd H8 t3 (.tup [.ref t1, hv', .ref qa])) p (.lst (xs ++ [.ref t3]))) := (Kp.new ht3).trans Kp.self
          have hhp : hp ≠ p := fun z => by
            obtain ⟨zs, q1, _⟩ := hH1.ex
            rw [z, hpp] at q1
            cases q1
          exact (hH3.keep k48 B3.nt.1 nH).keep kq (NT.lst hp8) hhp
        · refine Dt.sec_mk (s := ⟨ps, ho, cd⟩) (p := t1) (q := qa) (hv := hv') (cs := qs) ?_ (ktp _ _ ht8) (Dt.mono ktp _ _ d1) (ktp _ _ hqa) (DtAll.mono ktp _ _ dqs)
          rw [upd_ne n3p, upd_same]
        · rcases List.mem_append.mp hs' with z | z
          · exact hok s z
          · rw [List.mem_singleton.mp z]
            exact hsd
  · rintro σ H3 ⟨u4, u5, u6, u7, ss, xs, rfl, k3, B3, hH3, hp3, dx3, hok, hl⟩
    refine ⟨_, rfl, _, _, rfl, .inl ⟨SqL.of hp3, fun t ht => ?_⟩⟩
    refine k _ ss _ ((k1.trans k3).newT ht) (B3.new ht) (.tup upd_same (DtAll.mono (KT.new ht) _ _ dx3)) (webOk_of hH1.nd hok) ?_
    have := web_le ss 0 fun s hs => (hok s hs).2.2
    have h4 : ss.length * 1200 ≤ 4 * 1200 := Nat.mul_le_mul_right _ (by omega)
    show (txt (rowsFrom 0 ss)).length ≤ 5000
    omega
end
end Kn

set_option maxHeartbeats 4000000
/-! The law's own written form. -/
namespace Kn
open PySem PySem.Spec PyProof.Rows L2 KnR
section
variable {P : Program} {w : World} {K : PySem.W.Frag} {mg : Str → Option Value} {base : Heap}
theorem sc_law_head : FnScope ["_law_head_here"] ["_law_head_here"] (defScope s_law_head) := ⟨rfl, rfl, rfl, by decide +kernel, rfl, by decide +kernel, by decide +kernel⟩
def sp_law_head (K : PySem.W.Frag) : Sp := fun vs H Q _ => vs.length = 1 ∧ ∃ x o, vs = [x] ∧ Dt H x (dH o) ∧ (hdTxt o).length ≤ 1000000 ∧ ∀ H', Same H H' → Q (vS (hdTxt o)) H'
theorem ok_law_head (T : Tx K mg) : Fn P w K mg base CX0 1 ("_law_head", none) ["_law_head_here"] (sp_law_head K) := by
  refine Fn.mk0 (d := d_law_head) T 42 rfl rfl rfl sc_law_head (fun _ _ _ _ _ _ us hl => match us, hl with | [_], _ => rfl) (fun vs H Q E h => h.1) (fun cdv A outer s H vs Q E hr h => ?_)
  have hu := hu_of hr
  refine ⟨_, (pss_one (ps_ret (pe_op op_add_str (pe_op op_add_str (pe_op op_add_str (pe_op op_add_str (pe_ix ix_list (pe_lst (pa_cons pe_str (pa_cons pe_str pa_nil))) (pe_callTy call_int1 rfl (T.free 56) (by decide +kernel) (pa_cons (pe_ix ix_tup (pv 0) pe_int (fun _ _ => rfl)) pa_nil)) (fun _ _ => rfl)) (pe_ix ix_tup (pv 0) pe_int (fun _ _ => rfl))) pe_str) (pe_join pe_str (pe_callTy call_list_of rfl (T.free 67) (by decide +kernel) (pa_cons (pe_ix ix_tup (pv 0) pe_int (fun _ _ => rfl)) pa_nil)))) pe_str))), ?_⟩
  obtain ⟨_, x, o, rfl, dt, hn, k⟩ := h
  obtain ⟨a, b, rfl, ha, hb⟩ := dt.head_inv
  rw [hd_len] at hn
  have fin : ∀ d : Nat, d = (if o.isf then 42 else 61) → [d] ++ o.name ++ [40] ++ joinC o.params ++ [41] = hdTxt o := fun d e => by
    unfold hdTxt
    rw [← e]
    simp
  refine ⟨sz_ok (by simp), fun p hp => ?_⟩
  have ha1 := sm_new (o := .lst [.str "=", .str "*"]) hp _ _ ha
  have hb1 := sm_new (o := .lst [.str "=", .str "*"]) hp _ _ hb
  refine ⟨_, rfl, _, _, _, _, rfl, rfl, SqT.of ha1, rfl, .inr ⟨_, rfl, p, _, _, _, rfl, rfl, SqL.of upd_same, ifs _, ?_⟩⟩
  cases e : o.isf with
  | true =>
    have f := fin 42 (by rw [e]; rfl)
    rw [if_pos rfl]
    refine ⟨_, rfl, _, _, _, _, rfl, rfl, SqT.of ha1, rfl, mkS [42], mkS o.name, cS lt_star, rfl, addOk (by simp; omega), mkS ([42] ++ o.name), mkS [40], ap _ _, cS lt_lp, addOk (by simp; omega), ⟨_, rfl⟩, _, rfl, _, _, _, _, rfl, rfl, SqT.of ha1, rfl, _, _, rfl, .inr (SqT.of hb1), fun p2 hp2 => ?_⟩
    refine ⟨_, p2, o.params.map mkS, rfl, rfl, .inl (sqL upd_same), joinOk (by omega), ?_⟩
    refine ⟨mkS ([42] ++ o.name ++ [40]), mkS (joinC o.params), ap _ _, cS (join_comma _), addOk (by simp; omega), mkS ([42] ++ o.name ++ [40] ++ joinC o.params), mkS [41], ap _ _, cS lt_rp, addOk (by simp; omega), ?_⟩
    rw [mkS_app, f]
    exact k _ ((sm_new hp).trans (sm_new hp2))
  | false =>
    have f := fin 61 (by rw [e]; rfl)
    rw [if_neg Bool.false_ne_true]
    refine ⟨_, rfl, _, _, _, _, rfl, rfl, SqT.of ha1, rfl, mkS [61], mkS o.name, cS lt_eq, rfl, addOk (by simp; omega), mkS ([61] ++ o.name), mkS [40], ap _ _, cS lt_lp, addOk (by simp; omega), ⟨_, rfl⟩, _, rfl, _, _, _, _, rfl, rfl, SqT.of ha1, rfl, _, _, rfl, .inr (SqT.of hb1), fun p2 hp2 => ?_⟩
    refine ⟨_, p2, o.params.map mkS, rfl, rfl, .inl (sqL upd_same), joinOk (by omega), ?_⟩
    refine ⟨mkS ([61] ++ o.name ++ [40]), mkS (joinC o.params), ap _ _, cS (join_comma _), addOk (by simp; omega), mkS ([61] ++ o.name ++ [40] ++ joinC o.params), mkS [41], ap _ _, cS lt_rp, addOk (by simp; omega), ?_⟩
    rw [mkS_app, f]
    exact k _ ((sm_new hp).trans (sm_new hp2))
theorem sc_law_coded : FnScope ["_law_line_here"] ["_law_line_here"] (defScope s_law_coded) := ⟨rfl, rfl, rfl, by decide +kernel, rfl, by decide +kernel, by decide +kernel⟩
def sp_law_coded (K : PySem.W.Frag) : Sp := fun vs H Q _ => vs.length = 1 ∧ ∃ x u, vs = [x] ∧ Dt H x (dL u) ∧ iOk u ∧ (lnTxt u).length ≤ 1000000 ∧ ∀ H', Same H H' → Q (vS (lnTxt u)) H'
theorem ok_law_coded (T : Tx K mg) : Fn P w K mg base CX0 1 ("_law_coded", none) ["_law_line_here"] (sp_law_coded K) := by
  refine Fn.mk0 (d := d_law_coded) T 43 rfl rfl rfl sc_law_coded (fun _ _ _ _ _ _ us hl => match us, hl with | [_], _ => rfl) (fun vs H Q E h => h.1) (fun cdv A outer s H vs Q E hr h => ?_)
  have hu := hu_of hr
  refine ⟨_, (pss_cons (ps_if (pt_cmpR op_eq (pe_ix ix_tup (pv 0) pe_int (fun _ _ => rfl)) pe_str (nomark _)) (pss_one (ps_ret (pe_op op_add_str pe_str (pe_ix ix_tup (pv 0) pe_int (fun _ _ => rfl))))) pss_nil) (pss_one (ps_ret (pe_op op_add_str (pe_op op_add_str (pe_op op_add_str (pe_op op_add_str (pe_op op_add_str pe_str (pe_op op_mulS pe_str (pe_ix ix_tup (pv 0) pe_int (fun _ _ => rfl)))) (pe_ix ix_tup (pv 0) pe_int (fun _ _ => rfl))) pe_str) (pe_join pe_str (pe_callTy call_list_of rfl (T.free 67) (by decide +kernel) (pa_cons (pe_ix ix_tup (pv 0) pe_int (fun _ _ => rfl)) pa_nil)))) pe_str)))), ?_⟩
  obtain ⟨_, x, u, rfl, dt, o, hn, k⟩ := h
  cases u with
  | plain s =>
    obtain ⟨a, rfl, ha⟩ := dt.plain_inv
    have hl : (lnTxt (.plain s)).length = s.length + 1 := by simp [lnTxt]
    refine ⟨_, rfl, _, _, _, _, rfl, rfl, SqT.of ha, rfl, rfl, _, rfl, iteY (decide_eq_true rfl) ?_⟩
    refine ⟨_, rfl, _, _, _, _, rfl, rfl, SqT.of ha, rfl, mkS [124], mkS s, cS lt_bar, rfl, addOk (by simp; omega), ?_⟩
    rw [mkS_app]
    exact k _ (Same.refl _)
  | use i n as =>
    obtain ⟨a, b, rfl, ha, hb⟩ := dt.use_inv
    have o : i ≤ 20 := o
    have hl := use_len i n as
    refine ⟨_, rfl, _, _, _, _, rfl, rfl, SqT.of ha, rfl, rfl, _, rfl, iteN s_plain_use ?_⟩
    refine ⟨_, rfl, _, _, _, _, rfl, rfl, SqT.of ha, rfl, (" " : Str), (i : Nat), rfl, rfl, by omega, by omega, by decide +kernel, ?_⟩
    refine ⟨mkS [62], mkS (List.replicate i 32), cS lt_gt, cS (mul_blank i), addOk (by simp; omega), ?_⟩
    refine ⟨_, rfl, _, _, _, _, rfl, rfl, SqT.of ha, rfl, mkS ([62] ++ List.replicate i 32), mkS n, ap _ _, rfl, addOk (by simp; omega), ?_⟩
    refine ⟨mkS ([62] ++ List.replicate i 32 ++ n), mkS [40], ap _ _, cS lt_lp, addOk (by simp; omega), ⟨_, rfl⟩, ?_⟩
    refine ⟨_, rfl, _, _, _, _, rfl, rfl, SqT.of ha, rfl, _, _, rfl, .inr (SqT.of hb), fun p2 hp2 => ?_⟩
    refine ⟨_, p2, as.map mkS, rfl, rfl, .inl (sqL upd_same), joinOk (by omega), ?_⟩
    refine ⟨mkS ([62] ++ List.replicate i 32 ++ n ++ [40]), mkS (joinC as), ap _ _, cS (join_comma _), addOk (by simp; omega), mkS ([62] ++ List.replicate i 32 ++ n ++ [40] ++ joinC as), mkS [41], ap _ _, cS lt_rp, addOk (by simp; omega), ?_⟩
    have f : [62] ++ List.replicate i 32 ++ n ++ [40] ++ joinC as ++ [41] = lnTxt (.use i n as) := by simp [lnTxt]
    rw [mkS_app, f]
    exact k _ (sm_new hp2)
theorem prose_take (k : Nat) {ps : List Ws} {j : Nat} {p : Ws} (h : ps[j]? = some p) : proseRows k 0 (ps.take (j + 1)) = proseRows k 0 (ps.take j) ++ [⟨k, 1, j, 46 :: p, none⟩] := by
  have hj := (List.getElem?_eq_some_iff.mp h).1
  rw [List.take_succ, h]
  have e := proseRows_snoc k p (ps.take j) 0
  rw [List.length_take, Nat.min_eq_left (by omega), Nat.zero_add] at e
  exact e
theorem code_take (k : Nat) {ps : List Ln} {j : Nat} {p : Ln} (h : ps[j]? = some p) : codeRows k 0 (ps.take (j + 1)) = codeRows k 0 (ps.take j) ++ [⟨k, 3, j, lnTxt p, none⟩] := by
  have hj := (List.getElem?_eq_some_iff.mp h).1
  rw [List.take_succ, h]
  have e := codeRows_snoc k p (ps.take j) 0
  rw [List.length_take, Nat.min_eq_left (by omega), Nat.zero_add] at e
  exact e
theorem sc_law_rows : FnScope ["_law_web_here", "_law_rows_here", "_law_k", "_law_j"] ["_law_web_here"] (defScope s_law_rows) := ⟨rfl, rfl, rfl, by decide +kernel, rfl, by decide +kernel, by decide +kernel⟩
def sp_law_rows (K : PySem.W.Frag) : Sp := sp_rows_of K
theorem ok_law_rows (T : Tx K mg) : Fn P w K mg base CX0 2 ("_law_rows", none) ["_law_web_here"] (sp_law_rows K) := by
  refine Fn.mk0 (d := d_law_rows) T 44 rfl rfl rfl sc_law_rows (fun _ _ _ _ _ _ us hl => match us, hl with | [_], _ => rfl) (fun vs H Q E h => h.1) (fun cdv A outer s H vs Q E hr h => ?_)
  have hu := hu_of hr
  have G_law_coded : Fn P w K mg base CX0 1 ("_law_coded", none) ["_law_line_here"] (sp_law_coded K) := ok_law_coded T
  have G_law_head : Fn P w K mg base CX0 1 ("_law_head", none) ["_law_head_here"] (sp_law_head K) := ok_law_head T
  refine ⟨_, (pss_cons (ps_set (i := 1) sc_law_rows.nd rfl (Or.inl rfl) (pe_lst pa_nil)) (pss_cons (ps_for PassesOwn.never rfl (pi_range1 rfl (T.free 66) (pa_cons (pe_callB call_len_seq rfl (T.free 59) (by decide +kernel) (pa_cons (pv 0) pa_nil)) pa_nil)) (pg_name (i := 2) sc_law_rows.nd rfl (Or.inl rfl)) (pss_cons (ps_expr (pe_bm PySem.F.plainAttrs_list PySem.F.slot_list_append PySem.F.type_list_append mt_append (pv 1) (pa_cons (pe_tup (pa_cons (pv 2) (pa_cons pe_str (pa_cons pe_int (pa_cons pe_str pa_nil))))) pa_nil))) (pss_cons (ps_for PassesOwn.never rfl (pi_range1 rfl (T.free 66) (pa_cons (pe_callB call_len_seq rfl (T.free 59) (by decide +kernel) (pa_cons (pe_ix ix_tup (pe_ix ix_tup (pv 0) (pv 2) (fun _ _ => rfl)) pe_int (fun _ _ => rfl)) pa_nil)) pa_nil)) (pg_name (i := 3) sc_law_rows.nd rfl (Or.inl rfl)) (pss_one (ps_expr (pe_bm PySem.F.plainAttrs_list PySem.F.slot_list_append PySem.F.type_list_append mt_append (pv 1) (pa_cons (pe_tup (pa_cons (pv 2) (pa_cons pe_str (pa_cons (pv 3) (pa_cons (pe_op op_add_str pe_str (pe_ix ix_tup (pe_ix ix_tup (pe_ix ix_tup (pv 0) (pv 2) (fun _ _ => rfl)) pe_int (fun _ _ => rfl)) (pv 3) (fun _ _ => rfl))) pa_nil))))) pa_nil))))) (C8.pss_cut (ps_if (pt_cmpR op_notN (pe_ix ix_tup (pe_ix ix_tup (pv 0) (pv 2) (fun _ _ => rfl)) pe_int (fun _ _ => rfl)) pe_non (nomark _)) (pss_one (ps_expr (pe_bm PySem.F.plainAttrs_list PySem.F.slot_list_append PySem.F.type_list_append mt_append (pv 1) (pa_cons (pe_tup (pa_cons (pv 2) (pa_cons pe_str (pa_cons pe_int (pa_cons (pc G_law_head (hr.mono (by decide)) rfl (T.glo 29) pass0 (pa_cons (pe_ix ix_tup (pe_ix ix_tup (pv 0) (pv 2) (fun _ _ => rfl)) pe_int (fun _ _ => rfl)) pa_nil)) pa_nil))))) pa_nil)))) pss_nil) (pss_one (ps_for PassesOwn.never rfl (pi_range1 rfl (T.free 66) (pa_cons (pe_callB call_len_seq rfl (T.free 59) (by decide +kernel) (pa_cons (pe_ix ix_tup (pe_ix ix_tup (pv 0) (pv 2) (fun _ _ => rfl)) pe_int (fun _ _ => rfl)) pa_nil)) pa_nil)) (pg_name (i := 3) sc_law_rows.nd rfl (Or.inl rfl)) (pss_one (ps_expr (pe_bm PySem.F.plainAttrs_list PySem.F.slot_list_append PySem.F.type_list_append mt_append (pv 1) (pa_cons (pe_tup (pa_cons (pv 2) (pa_cons pe_str (pa_cons (pv 3) (pa_cons (pc G_law_coded (hr.mono (by decide)) rfl (T.glo 30) pass0 (pa_cons (pe_ix ix_tup (pe_ix ix_tup (pe_ix ix_tup (pv 0) (pv 2) (fun _ _ => rfl)) pe_int (fun _ _ => rfl)) (pv 3) (fun _ _ => rfl)) pa_nil)) pa_nil))))) pa_nil)))))))))) (pss_one (ps_ret (pv 1))))), ?_⟩
  obtain ⟨_, x, ss, rfl, dt, hi0, hn, k⟩ := h
  obtain ⟨a, xs, rfl, ha, hxs⟩ := dt.tup_inv
  have hn : (txt (rowsFrom 0 ss)).length ≤ 1000000 := hn
  have hwl := web_len ss 0
  have hrl : (rowsOf ss).length ≤ 1000000 := Nat.le_trans (txt_ge (rowsFrom 0 ss)) hn
  have hxl := hxs.map_len
  refine ⟨Nat.zero_le _, fun p hp => ?_⟩
  refine ⟨_, rfl, _, _, rfl, .inr (SqT.of (sm_new hp _ _ ha)), _, rfl, by omega, by omega, ?_⟩
  rw [Int.toNat_natCast]
  refine for_it (wk_rng xs.length) (fun i σ H1 => ∃ (u2 u3 : Option V) (rs : List V), σ = [some (.ref a), some (.ref p), u2, u3] ∧ RowsAt H H1 p rs (rowsOf (ss.take i))) ?_ (fun _ _ _ _ _ => trivial) ?_ ?_
  · exact ⟨none, none, [], rfl, hp, sm_new hp, upd_same, .nil⟩
  · rintro i y σ H1 H2 hi ⟨u2, u3, rs, rfl, r1⟩ ⟨rfl, rfl⟩
    rw [Int.zero_add]
    obtain ⟨x0, hx0⟩ : ∃ x0, xs[i]? = some x0 := ⟨_, List.getElem?_eq_getElem hi⟩
    obtain ⟨c, hci, dc⟩ := hxs.map_get hx0
    have hc := List.mem_of_getElem? hci
    have rt := rows_take hci
    have rl := rows_take_len ss (i + 1)
    have hsec := web_sec ss 0 hc
    rw [sec_txt] at hsec
    rw [rt, List.length_append] at rl
    obtain ⟨b, p1, hv, q, cs, rfl, hb, hp1, hh, hq, hcs⟩ := dc.sec_inv
    have hpl := proseRows_len i c.prose 0
    have hcl := codeRows_len i c.code 0
    have hsl : (secRows i c).length = 1 + (c.prose.length + ((headRows i c.head).length + c.code.length)) := by
      unfold secRows
      rw [List.length_cons, List.length_append, List.length_append, hpl, hcl]
      omega
    have rn := r1.len
    refine ⟨_, rfl, .inl ⟨rfl, _, SqL.of r1.lst⟩, _, rfl, sz_ok (by simp), fun t1 ht1 => ?_⟩
    have hrow : rowV ⟨i, 0, 0, [64], none⟩ = [.int (i : Nat), .str "section", .int 0, .str "@"] := by
      rw [lt_at]
      rfl
    have r2 := r1.app ⟨i, 0, 0, [64], none⟩ ht1
    rw [hrow] at r2
    refine ⟨p, rs, _, rfl, rfl, (r1.up (sm_new ht1)).lst, sz_lt (by omega), ?_⟩
    have hat := atI_nat hx0
    refine ⟨_, rfl, _, rfl, _, _, _, _, rfl, rfl, SqT.of (r2.sm _ _ ha), hat, _, _, _, _, rfl, rfl, SqT.of (r2.sm _ _ hb), rfl, _, _, rfl, .inr (SqT.of (r2.sm _ _ hp1)), _, rfl, by omega, by rw [List.length_map]; omega, ?_⟩
    rw [Int.toNat_natCast, List.length_map]
    refine for_it (wk_rng c.prose.length) (fun j σ H3 => ∃ (u3 : Option V) (rs3 : List V), σ = [some (.ref a), some (.ref p), some (.int (i : Nat)), u3] ∧ RowsAt H H3 p rs3 (rowsOf (ss.take i) ++ ([⟨i, 0, 0, [64], none⟩] ++ proseRows i 0 (c.prose.take j)))) ?_ (fun _ _ _ _ _ => trivial) ?_ ?_
    · exact ⟨u3, _, rfl, by simpa [proseRows] using r2⟩
    · rintro j y σ H3 H4 hj ⟨v3, rs3, rfl, r3⟩ ⟨rfl, rfl⟩
      rw [Int.zero_add]
      obtain ⟨s, hs⟩ : ∃ s, c.prose[j]? = some s := ⟨_, List.getElem?_eq_getElem hj⟩
      have hsm := prose_mem 0 0 (List.mem_of_getElem? hs)
      have hat2 : atI (c.prose.map vS) ((j : Nat) : Int) = some (vS s) := atI_nat (by rw [List.getElem?_map, hs]; rfl)
      have rn3 := r3.len
      rw [List.length_append, List.length_append, proseRows_len, List.length_take] at rn3
      refine ⟨_, rfl, .inl ⟨rfl, _, SqL.of r3.lst⟩, _, rfl, _, rfl, ?_⟩
      refine ⟨_, rfl, _, rfl, _, _, _, _, rfl, rfl, SqT.of (r3.sm _ _ ha), hat, _, _, _, _, rfl, rfl, SqT.of (r3.sm _ _ hb), rfl, _, rfl, _, _, _, _, rfl, rfl, SqT.of (r3.sm _ _ hp1), hat2, mkS [46], mkS s, cS lt_dot, rfl, addOk (by simp; omega), sz_ok (by simp), fun t3 ht3 => ?_⟩
      rw [mkS_app]
      have r4 := r3.app ⟨i, 1, j, 46 :: s, none⟩ ht3
      refine ⟨p, _, _, rfl, rfl, (r3.up (sm_new ht3)).lst, sz_lt (by simp at rn3; omega), some (.int (j : Nat)), rs3 ++ [.ref t3], rfl, ?_⟩
      rw [prose_take i hs]
      simp only [List.append_assoc] at r4 ⊢
      exact r4
    · rintro σ H3 ⟨v3, rs3, rfl, r3⟩
      rw [List.take_length] at r3
      have rn3 := r3.len
      rw [List.length_append, List.length_append, proseRows_len] at rn3
      simp only [List.length_cons, List.length_nil] at rn3
      refine ⟨fun σ5 H5 => ∃ v3 rs5, σ5 = [some (.ref a), some (.ref p), some (.int (i : Nat)), v3] ∧ RowsAt H H5 p rs5 (rowsOf (ss.take i) ++ ([⟨i, 0, 0, [64], none⟩] ++ proseRows i 0 c.prose ++ headRows i c.head)), ?_, ?_⟩
      · refine ⟨_, rfl, _, rfl, _, _, _, _, rfl, rfl, SqT.of (r3.sm _ _ ha), hat, _, _, _, _, rfl, rfl, SqT.of (r3.sm _ _ hb), rfl, rfl, _, rfl, ?_⟩
        cases eh : c.head with
        | none =>
          rw [eh] at hh
          obtain rfl := hh.none_inv
          refine iteN rfl ⟨v3, rs3, rfl, by simpa [headRows] using r3⟩
        | some o =>
          rw [eh] at hh hsec
          obtain ⟨b1, b2, rfl, h1, h2⟩ := Dt.head_inv hh
          refine iteY rfl ?_
          have hlh : (hdTxt o).length < (txt (headRows i (some o))).length := txt_mem (r := ⟨i, 2, 0, hdTxt o, some o⟩) (by simp [headRows])
          have hlh2 : (txt (headRows i (some o))).length = (txt (headRows 0 (some o))).length := by simp [headRows, txt_cons, txt_nil]
          refine ⟨_, rfl, .inl ⟨rfl, _, SqL.of r3.lst⟩, _, rfl, ?_⟩
          refine ⟨_, rfl, _, rfl, _, _, _, _, rfl, rfl, SqT.of (r3.sm _ _ ha), hat, _, _, _, _, rfl, rfl, SqT.of (r3.sm _ _ hb), rfl, rfl, _, o, rfl, Dt.mono (sm_kt r3.sm) _ _ hh, by omega, fun H6 s6 => ⟨sz_ok (by simp), fun t3 ht3 => ?_⟩⟩
          have r6 := r3.up s6
          have r4 := r6.app ⟨i, 2, 0, hdTxt o, some o⟩ ht3
          refine ⟨p, _, _, rfl, rfl, (r6.up (sm_new ht3)).lst, sz_lt (by omega), v3, rs3 ++ [.ref t3], rfl, ?_⟩
          simp only [List.append_assoc, headRows] at r4 ⊢
          exact r4
      · rintro σ5 H5 ⟨w3, rs5, rfl, r5⟩
        refine ⟨_, rfl, _, rfl, _, _, _, _, rfl, rfl, SqT.of (r5.sm _ _ ha), hat, _, _, _, _, rfl, rfl, SqT.of (r5.sm _ _ hb), rfl, _, _, rfl, .inr (SqT.of (r5.sm _ _ hq)), _, rfl, by omega, by rw [hcs.map_len]; omega, ?_⟩
        rw [Int.toNat_natCast, hcs.map_len]
        refine for_it (wk_rng c.code.length) (fun j σ H6 => ∃ (u3 : Option V) (rs6 : List V), σ = [some (.ref a), some (.ref p), some (.int (i : Nat)), u3] ∧ RowsAt H H6 p rs6 (rowsOf (ss.take i) ++ ([⟨i, 0, 0, [64], none⟩] ++ proseRows i 0 c.prose ++ headRows i c.head ++ codeRows i 0 (c.code.take j)))) ?_ (fun _ _ _ _ _ => trivial) ?_ ?_
        · exact ⟨w3, _, rfl, by simpa [codeRows] using r5⟩
        · rintro j y σ H6 H7 hj ⟨v6, rs6, rfl, r6⟩ ⟨rfl, rfl⟩
          rw [Int.zero_add]
          obtain ⟨u, hu0⟩ : ∃ u, c.code[j]? = some u := ⟨_, List.getElem?_eq_getElem hj⟩
          obtain ⟨uv, huv, du⟩ := hcs.map_at hu0
          have hum := List.mem_of_getElem? hu0
          have hcm := code_mem 0 0 hum
          have rn6 := r6.len
          rw [List.length_append, List.length_append, List.length_append, List.length_append, proseRows_len, codeRows_len, List.length_take] at rn6
          simp only [List.length_cons, List.length_nil] at rn6
          refine ⟨_, rfl, .inl ⟨rfl, _, SqL.of r6.lst⟩, _, rfl, _, rfl, ?_⟩
          refine ⟨_, rfl, _, rfl, _, _, _, _, rfl, rfl, SqT.of (r6.sm _ _ ha), hat, _, _, _, _, rfl, rfl, SqT.of (r6.sm _ _ hb), rfl, _, rfl, _, _, _, _, rfl, rfl, SqT.of (r6.sm _ _ hq), atI_nat huv, rfl, _, u, rfl, Dt.mono (sm_kt r6.sm) _ _ du, hi0 c hc u hum, by omega, fun H8 s8 => ⟨sz_ok (by simp), fun t3 ht3 => ?_⟩⟩
          have r8 := r6.up s8
          have r4 := r8.app ⟨i, 3, j, lnTxt u, none⟩ ht3
          refine ⟨p, _, _, rfl, rfl, (r8.up (sm_new ht3)).lst, sz_lt (by omega), some (.int (j : Nat)), rs6 ++ [.ref t3], rfl, ?_⟩
          rw [code_take i hu0]
          simp only [List.append_assoc] at r4 ⊢
          exact r4
        · rintro σ H6 ⟨v6, rs6, rfl, r6⟩
          rw [List.take_length] at r6
          refine ⟨_, v6, rs6, rfl, ?_⟩
          rw [rt]
          simpa [secRows] using r6
  · rintro σ H1 ⟨u2, u3, rs, rfl, r⟩
    rw [hxs.map_len, List.take_length] at r
    exact ⟨_, rfl, k p rs H1 r⟩
theorem sc_law_text : FnScope ["_law_web_here", "_law_row"] ["_law_web_here"] (defScope s_law_text) := ⟨rfl, rfl, rfl, by decide +kernel, rfl, by decide +kernel, by decide +kernel⟩
def sp_law_text (K : PySem.W.Frag) : Sp := fun vs H Q _ => vs.length = 1 ∧ ∃ x w, vs = [x] ∧ Dt H x (dW w) ∧ wI w ∧ (webTxt w).length ≤ 1000000 ∧ ∀ H', Same H H' → Q (vS (webTxt w)) H'
theorem ok_law_text (T : Tx K mg) : Fn P w K mg base CX0 3 ("_law_text", none) ["_law_web_here"] (sp_law_text K) := by
  refine Fn.mk0 (d := d_law_text) T 55 rfl rfl rfl sc_law_text (fun _ _ _ _ _ _ us hl => match us, hl with | [_], _ => rfl) (fun vs H Q E h => h.1) (fun cdv A outer s H vs Q E hr h => ?_)
  have hu := hu_of hr
  have G_law_rows : Fn P w K mg base CX0 2 ("_law_rows", none) ["_law_web_here"] (sp_law_rows K) := ok_law_rows T
  refine ⟨_, (pss_one (ps_ret (pe_join pe_str (pe_lc (own := [("_law_row", 1)]) rfl sc_law_text.nd (pi_list (pc G_law_rows (hr.mono (by decide)) rfl (T.glo 31) pass0 (pa_cons (pv 0) pa_nil))) (blkOk_by (N := ["_law_web_here", "_law_row"]) (sc := defScope s_law_text) (by decide +kernel)) (fun _ _ _ _ _ => (pg_name (i := 1) sc_law_text.nd rfl (Or.inl rfl))) (fun _ _ _ _ _ => pts_nil) (fun _ _ _ _ _ => (pe_op op_add_str (pe_ix (ix_tupK (K := K) rfl) (pv 1) pe_int (fun _ _ => rfl)) pe_str)))))), ?_⟩
  obtain ⟨_, x, ss, rfl, dt, hi0, hn, k⟩ := h
  have hrl : (rowsOf ss).length ≤ 1000000 := Nat.le_trans (txt_ge (rowsFrom 0 ss)) hn
  have hn : (txt (rowsOf ss)).length ≤ 1000000 := hn
  refine ⟨⟨_, rfl⟩, ?_⟩
  refine ⟨_, rfl, rfl, _, ss, rfl, dt, hi0, hn, fun p rs H1 r => ⟨p, rfl, ⟨_, SqL.of r.lst⟩, fun D hD => ?_⟩⟩
  refine lc_gen (wk_lst (xs := rs)) (fun j H v => ∀ o : Rw, (rowsOf ss)[j]? = some o → v = vS (o.line ++ [10])) hD (fun _ s => SqL.of (s _ _ r.lst)) (by rw [r.len]; exact hrl) (fun _ _ _ _ _ h => h) (fun j y H2 H3 Q1 hj s e q => ?_) (fun H2 zs s hw hl hA => ?_)
  · obtain ⟨rfl, rfl⟩ := e
    obtain ⟨o, ho, hoj, d⟩ := (DtAll.mono (sm_kt s) _ _ r.dt).getD hj
    obtain ⟨a, e, ha⟩ := d.row_inv
    rw [e]
    have := txt_mem ho
    refine ⟨rfl, _, rfl, _, _, _, _, rfl, rfl, SqT.of ha, rfl, mkS o.line, mkS [10], rfl, cS lt_nl, addOk (by simp; omega), ?_⟩
    rw [mkS_app]
    refine q _ _ (Same.refl _) fun o' e' => ?_
    rw [hoj] at e'
    cases e'
    rfl
  · have ez : zs = ((rowsOf ss).map fun o : Rw => o.line ++ [10]).map vS := by
      rw [List.map_map]
      refine eq_map (by rw [hl, r.len]) fun i v y h1 h2 => hA i v h1 y h2
    rw [ez] at hw
    refine ⟨_, D, ((rowsOf ss).map fun o : Rw => o.line ++ [10]).map mkS, rfl, rfl, .inl (sqL hw), joinOk0 (ys := (rowsOf ss).map fun o : Rw => o.line ++ [10]) hn, ?_⟩
    rw [join_none]
    exact k H2 (r.sm.trans s)
end
end Kn

set_option maxHeartbeats 4000000
/-! The law's own reader, its small parts. -/
namespace Kn
open PySem PySem.Spec PyProof.Rows L2 KnR
/-- a reading of the law's: (did it, what, where) -/
def LRes {α : Type} (Q : VK) (H : Hp) (t : Ws) (G : Hp → V → α → Prop) (x : Rs α) : Prop := match x with
  | .ok (a, r) => ∀ (p : Addr) (v : V) (m : Nat) (H' : Hp), Same H H' → H' p = some (.tup [.bl true, v, .int (m : Nat)]) → At t m r → G H' v a → Q (.ref p) H'
  | .error r => ∀ (p : Addr) (v : V) (m : Nat) (H' : Hp), Same H H' → H' p = some (.tup [.bl false, v, .int (m : Nat)]) → At t m r → Q (.ref p) H'
theorem LRes.ok {α : Type} {Q : VK} {H : Hp} {t : Ws} {G : Hp → V → α → Prop} {x : Rs α} (h : LRes Q H t G x) {a : α} {r : Ws} (e : x = .ok (a, r)) :
    ∀ (p : Addr) (v : V) (m : Nat) (H' : Hp), Same H H' → H' p = some (.tup [.bl true, v, .int (m : Nat)]) → At t m r → G H' v a → Q (.ref p) H' := by subst e; exact h
theorem LRes.err {α : Type} {Q : VK} {H : Hp} {t : Ws} {G : Hp → V → α → Prop} {x : Rs α} (h : LRes Q H t G x) {r : Ws} (e : x = .error r) :
    ∀ (p : Addr) (v : V) (m : Nat) (H' : Hp), Same H H' → H' p = some (.tup [.bl false, v, .int (m : Nat)]) → At t m r → Q (.ref p) H' := by subst e; exact h
theorem LRes.of {α : Type} {Q : VK} {H : Hp} {t : Ws} {G : Hp → V → α → Prop} {x : Rs α}
    (h1 : ∀ a r, x = .ok (a, r) → ∀ (p : Addr) (v : V) (m : Nat) (H' : Hp), Same H H' → H' p = some (.tup [.bl true, v, .int (m : Nat)]) → At t m r → G H' v a → Q (.ref p) H')
    (h2 : ∀ r, x = .error r → ∀ (p : Addr) (v : V) (m : Nat) (H' : Hp), Same H H' → H' p = some (.tup [.bl false, v, .int (m : Nat)]) → At t m r → Q (.ref p) H') : LRes Q H t G x := by
  cases x with
  | ok y => exact h1 y.1 y.2 rfl
  | error r => exact h2 r rfl
def LEnd (Q : VK) (H : Hp) (t : Ws) (v : V) (x : Except Ws Ws) : Prop := match x with
  | .ok r => ∀ (p : Addr) (m : Nat) (H' : Hp), Same H H' → H' p = some (.tup [.bl true, v, .int (m : Nat)]) → At t m r → Q (.ref p) H'
  | .error r => ∀ (p : Addr) (m : Nat) (H' : Hp), Same H H' → H' p = some (.tup [.bl false, v, .int (m : Nat)]) → At t m r → Q (.ref p) H'
theorem LEnd.of {Q : VK} {H : Hp} {t : Ws} {v : V} {x : Except Ws Ws}
    (h1 : ∀ r, x = .ok r → ∀ (p : Addr) (m : Nat) (H' : Hp), Same H H' → H' p = some (.tup [.bl true, v, .int (m : Nat)]) → At t m r → Q (.ref p) H')
    (h2 : ∀ r, x = .error r → ∀ (p : Addr) (m : Nat) (H' : Hp), Same H H' → H' p = some (.tup [.bl false, v, .int (m : Nat)]) → At t m r → Q (.ref p) H') : LEnd Q H t v x := by
  cases x with
  | ok y => exact h1 y rfl
  | error r => exact h2 r rfl
theorem LEnd.ok {Q : VK} {H : Hp} {t : Ws} {v : V} {x : Except Ws Ws} (h : LEnd Q H t v x) {r : Ws} (e : x = .ok r) : ∀ (p : Addr) (m : Nat) (H' : Hp), Same H H' → H' p = some (.tup [.bl true, v, .int (m : Nat)]) → At t m r → Q (.ref p) H' := by subst e; exact h
theorem LEnd.err {Q : VK} {H : Hp} {t : Ws} {v : V} {x : Except Ws Ws} (h : LEnd Q H t v x) {r : Ws} (e : x = .error r) : ∀ (p : Addr) (m : Nat) (H' : Hp), Same H H' → H' p = some (.tup [.bl false, v, .int (m : Nat)]) → At t m r → Q (.ref p) H' := by subst e; exact h
/-- the law's word: whether it ends -/
def lwOk (l : Ws) : Bool := !decide (wd l = []) && !((l.drop (wd l).length).head?.any isLet)
section
variable {P : Program} {w : World} {K : PySem.W.Frag} {mg : Str → Option Value} {base : Heap}
theorem sc_law_is_sign : FnScope ["_law_sign"] ["_law_sign"] (defScope s_law_is_sign) := ⟨rfl, rfl, rfl, by decide +kernel, rfl, by decide +kernel, by decide +kernel⟩
def sp_law_is_sign (K : PySem.W.Frag) : Sp := fun vs H Q _ => vs.length = 1 ∧ ∃ c : Nat, vs = [vS [c]] ∧ Q (.bl (isSgn c)) H
theorem ok_law_is_sign (T : Tx K mg) : Fn P w K mg base CX0 2 ("_law_is_sign", none) ["_law_sign"] (sp_law_is_sign K) := by
  refine Fn.mk0 (d := d_law_is_sign) T 45 rfl rfl rfl sc_law_is_sign (fun _ _ _ _ _ _ us hl => match us, hl with | [_], _ => rfl) (fun vs H Q E h => h.1) (fun cdv A outer s H vs Q E hr h => ?_)
  have hu := hu_of hr
  have G_law_signs : Fn P w K mg base CX0 1 ("_law_signs", none) [] (sp_law_signs K) := ok_law_signs T
  refine ⟨_, (pss_one (ps_ret (pe_and (pe_cmpR op_eq (pe_callB call_len_str rfl (T.free 59) (by decide +kernel) (pa_cons (pv 0) pa_nil)) pe_int (nomark _)) (pe_one (pe_cmpR op_in_sign (pv 0) (pc0 G_law_signs (hr.mono (by decide)) rfl (T.glo 23) pass0) rfl))))), ?_⟩
  obtain ⟨_, c, rfl, k⟩ := h
  refine ⟨_, rfl, _, rfl, lenOk (by simp), rfl, _, rfl, iteY rfl ?_⟩
  refine ⟨_, rfl, rfl, rfl, c, _, rfl, rfl, ?_⟩
  rw [cps_mkS, mem_sgs]
  exact k
theorem sc_law_at : FnScope ["_law_text_here", "_law_at_here"] ["_law_text_here", "_law_at_here"] (defScope s_law_at) := ⟨rfl, rfl, rfl, by decide +kernel, rfl, by decide +kernel, by decide +kernel⟩
def sp_law_at (K : PySem.W.Frag) : Sp := fun vs H Q _ => vs.length = 2 ∧ ∃ (t : Ws) (n : Nat) (l : Ws), vs = [vS t, .int (n : Nat)] ∧ At t n l ∧ t.length ≤ 1000000 ∧ Q (vS (l.take 1)) H
theorem ok_law_at (T : Tx K mg) : Fn P w K mg base CX0 1 ("_law_at", none) ["_law_text_here", "_law_at_here"] (sp_law_at K) := by
  refine Fn.mk0 (d := d_law_at) T 46 rfl rfl rfl sc_law_at (fun _ _ _ _ _ _ us hl => match us, hl with | [_, _], _ => rfl) (fun vs H Q E h => h.1) (fun cdv A outer s H vs Q E hr h => ?_)
  have hu := hu_of hr
  refine ⟨_, (pss_one (ps_ret (pe_slice sl_str (pv 0) (po_some (pv 1)) (po_some (pe_op op_add (pv 1) pe_int))))), ?_⟩
  obtain ⟨_, t, n, l, rfl, hA, ht, k⟩ := h
  refine ⟨_, rfl, _, rfl, _, rfl, _, rfl, _, _, rfl, rfl, _, rfl, mkS t, rfl, lenOk ht, ?_⟩
  show Q (V.str (cutS (mkS t) (some ((n : Nat) : Int)) (some ((n + 1 : Nat) : Int)))) H
  rw [hA.slice (k := 1) rfl]
  exact k
theorem sc_law_read_end : FnScope ["_law_text_here", "_law_at_here", "_law_value"] ["_law_text_here", "_law_at_here", "_law_value"] (defScope s_law_read_end) := ⟨rfl, rfl, rfl, by decide +kernel, rfl, by decide +kernel, by decide +kernel⟩
def sp_law_read_end (K : PySem.W.Frag) : Sp := fun vs H Q _ => vs.length = 3 ∧ ∃ (t : Ws) (n : Nat) (l : Ws) (v : V), vs = [vS t, .int (n : Nat), v] ∧ At t n l ∧ t.length ≤ 1000000 ∧ LEnd Q H t v (ex1 10 l)
theorem ok_law_read_end (T : Tx K mg) : Fn P w K mg base CX0 2 ("_law_read_end", none) ["_law_text_here", "_law_at_here", "_law_value"] (sp_law_read_end K) := by
  refine Fn.mk0 (d := d_law_read_end) T 49 rfl rfl rfl sc_law_read_end (fun _ _ _ _ _ _ us hl => match us, hl with | [_, _, _], _ => rfl) (fun vs H Q E h => h.1) (fun cdv A outer s H vs Q E hr h => ?_)
  have hu := hu_of hr
  have G_law_at : Fn P w K mg base CX0 1 ("_law_at", none) ["_law_text_here", "_law_at_here"] (sp_law_at K) := ok_law_at T
  refine ⟨_, (pss_cons (ps_if (pt_cmpR op_eq (pc G_law_at (hr.mono (by decide)) rfl (T.glo 33) pass0 (pa_cons (pv 0) (pa_cons (pv 1) pa_nil))) pe_str (nomark _)) (pss_one (ps_ret (pe_tup (pa_cons pe_bl (pa_cons (pv 2) (pa_cons (pe_op op_add (pv 1) pe_int) pa_nil)))))) pss_nil) (pss_one (ps_ret (pe_tup (pa_cons pe_bl (pa_cons (pv 2) (pa_cons (pv 1) pa_nil))))))), ?_⟩
  obtain ⟨_, t, n, l, v, rfl, hA, ht, k⟩ := h
  refine ⟨_, rfl, _, rfl, rfl, t, n, l, rfl, hA, ht, rfl, _, rfl, ?_⟩
  rw [eq_wr lt_nl, take1]
  by_cases h10 : l.head? = some 10
  · cases l with
    | nil => cases h10
    | cons d r =>
      cases h10
      refine iteY (decide_eq_true rfl) ⟨_, rfl, _, rfl, _, _, rfl, rfl, sz_ok (by simp), fun p hp => ?_⟩
      exact k.ok (ex1_self 10 r) p (n + 1) _ (sm_new hp) upd_same hA.cons
  · refine iteN (decide_eq_false h10) ⟨_, rfl, _, rfl, sz_ok (by simp), fun p hp => ?_⟩
    exact k.err (ex1_no h10) p n _ (sm_new hp) upd_same hA
theorem sc_law_read_line : FnScope ["_law_text_here", "_law_at_here", "_law_end"] ["_law_text_here", "_law_at_here"] (defScope s_law_read_line) := ⟨rfl, rfl, rfl, by decide +kernel, rfl, by decide +kernel, by decide +kernel⟩
def sp_law_read_line (K : PySem.W.Frag) : Sp := fun vs H Q _ => vs.length = 2 ∧ ∃ (t : Ws) (n : Nat) (l : Ws), vs = [vS t, .int (n : Nat)] ∧ At t n l ∧ t.length ≤ 1000000 ∧ LRes Q H t isS (rdLine l)
theorem ok_law_read_line (T : Tx K mg) : Fn P w K mg base CX0 3 ("_law_read_line", none) ["_law_text_here", "_law_at_here"] (sp_law_read_line K) := by
  refine Fn.mk0 (d := d_law_read_line) T 48 rfl rfl rfl sc_law_read_line (fun _ _ _ _ _ _ us hl => match us, hl with | [_, _], _ => rfl) (fun vs H Q E h => h.1) (fun cdv A outer s H vs Q E hr h => ?_)
  have hu := hu_of hr
  have G_law_at : Fn P w K mg base CX0 1 ("_law_at", none) ["_law_text_here", "_law_at_here"] (sp_law_at K) := ok_law_at T
  have G_law_is_sign : Fn P w K mg base CX0 2 ("_law_is_sign", none) ["_law_sign"] (sp_law_is_sign K) := ok_law_is_sign T
  refine ⟨_, (pss_cons (ps_set (i := 2) sc_law_read_line.nd rfl (Or.inl rfl) (pv 1)) (C8.pss_cut (ps_while PassesOwn.never (PW.pt (pw_and (pt_cmpR op_lt (pv 2) (pe_callB call_len_str rfl (T.free 59) (by decide +kernel) (pa_cons (pv 0) pa_nil)) (nomark _)) (pw_and1 (pt_val (pc G_law_is_sign (hr.mono (by decide)) rfl (T.glo 32) pass0 (pa_cons (pe_ix ix_str (pv 0) (pv 2) (fun _ _ => rfl)) pa_nil)))))) (pss_one (ps_set (i := 2) sc_law_read_line.nd rfl (Or.inl rfl) (pe_op op_add (pv 2) pe_int)))) (pss_one (ps_ret (pe_tup (pa_cons (pe_cmpR op_eq (pc G_law_at (hr.mono (by decide)) rfl (T.glo 33) pass0 (pa_cons (pv 0) (pa_cons (pv 2) pa_nil))) pe_str (nomark _)) (pa_cons (pe_slice sl_str (pv 0) (po_some (pv 1)) (po_some (pv 2))) (pa_cons (pe_op op_add (pv 2) (pe_callTy call_int1 rfl (T.free 56) (by decide +kernel) (pa_cons (pe_cmpR op_eq (pc G_law_at (hr.mono (by decide)) rfl (T.glo 33) pass0 (pa_cons (pv 0) (pa_cons (pv 2) pa_nil))) pe_str (nomark _)) pa_nil))) pa_nil)))))))), ?_⟩
  obtain ⟨_, t, n, l, rfl, hA, ht, k⟩ := h
  refine ⟨_, rfl, ?_⟩
  refine ⟨fun σ' H' => H' = H ∧ ∃ (m : Nat) (a l' : Ws), σ' = [some (vS t), some (.int (n : Nat)), some (.int (m : Nat))] ∧ At t m l' ∧ l = a ++ l' ∧ (∀ c ∈ a, isSgn c = true) ∧ m = n + a.length ∧ (∀ c r, l' = c :: r → isSgn c = false), ?_, ?_⟩
  · refine ⟨fun q σ H1 => H1 = H ∧ ∃ (m : Nat) (a l' : Ws), σ = [some (vS t), some (.int (n : Nat)), some (.int (m : Nat))] ∧ At t m l' ∧ l = a ++ l' ∧ (∀ c ∈ a, isSgn c = true) ∧ m = n + a.length ∧ q = l'.length, ⟨l.length, rfl, n, [], l, rfl, hA, rfl, by simp, rfl, rfl⟩, ?_⟩
    rintro q σ H1 ⟨rfl, m, a, l', rfl, hA1, hl, ha, hm, rfl⟩
    refine ⟨_, rfl, _, rfl, _, rfl, lenOk ht, _, _, rfl, rfl, _, rfl, ?_⟩
    rw [mkS_len]
    cases l' with
    | nil =>
      have hmt := hA1.end_
      refine iteN (decide_eq_false (by omega)) (iteN rfl ⟨rfl, m, a, [], rfl, hA1, hl, ha, hm, (fun c r e => by cases e)⟩)
    | cons c r =>
      have hmt := hA1.lt
      refine iteY (decide_eq_true (by omega)) ⟨_, rfl, _, rfl, mkS t, _, c, rfl, rfl, lenOk ht, atI_nat hA1.get, ?_⟩
      refine ⟨rfl, c, rfl, _, rfl, ?_⟩
      by_cases hc : isSgn c = true
      · refine iteY hc ⟨fun σ' H' => ∃ m', m' < (c :: r).length ∧ _, fun _ _ h => h, _, rfl, _, _, rfl, rfl, ?_⟩
        exact ⟨r.length, by simp, rfl, m + 1, a ++ [c], r, rfl, hA1.cons, by simp [hl], snoc_all ha hc, by simp; omega, rfl⟩
      · exact iteN (Bool.eq_false_iff.mpr hc) ⟨rfl, m, a, c :: r, rfl, hA1, hl, ha, hm, (fun c' r' e => by cases e; exact Bool.eq_false_iff.mpr hc)⟩
  · rintro σ H1 ⟨rfl, m, a, l', rfl, hA1, hl, ha, hm, hend⟩
    obtain ⟨w1, w2⟩ := tw_end (l := l') ha hend
    rw [← hl] at w1 w2
    have hs : cutS (mkS t) (some ((n : Nat) : Int)) (some ((m : Nat) : Int)) = mkS a := by
      rw [hA.slice hm, hl, List.take_left]
    refine ⟨_, rfl, _, rfl, rfl, t, m, l', rfl, hA1, ht, rfl, ?_⟩
    refine ⟨_, rfl, _, rfl, _, rfl, _, rfl, _, rfl, mkS t, rfl, lenOk ht, ?_⟩
    refine ⟨_, rfl, _, rfl, _, rfl, rfl, t, m, l', rfl, hA1, ht, rfl, .inr ⟨_, rfl, _, _, rfl, rfl, sz_ok (by simp), fun p hp => ?_⟩⟩
    rw [hs, eq_wr lt_nl, take1]
    by_cases h10 : l'.head? = some 10
    · cases l' with
      | nil => cases h10
      | cons d r =>
        cases h10
        refine k.ok (a := a) (r := r) ?_ p (vS a) (m + 1) _ (sm_new hp) ?_ hA1.cons rfl
        · unfold rdLine
          rw [w1, w2, ex1_self]
        · rw [upd_same]
          have e : decide ((10 :: r : Ws).head? = some 10) = true := decide_eq_true rfl
          rw [e]
          rfl
    · refine k.err (r := l') ?_ p (vS a) m _ (sm_new hp) ?_ hA1
      · unfold rdLine
        rw [w2, ex1_no h10]
      · rw [upd_same, decide_eq_false h10]
        show some (HO.tup [_, _, V.int ((m : Int) + 0)]) = _
        rw [Int.add_zero]
theorem sc_law_read_word : FnScope ["_law_text_here", "_law_at_here", "_law_word_here", "_law_k", "_law_sign"] ["_law_text_here", "_law_at_here"] (defScope s_law_read_word) := ⟨rfl, rfl, rfl, by decide +kernel, rfl, by decide +kernel, by decide +kernel⟩
def sp_law_read_word (K : PySem.W.Frag) : Sp := fun vs H Q _ => vs.length = 2 ∧ ∃ (t : Ws) (n : Nat) (l : Ws), vs = [vS t, .int (n : Nat)] ∧ At t n l ∧ t.length ≤ 1000000 ∧
  ∀ (p : Addr) (H' : Hp), Same H H' → H' p = some (.tup [.bl (lwOk l), vS (wd l), .int ((n + (wd l).length : Nat) : Int)]) → Q (.ref p) H'
theorem lw_not {l a l' : Ws} (hl : l = a ++ l') (ha : ∀ c ∈ a, isLet c = true) (h8 : a.length ≤ 8) (he : ∀ c r, l' = c :: r → isLet c = false) : wd l = a ∧ lwOk l = !decide (a = []) := by
  have e : wd l = a := by rw [hl]; exact wd_pre l' ha h8 (.inl he)
  refine ⟨e, ?_⟩
  unfold lwOk
  rw [e, hl, List.drop_left]
  cases l' with
  | nil => simp
  | cons c r => simp [he c r rfl]
theorem lw_big {l a r : Ws} {c : Nat} (hl : l = a ++ c :: r) (ha : ∀ c ∈ a, isLet c = true) (h8 : a.length = 8) (hc : isLet c = true) : wd l = a ∧ lwOk l = false := by
  have e : wd l = a := by rw [hl]; exact wd_pre (c :: r) ha (by omega) (.inr h8)
  refine ⟨e, ?_⟩
  unfold lwOk
  rw [e, hl, List.drop_left]
  simp [hc]
theorem ok_law_read_word (T : Tx K mg) : Fn P w K mg base CX0 2 ("_law_read_word", none) ["_law_text_here", "_law_at_here"] (sp_law_read_word K) := by
  refine Fn.mk0 (d := d_law_read_word) T 47 rfl rfl rfl sc_law_read_word (fun _ _ _ _ _ _ us hl => match us, hl with | [_, _], _ => rfl) (fun vs H Q E h => h.1) (fun cdv A outer s H vs Q E hr h => ?_)
  have hu := hu_of hr
  have G_law_at : Fn P w K mg base CX0 1 ("_law_at", none) ["_law_text_here", "_law_at_here"] (sp_law_at K) := ok_law_at T
  refine ⟨_, (pss_cons (ps_set (i := 2) sc_law_read_word.nd rfl (Or.inl rfl) pe_str) (pss_cons (ps_for PassesOwn.never rfl (pi_range1 rfl (T.free 66) (pa_cons pe_int pa_nil)) (pg_name (i := 3) sc_law_read_word.nd rfl (Or.inl rfl)) (pss_cons (ps_set (i := 4) sc_law_read_word.nd rfl (Or.inl rfl) (pc G_law_at (hr.mono (by decide)) rfl (T.glo 33) pass0 (pa_cons (pv 0) (pa_cons (pe_op op_add (pv 1) (pv 3)) pa_nil)))) (pss_cons (ps_if (PW.pt (pw_or (pt_cmpR op_eq (pv 4) pe_str (nomark _)) (pw_or1 (pt_cmpR op_notIn_sign (pv 4) pe_str rfl)))) (pss_one (ps_ret (pe_tup (pa_cons (pe_cmpR op_ne (pv 2) pe_str (nomark _)) (pa_cons (pv 2) (pa_cons (pe_op op_add (pv 1) (pv 3)) pa_nil)))))) pss_nil) (pss_cons (ps_if (pt_cmpR op_eq (pv 3) pe_int (nomark _)) (pss_one (ps_ret (pe_tup (pa_cons pe_bl (pa_cons (pv 2) (pa_cons (pe_op op_add (pv 1) (pv 3)) pa_nil)))))) pss_nil) (pss_one (ps_set (i := 2) sc_law_read_word.nd rfl (Or.inl rfl) (pe_op op_add_str (pv 2) (pv 4)))))))) (pss_one (ps_ret (pe_tup (pa_cons pe_bl (pa_cons (pv 2) (pa_cons (pv 1) pa_nil)))))))), ?_⟩
  obtain ⟨_, t, n, l, rfl, hA, ht, k⟩ := h
  refine ⟨_, rfl, by decide, by decide, ?_⟩
  refine for_it (wk_rng 9) (fun j σ H1 => H1 = H ∧ ∃ (u3 u4 : Option V) (a l' : Ws), σ = [some (vS t), some (.int (n : Nat)), some (vS a), u3, u4] ∧ At t (n + j) l' ∧ l = a ++ l' ∧ (∀ c ∈ a, isLet c = true) ∧ a.length = j ∧ j ≤ 8) ?_ (fun _ _ _ _ _ => trivial) ?_ ?_
  · exact ⟨rfl, none, none, [], l, (by rw [str_nil]; rfl), hA, rfl, by simp, rfl, by omega⟩
  · rintro j x σ H1 H2 hj9 ⟨rfl, u3, u4, a, l', rfl, hA1, hl, ha, hj, hj8⟩ ⟨rfl, rfl⟩
    rw [Int.zero_add]
    refine ⟨_, rfl, _, rfl, _, rfl, _, _, rfl, rfl, rfl, t, n + j, l', rfl, hA1, ht, _, rfl, rfl, _, rfl, ?_⟩
    rw [eq_nil]
    cases l' with
    | nil =>
      refine iteY rfl (iteY rfl ?_)
      obtain ⟨e1, e2⟩ := lw_not hl ha (by omega) (fun c r (e : [] = c :: r) => by cases e)
      refine ⟨_, rfl, rfl, _, rfl, _, rfl, _, rfl, _, _, rfl, rfl, sz_ok (by simp), fun p hp => ?_⟩
      rw [eq_nil]
      refine k p _ (sm_new hp) ?_
      rw [e1, e2, upd_same, hj]
      rfl
    | cons c r =>
      refine iteN rfl ⟨_, rfl, c, _, rfl, rfl, _, rfl, ?_⟩
      rw [let_in]
      by_cases hc : isLet c = true
      · refine iteN (by rw [hc]; rfl) ⟨_, rfl, rfl, _, rfl, ?_⟩
        rw [dint]
        by_cases h8 : j = 8
        · obtain ⟨e1, e2⟩ := lw_big hl ha (by omega) hc
          refine iteY (decide_eq_true (by omega)) ⟨_, rfl, _, rfl, _, rfl, _, _, rfl, rfl, sz_ok (by simp), fun p hp => ?_⟩
          refine k p _ (sm_new hp) ?_
          rw [e1, e2, upd_same, hj]
          rfl
        · refine iteN (decide_eq_false (by omega)) ⟨_, rfl, _, rfl, mkS a, mkS [c], rfl, rfl, addOk (by simp; omega), rfl, some (.int (j : Nat)), some (vS [c]), a ++ [c], r, ?_, hA1.cons, by simp [hl], snoc_all ha hc, by simp; omega, by omega⟩
          rw [mkS_app]
          rfl
      · refine iteY (by simp [hc]) ?_
        obtain ⟨e1, e2⟩ := lw_not hl ha (by omega) (fun c' r' e => by cases e; exact Bool.eq_false_iff.mpr hc)
        refine ⟨_, rfl, rfl, _, rfl, _, rfl, _, rfl, _, _, rfl, rfl, sz_ok (by simp), fun p hp => ?_⟩
        rw [eq_nil]
        refine k p _ (sm_new hp) ?_
        rw [e1, e2, upd_same, hj]
        rfl
  · rintro σ H1 ⟨_, _, _, _, _, _, _, _, _, _, h⟩
    omega
end
end Kn

set_option maxHeartbeats 4000000
/-! The law's own reader: parameters and arguments. -/
namespace Kn
open PySem PySem.Spec PyProof.Rows L2 KnR
def itX (rd : List Ws → Ws → Rs Ws) (ps : List Ws) (q : Nat) (l : Ws) : Rs (List Ws) := match rd ps l with
  | .ok (w, r) => more rd q (ps ++ [w]) r
  | .error e => .error e
theorem itX_0 {rd : List Ws → Ws → Rs Ws} {l : Ws} (h : ¬ l.head? = some 41) : items rd l = itX rd [] 2 l := by
  rw [items_no h]
  unfold itX
  all_goals (cases rd [] l <;> rfl)
theorem itX_er {rd : List Ws → Ws → Rs Ws} {ps : List Ws} {q : Nat} {l r : Ws} (e : rd ps l = .error r) : itX rd ps q l = .error r := by unfold itX; rw [e]
theorem itX_41 {rd : List Ws → Ws → Rs Ws} {ps : List Ws} {q : Nat} {l w r : Ws} (e : rd ps l = .ok (w, 41 :: r)) : itX rd ps q l = .ok (ps ++ [w], r) := by
  unfold itX
  rw [e]
  cases q <;> simp [more]
theorem itX_44 {rd : List Ws → Ws → Rs Ws} {ps : List Ws} {q : Nat} {l w r : Ws} (e : rd ps l = .ok (w, 44 :: r)) : itX rd ps (q + 1) l = itX rd (ps ++ [w]) q r := by
  unfold itX
  rw [e]
  simp [more]
  all_goals (cases rd (ps ++ [w]) r <;> rfl)
theorem itX_no {rd : List Ws → Ws → Rs Ws} {ps : List Ws} {q : Nat} {l w r : Ws} (e : rd ps l = .ok (w, r)) (h1 : r.head? ≠ some 41) (h2 : q = 0 ∨ r.head? ≠ some 44) : itX rd ps q l = .error r := by
  unfold itX
  rw [e]
  dsimp only
  rw [more_end h2, ex1_no h1]
theorem wd_le (l : Ws) : (wd l).length ≤ l.length := by
  have := congrArg List.length (drop_wd l)
  rw [List.length_append] at this
  omega
theorem rdWord_1 {ps : List Ws} {l : Ws} (h : (wd l).length = 8 ∧ wd l ∈ ps) : rdWord ps l = .error (l.drop 7) := by unfold rdWord; rw [if_pos h]
theorem rdWord_2 {ps : List Ws} {l : Ws} (h : ¬ ((wd l).length = 8 ∧ wd l ∈ ps)) (h2 : wd l = [] ∨ wd l ∈ ps) : rdWord ps l = .error (l.drop (wd l).length) := by unfold rdWord; rw [if_neg h, if_pos h2]
theorem rdWord_3 {ps : List Ws} {l : Ws} (h2 : ¬ (wd l = [] ∨ wd l ∈ ps)) : rdWord ps l = .ok (wd l, l.drop (wd l).length) := by
  unfold rdWord
  rw [if_neg (fun z => h2 (.inr z.2)), if_neg h2]
theorem lw_rest {l : Ws} (hb : lwOk l = false) (h : wd l ≠ []) : (l.drop (wd l).length).head? ≠ some 41 ∧ (l.drop (wd l).length).head? ≠ some 44 ∧ (l.drop (wd l).length).head? ≠ some 40 := by
  unfold lwOk at hb
  rw [decide_eq_false h] at hb
  cases e : (l.drop (wd l).length).head? with
  | none => exact ⟨by simp, by simp, by simp⟩
  | some c =>
    rw [e] at hb
    have hc : isLet c = true := by simpa using hb
    have : c ≠ 41 ∧ c ≠ 44 ∧ c ≠ 40 := by
      unfold isLet at hc
      simp at hc
      omega
    exact ⟨by simpa using this.1, by simpa using this.2.1, by simpa using this.2.2⟩
theorem lw_ne {l : Ws} (hb : lwOk l = true) : wd l ≠ [] := fun z => by
  unfold lwOk at hb
  rw [decide_eq_true z] at hb
  cases hb
theorem par_bad {ps : List Ws} {l : Ws} {q : Nat} (h : ¬ ((wd l).length = 8 ∧ wd l ∈ ps)) (hb : lwOk l = false) : itX rdWord ps q l = .error (l.drop (wd l).length) := by
  by_cases h2 : wd l = [] ∨ wd l ∈ ps
  · exact itX_er (rdWord_2 h h2)
  · have r := lw_rest hb fun z => h2 (.inl z)
    exact itX_no (rdWord_3 h2) r.1 (.inr r.2.1)
theorem cat_strs {ps : List Ws} {w : Ws} : ps.map vS ++ [vS w] = (ps ++ [w]).map vS := by rw [List.map_append]; rfl
section
variable {P : Program} {w : World} {K : PySem.W.Frag} {mg : Str → Option Value} {base : Heap}
theorem sc_law_read_params : FnScope ["_law_text_here", "_law_at_here", "_law_params", "_law_k", "_law_found", "_law_sign"] ["_law_text_here", "_law_at_here"] (defScope s_law_read_params) := ⟨rfl, rfl, rfl, by decide +kernel, rfl, by decide +kernel, by decide +kernel⟩
def sp_law_read_params (K : PySem.W.Frag) : Sp := fun vs H Q _ => vs.length = 2 ∧ ∃ (t : Ws) (n : Nat) (l : Ws), vs = [vS t, .int (n : Nat)] ∧ At t n l ∧ t.length ≤ 1000000 ∧ LRes Q H t (fun H v ps => Dt H v (dSs ps)) (rdParams l)
theorem ok_law_read_params (T : Tx K mg) : Fn P w K mg base CX0 3 ("_law_read_params", none) ["_law_text_here", "_law_at_here"] (sp_law_read_params K) := by
  refine Fn.mk0 (d := d_law_read_params) T 50 rfl rfl rfl sc_law_read_params (fun _ _ _ _ _ _ us hl => match us, hl with | [_, _], _ => rfl) (fun vs H Q E h => h.1) (fun cdv A outer s H vs Q E hr h => ?_)
  have hu := hu_of hr
  have G_law_at : Fn P w K mg base CX0 1 ("_law_at", none) ["_law_text_here", "_law_at_here"] (sp_law_at K) := ok_law_at T
  have G_law_read_word : Fn P w K mg base CX0 2 ("_law_read_word", none) ["_law_text_here", "_law_at_here"] (sp_law_read_word K) := ok_law_read_word T
  refine ⟨_, (pss_cons (ps_set (i := 2) sc_law_read_params.nd rfl (Or.inl rfl) (pe_tup pa_nil)) (C8.pss_cut (ps_if (pt_cmpR op_eq (pc G_law_at (hr.mono (by decide)) rfl (T.glo 33) pass0 (pa_cons (pv 0) (pa_cons (pv 1) pa_nil))) pe_str (nomark _)) (pss_one (ps_ret (pe_tup (pa_cons pe_bl (pa_cons (pv 2) (pa_cons (pe_op op_add (pv 1) pe_int) pa_nil)))))) pss_nil) (pss_cons (ps_for PassesOwn.never rfl (pi_range1 rfl (T.free 66) (pa_cons pe_int pa_nil)) (pg_name (i := 3) sc_law_read_params.nd rfl (Or.inl rfl)) (pss_cons (ps_set (i := 4) sc_law_read_params.nd rfl (Or.inl rfl) (pc G_law_read_word (hr.mono (by decide)) rfl (T.glo 34) pass0 (pa_cons (pv 0) (pa_cons (pv 1) pa_nil)))) (C8.pss_cut (ps_if (PW.pt (pw_and (pt_cmpR op_in_seq (pe_ix ix_tup (pv 4) pe_int (fun _ _ => rfl)) (pv 2) rfl) (pw_and1 (pt_cmpR op_eq (pe_callB call_len_str rfl (T.free 59) (by decide +kernel) (pa_cons (pe_ix ix_tup (pv 4) pe_int (fun _ _ => rfl)) pa_nil)) pe_int (nomark _))))) (pss_one (ps_ret (pe_tup (pa_cons pe_bl (pa_cons (pv 2) (pa_cons (pe_op op_add (pv 1) pe_int) pa_nil)))))) pss_nil) (C8.pss_cut (ps_if (pt_not (pt_val (pe_ix ix_tup (pv 4) pe_int (fun _ _ => rfl)))) (pss_one (ps_ret (pv 4))) pss_nil) (pss_cons (ps_set (i := 5) sc_law_read_params.nd rfl (Or.inl rfl) (pc G_law_at (hr.mono (by decide)) rfl (T.glo 33) pass0 (pa_cons (pv 0) (pa_cons (pe_ix ix_tup (pv 4) pe_int (fun _ _ => rfl)) pa_nil)))) (C8.pss_cut (ps_if (PW.pt (pw_or (pt_cmpR op_in_seq (pe_ix ix_tup (pv 4) pe_int (fun _ _ => rfl)) (pv 2) rfl) (pw_or1 (PW.pt (pw_and (pt_cmpR op_ne (pv 5) pe_str (nomark _)) (pw_and1 (PW.pt (pw_or (pt_cmpR op_ne (pv 5) pe_str (nomark _)) (pw_or1 (pt_cmpR op_eq (pv 3) pe_int (nomark _))))))))))) (pss_one (ps_ret (pe_tup (pa_cons pe_bl (pa_cons (pv 2) (pa_cons (pe_ix ix_tup (pv 4) pe_int (fun _ _ => rfl)) pa_nil)))))) pss_nil) (C8.pss_cut (ps_set (i := 2) sc_law_read_params.nd rfl (Or.inl rfl) (pe_op op_catA (pv 2) (pe_tup (pa_cons (pe_ix ix_tup (pv 4) pe_int (fun _ _ => rfl)) pa_nil)))) (pss_cons (ps_set (i := 1) sc_law_read_params.nd rfl (Or.inl rfl) (pe_op op_add (pe_ix ix_tup (pv 4) pe_int (fun _ _ => rfl)) pe_int)) (pss_one (ps_if (pt_cmpR op_eq (pv 5) pe_str (nomark _)) (pss_one (ps_ret (pe_tup (pa_cons pe_bl (pa_cons (pv 2) (pa_cons (pv 1) pa_nil)))))) pss_nil)))))))))) (pss_one (ps_ret (pe_tup (pa_cons pe_bl (pa_cons (pv 2) (pa_cons (pv 1) pa_nil))))))))), ?_⟩
  obtain ⟨_, t, n, l, rfl, hA, ht, k⟩ := h
  refine ⟨Nat.zero_le _, fun p0 hp0 => ?_⟩
  have s0 := sm_new (o := .tup []) hp0
  refine ⟨fun σ' H' => σ' = [some (vS t), some (.int (n : Nat)), some (.ref p0), none, none, none] ∧ H' = upd H p0 (.tup []) ∧ ¬ l.head? = some 41, ?_, ?_⟩
  · refine ⟨_, rfl, _, rfl, rfl, t, n, l, rfl, hA, ht, rfl, _, rfl, ?_⟩
    rw [eq_wr lt_rp, take1]
    by_cases h41 : l.head? = some 41
    · cases l with
      | nil => cases h41
      | cons d r =>
        cases h41
        refine iteY (decide_eq_true rfl) ⟨_, rfl, _, rfl, _, _, rfl, rfl, sz_ok (by simp), fun p hp => ?_⟩
        exact k.ok (a := []) (r := r) rfl p _ (n + 1) _ (s0.trans (sm_new hp)) upd_same hA.cons (Dt.strs_mk (sm_new hp _ _ upd_same))
    · exact iteN (decide_eq_false h41) ⟨rfl, rfl, h41⟩
  · rintro σ H1 ⟨rfl, rfl, h41⟩
    refine ⟨_, rfl, by decide, by decide, ?_⟩
    refine for_it (wk_rng 3) (fun j σ H1 => ∃ (m : Nat) (l' : Ws) (pa : Addr) (ps : List Ws) (u3 u4 u5 : Option V), σ = [some (vS t), some (.int (m : Nat)), some (.ref pa), u3, u4, u5] ∧ Same H H1 ∧ H1 pa = some (.tup (ps.map vS)) ∧ At t m l' ∧ ps.length = j ∧ j ≤ 2 ∧ rdParams l = itX rdWord ps (2 - j) l') ?_ (fun _ _ _ _ _ => trivial) ?_ ?_
    · exact ⟨n, l, p0, [], none, none, none, rfl, s0, upd_same, hA, rfl, by decide, itX_0 h41⟩
    · rintro j x σ H1 H2 hj3 ⟨m, l', pa, ps, u3, u4, u5, rfl, s1, hpa, hA1, hpl, hj, he⟩ ⟨rfl, rfl⟩
      rw [Int.zero_add]
      refine ⟨_, rfl, _, rfl, rfl, t, m, l', rfl, hA1, ht, fun pf H3 s3 hf => ?_⟩
      have sH := s1.trans s3
      have hpa3 := s3 _ _ hpa
      have hwl := wd_le l'
      have hA3 := hA1.add hwl
      have hlt : l'.length ≤ t.length := by have := hA1.len; omega
      refine ⟨fun σ' H' => σ' = [some (vS t), some (.int (m : Nat)), some (.ref pa), some (.int (j : Nat)), some (.ref pf), u5] ∧ H' = H3 ∧ ¬ ((wd l').length = 8 ∧ wd l' ∈ ps), ?_, ?_⟩
      · refine ⟨_, rfl, _, _, _, _, rfl, rfl, SqT.of hf, rfl, _, rfl, pa, _, rfl, .inr (SqT.of hpa3), rfl, flat_strs ps, _, rfl, ?_⟩
        refine iteB (fun e => ?_) (fun e => ?_)
        · have e' : inV (vS (wd l')) (ps.map vS) = true := e
          rw [inV_strs, decide_eq_true_eq] at e'
          refine ⟨_, rfl, _, _, _, _, rfl, rfl, SqT.of hf, rfl, _, rfl, lenOk (by omega), rfl, _, rfl, ?_⟩
          rw [dint, mkS_len]
          by_cases h8 : (wd l').length = 8
          · refine iteY (decide_eq_true (by omega)) ⟨_, rfl, _, rfl, _, _, rfl, rfl, sz_ok (by simp), fun p hp => ?_⟩
            exact k.err (r := l'.drop 7) (he.trans (itX_er (rdWord_1 ⟨h8, e'⟩))) p _ (m + 7) _ (sH.trans (sm_new hp)) upd_same (hA1.add (by omega))
          · exact iteN (decide_eq_false (by omega)) ⟨rfl, rfl, fun z => h8 z.1⟩
        · have e' : inV (vS (wd l')) (ps.map vS) = false := e
          rw [inV_strs, decide_eq_false_iff_not] at e'
          exact iteN rfl ⟨rfl, rfl, fun z => e' z.2⟩
      · rintro σ H4 ⟨rfl, rfl, hn8⟩
        refine ⟨fun σ' H' => σ' = [some (vS t), some (.int (m : Nat)), some (.ref pa), some (.int (j : Nat)), some (.ref pf), u5] ∧ H' = H4 ∧ lwOk l' = true, ?_, ?_⟩
        · refine ⟨_, rfl, _, _, _, _, rfl, rfl, SqT.of hf, rfl, _, rfl, ?_⟩
          cases hb : lwOk l' with
          | true => exact iteN rfl ⟨rfl, rfl, rfl⟩
          | false =>
            rw [hb] at hf
            exact iteY rfl ⟨_, rfl, k.err (he.trans (par_bad hn8 hb)) pf _ _ H4 sH hf hA3⟩
        · rintro σ H5 ⟨rfl, rfl, hok⟩
          have hne := lw_ne hok
          refine ⟨_, rfl, _, rfl, _, _, _, _, rfl, rfl, SqT.of hf, rfl, rfl, t, _, _, rfl, hA3, ht, ?_⟩
          refine ⟨fun σ' H' => σ' = [some (vS t), some (.int (m : Nat)), some (.ref pa), some (.int (j : Nat)), some (.ref pf), some (vS ((l'.drop (wd l').length).take 1))] ∧ H' = H5 ∧ wd l' ∉ ps ∧ ((l'.drop (wd l').length).head? = some 41 ∨ (l'.drop (wd l').length).head? = some 44 ∧ j ≠ 2), ?_, ?_⟩
          · refine ⟨_, rfl, _, _, _, _, rfl, rfl, SqT.of hf, rfl, _, rfl, pa, _, rfl, .inr (SqT.of hpa3), rfl, flat_strs ps, _, rfl, ?_⟩
            refine iteB (fun e => ?_) (fun e => ?_)
            · have e' : inV (vS (wd l')) (ps.map vS) = true := e
              rw [inV_strs, decide_eq_true_eq] at e'
              refine iteY rfl ⟨_, rfl, _, rfl, _, _, _, _, rfl, rfl, SqT.of hf, rfl, sz_ok (by simp), fun p hp => ?_⟩
              exact k.err (he.trans (itX_er (rdWord_2 hn8 (.inr e')))) p _ _ _ (sH.trans (sm_new hp)) upd_same hA3
            · have e' : inV (vS (wd l')) (ps.map vS) = false := e
              rw [inV_strs, decide_eq_false_iff_not] at e'
              have hrd := rdWord_3 (ps := ps) (l := l') fun z => z.elim hne e'
              refine ⟨_, rfl, rfl, _, rfl, ?_⟩
              rw [eq_wr lt_rp, take1]
              by_cases h41 : (l'.drop (wd l').length).head? = some 41
              · exact iteN (by rw [decide_eq_true h41]; rfl) (iteN rfl ⟨rfl, rfl, e', .inl h41⟩)
              · refine iteY (by rw [decide_eq_false h41]; rfl) ⟨_, rfl, rfl, _, rfl, ?_⟩
                rw [eq_wr lt_com, take1]
                by_cases h44 : (l'.drop (wd l').length).head? = some 44
                · refine iteN (by rw [decide_eq_true h44]; rfl) ⟨_, rfl, rfl, _, rfl, ?_⟩
                  rw [dint]
                  by_cases h2 : j = 2
                  · refine iteY (decide_eq_true (by omega)) ⟨_, rfl, _, rfl, _, _, _, _, rfl, rfl, SqT.of hf, rfl, sz_ok (by simp), fun p hp => ?_⟩
                    exact k.err (he.trans (itX_no hrd h41 (.inl (by omega)))) p _ _ _ (sH.trans (sm_new hp)) upd_same hA3
                  · exact iteN (decide_eq_false (by omega)) ⟨rfl, rfl, e', .inr ⟨h44, h2⟩⟩
                · refine iteY (by rw [decide_eq_false h44]; rfl) (iteY rfl ⟨_, rfl, _, rfl, _, _, _, _, rfl, rfl, SqT.of hf, rfl, sz_ok (by simp), fun p hp => ?_⟩)
                  exact k.err (he.trans (itX_no hrd h41 (.inr h44))) p _ _ _ (sH.trans (sm_new hp)) upd_same hA3
          · rintro σ H6 ⟨rfl, rfl, hni, hsg⟩
            have hrd := rdWord_3 (ps := ps) (l := l') fun z => z.elim hne hni
            refine ⟨fun σ' H' => ∃ pb, σ' = [some (vS t), some (.int (m : Nat)), some (.ref pb), some (.int (j : Nat)), some (.ref pf), some (vS ((l'.drop (wd l').length).take 1))] ∧ Same H6 H' ∧ H' pb = some (.tup ((ps ++ [wd l']).map vS)), ?_, ?_⟩
            · refine ⟨_, rfl, _, rfl, _, _, _, _, rfl, rfl, SqT.of hf, rfl, sz_ok (by simp), fun p2 hp2 => ?_⟩
              have s2 := sm_new (o := .tup [vS (wd l')]) hp2
              refine ⟨pa, p2, _, _, rfl, rfl, SqT.of (s2 _ _ hpa3), SqT.of upd_same, sz_ok (by simp; omega), fun e => ?_, (fun _ e => by cases e), fun _ _ p3 hp3 => ?_⟩
              · have : ps = [] := List.map_eq_nil_iff.mp e
                exact ⟨p2, rfl, s2, by rw [upd_same, this]; rfl⟩
              · exact ⟨p3, rfl, s2.trans (sm_new hp3), by rw [upd_same, cat_strs]⟩
            · rintro σ H7 ⟨pb, rfl, s7, hpb⟩
              have hf7 := s7 _ _ hf
              refine ⟨_, rfl, _, _, _, _, rfl, rfl, SqT.of hf7, rfl, _, _, rfl, rfl, ?_⟩
              refine ⟨_, rfl, rfl, _, rfl, ?_⟩
              rw [eq_wr lt_rp, take1]
              rcases hsg with h41 | ⟨h44, h2⟩
              · cases er : l'.drop (wd l').length with
                | nil => rw [er] at h41; cases h41
                | cons d r =>
                  rw [er] at h41 hA3 hrd
                  cases h41
                  refine iteY (decide_eq_true rfl) ⟨_, rfl, _, rfl, sz_ok (by simp), fun p hp => ?_⟩
                  refine k.ok (he.trans (itX_41 hrd)) p _ (m + (wd l').length + 1) _ ((sH.trans s7).trans (sm_new hp)) upd_same hA3.cons (Dt.strs_mk (sm_new hp _ _ hpb))
              · cases er : l'.drop (wd l').length with
                | nil => rw [er] at h44; cases h44
                | cons d r =>
                  rw [er] at h44 hA3 hrd
                  cases h44
                  refine iteN (decide_eq_false (by simp)) ?_
                  obtain ⟨q, hq⟩ : ∃ q, 2 - j = q + 1 := ⟨1 - j, by omega⟩
                  refine ⟨m + (wd l').length + 1, r, pb, ps ++ [wd l'], _, _, _, rfl, sH.trans s7, hpb, hA3.cons, by simp; omega, by omega, ?_⟩
                  rw [he, hq, itX_44 hrd]
                  congr 1
                  omega
    · rintro σ H1 ⟨m, l', pa, ps, u3, u4, u5, rfl, s1, hpa, hA1, hpl, hj, he⟩
      omega
end
end Kn

set_option maxHeartbeats 4000000
/-! The law's own reader: arguments, heads, uses. -/
namespace Kn
open PySem PySem.Spec PyProof.Rows L2 KnR
theorem spbr_is : (" ,()" : Str) = mkS [32, 44, 40, 41] := by decide +kernel
theorem spbr_in (c : Nat) : decide (c ∈ (" ,()" : Str).cps.toList) = (c == 32 || isBr c) := by
  rw [spbr_is, cps_mkS]
  unfold isBr
  rw [Bool.eq_iff_iff]
  simp
theorem rdArg_0 {l : Ws} (h : ar l = []) : rdArg l = .error l := by
  unfold rdArg
  split
  · rfl
  · rw [if_pos (.inl h)]
    unfold ar at h
    have e := List.takeWhile_append_dropWhile (p := isArg) (l := l)
    rw [h] at e
    have e : l.dropWhile isArg = l := e
    rw [e]
theorem rdArg_sp {l : Ws} (h : l.head? = some 32) : rdArg l = .error l := by unfold rdArg; rw [if_pos h]
section
variable {P : Program} {w : World} {K : PySem.W.Frag} {mg : Str → Option Value} {base : Heap}
theorem sc_law_read_arguments : FnScope ["_law_text_here", "_law_at_here", "_law_arguments", "_law_k", "_law_start", "_law_sign"] ["_law_text_here", "_law_at_here"] (defScope s_law_read_arguments) := ⟨rfl, rfl, rfl, by decide +kernel, rfl, by decide +kernel, by decide +kernel⟩
def sp_law_read_arguments (K : PySem.W.Frag) : Sp := fun vs H Q _ => vs.length = 2 ∧ ∃ (t : Ws) (n : Nat) (l : Ws), vs = [vS t, .int (n : Nat)] ∧ At t n l ∧ t.length ≤ 1000000 ∧ LRes Q H t (fun H v ps => Dt H v (dSs ps)) (rdArgs l)
theorem ok_law_read_arguments (T : Tx K mg) : Fn P w K mg base CX0 3 ("_law_read_arguments", none) ["_law_text_here", "_law_at_here"] (sp_law_read_arguments K) := by
  refine Fn.mk0 (d := d_law_read_arguments) T 52 rfl rfl rfl sc_law_read_arguments (fun _ _ _ _ _ _ us hl => match us, hl with | [_, _], _ => rfl) (fun vs H Q E h => h.1) (fun cdv A outer s H vs Q E hr h => ?_)
  have hu := hu_of hr
  have G_law_is_sign : Fn P w K mg base CX0 2 ("_law_is_sign", none) ["_law_sign"] (sp_law_is_sign K) := ok_law_is_sign T
  have G_law_at : Fn P w K mg base CX0 1 ("_law_at", none) ["_law_text_here", "_law_at_here"] (sp_law_at K) := ok_law_at T
  refine ⟨_, (pss_cons (ps_set (i := 2) sc_law_read_arguments.nd rfl (Or.inl rfl) (pe_tup pa_nil)) (C8.pss_cut (ps_if (pt_cmpR op_eq (pc G_law_at (hr.mono (by decide)) rfl (T.glo 33) pass0 (pa_cons (pv 0) (pa_cons (pv 1) pa_nil))) pe_str (nomark _)) (pss_one (ps_ret (pe_tup (pa_cons pe_bl (pa_cons (pv 2) (pa_cons (pe_op op_add (pv 1) pe_int) pa_nil)))))) pss_nil) (pss_cons (ps_for PassesOwn.never rfl (pi_range1 rfl (T.free 66) (pa_cons pe_int pa_nil)) (pg_name (i := 3) sc_law_read_arguments.nd rfl (Or.inl rfl)) (pss_cons (ps_set (i := 4) sc_law_read_arguments.nd rfl (Or.inl rfl) (pv 1)) (pss_cons (ps_set (i := 5) sc_law_read_arguments.nd rfl (Or.inl rfl) (pc G_law_at (hr.mono (by decide)) rfl (T.glo 33) pass0 (pa_cons (pv 0) (pa_cons (pv 1) pa_nil)))) (C8.pss_cut (ps_if (PW.pt (pw_or (pt_cmpR op_eq (pv 5) pe_str (nomark _)) (pw_or (pt_cmpR op_in_sign (pv 5) pe_str rfl) (pw_or1 (pt_not (pt_val (pc G_law_is_sign (hr.mono (by decide)) rfl (T.glo 32) pass0 (pa_cons (pv 5) pa_nil)))))))) (pss_one (ps_ret (pe_tup (pa_cons pe_bl (pa_cons (pv 2) (pa_cons (pv 1) pa_nil)))))) pss_nil) (C8.pss_cut (ps_while PassesOwn.never (PW.pt (pw_and (pt_cmpR op_ne (pv 5) pe_str (nomark _)) (pw_and (pt_val (pc G_law_is_sign (hr.mono (by decide)) rfl (T.glo 32) pass0 (pa_cons (pv 5) pa_nil))) (pw_and1 (pt_cmpR op_notIn_sign (pv 5) pe_str rfl))))) (pss_cons (ps_set (i := 1) sc_law_read_arguments.nd rfl (Or.inl rfl) (pe_op op_add (pv 1) pe_int)) (pss_one (ps_set (i := 5) sc_law_read_arguments.nd rfl (Or.inl rfl) (pc G_law_at (hr.mono (by decide)) rfl (T.glo 33) pass0 (pa_cons (pv 0) (pa_cons (pv 1) pa_nil))))))) (C8.pss_cut (ps_if (PW.pt (pw_or (pt_cmpR op_eq (pe_ix ix_str (pv 0) (pe_op op_sub (pv 1) pe_int) (fun _ _ => rfl)) pe_str (nomark _)) (pw_or1 (PW.pt (pw_and (pt_cmpR op_ne (pv 5) pe_str (nomark _)) (pw_and1 (PW.pt (pw_or (pt_cmpR op_ne (pv 5) pe_str (nomark _)) (pw_or1 (pt_cmpR op_eq (pv 3) pe_int (nomark _))))))))))) (pss_one (ps_ret (pe_tup (pa_cons pe_bl (pa_cons (pv 2) (pa_cons (pv 1) pa_nil)))))) pss_nil) (C8.pss_cut (ps_set (i := 2) sc_law_read_arguments.nd rfl (Or.inl rfl) (pe_op op_catA (pv 2) (pe_tup (pa_cons (pe_slice sl_str (pv 0) (po_some (pv 4)) (po_some (pv 1))) pa_nil)))) (pss_cons (ps_set (i := 1) sc_law_read_arguments.nd rfl (Or.inl rfl) (pe_op op_add (pv 1) pe_int)) (pss_one (ps_if (pt_cmpR op_eq (pv 5) pe_str (nomark _)) (pss_one (ps_ret (pe_tup (pa_cons pe_bl (pa_cons (pv 2) (pa_cons (pv 1) pa_nil)))))) pss_nil)))))))))) (pss_one (ps_ret (pe_tup (pa_cons pe_bl (pa_cons (pv 2) (pa_cons (pv 1) pa_nil))))))))), ?_⟩
  obtain ⟨_, t, n, l, rfl, hA, ht, k⟩ := h
  refine ⟨Nat.zero_le _, fun p0 hp0 => ?_⟩
  have s0 := sm_new (o := .tup []) hp0
  refine ⟨fun σ' H' => σ' = [some (vS t), some (.int (n : Nat)), some (.ref p0), none, none, none] ∧ H' = upd H p0 (.tup []) ∧ ¬ l.head? = some 41, ?_, ?_⟩
  · refine ⟨_, rfl, _, rfl, rfl, t, n, l, rfl, hA, ht, rfl, _, rfl, ?_⟩
    rw [eq_wr lt_rp, take1]
    by_cases h41 : l.head? = some 41
    · cases l with
      | nil => cases h41
      | cons d r =>
        cases h41
        refine iteY (decide_eq_true rfl) ⟨_, rfl, _, rfl, _, _, rfl, rfl, sz_ok (by simp), fun p hp => ?_⟩
        exact k.ok (a := []) (r := r) rfl p _ (n + 1) _ (s0.trans (sm_new hp)) upd_same hA.cons (Dt.strs_mk (sm_new hp _ _ upd_same))
    · exact iteN (decide_eq_false h41) ⟨rfl, rfl, h41⟩
  · rintro σ H1 ⟨rfl, rfl, h41⟩
    refine ⟨_, rfl, by decide, by decide, ?_⟩
    refine for_it (wk_rng 3) (fun j σ H1 => ∃ (m : Nat) (l' : Ws) (pa : Addr) (ps : List Ws) (u3 u4 u5 : Option V), σ = [some (vS t), some (.int (m : Nat)), some (.ref pa), u3, u4, u5] ∧ Same H H1 ∧ H1 pa = some (.tup (ps.map vS)) ∧ At t m l' ∧ ps.length = j ∧ j ≤ 2 ∧ rdArgs l = itX (fun _ => rdArg) ps (2 - j) l') ?_ (fun _ _ _ _ _ => trivial) ?_ ?_
    · exact ⟨n, l, p0, [], none, none, none, rfl, s0, upd_same, hA, rfl, by decide, itX_0 h41⟩
    · rintro j x σ H1 H2 hj3 ⟨m, l', pa, ps, u3, u4, u5, rfl, s1, hpa, hA1, hpl, hj, he⟩ ⟨rfl, rfl⟩
      rw [Int.zero_add]
      refine ⟨_, rfl, _, rfl, _, rfl, rfl, t, m, l', rfl, hA1, ht, ?_⟩
      refine ⟨fun σ' H' => σ' = [some (vS t), some (.int (m : Nat)), some (.ref pa), some (.int (j : Nat)), some (.int (m : Nat)), some (vS (l'.take 1))] ∧ H' = H2 ∧ ∃ c r, l' = c :: r ∧ isArg c = true ∧ c ≠ 32, ?_, ?_⟩
      · refine ⟨_, rfl, rfl, _, rfl, ?_⟩
        rw [eq_nil]
        cases l' with
        | nil =>
          refine iteY rfl (iteY rfl ?_)
          refine ⟨_, rfl, _, rfl, sz_ok (by simp), fun p hp => ?_⟩
          exact k.err (he.trans (itX_er (rdArg_0 rfl))) p _ m _ (s1.trans (sm_new hp)) upd_same hA1
        | cons c r =>
          refine iteN rfl ⟨_, rfl, c, _, rfl, rfl, _, rfl, ?_⟩
          rw [spbr_in]
          by_cases hb : (c == 32 || isBr c) = true
          · refine iteY hb (iteY rfl ?_)
            have ha : rdArg (c :: r) = .error (c :: r) := by
              rcases Bool.or_eq_true_iff.mp hb with z | z
              · exact rdArg_sp (by rw [eq_of_beq z]; rfl)
              · refine rdArg_0 ?_
                unfold ar
                rw [List.takeWhile_cons_of_neg]
                unfold isArg
                simp [z]
            refine ⟨_, rfl, _, rfl, sz_ok (by simp), fun p hp => ?_⟩
            exact k.err (he.trans (itX_er ha)) p _ m _ (s1.trans (sm_new hp)) upd_same hA1
          · refine iteN (Bool.eq_false_iff.mpr hb) ⟨_, rfl, rfl, c, rfl, _, rfl, ?_⟩
            by_cases hc : isSgn c = true
            · refine iteN (by rw [hc]; rfl) ⟨rfl, rfl, c, r, rfl, ?_, ?_⟩
              · unfold isArg
                simp at hb
                simp [hc, hb.2]
              · simp at hb
                exact hb.1
            · refine iteY (by simp [hc]) ?_
              have ha : rdArg (c :: r) = .error (c :: r) := by
                refine rdArg_0 ?_
                unfold ar
                rw [List.takeWhile_cons_of_neg]
                unfold isArg
                simp [hc]
              refine ⟨_, rfl, _, rfl, sz_ok (by simp), fun p hp => ?_⟩
              exact k.err (he.trans (itX_er ha)) p _ m _ (s1.trans (sm_new hp)) upd_same hA1
      · rintro σ H3 ⟨rfl, rfl, c0, r0, hl0, hc0, hc32⟩
        have h32 : ¬ l'.head? = some 32 := fun z => hc32 (by rw [hl0] at z; exact Option.some.inj z)
        refine ⟨fun σ' H' => H' = H3 ∧ ∃ (m2 : Nat) (a l2 : Ws), σ' = [some (vS t), some (.int (m2 : Nat)), some (.ref pa), some (.int (j : Nat)), some (.int (m : Nat)), some (vS (l2.take 1))] ∧ At t m2 l2 ∧ l' = a ++ l2 ∧ (∀ c ∈ a, isArg c = true) ∧ m2 = m + a.length ∧ (∀ c r, l2 = c :: r → isArg c = false), ?_, ?_⟩
        · refine ⟨fun q σ H' => H' = H3 ∧ ∃ (m2 : Nat) (a l2 : Ws), σ = [some (vS t), some (.int (m2 : Nat)), some (.ref pa), some (.int (j : Nat)), some (.int (m : Nat)), some (vS (l2.take 1))] ∧ At t m2 l2 ∧ l' = a ++ l2 ∧ (∀ c ∈ a, isArg c = true) ∧ m2 = m + a.length ∧ q = l2.length, ⟨l'.length, rfl, m, [], l', rfl, hA1, rfl, by simp, rfl, rfl⟩, ?_⟩
          rintro q σ H4 ⟨rfl, m2, a, l2, rfl, hA2, hl, ha, hm, rfl⟩
          refine ⟨_, rfl, rfl, _, rfl, ?_⟩
          rw [eq_nil]
          cases l2 with
          | nil => exact iteN rfl (iteN rfl ⟨rfl, m2, a, [], rfl, hA2, hl, ha, hm, (fun c r e => by cases e)⟩)
          | cons c r =>
            refine iteY rfl ⟨_, rfl, rfl, c, rfl, _, rfl, ?_⟩
            by_cases hc : isSgn c = true
            · refine iteY hc ⟨_, rfl, c, _, rfl, rfl, _, rfl, ?_⟩
              rw [br_in]
              by_cases hb : isBr c = true
              · exact iteN (by rw [hb]; rfl) ⟨rfl, m2, a, c :: r, rfl, hA2, hl, ha, hm, (fun c' r' e => by cases e; unfold isArg; rw [hb]; simp)⟩
              · refine iteY (by simp [hb]) ⟨fun σ' H' => ∃ m', m' < (c :: r).length ∧ _, fun _ _ h => h, _, rfl, _, _, rfl, rfl, ?_⟩
                have na : isArg c = true := by unfold isArg; simp [hb, hc]
                refine ⟨_, rfl, _, rfl, rfl, t, m2 + 1, r, rfl, hA2.cons, ht, ?_⟩
                exact ⟨r.length, by simp, rfl, m2 + 1, a ++ [c], r, rfl, hA2.cons, by simp [hl], snoc_all ha na, by simp; omega, rfl⟩
            · exact iteN (Bool.eq_false_iff.mpr hc) (iteN rfl ⟨rfl, m2, a, c :: r, rfl, hA2, hl, ha, hm, (fun c' r' e => by cases e; unfold isArg; simp [hc])⟩)
        · rintro σ H4 ⟨rfl, m2, a, l2, rfl, hA2, hl, ha, hm, hend⟩
          obtain ⟨w1, w2⟩ := tw_end (l := l2) ha hend
          rw [← hl] at w1 w2
          have hne : a ≠ [] := fun z => by
            rw [z] at w1
            rw [hl0, List.takeWhile_cons_of_pos hc0] at w1
            cases w1
          obtain ⟨a0, d, rfl⟩ : ∃ a0 d, a = a0 ++ [d] := by
            rcases List.eq_nil_or_concat a with z | ⟨st, d, z⟩
            · exact absurd z hne
            · exact ⟨st, d, by rw [z, List.concat_eq_append]⟩
          have hd : t[m + a0.length]? = some d := by
            have q : At t m (a0 ++ (d :: l2)) := by
              have hA1 := hA1
              rw [hl] at hA1
              simpa using hA1
            exact q.app.get
          have hi : ((m2 : Nat) : Int) - 1 = ((m + a0.length : Nat) : Int) := by
            simp at hm
            omega
          have hat : atI (mkS t).cps.toList (((m2 : Nat) : Int) - 1) = some d := by
            rw [hi, cps_mkS]
            exact atI_nat hd
          have hgl : (a0 ++ [d]).getLast? = some d := by simp
          refine ⟨fun σ' H' => σ' = [some (vS t), some (.int (m2 : Nat)), some (.ref pa), some (.int (j : Nat)), some (.int (m : Nat)), some (vS (l2.take 1))] ∧ H' = H4 ∧ rdArg l' = .ok (a0 ++ [d], l2) ∧ (l2.head? = some 41 ∨ l2.head? = some 44 ∧ j ≠ 2), ?_, ?_⟩
          · refine ⟨_, rfl, _, rfl, _, _, rfl, rfl, mkS t, _, d, rfl, rfl, lenOk ht, hat, rfl, _, rfl, ?_⟩
            rw [show decide (V.str ⟨#[d]⟩ = V.str (" " : Str)) = decide ([d] = ([32] : Ws)) from eq_blank [d]]
            by_cases hb : d = 32
            · refine iteY (decide_eq_true (by rw [hb])) (iteY rfl ⟨_, rfl, _, rfl, sz_ok (by simp), fun p hp => ?_⟩)
              have her : rdArg l' = .error l2 := by
                unfold rdArg
                rw [if_neg h32, if_pos (.inr (by unfold ar; rw [w1, hgl, hb])), w2]
              exact k.err (he.trans (itX_er her)) p _ m2 _ (s1.trans (sm_new hp)) upd_same hA2
            · have hrd : rdArg l' = .ok (a0 ++ [d], l2) := by
                unfold rdArg
                rw [if_neg h32, if_neg (by unfold ar; rw [w1, hgl]; exact fun z => z.elim (by simp) fun z => hb (Option.some.inj z)), w2]
                unfold ar
                rw [w1]
              refine iteN (decide_eq_false (by simp [hb])) ⟨_, rfl, rfl, _, rfl, ?_⟩
              rw [eq_wr lt_rp, take1]
              by_cases h41 : l2.head? = some 41
              · exact iteN (by rw [decide_eq_true h41]; rfl) (iteN rfl ⟨rfl, rfl, hrd, .inl h41⟩)
              · refine iteY (by rw [decide_eq_false h41]; rfl) ⟨_, rfl, rfl, _, rfl, ?_⟩
                rw [eq_wr lt_com, take1]
                by_cases h44 : l2.head? = some 44
                · refine iteN (by rw [decide_eq_true h44]; rfl) ⟨_, rfl, rfl, _, rfl, ?_⟩
                  rw [dint]
                  by_cases h2 : j = 2
                  · refine iteY (decide_eq_true (by omega)) ⟨_, rfl, _, rfl, sz_ok (by simp), fun p hp => ?_⟩
                    exact k.err (he.trans (itX_no hrd h41 (.inl (by omega)))) p _ m2 _ (s1.trans (sm_new hp)) upd_same hA2
                  · exact iteN (decide_eq_false (by omega)) ⟨rfl, rfl, hrd, .inr ⟨h44, h2⟩⟩
                · refine iteY (by rw [decide_eq_false h44]; rfl) (iteY rfl ⟨_, rfl, _, rfl, sz_ok (by simp), fun p hp => ?_⟩)
                  exact k.err (he.trans (itX_no hrd h41 (.inr h44))) p _ m2 _ (s1.trans (sm_new hp)) upd_same hA2
          · rintro σ H5 ⟨rfl, rfl, hrd, hsg⟩
            have hs : cutS (mkS t) (some ((m : Nat) : Int)) (some ((m2 : Nat) : Int)) = mkS (a0 ++ [d]) := by
              rw [hA1.slice hm, hl, List.take_left]
            refine ⟨fun σ' H' => ∃ pb, σ' = [some (vS t), some (.int (m2 : Nat)), some (.ref pb), some (.int (j : Nat)), some (.int (m : Nat)), some (vS (l2.take 1))] ∧ Same H5 H' ∧ H' pb = some (.tup ((ps ++ [a0 ++ [d]]).map vS)), ?_, ?_⟩
            · refine ⟨_, rfl, _, rfl, _, rfl, _, rfl, _, rfl, _, rfl, mkS t, rfl, lenOk ht, ?_⟩
              rw [hs]
              refine ⟨sz_ok (by simp), fun p2 hp2 => ?_⟩
              have s2 := sm_new (o := .tup [vS (a0 ++ [d])]) hp2
              refine ⟨pa, p2, _, _, rfl, rfl, SqT.of (s2 _ _ hpa), SqT.of upd_same, sz_ok (by simp; omega), fun e => ?_, (fun _ e => by cases e), fun _ _ p3 hp3 => ?_⟩
              · have : ps = [] := List.map_eq_nil_iff.mp e
                exact ⟨p2, rfl, s2, by rw [upd_same, this]; rfl⟩
              · exact ⟨p3, rfl, s2.trans (sm_new hp3), by rw [upd_same, cat_strs]⟩
            · rintro σ H7 ⟨pb, rfl, s7, hpb⟩
              refine ⟨_, rfl, _, _, rfl, rfl, ?_⟩
              refine ⟨_, rfl, rfl, _, rfl, ?_⟩
              rw [eq_wr lt_rp, take1]
              rcases hsg with h41 | ⟨h44, h2⟩
              · cases l2 with
                | nil => cases h41
                | cons d2 r =>
                  cases h41
                  refine iteY (decide_eq_true rfl) ⟨_, rfl, _, rfl, sz_ok (by simp), fun p hp => ?_⟩
                  exact k.ok (he.trans (itX_41 hrd)) p _ (m2 + 1) _ ((s1.trans s7).trans (sm_new hp)) upd_same hA2.cons (Dt.strs_mk (sm_new hp _ _ hpb))
              · cases l2 with
                | nil => cases h44
                | cons d2 r =>
                  cases h44
                  refine iteN (decide_eq_false (by simp)) ?_
                  obtain ⟨q, hq⟩ : ∃ q, 2 - j = q + 1 := ⟨1 - j, by omega⟩
                  refine ⟨m2 + 1, r, pb, ps ++ [a0 ++ [d]], _, _, _, rfl, s1.trans s7, hpb, hA2.cons, by simp; omega, by omega, ?_⟩
                  rw [he, hq, itX_44 hrd]
                  congr 1
                  omega
    · rintro σ H1 ⟨m, l', pa, ps, u3, u4, u5, rfl, s1, hpa, hA1, hpl, hj, he⟩
      omega
end
end Kn

set_option maxHeartbeats 4000000
/-! The law's own reader: heads, uses. -/
namespace Kn
open PySem PySem.Spec PyProof.Rows L2 KnR
theorem word_bad {l : Ws} (hb : lwOk l = false) (hne : wd l = []) : rdWord [] l = .error (l.drop (wd l).length) := rdWord_2 (fun z => by cases z.2) (.inl hne)
theorem word_ok {l : Ws} (hne : wd l ≠ []) : rdWord [] l = .ok (wd l, l.drop (wd l).length) := rdWord_3 fun z => z.elim hne (fun z => by cases z)
theorem head_bad {f : Bool} {l : Ws} (hb : lwOk l = false) : rdHead f l = .error (l.drop (wd l).length) := by
  by_cases h : wd l = []
  · exact rdHead_1 (word_bad hb h)
  · exact rdHead_2 (word_ok h) (ex1_no (lw_rest hb h).2.2)
theorem use_bad {l : Ws} (hb : lwOk (l.drop (blanks l)) = false) : rdUse l = .error ((l.drop (blanks l)).drop (wd (l.drop (blanks l))).length) := by
  by_cases h : wd (l.drop (blanks l)) = []
  · exact rdUse_1 (word_bad hb h)
  · exact rdUse_2 (word_ok h) (ex1_no (lw_rest hb h).2.2)
theorem rdPs_eq {f : Bool} {r : Ws} (h : f = true → r.head? = some 41) : rdPs f r = rdParams r := by
  cases f with
  | false => rfl
  | true =>
    cases r with
    | nil => cases h rfl
    | cons d r =>
      have := h rfl
      cases this
      rw [rdPs_ok (ex1_self 41 r)]
      rfl
section
variable {P : Program} {w : World} {K : PySem.W.Frag} {mg : Str → Option Value} {base : Heap}
theorem sc_law_read_head : FnScope ["_law_text_here", "_law_at_here", "_law_is_file", "_law_name", "_law_params"] ["_law_text_here", "_law_at_here"] (defScope s_law_read_head) := ⟨rfl, rfl, rfl, by decide +kernel, rfl, by decide +kernel, by decide +kernel⟩
def sp_law_read_head (K : PySem.W.Frag) : Sp := fun vs H Q _ => vs.length = 2 ∧ ∃ (t : Ws) (n d : Nat) (l : Ws), vs = [vS t, .int (n : Nat)] ∧ At t n (d :: l) ∧ t.length ≤ 1000000 ∧ LRes Q H t (fun H v h => Dt H v (dH h)) (rdHead (d == 42) l)
theorem ok_law_read_head (T : Tx K mg) : Fn P w K mg base CX0 4 ("_law_read_head", none) ["_law_text_here", "_law_at_here"] (sp_law_read_head K) := by
  refine Fn.mk0 (d := d_law_read_head) T 51 rfl rfl rfl sc_law_read_head (fun _ _ _ _ _ _ us hl => match us, hl with | [_, _], _ => rfl) (fun vs H Q E h => h.1) (fun cdv A outer s H vs Q E hr h => ?_)
  have hu := hu_of hr
  have G_law_read_end : Fn P w K mg base CX0 2 ("_law_read_end", none) ["_law_text_here", "_law_at_here", "_law_value"] (sp_law_read_end K) := ok_law_read_end T
  have G_law_read_params : Fn P w K mg base CX0 3 ("_law_read_params", none) ["_law_text_here", "_law_at_here"] (sp_law_read_params K) := ok_law_read_params T
  have G_law_at : Fn P w K mg base CX0 1 ("_law_at", none) ["_law_text_here", "_law_at_here"] (sp_law_at K) := ok_law_at T
  have G_law_read_word : Fn P w K mg base CX0 2 ("_law_read_word", none) ["_law_text_here", "_law_at_here"] (sp_law_read_word K) := ok_law_read_word T
  refine ⟨_, (pss_cons (ps_set (i := 2) sc_law_read_head.nd rfl (Or.inl rfl) (pe_cmpR op_eq (pe_ix ix_str (pv 0) (pv 1) (fun _ _ => rfl)) pe_str (nomark _))) (pss_cons (ps_set (i := 3) sc_law_read_head.nd rfl (Or.inl rfl) (pc G_law_read_word (hr.mono (by decide)) rfl (T.glo 34) pass0 (pa_cons (pv 0) (pa_cons (pe_op op_add (pv 1) pe_int) pa_nil)))) (C8.pss_cut (ps_if (pt_not (pt_val (pe_ix ix_tup (pv 3) pe_int (fun _ _ => rfl)))) (pss_one (ps_ret (pv 3))) pss_nil) (C8.pss_cut (ps_if (pt_cmpR op_ne (pc G_law_at (hr.mono (by decide)) rfl (T.glo 33) pass0 (pa_cons (pv 0) (pa_cons (pe_ix ix_tup (pv 3) pe_int (fun _ _ => rfl)) pa_nil))) pe_str (nomark _)) (pss_one (ps_ret (pe_tup (pa_cons pe_bl (pa_cons pe_non (pa_cons (pe_ix ix_tup (pv 3) pe_int (fun _ _ => rfl)) pa_nil)))))) pss_nil) (C8.pss_cut (ps_if (PW.pt (pw_and (pt_val (pv 2)) (pw_and1 (pt_cmpR op_ne (pc G_law_at (hr.mono (by decide)) rfl (T.glo 33) pass0 (pa_cons (pv 0) (pa_cons (pe_op op_add (pe_ix ix_tup (pv 3) pe_int (fun _ _ => rfl)) pe_int) pa_nil))) pe_str (nomark _))))) (pss_one (ps_ret (pe_tup (pa_cons pe_bl (pa_cons pe_non (pa_cons (pe_op op_add (pe_ix ix_tup (pv 3) pe_int (fun _ _ => rfl)) pe_int) pa_nil)))))) pss_nil) (pss_cons (ps_set (i := 4) sc_law_read_head.nd rfl (Or.inl rfl) (pc G_law_read_params (hr.mono (by decide)) rfl (T.glo 37) pass0 (pa_cons (pv 0) (pa_cons (pe_op op_add (pe_ix ix_tup (pv 3) pe_int (fun _ _ => rfl)) pe_int) pa_nil)))) (C8.pss_cut (ps_if (pt_not (pt_val (pe_ix ix_tup (pv 4) pe_int (fun _ _ => rfl)))) (pss_one (ps_ret (pv 4))) pss_nil) (pss_one (ps_ret (pc G_law_read_end (hr.mono (by decide)) rfl (T.glo 36) pass0 (pa_cons (pv 0) (pa_cons (pe_ix ix_tup (pv 4) pe_int (fun _ _ => rfl)) (pa_cons (pe_tup (pa_cons (pe_ix ix_tup (pv 3) pe_int (fun _ _ => rfl)) (pa_cons (pe_ix ix_tup (pv 4) pe_int (fun _ _ => rfl)) (pa_cons (pv 2) pa_nil)))) pa_nil))))))))))))), ?_⟩
  obtain ⟨_, t, n, d, l, rfl, hA, ht, k⟩ := h
  refine ⟨_, rfl, _, rfl, mkS t, _, d, rfl, rfl, lenOk ht, atI_nat hA.get, rfl, ?_⟩
  have ed : decide (V.str ⟨#[d]⟩ = V.str ("*" : Str)) = (d == 42) := by
    have e : decide (V.str ⟨#[d]⟩ = V.str ("*" : Str)) = decide ([d] = ([42] : Ws)) := eq_wr (a := [d]) lt_star
    rw [e]
    by_cases h : d = 42
    · subst h; rfl
    · simp [h]
  rw [ed]
  generalize (d == 42) = f at k
  refine ⟨_, rfl, _, rfl, _, _, rfl, rfl, rfl, t, n + 1, l, rfl, hA.cons, ht, fun pn H1 s1 hn => ?_⟩
  have hwl := wd_le l
  have hA1 := hA.cons.add hwl
  refine ⟨fun σ' H' => σ' = [some (vS t), some (.int (n : Nat)), some (.bl f), some (.ref pn), none] ∧ H' = H1 ∧ lwOk l = true, ?_, ?_⟩
  · refine ⟨_, rfl, _, _, _, _, rfl, rfl, SqT.of hn, rfl, _, rfl, ?_⟩
    cases hb : lwOk l with
    | true => exact iteN rfl ⟨rfl, rfl, rfl⟩
    | false =>
      rw [hb] at hn
      exact iteY rfl ⟨_, rfl, k.err (head_bad hb) pn _ _ H1 s1 hn hA1⟩
  · rintro σ H2 ⟨rfl, rfl, hok⟩
    have e1 := word_ok (lw_ne hok)
    refine ⟨fun σ' H' => σ' = [some (vS t), some (.int (n : Nat)), some (.bl f), some (.ref pn), none] ∧ H' = H2 ∧ ∃ r2, l.drop (wd l).length = 40 :: r2, ?_, ?_⟩
    · refine ⟨_, rfl, _, rfl, _, _, _, _, rfl, rfl, SqT.of hn, rfl, rfl, t, _, _, rfl, hA1, ht, rfl, _, rfl, ?_⟩
      rw [eq_wr lt_lp, take1]
      by_cases h40 : (l.drop (wd l).length).head? = some 40
      · refine iteN (by rw [decide_eq_true h40]; rfl) ⟨rfl, rfl, ?_⟩
        cases e : l.drop (wd l).length with
        | nil => rw [e] at h40; cases h40
        | cons d' r2 =>
          rw [e] at h40
          cases h40
          exact ⟨r2, rfl⟩
      · refine iteY (by rw [decide_eq_false h40]; rfl) ⟨_, rfl, _, _, _, _, rfl, rfl, SqT.of hn, rfl, sz_ok (by simp), fun p hp => ?_⟩
        exact k.err (rdHead_2 e1 (ex1_no h40)) p _ _ _ (s1.trans (sm_new hp)) upd_same hA1
    · rintro σ H3 ⟨rfl, rfl, r2, er2⟩
      have e2 : ex1 40 (l.drop (wd l).length) = .ok r2 := by rw [er2]; exact ex1_self 40 r2
      rw [er2] at hA1
      have hA2 := hA1.cons
      refine ⟨fun σ' H' => σ' = [some (vS t), some (.int (n : Nat)), some (.bl f), some (.ref pn), none] ∧ H' = H3 ∧ (f = true → r2.head? = some 41), ?_, ?_⟩
      · refine ⟨_, rfl, _, rfl, ?_⟩
        cases f with
        | false => exact iteN rfl (iteN rfl ⟨rfl, rfl, (fun z => by cases z)⟩)
        | true =>
          refine iteY rfl ⟨_, rfl, _, rfl, _, _, _, _, rfl, rfl, SqT.of hn, rfl, _, _, rfl, rfl, rfl, t, _, r2, rfl, hA2, ht, rfl, _, rfl, ?_⟩
          rw [eq_wr lt_rp, take1]
          by_cases h41 : r2.head? = some 41
          · exact iteN (by rw [decide_eq_true h41]; rfl) ⟨rfl, rfl, fun _ => h41⟩
          · refine iteY (by rw [decide_eq_false h41]; rfl) ⟨_, rfl, _, _, _, _, rfl, rfl, SqT.of hn, rfl, _, _, rfl, rfl, sz_ok (by simp), fun p hp => ?_⟩
            exact k.err (rdHead_3 e1 e2 (rdPs_er (ex1_no h41))) p _ _ _ (s1.trans (sm_new hp)) upd_same hA2
      · rintro σ H4 ⟨rfl, rfl, hf⟩
        have e3' := rdPs_eq hf
        refine ⟨_, rfl, _, rfl, _, _, _, _, rfl, rfl, SqT.of hn, rfl, _, _, rfl, rfl, rfl, t, _, r2, rfl, hA2, ht, LRes.of (fun ps r3 e3 pp v m3 H5 s5 hp5 hA5 hv => ?_) (fun r3 e3 pp v m3 H5 s5 hp5 hA5 => ?_)⟩
        · refine ⟨fun σ' H' => σ' = [some (vS t), some (.int (n : Nat)), some (.bl f), some (.ref pn), some (.ref pp)] ∧ H' = H5, ?_, ?_⟩
          · exact ⟨_, rfl, _, _, _, _, rfl, rfl, SqT.of hp5, rfl, _, rfl, iteN rfl ⟨rfl, rfl⟩⟩
          · rintro σ H6 ⟨rfl, rfl⟩
            have hn5 := s5 _ _ hn
            refine ⟨_, rfl, _, rfl, _, _, _, _, rfl, rfl, SqT.of hp5, rfl, _, rfl, _, _, _, _, rfl, rfl, SqT.of hn5, rfl, _, rfl, _, _, _, _, rfl, rfl, SqT.of hp5, rfl, _, rfl, sz_ok (by simp), fun tp htp => ?_⟩
            obtain ⟨pa, rfl, hpa⟩ := hv.strs_inv
            have s6 := (s1.trans s5).trans (sm_new (o := .tup [vS (wd l), .ref pa, .bl f]) htp)
            refine ⟨rfl, t, m3, r3, .ref tp, rfl, hA5, ht, LEnd.of (fun r4 e4 p m4 H7 s7 h7 hA7 => ?_) (fun r4 e4 p m4 H7 s7 h7 hA7 => ?_)⟩
            · refine k.ok (a := ⟨wd l, ps, f⟩) (rdHead_5 e1 e2 (e3'.trans e3) e4) p _ m4 H7 (s6.trans s7) h7 hA7 (Dt.mono (sm_kt s7) _ _ (Dt.head_mk upd_same (sm_new htp _ _ hpa)))
            · exact k.err (rdHead_4 e1 e2 (e3'.trans e3) e4) p _ m4 H7 (s6.trans s7) h7 hA7
        · refine ⟨fun σ' H' => False, ?_, fun _ _ z => z.elim⟩
          refine ⟨_, rfl, _, _, _, _, rfl, rfl, SqT.of hp5, rfl, _, rfl, iteY rfl ⟨_, rfl, ?_⟩⟩
          exact k.err (rdHead_3 e1 e2 (e3'.trans e3)) pp v m3 H5 (s1.trans s5) hp5 hA5
theorem sc_law_read_use : FnScope ["_law_text_here", "_law_at_here", "_law_indent", "_law_name", "_law_arguments"] ["_law_text_here", "_law_at_here"] (defScope s_law_read_use) := ⟨rfl, rfl, rfl, by decide +kernel, rfl, by decide +kernel, by decide +kernel⟩
def sp_law_read_use (K : PySem.W.Frag) : Sp := fun vs H Q _ => vs.length = 2 ∧ ∃ (t : Ws) (n d : Nat) (l : Ws), vs = [vS t, .int (n : Nat)] ∧ At t n (d :: l) ∧ t.length ≤ 1000000 ∧ LRes Q H t (fun H v h => Dt H v (dL h)) (rdUse l)
theorem ok_law_read_use (T : Tx K mg) : Fn P w K mg base CX0 4 ("_law_read_use", none) ["_law_text_here", "_law_at_here"] (sp_law_read_use K) := by
  refine Fn.mk0 (d := d_law_read_use) T 53 rfl rfl rfl sc_law_read_use (fun _ _ _ _ _ _ us hl => match us, hl with | [_, _], _ => rfl) (fun vs H Q E h => h.1) (fun cdv A outer s H vs Q E hr h => ?_)
  have hu := hu_of hr
  have G_law_read_end : Fn P w K mg base CX0 2 ("_law_read_end", none) ["_law_text_here", "_law_at_here", "_law_value"] (sp_law_read_end K) := ok_law_read_end T
  have G_law_read_arguments : Fn P w K mg base CX0 3 ("_law_read_arguments", none) ["_law_text_here", "_law_at_here"] (sp_law_read_arguments K) := ok_law_read_arguments T
  have G_law_at : Fn P w K mg base CX0 1 ("_law_at", none) ["_law_text_here", "_law_at_here"] (sp_law_at K) := ok_law_at T
  have G_law_read_word : Fn P w K mg base CX0 2 ("_law_read_word", none) ["_law_text_here", "_law_at_here"] (sp_law_read_word K) := ok_law_read_word T
  refine ⟨_, (pss_cons (ps_set (i := 2) sc_law_read_use.nd rfl (Or.inl rfl) pe_int) (C8.pss_cut (ps_while PassesOwn.never (PW.pt (pw_and (pt_cmpR op_lt (pv 2) pe_int (nomark _)) (pw_and1 (pt_cmpR op_eq (pc G_law_at (hr.mono (by decide)) rfl (T.glo 33) pass0 (pa_cons (pv 0) (pa_cons (pe_op op_add (pe_op op_add (pv 1) pe_int) (pv 2)) pa_nil))) pe_str (nomark _))))) (pss_one (ps_set (i := 2) sc_law_read_use.nd rfl (Or.inl rfl) (pe_op op_add (pv 2) pe_int)))) (pss_cons (ps_set (i := 3) sc_law_read_use.nd rfl (Or.inl rfl) (pc G_law_read_word (hr.mono (by decide)) rfl (T.glo 34) pass0 (pa_cons (pv 0) (pa_cons (pe_op op_add (pe_op op_add (pv 1) pe_int) (pv 2)) pa_nil)))) (C8.pss_cut (ps_if (pt_not (pt_val (pe_ix ix_tup (pv 3) pe_int (fun _ _ => rfl)))) (pss_one (ps_ret (pv 3))) pss_nil) (C8.pss_cut (ps_if (pt_cmpR op_ne (pc G_law_at (hr.mono (by decide)) rfl (T.glo 33) pass0 (pa_cons (pv 0) (pa_cons (pe_ix ix_tup (pv 3) pe_int (fun _ _ => rfl)) pa_nil))) pe_str (nomark _)) (pss_one (ps_ret (pe_tup (pa_cons pe_bl (pa_cons pe_non (pa_cons (pe_ix ix_tup (pv 3) pe_int (fun _ _ => rfl)) pa_nil)))))) pss_nil) (pss_cons (ps_set (i := 4) sc_law_read_use.nd rfl (Or.inl rfl) (pc G_law_read_arguments (hr.mono (by decide)) rfl (T.glo 39) pass0 (pa_cons (pv 0) (pa_cons (pe_op op_add (pe_ix ix_tup (pv 3) pe_int (fun _ _ => rfl)) pe_int) pa_nil)))) (C8.pss_cut (ps_if (pt_not (pt_val (pe_ix ix_tup (pv 4) pe_int (fun _ _ => rfl)))) (pss_one (ps_ret (pv 4))) pss_nil) (pss_one (ps_ret (pc G_law_read_end (hr.mono (by decide)) rfl (T.glo 36) pass0 (pa_cons (pv 0) (pa_cons (pe_ix ix_tup (pv 4) pe_int (fun _ _ => rfl)) (pa_cons (pe_tup (pa_cons pe_str (pa_cons (pv 2) (pa_cons (pe_ix ix_tup (pv 3) pe_int (fun _ _ => rfl)) (pa_cons (pe_ix ix_tup (pv 4) pe_int (fun _ _ => rfl)) pa_nil))))) pa_nil))))))))))))), ?_⟩
  obtain ⟨_, t, n, d, l, rfl, hA, ht, k⟩ := h
  have hA0 := hA.cons
  refine ⟨fun σ' H' => H' = H ∧ ∃ (j : Nat) (l' : Ws), σ' = [some (vS t), some (.int (n : Nat)), some (.int (j : Nat)), none, none] ∧ At t (n + 1 + j) l' ∧ l = List.replicate j 32 ++ l' ∧ blanks l = j, ?_, ?_⟩
  · refine ⟨fun q σ H1 => H1 = H ∧ ∃ (j : Nat) (l' : Ws), σ = [some (vS t), some (.int (n : Nat)), some (.int (j : Nat)), none, none] ∧ At t (n + 1 + j) l' ∧ l = List.replicate j 32 ++ l' ∧ j ≤ 20 ∧ q = l'.length, ⟨l.length, rfl, 0, l, rfl, hA0, rfl, by omega, rfl⟩, ?_⟩
    rintro q σ H1 ⟨rfl, j, l', rfl, hA1, hl, hj, rfl⟩
    refine ⟨_, rfl, _, _, rfl, rfl, _, rfl, ?_⟩
    by_cases h20 : j = 20
    · exact iteN (decide_eq_false (by omega)) (iteN rfl ⟨rfl, j, l', rfl, hA1, hl, by rw [hl]; exact bl_end l' hj (.inr h20)⟩)
    · refine iteY (decide_eq_true (by omega)) ⟨_, rfl, _, rfl, _, _, rfl, rfl, _, rfl, _, _, rfl, rfl, rfl, t, n + 1 + j, l', rfl, hA1, ht, rfl, _, rfl, ?_⟩
      rw [eq_blank, take1]
      by_cases h32 : l'.head? = some 32
      · refine iteY (decide_eq_true h32) ⟨fun σ' H' => ∃ m', m' < l'.length ∧ _, fun _ _ h => h, _, rfl, _, _, rfl, rfl, ?_⟩
        cases l' with
        | nil => cases h32
        | cons c r =>
          cases h32
          refine ⟨r.length, by simp, rfl, j + 1, r, rfl, hA1.cons, ?_, by omega, rfl⟩
          rw [hl, List.replicate_succ', List.append_assoc]
          rfl
      · refine iteN (decide_eq_false h32) ⟨rfl, j, l', rfl, hA1, hl, ?_⟩
        rw [hl]
        exact bl_end l' hj (.inl fun c r e z => h32 (by rw [e, z]; rfl))
  · rintro σ H1 ⟨rfl, j, l', rfl, hA1, hl, hbl⟩
    have hdr : l.drop (blanks l) = l' := by
      rw [hbl, hl]
      have := List.drop_left (l₁ := List.replicate j 32) (l₂ := l')
      rwa [List.length_replicate] at this
    refine ⟨_, rfl, _, rfl, _, _, rfl, rfl, _, rfl, _, _, rfl, rfl, rfl, t, n + 1 + j, l', rfl, hA1, ht, fun pn H1 s1 hn => ?_⟩
    have hwl := wd_le l'
    have hA2 := hA1.add hwl
    refine ⟨fun σ' H' => σ' = [some (vS t), some (.int (n : Nat)), some (.int (j : Nat)), some (.ref pn), none] ∧ H' = H1 ∧ lwOk l' = true, ?_, ?_⟩
    · refine ⟨_, rfl, _, _, _, _, rfl, rfl, SqT.of hn, rfl, _, rfl, ?_⟩
      cases hb : lwOk l' with
      | true => exact iteN rfl ⟨rfl, rfl, rfl⟩
      | false =>
        rw [hb] at hn
        have hu := use_bad (l := l) (by rw [hdr]; exact hb)
        rw [hdr] at hu
        exact iteY rfl ⟨_, rfl, k.err hu pn _ _ H1 s1 hn hA2⟩
    · rintro σ H2 ⟨rfl, rfl, hok⟩
      have e1 : rdWord [] (l.drop (blanks l)) = .ok (wd l', l'.drop (wd l').length) := by rw [hdr]; exact word_ok (lw_ne hok)
      refine ⟨fun σ' H' => σ' = [some (vS t), some (.int (n : Nat)), some (.int (j : Nat)), some (.ref pn), none] ∧ H' = H2 ∧ ∃ r2, l'.drop (wd l').length = 40 :: r2, ?_, ?_⟩
      · refine ⟨_, rfl, _, rfl, _, _, _, _, rfl, rfl, SqT.of hn, rfl, rfl, t, _, _, rfl, hA2, ht, rfl, _, rfl, ?_⟩
        rw [eq_wr lt_lp, take1]
        by_cases h40 : (l'.drop (wd l').length).head? = some 40
        · refine iteN (by rw [decide_eq_true h40]; rfl) ⟨rfl, rfl, ?_⟩
          cases e : l'.drop (wd l').length with
          | nil => rw [e] at h40; cases h40
          | cons d' r2 =>
            rw [e] at h40
            cases h40
            exact ⟨r2, rfl⟩
        · refine iteY (by rw [decide_eq_false h40]; rfl) ⟨_, rfl, _, _, _, _, rfl, rfl, SqT.of hn, rfl, sz_ok (by simp), fun p hp => ?_⟩
          exact k.err (rdUse_2 e1 (ex1_no h40)) p _ _ _ (s1.trans (sm_new hp)) upd_same hA2
      · rintro σ H3 ⟨rfl, rfl, r2, er2⟩
        have e2 : ex1 40 (l'.drop (wd l').length) = .ok r2 := by rw [er2]; exact ex1_self 40 r2
        rw [er2] at hA2
        have hA3 := hA2.cons
        refine ⟨_, rfl, _, rfl, _, _, _, _, rfl, rfl, SqT.of hn, rfl, _, _, rfl, rfl, rfl, t, _, r2, rfl, hA3, ht, LRes.of (fun ps r3 e3 pp v m3 H5 s5 hp5 hA5 hv => ?_) (fun r3 e3 pp v m3 H5 s5 hp5 hA5 => ?_)⟩
        · refine ⟨fun σ' H' => σ' = [some (vS t), some (.int (n : Nat)), some (.int (j : Nat)), some (.ref pn), some (.ref pp)] ∧ H' = H5, ?_, ?_⟩
          · exact ⟨_, rfl, _, _, _, _, rfl, rfl, SqT.of hp5, rfl, _, rfl, iteN rfl ⟨rfl, rfl⟩⟩
          · rintro σ H6 ⟨rfl, rfl⟩
            have hn5 := s5 _ _ hn
            refine ⟨_, rfl, _, rfl, _, _, _, _, rfl, rfl, SqT.of hp5, rfl, _, rfl, _, rfl, _, _, _, _, rfl, rfl, SqT.of hn5, rfl, _, rfl, _, _, _, _, rfl, rfl, SqT.of hp5, rfl, sz_ok (by simp), fun tp htp => ?_⟩
            obtain ⟨pa, rfl, hpa⟩ := hv.strs_inv
            have s6 := (s1.trans s5).trans (sm_new (o := .tup [.str "use", .int (j : Nat), vS (wd l'), .ref pa]) htp)
            refine ⟨rfl, t, m3, r3, .ref tp, rfl, hA5, ht, LEnd.of (fun r4 e4 p m4 H7 s7 h7 hA7 => ?_) (fun r4 e4 p m4 H7 s7 h7 hA7 => ?_)⟩
            · refine k.ok (a := .use (blanks l) (wd l') ps) (rdUse_5 e1 e2 e3 e4) p _ m4 H7 (s6.trans s7) h7 hA7 (Dt.mono (sm_kt s7) _ _ ?_)
              rw [hbl]
              exact Dt.use_mk upd_same (sm_new htp _ _ hpa)
            · exact k.err (rdUse_4 e1 e2 e3 e4) p _ m4 H7 (s6.trans s7) h7 hA7
        · refine ⟨fun σ' H' => False, ?_, fun _ _ z => z.elim⟩
          refine ⟨_, rfl, _, _, _, _, rfl, rfl, SqT.of hp5, rfl, _, rfl, iteY rfl ⟨_, rfl, ?_⟩⟩
          exact k.err (rdUse_3 e1 e2 e3) pp v m3 H5 (s1.trans s5) hp5 hA5
end
end Kn

set_option maxHeartbeats 4000000
/-! The law's reader: its sections in the heap. -/
namespace Kn
open PySem PySem.Spec PyProof.Rows L2 KnR
/-- a section's cells stand outside X -/
def SecAv (X : List Addr) (H : Hp) (v : V) (s : Sc) : Prop := ∃ (a pl cl : Addr) (hv : V) (cs : List V), v = .ref a ∧ a ∉ X ∧ pl ∉ X ∧ cl ∉ X ∧ H a = some (.lst [.ref pl, hv, .ref cl]) ∧ H pl = some (.lst (s.prose.map vS)) ∧ Dt H hv (dO s.head) ∧ H cl = some (.lst cs) ∧ DtAll H cs (s.code.map dL)
theorem SecAv.keep {X : List Addr} {H H' : Hp} {v : V} {s : Sc} (h : SecAv X H v s) (k : ∀ a o, a ∉ X → H a = some o → H' a = some o) (kt : KT H H') : SecAv X H' v s := by
  obtain ⟨a, pl, cl, hv, cs, e, h1, h2, h3, h4, h5, h6, h7, h8⟩ := h
  exact ⟨a, pl, cl, hv, cs, e, h1, h2, h3, k _ _ h1 h4, k _ _ h2 h5, Dt.mono kt _ _ h6, k _ _ h3 h7, DtAll.mono kt _ _ h8⟩
theorem SecAv.up {X : List Addr} {H H' : Hp} {v : V} {s : Sc} (h : SecAv X H v s) (k : Same H H') : SecAv X H' v s := h.keep (fun a o _ e => k a o e) (sm_kt k)
theorem SecAv.mut {X : List Addr} {H : Hp} {v : V} {s : Sc} {q : Addr} {o : HO} (h : SecAv X H v s) (hq : q ∈ X) (n : NT H q) : SecAv X (upd H q o) v s :=
  h.keep (fun a u na e => by rw [upd_ne (fun z : a = q => na (by rw [z]; exact hq))]; exact e) (KT.up n)
/-- another new cell -/
theorem SecAv.re {sp hp al b : Addr} {H : Hp} {v : V} {s : Sc} (h : SecAv [sp, hp, al] H v s) (hb : H b = none) : SecAv [sp, hp, b] H v s := by
  obtain ⟨a, pl, cl, hv, cs, e, h1, h2, h3, h4, h5, h6, h7, h8⟩ := h
  simp only [List.mem_cons, List.not_mem_nil, or_false, not_or] at h1 h2 h3
  have f : ∀ {x : Addr} {o : HO}, H x = some o → x ≠ b := fun e z => by rw [z, hb] at e; cases e
  refine ⟨a, pl, cl, hv, cs, e, ?_, ?_, ?_, h4, h5, h6, h7, h8⟩ <;> simp only [List.mem_cons, List.not_mem_nil, or_false, not_or]
  · exact ⟨h1.1, h1.2.1, f h4⟩
  · exact ⟨h2.1, h2.2.1, f h5⟩
  · exact ⟨h3.1, h3.2.1, f h7⟩
def LastAt (H : Hp) (sp hp al : Addr) (s : Sc) : Prop := ∃ (pl cl : Addr) (hv : V) (cs : List V), pl ∉ [sp, hp, al] ∧ cl ∉ [sp, hp, al] ∧ H al = some (.lst [.ref pl, hv, .ref cl]) ∧ H pl = some (.lst (s.prose.map vS)) ∧ Dt H hv (dO s.head) ∧ H cl = some (.lst cs) ∧ DtAll H cs (s.code.map dL)
theorem LastAt.keep {sp hp al : Addr} {H H' : Hp} {s : Sc} (h : LastAt H sp hp al s) (n1 : al ≠ sp) (n2 : al ≠ hp) (k : ∀ a o, a ≠ sp → a ≠ hp → H a = some o → H' a = some o) (kt : KT H H') : LastAt H' sp hp al s := by
  obtain ⟨pl, cl, hv, cs, h2, h3, h4, h5, h6, h7, h8⟩ := h
  have g2 := h2
  have g3 := h3
  simp only [List.mem_cons, List.not_mem_nil, or_false, not_or] at g2 g3
  exact ⟨pl, cl, hv, cs, h2, h3, k _ _ n1 n2 h4, k _ _ g2.1 g2.2.1 h5, Dt.mono kt _ _ h6, k _ _ g3.1 g3.2.1 h7, DtAll.mono kt _ _ h8⟩
/-- the list of sections at sp, the list of heads at hp, both new since H0 -/
def Secs (H0 H : Hp) (sp hp : Addr) (ss : List Sc) : Prop := (ss = [] ∧ H sp = some (.lst [])) ∨ ∃ st s ys al, ss = st ++ [s] ∧ H sp = some (.lst (ys ++ [.ref al])) ∧ ys.length = st.length ∧ (∀ (i : Nat) (v : V) (z : Sc), ys[i]? = some v → st[i]? = some z → SecAv [sp, hp, al] H v z) ∧ al ≠ sp ∧ al ≠ hp ∧ H0 al = none ∧ LastAt H sp hp al s
theorem Secs.keep {H0 H H' : Hp} {sp hp : Addr} {ss : List Sc} (h : Secs H0 H sp hp ss) (k : ∀ a o, a ≠ hp → H a = some o → H' a = some o) (kt : KT H H') (n : sp ≠ hp) : Secs H0 H' sp hp ss := by
  rcases h with ⟨e, h1⟩ | ⟨st, s, ys, al, e, h1, h2, h3, h4, h5, h6, h7⟩
  · exact .inl ⟨e, k _ _ n h1⟩
  · refine .inr ⟨st, s, ys, al, e, k _ _ n h1, h2, fun i v z hv hz => (h3 i v z hv hz).keep (fun a o na e => ?_) kt, h4, h5, h6, h7.keep h4 h5 (fun a o _ na e => k a o na e) kt⟩
    simp only [List.mem_cons, List.not_mem_nil, or_false, not_or] at na
    exact k a o na.2.1 e
theorem Secs.up {H0 H H' : Hp} {sp hp : Addr} {ss : List Sc} (h : Secs H0 H sp hp ss) (k : Same H H') (n : sp ≠ hp) : Secs H0 H' sp hp ss := h.keep (fun a o _ e => k a o e) (sm_kt k) n
theorem Secs.mutHp {H0 H : Hp} {sp hp : Addr} {ss : List Sc} {o : HO} (h : Secs H0 H sp hp ss) (nt : NT H hp) (n : sp ≠ hp) : Secs H0 (upd H hp o) sp hp ss :=
  h.keep (fun a u na e => by rw [upd_ne na]; exact e) (KT.up nt) n
theorem Secs.lst {H0 H : Hp} {sp hp : Addr} {ss : List Sc} (h : Secs H0 H sp hp ss) : ∃ xs, H sp = some (.lst xs) ∧ xs.length = ss.length := by
  rcases h with ⟨e, h1⟩ | ⟨st, s, ys, al, e, h1, h2, _⟩
  · exact ⟨[], h1, by rw [e]; rfl⟩
  · exact ⟨_, h1, by rw [e]; simp [h2]⟩
theorem Secs.push {H0 H : Hp} {sp hp p1 p2 b : Addr} {ss : List Sc} {xs : List V} (h : Secs H0 H sp hp ss) (hx : H sp = some (.lst xs)) (s0 : Same H0 H) (n : sp ≠ hp) (hh : H hp ≠ none) (f1 : H p1 = none) (f2 : upd H p1 (.lst []) p2 = none) (f3 : upd (upd H p1 (.lst [])) p2 (.lst []) b = none) :
    Secs H0 (upd (upd (upd (upd H p1 (.lst [])) p2 (.lst [])) b (.lst [.ref p1, .non, .ref p2])) sp (.lst (xs ++ [.ref b]))) sp hp (ss ++ [⟨[], none, []⟩]) := by
  have s1 : Same H (upd H p1 (.lst [])) := sm_new f1
  have s2 : Same H (upd (upd H p1 (.lst [])) p2 (.lst [])) := s1.trans (sm_new f2)
  have s3 : Same H (upd (upd (upd H p1 (.lst [])) p2 (.lst [])) b (.lst [.ref p1, .non, .ref p2])) := s2.trans (sm_new f3)
  have fb : H b = none := by
    cases e : H b with
    | none => rfl
    | some u => rw [s2 b u e] at f3; cases f3
  have f2' : H p2 = none := by
    cases e : H p2 with
    | none => rfl
    | some u => rw [s1 p2 u e] at f2; cases f2
  have ns : ∀ {q : Addr}, H q = none → q ≠ sp := fun e z => by rw [z, hx] at e; cases e
  have nh : ∀ {q : Addr}, H q = none → q ≠ hp := fun e z => by rw [z] at e; exact hh e
  have n12 : p1 ≠ p2 := fun z => by rw [← z, upd_same] at f2; cases f2
  have n1b : p1 ≠ b := fun z => by rw [← z, upd_ne n12, upd_same] at f3; cases f3
  have n2b : p2 ≠ b := fun z => by rw [← z, upd_same] at f3; cases f3
  have hx3 := s3 _ _ hx
  have b0 : H0 b = none := by
    cases e : H0 b with
    | none => rfl
    | some u => rw [s0 b u e] at fb; cases fb
  have old : ∀ {v : V} {z : Sc} {al : Addr}, SecAv [sp, hp, al] H v z → SecAv [sp, hp, b] (upd (upd (upd (upd H p1 (.lst [])) p2 (.lst [])) b (.lst [.ref p1, .non, .ref p2])) sp (.lst (xs ++ [.ref b]))) v z :=
    fun q => ((q.re fb).up s3).mut (by simp) (NT.lst hx3)
  have new : LastAt (upd (upd (upd (upd H p1 (.lst [])) p2 (.lst [])) b (.lst [.ref p1, .non, .ref p2])) sp (.lst (xs ++ [.ref b]))) sp hp b ⟨[], none, []⟩ := by
    refine ⟨p1, p2, .non, [], ?_, ?_, ?_, ?_, .non, ?_, .nil⟩
    · simp only [List.mem_cons, List.not_mem_nil, or_false, not_or]
      exact ⟨ns f1, nh f1, n1b⟩
    · simp only [List.mem_cons, List.not_mem_nil, or_false, not_or]
      exact ⟨ns f2', nh f2', n2b⟩
    · rw [upd_ne (ns fb), upd_same]
    · rw [upd_ne (ns f1), upd_ne n1b, upd_ne n12, upd_same]
      rfl
    · rw [upd_ne (ns f2'), upd_ne n2b, upd_same]
  rcases h with ⟨e, h1⟩ | ⟨st, s, ys, al, e, h1, h2, h3, h4, h5, h6, h7⟩
  · rw [hx] at h1
    cases h1
    subst e
    exact .inr ⟨[], ⟨[], none, []⟩, [], b, rfl, upd_same, rfl, fun i v z hv _ => by simp at hv, ns fb, nh fb, b0, new⟩
  · rw [hx] at h1
    cases h1
    subst e
    refine .inr ⟨st ++ [s], ⟨[], none, []⟩, ys ++ [.ref al], b, rfl, upd_same, by simp [h2], fun i v z hv hz => ?_, ns fb, nh fb, b0, new⟩
    by_cases c : i < ys.length
    · rw [List.getElem?_append_left c] at hv
      rw [List.getElem?_append_left (by omega)] at hz
      exact old (h3 i v z hv hz)
    · have hi : i = ys.length := by
        have := (List.getElem?_eq_some_iff.mp hv).1
        simp at this
        omega
      subst hi
      rw [List.getElem?_concat_length] at hv
      rw [h2, List.getElem?_concat_length] at hz
      cases hv
      cases hz
      obtain ⟨pl, cl, hv, cs, q2, q3, q4, q5, q6, q7, q8⟩ := h7
      simp only [List.mem_cons, List.not_mem_nil, or_false, not_or] at q2 q3
      have q : SecAv [sp, hp, b] H (.ref al) s := by
        have f : ∀ {x : Addr} {o : HO}, H x = some o → x ≠ b := fun e z => by rw [z, fb] at e; cases e
        refine ⟨al, pl, cl, hv, cs, rfl, ?_, ?_, ?_, q4, q5, q6, q7, q8⟩ <;> simp only [List.mem_cons, List.not_mem_nil, or_false, not_or]
        · exact ⟨h4, h5, f q4⟩
        · exact ⟨q2.1, q2.2.1, f q5⟩
        · exact ⟨q3.1, q3.2.1, f q7⟩
      exact (q.up s3).mut (by simp) (NT.lst hx3)
/-- the last section is replaced -/
theorem Secs.set {H0 H : Hp} {sp hp al pl cl : Addr} {st : List Sc} {s' : Sc} {ys cs : List V} {hv : V} (h1 : H sp = some (.lst (ys ++ [.ref al]))) (h2 : ys.length = st.length) (h3 : ∀ (i : Nat) (v : V) (z : Sc), ys[i]? = some v → st[i]? = some z → SecAv [sp, hp, al] H v z) (h4 : al ≠ sp) (h5 : al ≠ hp) (h6 : H0 al = none)
    (nt : NT H al) (q2 : pl ∉ [sp, hp, al]) (q3 : cl ∉ [sp, hp, al]) (q5 : H pl = some (.lst (s'.prose.map vS))) (q6 : Dt H hv (dO s'.head)) (q7 : H cl = some (.lst cs)) (q8 : DtAll H cs (s'.code.map dL)) :
    Secs H0 (upd H al (.lst [.ref pl, hv, .ref cl])) sp hp (st ++ [s']) := by
  have kt : KT H (upd H al (.lst [.ref pl, hv, .ref cl])) := KT.up nt
  have g2 := q2
  have g3 := q3
  simp only [List.mem_cons, List.not_mem_nil, or_false, not_or] at g2 g3
  refine .inr ⟨st, s', ys, al, rfl, by rw [upd_ne h4.symm]; exact h1, h2, fun i v z hv hz => (h3 i v z hv hz).mut (by simp) nt, h4, h5, h6, pl, cl, hv, cs, q2, q3, upd_same, ?_, Dt.mono kt _ _ q6, ?_, DtAll.mono kt _ _ q8⟩
  · rw [upd_ne g2.2.2]
    exact q5
  · rw [upd_ne g3.2.2]
    exact q7
/-- each section as it stands -/
theorem Secs.each {H0 H : Hp} {sp hp : Addr} {ss : List Sc} (h : Secs H0 H sp hp ss) : ∃ xs, H sp = some (.lst xs) ∧ xs.length = ss.length ∧ ∀ (i : Nat) (v : V) (s : Sc), xs[i]? = some v → ss[i]? = some s → SecAv [] H v s := by
  have wk : ∀ {X : List Addr} {v : V} {z : Sc}, SecAv X H v z → SecAv [] H v z := fun ⟨a, pl, cl, hv, cs, e, _, _, _, q⟩ => ⟨a, pl, cl, hv, cs, e, by simp, by simp, by simp, q⟩
  rcases h with ⟨e, h1⟩ | ⟨st, s, ys, al, e, h1, h2, h3, h4, h5, h6, h7⟩
  · exact ⟨[], h1, by rw [e]; rfl, fun i v s hv => by simp at hv⟩
  · subst e
    refine ⟨_, h1, by simp [h2], fun i v z hv hz => ?_⟩
    by_cases c : i < ys.length
    · rw [List.getElem?_append_left c] at hv
      rw [List.getElem?_append_left (by omega)] at hz
      exact wk (h3 i v z hv hz)
    · have hi : i = ys.length := by
        have := (List.getElem?_eq_some_iff.mp hv).1
        simp at this
        omega
      subst hi
      rw [List.getElem?_concat_length] at hv
      rw [h2, List.getElem?_concat_length] at hz
      cases hv
      cases hz
      obtain ⟨pl, cl, hv, cs, q2, q3, q⟩ := h7
      exact ⟨al, pl, cl, hv, cs, rfl, by simp, by simp, by simp, q⟩
/-- the heads with their places -/
def dHN (x : Hd × Nat) : PyData := .tuple [dH x.1, .int (x.2 : Nat)]
theorem Dt.hn_inv {H : Hp} {v : V} {x : Hd × Nat} (h : Dt H v (dHN x)) : ∃ a hv, v = .ref a ∧ H a = some (.tup [hv, .int (x.2 : Nat)]) ∧ Dt H hv (dH x.1) := by
  obtain ⟨a, xs, e, h1, h2⟩ := h.tup_inv
  cases h2 with
  | cons q1 h2 =>
    cases h2 with
    | cons q2 h2 =>
      cases h2
      rw [q2.int_inv] at h1
      exact ⟨a, _, e, h1, q1⟩
theorem atI_lastN (ys : List V) (v : V) : atI (ys ++ [v]) (((ys ++ [v]).length : Int) - 1) = some v := by
  have e : (((ys ++ [v]).length : Nat) : Int) - 1 = ((ys.length : Nat) : Int) := by simp
  rw [e]
  exact atI_nat (by simp)
/-- the heads of one row more -/
theorem heads_row {ss ss' : List Sc} {row : Rw} (h : rowsOf ss' = rowsOf ss ++ [row]) : headsIn 0 (rowsOf ss') = headsIn 0 (rowsOf ss) ++ (match row.hd with | some h => [(h, (webTxt ss).length)] | none => []) := by
  rw [h, headsIn_append, Nat.zero_add]
  congr 1
  simp [headsIn]
  all_goals (cases row.hd <;> rfl)
theorem headsIn_len : ∀ (rs : List Rw) (n : Nat), (headsIn n rs).length ≤ rs.length
  | [], _ => by simp [headsIn]
  | r :: rs, n => by
    have ih := headsIn_len rs (n + (r.line.length + 1))
    show ((match r.hd with | some h => [(h, n)] | none => []) ++ headsIn _ rs).length ≤ _
    rw [List.length_append]
    cases r.hd <;> simp <;> omega
theorem sec_sizes {ss : List Sc} {s : Sc} (h : s ∈ ss) : s.prose.length ≤ (webTxt ss).length ∧ s.code.length ≤ (webTxt ss).length := by
  have h1 := web_sec ss 0 h
  rw [sec_txt] at h1
  have h2 := txt_ge (proseRows 0 0 s.prose)
  rw [proseRows_len] at h2
  have h3 := txt_ge (codeRows 0 0 s.code)
  rw [codeRows_len] at h3
  have h4 : (webTxt ss).length = (txt (rowsFrom 0 ss)).length := rfl
  omega
end Kn

set_option maxHeartbeats 4000000
/-! The law's own reader, whole. -/
namespace Kn
open PySem PySem.Spec PyProof.Rows L2 KnR
theorem call_tuple_ofK {X : Cx} {K : PySem.W.Frag} (h : X.K = K) : CallR X (.type "tuple") (fun xs H Q => ∃ p ys, xs = [.ref p] ∧ ((SqL K H p ys ∧ ∀ l, H l = none → Q (.ref l) (upd H l (.tup ys))) ∨ (SqT K H p ys ∧ Q (.ref p) H))) := by subst h; exact call_tuple_of
def lets : List Ws := [[64, 46, 61, 42], [64, 124, 62]]
theorem lets_is : ([.str "@.=*", .str "@|>"] : List V) = lets.map vS := by decide +kernel
theorem lt_bd : (".|" : Str) = mkS [46, 124] := by decide +kernel
theorem lt_es : ("=*" : Str) = mkS [61, 42] := by decide +kernel
theorem in_bd (c : Nat) : decide (c ∈ (".|" : Str).cps.toList) = (c == 46 || c == 124) := by
  rw [lt_bd, cps_mkS, Bool.eq_iff_iff]
  simp
theorem in_es (c : Nat) : decide (c ∈ ("=*" : Str).cps.toList) = (c == 61 || c == 42) := by
  rw [lt_es, cps_mkS, Bool.eq_iff_iff]
  simp
theorem one_eq {c d : Nat} {z : Str} (e : z = mkS [d]) : decide (V.str ⟨#[c]⟩ = V.str z) = (c == d) := by
  have h : decide (V.str ⟨#[c]⟩ = V.str z) = decide ([c] = ([d] : Ws)) := eq_wr (a := [c]) e
  rw [h]
  by_cases q : c = d
  · subst q; simp
  · simp [q]
def LRd (Q : VK) (H : Hp) (x : Except Nat (List Sc)) : Prop := match x with
  | .ok w => ∀ (p : Addr) (v : V) (H' : Hp), Same H H' → H' p = some (.tup [.bl true, v]) → Dt H' v (dW w) → Q (.ref p) H'
  | .error n => ∀ (p : Addr) (H' : Hp), Same H H' → H' p = some (.tup [.bl false, .int (n : Nat)]) → Q (.ref p) H'
theorem LRd.ok {Q : VK} {H : Hp} {x : Except Nat (List Sc)} (h : LRd Q H x) {w : List Sc} (e : x = .ok w) : ∀ (p : Addr) (v : V) (H' : Hp), Same H H' → H' p = some (.tup [.bl true, v]) → Dt H' v (dW w) → Q (.ref p) H' := by subst e; exact h
theorem LRd.er {Q : VK} {H : Hp} {x : Except Nat (List Sc)} (h : LRd Q H x) {n : Nat} (e : x = .error n) : ∀ (p : Addr) (H' : Hp), Same H H' → H' p = some (.tup [.bl false, .int (n : Nat)]) → Q (.ref p) H' := by subst e; exact h
theorem read_er {t r : Ws} (h : rdWeb t = .error r) {n : Nat} (hA : At t n r) : readAll t = .error n := by
  unfold readAll
  rw [h]
  dsimp only
  rw [← hA.place]
theorem go_er {t l e : Ws} {ss : List Sc} {c : Nat} (h : rdWeb t = go ss (c :: l)) (ha : allow ss c = true) (hs : step ss c l = .error e) : rdWeb t = .error e := by
  rw [h, go_cons, if_pos ha, hs]
theorem go_ok {t l r : Ws} {ss ss' : List Sc} {c : Nat} (h : rdWeb t = go ss (c :: l)) (ha : allow ss c = true) (hs : step ss c l = .ok (ss', r)) : rdWeb t = go ss' r := by
  rw [h, go_cons, if_pos ha, hs]
theorem step_64 {ss : List Sc} {l r : Ws} (e : ex1 10 l = .ok r) : step ss 64 l = .ok (ss ++ [⟨[], none, []⟩], r) := by unfold step; rw [if_pos rfl, e]
theorem step_64e {ss : List Sc} {l r : Ws} (e : ex1 10 l = .error r) : step ss 64 l = .error r := by unfold step; rw [if_pos rfl, e]
theorem step_46 {ss : List Sc} {l r s : Ws} (e : rdLine l = .ok (s, r)) : step ss 46 l = .ok (onLast (addP s) ss, r) := by unfold step; rw [if_neg (by decide), if_pos rfl, e]
theorem step_46e {ss : List Sc} {l r : Ws} (e : rdLine l = .error r) : step ss 46 l = .error r := by unfold step; rw [if_neg (by decide), if_pos rfl, e]
theorem step_124 {ss : List Sc} {l r s : Ws} (e : rdLine l = .ok (s, r)) : step ss 124 l = .ok (onLast (addC (.plain s)) ss, r) := by unfold step; rw [if_neg (by decide), if_neg (by decide), if_pos (.inl rfl), rdLn_p e]
theorem step_124e {ss : List Sc} {l r : Ws} (e : rdLine l = .error r) : step ss 124 l = .error r := by unfold step; rw [if_neg (by decide), if_neg (by decide), if_pos (.inl rfl), rdLn_pe e]
theorem step_62 {ss : List Sc} {l r : Ws} {u : Ln} (e : rdUse l = .ok (u, r)) : step ss 62 l = .ok (onLast (addC u) ss, r) := by unfold step; rw [if_neg (by decide), if_neg (by decide), if_pos (.inr rfl), rdLn_u, e]
theorem step_62e {ss : List Sc} {l r : Ws} (e : rdUse l = .error r) : step ss 62 l = .error r := by unfold step; rw [if_neg (by decide), if_neg (by decide), if_pos (.inr rfl), rdLn_u, e]
theorem step_h {ss : List Sc} {l r : Ws} {c : Nat} {h : Hd} (hc : c = 61 ∨ c = 42) (e : rdHead (c == 42) l = .ok (h, r)) : step ss c l = .ok (onLast (addH h) ss, r) := by unfold step; rw [if_neg (by omega), if_neg (by omega), if_neg (by omega), e]
theorem step_he {ss : List Sc} {l r : Ws} {c : Nat} (hc : c = 61 ∨ c = 42) (e : rdHead (c == 42) l = .error r) : step ss c l = .error r := by unfold step; rw [if_neg (by omega), if_neg (by omega), if_neg (by omega), e]
theorem heads_same {ss ss' : List Sc} {c : Nat} {l r : Ws} (hi : ∀ s ∈ ss, okC s) (ha : allow ss c = true) (hs : step ss c l = .ok (ss', r)) (hc : ¬ (c = 61 ∨ c = 42)) : headsIn 0 (rowsOf ss') = headsIn 0 (rowsOf ss) := by
  obtain ⟨o1, row, o2, o3, o4⟩ := step_rows hi ha hs
  rw [if_neg hc] at o4
  rw [heads_row o2, o4]
  simp
theorem heads_more {ss ss' : List Sc} {c : Nat} {l r : Ws} {h : Hd} (hi : ∀ s ∈ ss, okC s) (ha : allow ss c = true) (hs : step ss c l = .ok (ss', r)) (hc : c = 61 ∨ c = 42) (e : rdHead (c == 42) l = .ok (h, r)) : headsIn 0 (rowsOf ss') = headsIn 0 (rowsOf ss) ++ [(h, (webTxt ss).length)] := by
  obtain ⟨o1, row, o2, o3, o4⟩ := step_rows hi ha hs
  rw [if_pos hc, e] at o4
  rw [heads_row o2, o4]
section
variable {P : Program} {w : World} {K : PySem.W.Frag} {mg : Str → Option Value} {base : Heap}
/-- what stands at the loop's head -/
structure LS (H0 H : Hp) (sp hp : Addr) (t : Ws) (n : Nat) (l : Ws) (ss : List Sc) : Prop where
  sm : Same H0 H
  secs : Secs H0 H sp hp ss
  nn : sp ≠ hp
  s0 : H0 sp = none
  h0 : H0 hp = none
  hl : ∃ hv, H hp = some (.lst hv) ∧ DtAll H hv ((headsIn 0 (rowsOf ss)).map dHN)
  at_ : At t n l
  go : rdWeb t = Kn.go ss l
  ok : ∀ s ∈ ss, okC s
  len : (webTxt ss).length = n
theorem LS.fin {H0 H H' : Hp} {sp hp : Addr} {t : Ws} {n c : Nat} {l r : Ws} {ss ss' : List Sc} {m : Nat} (h : LS H0 H sp hp t n (c :: l) ss) (ha : allow ss c = true) (hs : step ss c l = .ok (ss', r)) (hA : At t m r)
    (sm : Same H0 H') (secs : Secs H0 H' sp hp ss') (hl : ∃ hv, H' hp = some (.lst hv) ∧ DtAll H' hv ((headsIn 0 (rowsOf ss')).map dHN)) : LS H0 H' sp hp t m r ss' := by
  obtain ⟨o1, row, o2, o3, o4⟩ := step_rows h.ok ha hs
  refine ⟨sm, secs, h.nn, h.s0, h.h0, hl, hA, go_ok h.go ha hs, o1, ?_⟩
  have e1 : (webTxt ss').length = (webTxt ss).length + (row.line.length + 1) := by
    show (txt (rowsOf ss')).length = _
    rw [o2, txt_snoc]
  have e2 := congrArg List.length o3
  rw [List.length_append, List.length_cons, List.length_cons] at e2
  have p1 := h.at_.place
  have p2 := hA.place
  have p3 := h.at_.len
  have p4 := hA.len
  have p5 := h.at_.le
  have p6 := hA.le
  have p7 := h.len
  simp only [List.length_cons] at p1 p3
  omega
theorem sc_law_read : FnScope ["_law_text_here", "_law_sections", "_law_heads_here", "_law_at_here", "_law_sign", "_law_let", "_law_found", "_law_section", "_law_k", "_law_other"] ["_law_text_here"] (defScope s_law_read) := ⟨rfl, rfl, rfl, by decide +kernel, rfl, by decide +kernel, by decide +kernel⟩
def sp_law_read (K : PySem.W.Frag) : Sp := fun vs H Q _ => vs.length = 1 ∧ ∃ (t : Ws), vs = [vS t] ∧ t.length ≤ 1000000 ∧ LRd Q H (readAll t)
theorem frsh {H : Hp} {b q : Addr} {o : HO} (e : H q = some o) (f : H b = none) : b ≠ q := fun z => by rw [z, e] at f; cases f
theorem ok_law_read (T : Tx K mg) : Fn P w K mg base CX0 5 ("_law_read", none) ["_law_text_here"] (sp_law_read K) := by
  refine Fn.mk0 (d := d_law_read) T 54 rfl rfl rfl sc_law_read (fun _ _ _ _ _ _ us hl => match us, hl with | [_], _ => rfl) (fun vs H Q E h => h.1) (fun cdv A outer s H vs Q E hr h => ?_)
  have hu := hu_of hr
  have G_law_read_end : Fn P w K mg base CX0 2 ("_law_read_end", none) ["_law_text_here", "_law_at_here", "_law_value"] (sp_law_read_end K) := ok_law_read_end T
  have G_law_read_line : Fn P w K mg base CX0 3 ("_law_read_line", none) ["_law_text_here", "_law_at_here"] (sp_law_read_line K) := ok_law_read_line T
  have G_law_read_use : Fn P w K mg base CX0 4 ("_law_read_use", none) ["_law_text_here", "_law_at_here"] (sp_law_read_use K) := ok_law_read_use T
  have G_law_read_head : Fn P w K mg base CX0 4 ("_law_read_head", none) ["_law_text_here", "_law_at_here"] (sp_law_read_head K) := ok_law_read_head T
  refine ⟨_, (pss_cons (ps_set (i := 1) sc_law_read.nd rfl (Or.inl rfl) (pe_lst pa_nil)) (pss_cons (ps_set (i := 2) sc_law_read.nd rfl (Or.inl rfl) (pe_lst pa_nil)) (pss_cons (ps_set (i := 3) sc_law_read.nd rfl (Or.inl rfl) pe_int) (pss_cons (ps_while PassesOwn.never (pt_cmpR op_lt (pv 3) (pe_callB call_len_str rfl (T.free 59) (by decide +kernel) (pa_cons (pv 0) pa_nil)) (nomark _)) (pss_cons (ps_set (i := 4) sc_law_read.nd rfl (Or.inl rfl) (pe_ix ix_str (pv 0) (pv 3) (fun _ _ => rfl))) (pss_cons (ps_set (i := 5) sc_law_read.nd rfl (Or.inl rfl) pe_str) (C8.pss_cut (ps_if (pt_cmpR op_gt (pe_callB call_len_seq rfl (T.free 59) (by decide +kernel) (pa_cons (pv 1) pa_nil)) pe_int (nomark _)) (pss_one (ps_set (i := 5) sc_law_read.nd rfl (Or.inl rfl) (pe_ix ix_list (pe_lst (pa_cons pe_str (pa_cons pe_str pa_nil))) (pe_callTy call_int1 rfl (T.free 56) (by decide +kernel) (pa_cons (pe_cmpR op_notN (pe_ix ix_list (pe_ix ix_list (pv 1) (pe_op op_sub (pe_callB call_len_seq rfl (T.free 59) (by decide +kernel) (pa_cons (pv 1) pa_nil)) pe_int) (fun _ _ => rfl)) pe_int (fun _ _ => rfl)) pe_non (nomark _)) pa_nil)) (fun _ _ => rfl)))) pss_nil) (pss_cons (ps_if (pt_cmpR op_notIn_sign (pv 4) (pv 5) rfl) (pss_one (ps_ret (pe_tup (pa_cons pe_bl (pa_cons (pv 3) pa_nil))))) pss_nil) (pss_cons (ps_if (pt_cmpR op_eq (pv 4) pe_str (nomark _)) (pss_cons (ps_set (i := 6) sc_law_read.nd rfl (Or.inl rfl) (pc G_law_read_end (hr.mono (by decide)) rfl (T.glo 36) pass0 (pa_cons (pv 0) (pa_cons (pe_op op_add (pv 3) pe_int) (pa_cons pe_non pa_nil))))) (pss_one (ps_expr (pe_bm PySem.F.plainAttrs_list PySem.F.slot_list_append PySem.F.type_list_append mt_append (pv 1) (pa_cons (pe_lst (pa_cons (pe_lst pa_nil) (pa_cons pe_non (pa_cons (pe_lst pa_nil) pa_nil)))) pa_nil))))) (pss_one (ps_if (pt_cmpR op_in_sign (pv 4) pe_str rfl) (pss_one (ps_set (i := 6) sc_law_read.nd rfl (Or.inl rfl) (pc G_law_read_line (hr.mono (by decide)) rfl (T.glo 35) pass0 (pa_cons (pv 0) (pa_cons (pe_op op_add (pv 3) pe_int) pa_nil))))) (pss_one (ps_if (pt_cmpR op_eq (pv 4) pe_str (nomark _)) (pss_one (ps_set (i := 6) sc_law_read.nd rfl (Or.inl rfl) (pc G_law_read_use (hr.mono (by decide)) rfl (T.glo 40) pass0 (pa_cons (pv 0) (pa_cons (pv 3) pa_nil))))) (pss_one (ps_set (i := 6) sc_law_read.nd rfl (Or.inl rfl) (pc G_law_read_head (hr.mono (by decide)) rfl (T.glo 38) pass0 (pa_cons (pv 0) (pa_cons (pv 3) pa_nil)))))))))) (pss_cons (ps_if (pt_not (pt_val (pe_ix ix_tup (pv 6) pe_int (fun _ _ => rfl)))) (pss_one (ps_ret (pe_tup (pa_cons pe_bl (pa_cons (pe_ix ix_tup (pv 6) pe_int (fun _ _ => rfl)) pa_nil))))) pss_nil) (pss_cons (ps_set (i := 7) sc_law_read.nd rfl (Or.inl rfl) (pe_ix ix_list (pv 1) (pe_op op_sub (pe_callB call_len_seq rfl (T.free 59) (by decide +kernel) (pa_cons (pv 1) pa_nil)) pe_int) (fun _ _ => rfl))) (pss_cons (ps_if (pt_cmpR op_eq (pv 4) pe_str (nomark _)) (pss_one (ps_asg (pe_op op_cat (pe_ix ix_list (pv 7) pe_int (fun _ _ => rfl)) (pe_lst (pa_cons (pe_ix ix_tup (pv 6) pe_int (fun _ _ => rfl)) pa_nil))) (pg_sub (pv 7) pe_int set_list))) pss_nil) (pss_cons (ps_if (pt_cmpR op_eq (pv 4) pe_str (nomark _)) (pss_one (ps_asg (pe_op op_cat (pe_ix ix_list (pv 7) pe_int (fun _ _ => rfl)) (pe_lst (pa_cons (pe_tup (pa_cons pe_str (pa_cons (pe_ix ix_tup (pv 6) pe_int (fun _ _ => rfl)) pa_nil))) pa_nil))) (pg_sub (pv 7) pe_int set_list))) pss_nil) (pss_cons (ps_if (pt_cmpR op_eq (pv 4) pe_str (nomark _)) (pss_one (ps_asg (pe_op op_cat (pe_ix ix_list (pv 7) pe_int (fun _ _ => rfl)) (pe_lst (pa_cons (pe_ix ix_tup (pv 6) pe_int (fun _ _ => rfl)) pa_nil))) (pg_sub (pv 7) pe_int set_list))) pss_nil) (pss_cons (ps_if (pt_cmpR op_in_sign (pv 4) pe_str rfl) (pss_cons (ps_asg (pe_ix ix_tup (pv 6) pe_int (fun _ _ => rfl)) (pg_sub (pv 7) pe_int set_list)) (pss_one (ps_expr (pe_bm PySem.F.plainAttrs_list PySem.F.slot_list_append PySem.F.type_list_append mt_append (pv 2) (pa_cons (pe_tup (pa_cons (pe_ix ix_tup (pv 6) pe_int (fun _ _ => rfl)) (pa_cons (pv 3) pa_nil))) pa_nil))))) pss_nil) (pss_one (ps_set (i := 3) sc_law_read.nd rfl (Or.inl rfl) (pe_ix ix_tup (pv 6) pe_int (fun _ _ => rfl)))))))))))))))) (pss_cons (ps_for PassesOwn.never rfl (pi_range1 rfl (T.free 66) (pa_cons (pe_callB call_len_seq rfl (T.free 59) (by decide +kernel) (pa_cons (pv 2) pa_nil)) pa_nil)) (pg_name (i := 8) sc_law_read.nd rfl (Or.inl rfl)) (pss_one (ps_for PassesOwn.never rfl (pi_list (pe_slice sl_list (pv 2) po_none (po_some (pv 8)))) (pg_name (i := 9) sc_law_read.nd rfl (Or.inl rfl)) (pss_one (ps_if (PW.pt (pw_and (pt_cmpR op_eq (pe_ix ix_tup (pe_ix ix_tup (pv 9) pe_int (fun _ _ => rfl)) pe_int (fun _ _ => rfl)) (pe_ix ix_tup (pe_ix ix_tup (pe_ix ix_list (pv 2) (pv 8) (fun _ _ => rfl)) pe_int (fun _ _ => rfl)) pe_int (fun _ _ => rfl)) (nomark _)) (pw_and1 (pt_cmpR (op_neD hr.units) (pe_ix ix_tup (pv 9) pe_int (fun _ _ => rfl)) (pe_ix ix_tup (pe_ix ix_list (pv 2) (pv 8) (fun _ _ => rfl)) pe_int (fun _ _ => rfl)) (nomark _))))) (pss_one (ps_ret (pe_tup (pa_cons pe_bl (pa_cons (pe_ix ix_tup (pe_ix ix_list (pv 2) (pv 8) (fun _ _ => rfl)) pe_int (fun _ _ => rfl)) pa_nil))))) pss_nil))))) (pss_one (ps_ret (pe_tup (pa_cons pe_bl (pa_cons (pe_callTy call_tuple_of rfl (T.free 62) (by decide +kernel) (pa_cons (pe_lc (own := [("_law_section", 7)]) rfl sc_law_read.nd (pi_list (pv 1)) (blkOk_by (N := ["_law_text_here", "_law_sections", "_law_heads_here", "_law_at_here", "_law_sign", "_law_let", "_law_found", "_law_section", "_law_k", "_law_other"]) (sc := defScope s_law_read) (by decide +kernel)) (fun _ _ _ _ _ => (pg_name (i := 7) sc_law_read.nd rfl (Or.inl rfl))) (fun _ _ _ _ _ => pts_nil) (fun _ _ _ _ _ => (pe_tup (pa_cons (pe_callTy (call_tuple_ofK (K := K) rfl) rfl (T.free 62) (by decide +kernel) (pa_cons (pe_ix (ix_listK (K := K) rfl) (pv 7) pe_int (fun _ _ => rfl)) pa_nil)) (pa_cons (pe_ix (ix_listK (K := K) rfl) (pv 7) pe_int (fun _ _ => rfl)) (pa_cons (pe_callTy (call_tuple_ofK (K := K) rfl) rfl (T.free 62) (by decide +kernel) (pa_cons (pe_ix (ix_listK (K := K) rfl) (pv 7) pe_int (fun _ _ => rfl)) pa_nil)) pa_nil)))))) pa_nil)) pa_nil)))))))))), ?_⟩
  obtain ⟨_, t, rfl, ht, k⟩ := h
  refine ⟨Nat.zero_le _, fun sp hsp => ⟨Nat.zero_le _, fun hp hhp => ?_⟩⟩
  have nsh : sp ≠ hp := fun z => by rw [← z, upd_same] at hhp; cases hhp
  have sI := (sm_new (o := .lst []) hsp).trans (sm_new (o := .lst []) hhp)
  have hhp0 : H hp = none := by rw [upd_ne nsh.symm] at hhp; exact hhp
  refine ⟨fun q σ H1 => ∃ (n : Nat) (l : Ws) (ss : List Sc) (u4 u5 u6 u7 : Option V), σ = [some (vS t), some (.ref sp), some (.ref hp), some (.int (n : Nat)), u4, u5, u6, u7, none, none] ∧ LS H H1 sp hp t n l ss ∧ q = l.length, ⟨t.length, 0, t, [], none, none, none, none, rfl, ⟨sI, .inl ⟨rfl, by rw [upd_ne nsh, upd_same]⟩, nsh, hsp, hhp0, ⟨[], upd_same, .nil⟩, At.zero t, (go_is t).symm, by simp, rfl⟩, rfl⟩, ?_⟩
  rintro q σ H1 ⟨n, l, ss, u4, u5, u6, u7, rfl, L, rfl⟩
  have hA := L.at_
  refine ⟨_, rfl, _, rfl, _, rfl, lenOk ht, _, _, rfl, rfl, _, rfl, ?_⟩
  rw [mkS_len]
  cases l with
  | cons c l =>
    have hlt := hA.lt
    refine iteY (decide_eq_true (by omega)) ⟨fun σ' H' => ∃ m', m' < (c :: l).length ∧ _, fun _ _ h => h, ?_⟩
    refine ⟨_, rfl, _, rfl, mkS t, _, c, rfl, rfl, lenOk ht, atI_nat hA.get, ?_⟩
    obtain ⟨xs, hxs, hxl⟩ := L.secs.lst
    refine ⟨fun σ' H' => ∃ lt : Ws, σ' = [some (vS t), some (.ref sp), some (.ref hp), some (.int (n : Nat)), some (.str ⟨#[c]⟩), some (vS lt), u6, u7, none, none] ∧ Same H1 H' ∧ decide (c ∈ lt) = allow ss c, ?_, ?_⟩
    · refine ⟨_, rfl, _, _, rfl, .inl (SqL.of hxs), _, _, rfl, rfl, _, rfl, ?_⟩
      rcases L.secs with ⟨e, h1⟩ | ⟨st, s, ys, al, e, h1, h2, h3, h4, h5, h6, h7⟩
      · rw [hxs] at h1
        cases h1
        refine iteN rfl ⟨[64], by rw [lt_at]; rfl, Same.refl _, ?_⟩
        rw [e, Bool.eq_iff_iff]
        simp [allow]
      · rw [hxs] at h1
        cases h1
        refine iteY (decide_eq_true (by simp)) ⟨sz_ok (by simp), fun p1 hp1 => ?_⟩
        obtain ⟨pl, cl, hv, cs, q2, q3, q4, q5, q6, q7, q8⟩ := h7
        have s1 := sm_new (o := .lst [.str "@.=*", .str "@|>"]) hp1
        have hx1 := s1 _ _ hxs
        refine ⟨_, rfl, _, rfl, _, _, rfl, .inl (SqL.of hx1), _, _, rfl, rfl, _, _, _, _, rfl, rfl, SqL.of hx1, atI_lastN ys _, _, _, _, _, rfl, rfl, SqL.of (s1 _ _ q4), rfl, rfl, .inr ⟨_, rfl, p1, _, _, _, rfl, rfl, SqL.of upd_same, ifs _, ?_⟩⟩
        cases eh : s.head with
        | none =>
          rw [eh] at q6
          obtain rfl := q6.none_inv
          refine ⟨[64, 46, 61, 42], ?_, s1, ?_⟩
          · have : ("@.=*" : Str) = mkS [64, 46, 61, 42] := by decide +kernel
            rw [this]
            rfl
          · rw [e, allow_snoc, eh, Bool.eq_iff_iff]
            simp
        | some o =>
          rw [eh] at q6
          obtain ⟨b1, b2, rfl, _, _⟩ := Dt.head_inv q6
          refine ⟨[64, 124, 62], ?_, s1, ?_⟩
          · have : ("@|>" : Str) = mkS [64, 124, 62] := by decide +kernel
            rw [this]
            rfl
          · rw [e, allow_snoc, eh, Bool.eq_iff_iff]
            simp
    · rintro σ H2 ⟨lt, rfl, s2, hal⟩
      refine ⟨_, rfl, _, rfl, c, _, rfl, rfl, _, rfl, ?_⟩
      rw [cps_mkS, hal]
      cases ha : allow ss c with
      | false =>
        refine iteY rfl ⟨_, rfl, sz_ok (by simp), fun p hp' => ?_⟩
        have e : rdWeb t = .error (c :: l) := by rw [L.go, go_cons, if_neg (by rw [ha]; exact Bool.false_ne_true)]
        exact k.er (read_er e hA) p _ ((L.sm.trans s2).trans (sm_new hp')) upd_same
      | true =>
        refine iteN rfl ?_
        have sH2 := L.sm.trans s2
        obtain ⟨hv0, hhv, dhv⟩ := L.hl
        have hn1 : n + 1 ≤ 1000000 := by omega
        by_cases c64 : c = 64
        · subst c64
          refine ⟨_, rfl, rfl, _, rfl, iteY ((one_eq lt_at).trans rfl) ?_⟩
          have app : ∀ {H3 : Hp} (s3 : Same H2 H3), H3 sp = some (.lst xs) := fun s3 => s3 _ _ (s2 _ _ hxs)
          have xsz : xs.length ≤ 1000000 := by
            have h1 : ss.length ≤ (webTxt ss).length := web_len ss 0
            have h2 := L.len
            omega
          refine ⟨_, rfl, _, rfl, _, _, rfl, rfl, rfl, t, n + 1, l, .non, rfl, hA.cons, ht, LEnd.of (fun r e pf m H3 s3 hf hA3 => ?_) (fun r e pf m H3 s3 hf hA3 => ?_)⟩
          · have hx3 := app s3
            have S3 := (L.secs.up (s2.trans s3) L.nn)
            refine ⟨_, rfl, .inl ⟨rfl, _, SqL.of hx3⟩, Nat.zero_le _, fun p1 hp1 => ⟨Nat.zero_le _, fun p2 hp2 => ⟨sz_ok (by simp), fun b hb => ?_⟩⟩⟩
            have sn := ((sm_new (o := .lst []) hp1).trans (sm_new (o := .lst []) hp2)).trans (sm_new (o := .lst [.ref p1, .non, .ref p2]) hb)
            refine ⟨sp, xs, _, rfl, rfl, sn _ _ hx3, sz_lt (by omega), ?_⟩
            have hh3 : H3 hp = some (.lst hv0) := s3 _ _ (s2 _ _ hhv)
            have P := S3.push hx3 (sH2.trans s3) L.nn (by rw [hh3]; simp) hp1 hp2 hb
            have ktS : KT H3 (upd (upd (upd (upd H3 p1 (.lst [])) p2 (.lst [])) b (.lst [.ref p1, .non, .ref p2])) sp (.lst (xs ++ [.ref b]))) := (sm_kt sn).trans (KT.up (NT.lst (sn _ _ hx3)))
            have hf4 := ktS _ _ hf
            refine ⟨_, rfl, _, _, _, _, rfl, rfl, SqT.of hf4, rfl, _, rfl, iteN rfl ?_⟩
            refine ⟨_, rfl, _, rfl, _, _, rfl, .inl (SqL.of upd_same), _, _, rfl, rfl, _, _, _, _, rfl, rfl, SqL.of upd_same, atI_lastN xs _, ?_⟩
            refine ⟨_, rfl, rfl, _, rfl, iteN ((one_eq lt_dot).trans rfl) ⟨_, rfl, rfl, _, rfl, iteN ((one_eq lt_bar).trans rfl) ⟨_, rfl, rfl, _, rfl, iteN ((one_eq lt_gt).trans rfl) ⟨_, rfl, 64, _, rfl, rfl, _, rfl, iteN ((in_es 64).trans rfl) ?_⟩⟩⟩⟩
            refine ⟨_, rfl, _, _, _, _, rfl, rfl, SqT.of hf4, rfl, ?_⟩
            have hst := step_64 (ss := ss) e
            have hlt2 := step_len hst
            refine ⟨r.length, hlt2, m, r, ss ++ [⟨[], none, []⟩], _, _, _, _, rfl, L.fin ha hst hA3 (sm_mut ((sH2.trans s3).trans sn) L.s0) P ⟨hv0, ?_, ?_⟩, rfl⟩
            · rw [upd_ne L.nn.symm]
              exact sn _ _ hh3
            · rw [heads_same L.ok ha hst (by decide)]
              exact DtAll.mono ((sm_kt (s2.trans s3)).trans ktS) _ _ dhv
          · have hx3 := app s3
            refine ⟨_, rfl, .inl ⟨rfl, _, SqL.of hx3⟩, Nat.zero_le _, fun p1 hp1 => ⟨Nat.zero_le _, fun p2 hp2 => ⟨sz_ok (by simp), fun b hb => ?_⟩⟩⟩
            have sn := ((sm_new (o := .lst []) hp1).trans (sm_new (o := .lst []) hp2)).trans (sm_new (o := .lst [.ref p1, .non, .ref p2]) hb)
            refine ⟨sp, xs, _, rfl, rfl, sn _ _ hx3, sz_lt (by omega), ?_⟩
            have ktS : KT H3 (upd (upd (upd (upd H3 p1 (.lst [])) p2 (.lst [])) b (.lst [.ref p1, .non, .ref p2])) sp (.lst (xs ++ [.ref b]))) := (sm_kt sn).trans (KT.up (NT.lst (sn _ _ hx3)))
            have hf4 := ktS _ _ hf
            refine ⟨_, rfl, _, _, _, _, rfl, rfl, SqT.of hf4, rfl, _, rfl, iteY rfl ⟨_, rfl, _, _, _, _, rfl, rfl, SqT.of hf4, rfl, sz_ok (by simp), fun p hp' => ?_⟩⟩
            exact k.er (read_er (go_er L.go ha (step_64e e)) hA3) p _ ((sm_mut ((sH2.trans s3).trans sn) L.s0).trans (sm_new hp')) upd_same
        · obtain ⟨st, s, ess, hcl⟩ := last_of ha c64
          rcases L.secs with ⟨e, _⟩ | ⟨st', s', ys, al, e, h1, h2, h3, h4, h5, h6, h7⟩
          · rw [e] at ess
            simp at ess
          · obtain ⟨rfl, rfl⟩ : st' = st ∧ s' = s := by
              rw [e] at ess
              have := List.append_inj' ess rfl
              exact ⟨this.1, (List.cons.inj this.2).1⟩
            obtain ⟨pl, cl, hv, cs, q2, q3, q4, q5, q6, q7, q8⟩ := h7
            have sz := sec_sizes (ss := ss) (s := s') (by rw [e]; simp)
            rw [L.len] at sz
            have csl := q8.map_len
            have hstp : onLast = onLast := rfl
            have g2 := q2
            have g3 := q3
            simp only [List.mem_cons, List.not_mem_nil, or_false, not_or] at g2 g3
            rcases hcl with ⟨hh, rfl | hc⟩ | ⟨hh, rfl | rfl⟩
            · -- prose
              refine ⟨_, rfl, rfl, _, rfl, iteN ((one_eq lt_at).trans rfl) ⟨_, rfl, 46, _, rfl, rfl, _, rfl, iteY ((in_bd 46).trans rfl) ⟨_, rfl, _, rfl, _, _, rfl, rfl, rfl, t, n + 1, l, rfl, hA.cons, ht, LRes.of (fun x r er pf v m H3 s3 hf hA3 hv' => ?_) (fun r er pf v m H3 s3 hf hA3 => ?_)⟩⟩⟩
              · subst hv'
                have t3 := s2.trans s3
                have hx3 := t3 _ _ h1
                have al3 := t3 _ _ q4
                have hh3 := t3 _ _ hhv
                refine ⟨_, rfl, _, _, _, _, rfl, rfl, SqT.of hf, rfl, _, rfl, iteN rfl ?_⟩
                refine ⟨_, rfl, _, rfl, _, _, rfl, .inl (SqL.of hx3), _, _, rfl, rfl, _, _, _, _, rfl, rfl, SqL.of hx3, atI_lastN ys _, ?_⟩
                refine ⟨_, rfl, rfl, _, rfl, iteY ((one_eq lt_dot).trans rfl) ⟨_, rfl, _, _, _, _, rfl, rfl, SqL.of al3, rfl, _, rfl, _, _, _, _, rfl, rfl, SqT.of hf, rfl, sz_ok (by simp), fun p1 hp1 => ?_⟩⟩
                have s4 := sm_new (o := .lst [vS x]) hp1
                refine ⟨pl, p1, _, _, rfl, rfl, s4 _ _ (t3 _ _ q5), upd_same, sz_ok (by simp; omega), fun p3 hp3 => ?_⟩
                have s5 := s4.trans (sm_new (o := .lst (s'.prose.map vS ++ [vS x])) hp3)
                refine ⟨_, rfl, al, _, 0, 0, rfl, rfl, s5 _ _ al3, rfl, ?_⟩
                have sq := t3.trans s5
                have q2' : p3 ∉ [sp, hp, al] := by
                  simp only [List.mem_cons, List.not_mem_nil, or_false, not_or]
                  exact ⟨frsh (s4 _ _ hx3) hp3, frsh (s4 _ _ hh3) hp3, frsh (s4 _ _ al3) hp3⟩
                have secs' := Secs.set (pl := p3) (cl := cl) (hv := hv) (s' := addP x s') (cs := cs) (sq _ _ h1) h2 (fun i v z a b => (h3 i v z a b).up sq) h4 h5 h6 (NT.lst (sq _ _ q4)) q2' q3 (by rw [upd_same]; show _ = some (HO.lst ((s'.prose ++ [x]).map vS)); rw [cat_strs]) (Dt.mono (sm_kt sq) _ _ q6) (sq _ _ q7) (DtAll.mono (sm_kt sq) _ _ q8)
                have ktf := (sm_kt s5).trans (KT.up (o := .lst [.ref p3, hv, .ref cl]) (NT.lst (sq _ _ q4)))
                have hf5 := ktf _ _ hf
                refine ⟨_, rfl, rfl, _, rfl, iteN ((one_eq lt_bar).trans rfl) ⟨_, rfl, rfl, _, rfl, iteN ((one_eq lt_gt).trans rfl) ⟨_, rfl, 46, _, rfl, rfl, _, rfl, iteN ((in_es 46).trans rfl) ⟨_, rfl, _, _, _, _, rfl, rfl, SqT.of hf5, rfl, ?_⟩⟩⟩⟩
                have hst : step ss 46 l = .ok (st' ++ [addP x s'], r) := by rw [step_46 er, e, onLast_snoc]
                refine ⟨r.length, step_len hst, m, r, _, _, _, _, _, rfl, L.fin ha hst hA3 (sm_mut (L.sm.trans sq) h6) secs' ⟨hv0, ?_, ?_⟩, rfl⟩
                · rw [upd_ne (Ne.symm h5)]
                  exact sq _ _ hhv
                · rw [heads_same L.ok ha hst (by decide)]
                  exact DtAll.mono ((sm_kt t3).trans ktf) _ _ dhv
              ·
                refine ⟨_, rfl, _, _, _, _, rfl, rfl, SqT.of hf, rfl, _, rfl, iteY rfl ⟨_, rfl, _, _, _, _, rfl, rfl, SqT.of hf, rfl, sz_ok (by simp), fun p hp' => ?_⟩⟩
                exact k.er (read_er (go_er L.go ha (step_46e er)) hA3) p _ ((sH2.trans s3).trans (sm_new hp')) upd_same
            · -- heads
              have hc64 : (c == 64) = false := by simp; omega
              have hbd : (c == 46 || c == 124) = false := by simp; omega
              have hgt : (c == 62) = false := by simp; omega
              have hes : (c == 61 || c == 42) = true := by simp; omega
              have hdt : (c == 46) = false := by simp; omega
              have hbr : (c == 124) = false := by simp; omega
              refine ⟨_, rfl, rfl, _, rfl, iteN ((one_eq lt_at).trans hc64) ⟨_, rfl, c, _, rfl, rfl, _, rfl, iteN ((in_bd c).trans hbd) ⟨_, rfl, rfl, _, rfl, iteN ((one_eq lt_gt).trans hgt) ⟨_, rfl, _, rfl, rfl, t, n, c, l, rfl, hA, ht, LRes.of (fun x r er pf v m H3 s3 hf hA3 hv' => ?_) (fun r er pf v m H3 s3 hf hA3 => ?_)⟩⟩⟩⟩
              ·
                have t3 := s2.trans s3
                have hx3 := t3 _ _ h1
                have al3 := t3 _ _ q4
                have hh3 := t3 _ _ hhv
                refine ⟨_, rfl, _, _, _, _, rfl, rfl, SqT.of hf, rfl, _, rfl, iteN rfl ?_⟩
                refine ⟨_, rfl, _, rfl, _, _, rfl, .inl (SqL.of hx3), _, _, rfl, rfl, _, _, _, _, rfl, rfl, SqL.of hx3, atI_lastN ys _, ?_⟩
                refine ⟨_, rfl, rfl, _, rfl, iteN ((one_eq lt_dot).trans hdt) ⟨_, rfl, rfl, _, rfl, iteN ((one_eq lt_bar).trans hbr) ⟨_, rfl, rfl, _, rfl, iteN ((one_eq lt_gt).trans hgt) ⟨_, rfl, c, _, rfl, rfl, _, rfl, iteY ((in_es c).trans hes) ?_⟩⟩⟩⟩
                refine ⟨_, rfl, _, _, _, _, rfl, rfl, SqT.of hf, rfl, _, rfl, al, _, 1, 1, rfl, rfl, al3, rfl, ?_⟩
                have secs' := Secs.set (pl := pl) (cl := cl) (hv := v) (s' := addH x s') (cs := cs) (t3 _ _ h1) h2 (fun i v z a b => (h3 i v z a b).up t3) h4 h5 h6 (NT.lst al3) q2 q3 (t3 _ _ q5) (show Dt H3 v (dO (some x)) from hv') (t3 _ _ q7) (DtAll.mono (sm_kt t3) _ _ q8)
                have ktf := KT.up (o := .lst [.ref pl, v, .ref cl]) (NT.lst al3)
                have hf5 := ktf _ _ hf
                have hh5 : upd H3 al (.lst [.ref pl, v, .ref cl]) hp = some (.lst hv0) := by rw [upd_ne (Ne.symm h5)]; exact hh3
                refine ⟨_, rfl, .inl ⟨rfl, _, SqL.of hh5⟩, _, rfl, _, _, _, _, rfl, rfl, SqT.of hf5, rfl, _, rfl, sz_ok (by simp), fun tp htp => ?_⟩
                have s6 := sm_new (o := .tup [v, .int (n : Nat)]) htp
                have hh6 := s6 _ _ hh5
                have hvl := dhv.map_len
                have hhl := headsIn_len (rowsOf ss) 0
                have hrl := txt_ge (rowsOf ss)
                have hln : (txt (rowsOf ss)).length = n := L.len
                refine ⟨hp, _, _, rfl, rfl, hh6, sz_lt (by omega), ?_⟩
                have kt6 := ktf.trans ((sm_kt s6).trans (KT.up (o := .lst (hv0 ++ [.ref tp])) (NT.lst hh6)))
                refine ⟨_, rfl, _, _, _, _, rfl, rfl, SqT.of (kt6 _ _ hf), rfl, ?_⟩
                have hst : step ss c l = .ok (st' ++ [addH x s'], r) := by rw [step_h hc er, e, onLast_snoc]
                refine ⟨r.length, step_len hst, m, r, _, _, _, _, _, rfl, L.fin ha hst hA3 (sm_mut ((sm_mut (L.sm.trans t3) h6).trans s6) L.h0) ((secs'.up s6 L.nn).mutHp (NT.lst hh6) L.nn) ⟨hv0 ++ [.ref tp], upd_same, ?_⟩, rfl⟩
                rw [heads_more L.ok ha hst hc er, List.map_append, L.len]
                have ntp : tp ≠ hp := frsh hh5 htp
                refine (DtAll.mono ((sm_kt t3).trans kt6) _ _ dhv).snoc (.tup (by rw [upd_ne ntp, upd_same]) (.cons (Dt.mono kt6 _ _ hv') (.cons (.int _) .nil)))
              ·
                refine ⟨_, rfl, _, _, _, _, rfl, rfl, SqT.of hf, rfl, _, rfl, iteY rfl ⟨_, rfl, _, _, _, _, rfl, rfl, SqT.of hf, rfl, sz_ok (by simp), fun p hp' => ?_⟩⟩
                exact k.er (read_er (go_er L.go ha (step_he hc er)) hA3) p _ ((sH2.trans s3).trans (sm_new hp')) upd_same
            · -- plain lines
              refine ⟨_, rfl, rfl, _, rfl, iteN ((one_eq lt_at).trans rfl) ⟨_, rfl, 124, _, rfl, rfl, _, rfl, iteY ((in_bd 124).trans rfl) ⟨_, rfl, _, rfl, _, _, rfl, rfl, rfl, t, n + 1, l, rfl, hA.cons, ht, LRes.of (fun x r er pf v m H3 s3 hf hA3 hv' => ?_) (fun r er pf v m H3 s3 hf hA3 => ?_)⟩⟩⟩
              · subst hv'
                have t3 := s2.trans s3
                have hx3 := t3 _ _ h1
                have al3 := t3 _ _ q4
                have hh3 := t3 _ _ hhv
                refine ⟨_, rfl, _, _, _, _, rfl, rfl, SqT.of hf, rfl, _, rfl, iteN rfl ?_⟩
                refine ⟨_, rfl, _, rfl, _, _, rfl, .inl (SqL.of hx3), _, _, rfl, rfl, _, _, _, _, rfl, rfl, SqL.of hx3, atI_lastN ys _, ?_⟩
                refine ⟨_, rfl, rfl, _, rfl, iteN ((one_eq lt_dot).trans rfl) ⟨_, rfl, rfl, _, rfl, iteY ((one_eq lt_bar).trans rfl) ⟨_, rfl, _, _, _, _, rfl, rfl, SqL.of al3, rfl, _, rfl, _, _, _, _, rfl, rfl, SqT.of hf, rfl, sz_ok (by simp), fun p0 hp0 => ⟨sz_ok (by simp), fun p1 hp1 => ?_⟩⟩⟩⟩
                have s40 := sm_new (o := .tup [.str "plain", vS x]) hp0
                have s4 := s40.trans (sm_new (o := .lst [.ref p0]) hp1)
                refine ⟨cl, p1, _, _, rfl, rfl, s4 _ _ (t3 _ _ q7), upd_same, sz_ok (by simp; omega), fun p3 hp3 => ?_⟩
                have s5 := s4.trans (sm_new (o := .lst (cs ++ [.ref p0])) hp3)
                refine ⟨_, rfl, al, _, 2, 2, rfl, rfl, s5 _ _ al3, rfl, ?_⟩
                have sq := t3.trans s5
                have q2' : p3 ∉ [sp, hp, al] := by
                  simp only [List.mem_cons, List.not_mem_nil, or_false, not_or]
                  exact ⟨frsh (s4 _ _ hx3) hp3, frsh (s4 _ _ hh3) hp3, frsh (s4 _ _ al3) hp3⟩
                have n01 : p0 ≠ p1 := fun z => by rw [← z, upd_same] at hp1; cases hp1
                have n03 : p0 ≠ p3 := fun z => by rw [← z, upd_ne n01, upd_same] at hp3; cases hp3
                have secs' := Secs.set (pl := pl) (cl := p3) (hv := hv) (s' := addC (.plain x) s') (cs := cs ++ [.ref p0]) (sq _ _ h1) h2 (fun i v z a b => (h3 i v z a b).up sq) h4 h5 h6 (NT.lst (sq _ _ q4)) q2 q2' (sq _ _ q5) (Dt.mono (sm_kt sq) _ _ q6) upd_same (q8.snocU (sm_kt sq) (Dt.plain_mk (by rw [upd_ne n03, upd_ne n01, upd_same])))
                have ktf := (sm_kt s5).trans (KT.up (o := .lst [.ref pl, hv, .ref p3]) (NT.lst (sq _ _ q4)))
                have hf5 := ktf _ _ hf
                refine ⟨_, rfl, rfl, _, rfl, iteN ((one_eq lt_gt).trans rfl) ⟨_, rfl, 124, _, rfl, rfl, _, rfl, iteN ((in_es 124).trans rfl) ⟨_, rfl, _, _, _, _, rfl, rfl, SqT.of hf5, rfl, ?_⟩⟩⟩
                have hst : step ss 124 l = .ok (st' ++ [addC (.plain x) s'], r) := by rw [step_124 er, e, onLast_snoc]
                refine ⟨r.length, step_len hst, m, r, _, _, _, _, _, rfl, L.fin ha hst hA3 (sm_mut (L.sm.trans sq) h6) secs' ⟨hv0, ?_, ?_⟩, rfl⟩
                · rw [upd_ne (Ne.symm h5)]
                  exact sq _ _ hhv
                · rw [heads_same L.ok ha hst (by decide)]
                  exact DtAll.mono ((sm_kt t3).trans ktf) _ _ dhv
              ·
                refine ⟨_, rfl, _, _, _, _, rfl, rfl, SqT.of hf, rfl, _, rfl, iteY rfl ⟨_, rfl, _, _, _, _, rfl, rfl, SqT.of hf, rfl, sz_ok (by simp), fun p hp' => ?_⟩⟩
                exact k.er (read_er (go_er L.go ha (step_124e er)) hA3) p _ ((sH2.trans s3).trans (sm_new hp')) upd_same
            · -- uses
              refine ⟨_, rfl, rfl, _, rfl, iteN ((one_eq lt_at).trans rfl) ⟨_, rfl, 62, _, rfl, rfl, _, rfl, iteN ((in_bd 62).trans rfl) ⟨_, rfl, rfl, _, rfl, iteY ((one_eq lt_gt).trans rfl) ⟨_, rfl, _, rfl, rfl, t, n, 62, l, rfl, hA, ht, LRes.of (fun x r er pf v m H3 s3 hf hA3 hv' => ?_) (fun r er pf v m H3 s3 hf hA3 => ?_)⟩⟩⟩⟩
              ·
                have t3 := s2.trans s3
                have hx3 := t3 _ _ h1
                have al3 := t3 _ _ q4
                have hh3 := t3 _ _ hhv
                refine ⟨_, rfl, _, _, _, _, rfl, rfl, SqT.of hf, rfl, _, rfl, iteN rfl ?_⟩
                refine ⟨_, rfl, _, rfl, _, _, rfl, .inl (SqL.of hx3), _, _, rfl, rfl, _, _, _, _, rfl, rfl, SqL.of hx3, atI_lastN ys _, ?_⟩
                refine ⟨_, rfl, rfl, _, rfl, iteN ((one_eq lt_dot).trans rfl) ⟨_, rfl, rfl, _, rfl, iteN ((one_eq lt_bar).trans rfl) ⟨_, rfl, rfl, _, rfl, iteY ((one_eq lt_gt).trans rfl) ⟨_, rfl, _, _, _, _, rfl, rfl, SqL.of al3, rfl, _, rfl, _, _, _, _, rfl, rfl, SqT.of hf, rfl, sz_ok (by simp), fun p1 hp1 => ?_⟩⟩⟩⟩
                have s4 := sm_new (o := .lst [v]) hp1
                refine ⟨cl, p1, _, _, rfl, rfl, s4 _ _ (t3 _ _ q7), upd_same, sz_ok (by simp; omega), fun p3 hp3 => ?_⟩
                have s5 := s4.trans (sm_new (o := .lst (cs ++ [v])) hp3)
                refine ⟨_, rfl, al, _, 2, 2, rfl, rfl, s5 _ _ al3, rfl, ?_⟩
                have sq := t3.trans s5
                have q2' : p3 ∉ [sp, hp, al] := by
                  simp only [List.mem_cons, List.not_mem_nil, or_false, not_or]
                  exact ⟨frsh (s4 _ _ hx3) hp3, frsh (s4 _ _ hh3) hp3, frsh (s4 _ _ al3) hp3⟩
                have secs' := Secs.set (pl := pl) (cl := p3) (hv := hv) (s' := addC x s') (cs := cs ++ [v]) (sq _ _ h1) h2 (fun i v z a b => (h3 i v z a b).up sq) h4 h5 h6 (NT.lst (sq _ _ q4)) q2 q2' (sq _ _ q5) (Dt.mono (sm_kt sq) _ _ q6) upd_same (q8.snocU (sm_kt sq) (Dt.mono (sm_kt s5) _ _ hv'))
                have ktf := (sm_kt s5).trans (KT.up (o := .lst [.ref pl, hv, .ref p3]) (NT.lst (sq _ _ q4)))
                have hf5 := ktf _ _ hf
                refine ⟨_, rfl, 62, _, rfl, rfl, _, rfl, iteN ((in_es 62).trans rfl) ⟨_, rfl, _, _, _, _, rfl, rfl, SqT.of hf5, rfl, ?_⟩⟩
                have hst : step ss 62 l = .ok (st' ++ [addC x s'], r) := by rw [step_62 er, e, onLast_snoc]
                refine ⟨r.length, step_len hst, m, r, _, _, _, _, _, rfl, L.fin ha hst hA3 (sm_mut (L.sm.trans sq) h6) secs' ⟨hv0, ?_, ?_⟩, rfl⟩
                · rw [upd_ne (Ne.symm h5)]
                  exact sq _ _ hhv
                · rw [heads_same L.ok ha hst (by decide)]
                  exact DtAll.mono ((sm_kt t3).trans ktf) _ _ dhv
              ·
                refine ⟨_, rfl, _, _, _, _, rfl, rfl, SqT.of hf, rfl, _, rfl, iteY rfl ⟨_, rfl, _, _, _, _, rfl, rfl, SqT.of hf, rfl, sz_ok (by simp), fun p hp' => ?_⟩⟩
                exact k.er (read_er (go_er L.go ha (step_62e er)) hA3) p _ ((sH2.trans s3).trans (sm_new hp')) upd_same
  | nil =>
    have hnt := hA.end_
    refine iteN (decide_eq_false (by omega)) ?_
    have ew : rdWeb t = .ok ss := by rw [L.go, go_nil]
    have wl := rdWeb_let _ t (Nat.le_refl _) _ ew
    obtain ⟨hv0, hhv, dhv⟩ := L.hl
    have hvl := dhv.map_len
    have hhl := headsIn_len (rowsOf ss) 0
    have hrl := txt_ge (rowsOf ss)
    have hln : (txt (rowsOf ss)).length = n := L.len
    have hall : ∀ x ∈ headsIn 0 (rowsOf ss), hL x.1 := fun x hx => by
      have h1 : x.1 ∈ (headsIn 0 (rowsOf ss)).map (·.1) := List.mem_map.mpr ⟨x, hx, rfl⟩
      rw [heads_rows, heads_web] at h1
      obtain ⟨s, hs, e⟩ := List.mem_filterMap.mp h1
      exact wl s hs _ e
    generalize hLh : headsIn 0 (rowsOf ss) = Lh at dhv hvl hhl hall
    have rd : ∀ {o : Option Nat}, bad [] Lh = o → readAll t = (match o with | some p => .error p | none => .ok ss) := fun e => by
      unfold readAll
      rw [ew]
      dsimp only
      rw [hLh, e]
      all_goals (rename_i o; cases o <;> rfl)
    refine ⟨_, rfl, _, _, rfl, .inl (SqL.of hhv), _, rfl, by omega, by omega, ?_⟩
    rw [Int.toNat_natCast]
    refine for_it (wk_rng hv0.length) (fun i σ H2 => ∃ (u8 u9 : Option V), σ = [some (vS t), some (.ref sp), some (.ref hp), some (.int (n : Nat)), u4, u5, u6, u7, u8, u9] ∧ Same H1 H2 ∧ bad [] Lh = bad ((Lh.take i).map (·.1)) (Lh.drop i)) ⟨none, none, rfl, Same.refl _, rfl⟩ (fun _ _ _ _ _ => trivial) ?_ ?_
    · rintro i x σ H2 H3 hi ⟨u8, u9, rfl, s2, hb⟩ ⟨rfl, rfl⟩
      rw [Int.zero_add]
      have hiL : i < Lh.length := by omega
      obtain ⟨x0, hx0⟩ : ∃ x0, Lh[i]? = some x0 := ⟨_, List.getElem?_eq_getElem hiL⟩
      obtain ⟨xv, hxv, dxv⟩ := dhv.map_at hx0
      have hxL := hall x0 (List.mem_of_getElem? hx0)
      have hdrop : Lh.drop i = x0 :: Lh.drop (i + 1) := by
        rw [List.drop_eq_getElem_cons hiL]
        congr 1
        exact (List.getElem?_eq_some_iff.mp hx0).2
      refine ⟨_, rfl, _, rfl, _, rfl, _, _, rfl, SqL.of (s2 _ _ hhv), fun p hp' => ⟨p, rfl, ⟨_, SqL.of upd_same⟩, ?_⟩⟩
      rw [cutV_take]
      have sp1 := sm_new (o := .lst (hv0.take i)) hp'
      have tl : (hv0.take i).length = i := by rw [List.length_take]; omega
      refine for_it (wk_lst (xs := hv0.take i)) (fun j σ H4 => ∃ (u9 : Option V), σ = [some (vS t), some (.ref sp), some (.ref hp), some (.int (n : Nat)), u4, u5, u6, u7, some (.int (i : Nat)), u9] ∧ Same (upd H3 p (.lst (hv0.take i))) H4 ∧ clash ((Lh.take j).map (·.1)) x0.1 = false) ⟨u9, rfl, Same.refl _, rfl⟩ (fun j σ H4 _ ⟨_, _, s4, _⟩ => SqL.of (s4 _ _ upd_same)) ?_ ?_
      · rintro j y σ H4 H5 hj ⟨v9, rfl, s4, hcl⟩ ⟨rfl, rfl⟩
        have hjL : j < Lh.length := by omega
        obtain ⟨y0, hy0⟩ : ∃ y0, Lh[j]? = some y0 := ⟨_, List.getElem?_eq_getElem hjL⟩
        obtain ⟨yv, hyv, dyv⟩ := dhv.map_at hy0
        have hyL := hall y0 (List.mem_of_getElem? hy0)
        have eyv : (hv0.take i).getD j .non = yv := by
          refine getD_at ?_
          rw [List.getElem?_take, if_pos (by omega), hyv]
        rw [eyv]
        have s5 := (s2.trans sp1).trans s4
        obtain ⟨ya, yh, rfl, hya, dyh⟩ := (Dt.mono (sm_kt s5) _ _ dyv).hn_inv
        obtain ⟨xa, xh, rfl, hxa, dxh⟩ := (Dt.mono (sm_kt s5) _ _ dxv).hn_inv
        obtain ⟨y1, y2, rfl, f1, f2⟩ := Dt.head_inv dyh
        obtain ⟨x1, x2, rfl, g1, g2⟩ := Dt.head_inv dxh
        have hh5 := s5 _ _ hhv
        have tkj : (Lh.take (j + 1)).map (·.1) = (Lh.take j).map (·.1) ++ [y0.1] := by rw [List.take_succ, hy0, List.map_append]; rfl
        have clj : clash ((Lh.take (j + 1)).map (·.1)) x0.1 = (y0.1.name == x0.1.name && !decide (y0.1 = x0.1)) := by
          rw [tkj]
          unfold clash at hcl ⊢
          rw [List.any_append, hcl]
          simp
        refine ⟨_, rfl, _, _, _, _, rfl, rfl, SqT.of hya, rfl, _, _, _, _, rfl, rfl, SqT.of f1, rfl, ?_⟩
        refine ⟨_, rfl, _, rfl, _, _, _, _, rfl, rfl, SqL.of hh5, atI_nat hxv, _, _, _, _, rfl, rfl, SqT.of hxa, rfl, _, _, _, _, rfl, rfl, SqT.of g1, rfl, rfl, _, rfl, ?_⟩
        rw [dec_vS]
        by_cases hn : y0.1.name = x0.1.name
        · refine iteY (decide_eq_true hn) ⟨_, rfl, _, _, _, _, rfl, rfl, SqT.of hya, rfl, _, rfl, _, rfl, _, _, _, _, rfl, rfl, SqL.of hh5, atI_nat hxv, _, _, _, _, rfl, rfl, SqT.of hxa, rfl, ?_⟩
          refine ⟨_, _, Dt.dp (dH y0.1) _ dyh, Dt.dp (dH x0.1) _ dxh, shaped_dH hyL, shaped_dH hxL, _, rfl, ?_⟩
          rw [eqv_dH]
          by_cases he : y0.1 = x0.1
          · refine iteN (by rw [decide_eq_true he]; rfl) ⟨_, rfl, s4, ?_⟩
            rw [clj, decide_eq_true he]
            simp
          · refine iteY (by rw [decide_eq_false he]; rfl) ⟨_, rfl, _, rfl, _, _, _, _, rfl, rfl, SqL.of hh5, atI_nat hxv, _, _, _, _, rfl, rfl, SqT.of hxa, rfl, sz_ok (by simp), fun q hq => ?_⟩
            have hbad : bad [] Lh = some x0.2 := by
              rw [hb, hdrop]
              obtain ⟨h0, p0⟩ := x0
              unfold bad
              rw [if_pos]
              unfold clash
              refine List.any_eq_true.mpr ⟨y0.1, ?_, ?_⟩
              · refine List.mem_map.mpr ⟨y0, ?_, rfl⟩
                have : (Lh.take i)[j]? = some y0 := by rw [List.getElem?_take, if_pos (by omega), hy0]
                exact List.mem_of_getElem? this
              · rw [decide_eq_false he]
                simpa using hn
            exact k.er (rd hbad) q _ ((L.sm.trans s5).trans (sm_new hq)) upd_same
        · refine iteN (decide_eq_false hn) (iteN rfl ⟨_, rfl, s4, ?_⟩)
          rw [clj]
          simp [hn]
      · rintro σ H4 ⟨v9, rfl, s4, hcl⟩
        refine ⟨_, _, rfl, (s2.trans sp1).trans s4, ?_⟩
        rw [tl] at hcl
        rw [hb, hdrop, List.take_succ, hx0, List.map_append]
        obtain ⟨h0, p0⟩ := x0
        conv => lhs; unfold bad
        rw [if_neg (by rw [hcl]; exact Bool.false_ne_true)]
        rfl
    · rintro σ H2 ⟨u8, u9, rfl, s2, hb⟩
      have hbad : bad [] Lh = none := by
        rw [hb, List.drop_of_length_le (by omega)]
        rfl
      obtain ⟨xs, hxs, hxl, hsec⟩ := L.secs.each
      have hx2 := s2 _ _ hxs
      have h1 : ss.length ≤ (webTxt ss).length := web_len ss 0
      rw [L.len] at h1
      refine ⟨_, rfl, sp, rfl, ⟨_, SqL.of hx2⟩, fun D hD => ?_⟩
      refine lc_gen (wk_lst (xs := xs)) (fun j H v => ∀ s, ss[j]? = some s → Dt H v (dC s)) hD (fun _ s => SqL.of (s _ _ hx2)) (by omega) (fun _ _ _ _ k h s e => Dt.mono k _ _ (h s e)) (fun j y H3 H4 Q1 hj s3 e q => ?_) (fun H3 vs s3 hv hl hA => ?_)
      · obtain ⟨rfl, rfl⟩ := e
        have hjs : j < ss.length := by omega
        have hs := List.getElem?_eq_getElem hjs
        obtain ⟨a, pl, cl, hv, cs, ev, _, _, _, q4, q5, q6, q7, q8⟩ := (hsec j _ _ (getD_lt .non hj) hs).up (s2.trans s3)
        rw [ev]
        refine ⟨rfl, _, rfl, _, _, _, _, rfl, rfl, SqL.of q4, rfl, _, _, rfl, .inl ⟨SqL.of q5, fun c1 hc1 => ?_⟩⟩
        have t1 := sm_new (o := .tup (ss[j].prose.map vS)) hc1
        refine ⟨_, rfl, _, _, _, _, rfl, rfl, SqL.of (t1 _ _ q4), rfl, _, rfl, _, _, _, _, rfl, rfl, SqL.of (t1 _ _ q4), rfl, _, _, rfl, .inl ⟨SqL.of (t1 _ _ q7), fun c2 hc2 => ⟨sz_ok (by simp), fun d hd => ?_⟩⟩⟩
        have t2 := sm_new (o := .tup cs) hc2
        have t3 := sm_new (o := .tup [.ref c1, hv, .ref c2]) hd
        have t123 := (t1.trans t2).trans t3
        refine q _ _ t123 fun s es => ?_
        rw [hs] at es
        cases es
        exact Dt.sec_mk upd_same (t3 _ _ (t2 _ _ upd_same)) (Dt.mono (sm_kt t123) _ _ q6) (t3 _ _ upd_same) (DtAll.mono (sm_kt t123) _ _ q8)
      · refine ⟨_, _, rfl, .inl ⟨SqL.of hv, fun wt hwt => ⟨sz_ok (by simp), fun p hp' => ?_⟩⟩⟩
        have sE := ((s2.trans s3).trans (sm_new (o := .tup vs) hwt)).trans (sm_new (o := .tup [.bl true, .ref wt]) hp')
        refine k.ok (rd hbad) p _ _ (L.sm.trans sE) upd_same (.tup (sm_new hp' _ _ upd_same) (DtAll.mono ((KT.new hwt).trans (KT.new hp')) _ _ (DtAll.of_get (by rw [hl, hxl]) fun i x y h1 h2 => hA i x h1 y h2)))
end
end Kn

set_option maxHeartbeats 4000000
/-! The law's helpers: texts spoilt; asked; right. -/
namespace Kn
open PySem PySem.Spec PyProof.Rows L2 KnR
theorem cut_ex (t : Ws) (lo hi : Option Int) : ∃ l : Ws, cutS (mkS t) lo hi = mkS l ∧ l.length ≤ t.length := by
  refine ⟨TL.tl (cutS (mkS t) lo hi), (mkS_tl _).symm, ?_⟩
  show (((mkS t).cps.toList.drop _).take _).length ≤ _
  rw [cps_mkS, List.length_take, List.length_drop]
  omega
def sp1 : Ws := [64, 46, 124, 62, 61, 42, 40, 41, 44, 10, 32, 97]
def sp2 : Ws := [40, 41, 44, 32, 97, 98, 10]
theorem lt_nt : ("\n\t" : Str) = mkS [10, 9] := by decide +kernel
theorem sp1_is : ("@.|>=*(),\n a" : Str) = mkS sp1 := by decide +kernel
theorem sp2_is : ("(), ab\n" : Str) = mkS sp2 := by decide +kernel
theorem sps_is : ([.str "@.|>=*(),\n a", .str "(), ab\n", .str (mkS sgs ++ mkS [10, 9])] : List V) = [sp1, sp2, sgs ++ [10, 9]].map vS := by rw [sp1_is, sp2_is, mkS_app]; rfl
theorem sps_len : ∀ l ∈ [sp1, sp2, sgs ++ [10, 9]], 0 < l.length ∧ l.length ≤ 100 := by
  have : [sp1, sp2, sgs ++ [10, 9]].all (fun l => decide (0 < l.length) && decide (l.length ≤ 100)) = true := by decide +kernel
  intro l hl
  have h := List.all_eq_true.mp this l hl
  simp only [Bool.and_eq_true, decide_eq_true_eq] at h
  exact h
def mores : List Ws := [[97, 98, 99, 100, 101, 102, 103, 104], [44, 97], [32], [32, 32], [40], [41], [10], [64, 10], [46, 10], [124, 10], [97, 44], [44, 44]]
theorem mores_is : ([.str "abcdefgh", .str ",a", .str " ", .str "  ", .str "(", .str ")", .str "\n", .str "@\n", .str ".\n", .str "|\n", .str "a,", .str ",,"] : List V) = mores.map vS := by decide +kernel
theorem mores_len : ∀ l ∈ mores, l.length ≤ 8 := by
  have : mores.all (fun l => decide (l.length ≤ 8)) = true := by decide +kernel
  exact fun l hl => of_decide_eq_true (List.all_eq_true.mp this l hl)
section
variable {P : Program} {w : World} {K : PySem.W.Frag} {mg : Str → Option Value} {base : Heap}
theorem sc_law_spoilt : FnScope ["_law_box_here", "_law_text_here", "_law_at_here", "_law_kind", "_law_signs_here", "_law_sign", "_law_more"] ["_law_box_here", "_law_text_here"] (defScope s_law_spoilt) := ⟨rfl, rfl, rfl, by decide +kernel, rfl, by decide +kernel, by decide +kernel⟩
def sp_law_spoilt (K : PySem.W.Frag) : Sp := fun vs H Q _ => vs.length = 2 ∧ ∃ (b c : Addr) (t : Ws), vs = [.ref b, vS t] ∧ Bx b c H ∧ t.length ≤ 200000 ∧ ∀ t' H', Kp b H H' → Bx b c H' → t'.length ≤ 3 * t.length + 10 → Q (vS t') H'
theorem ok_law_spoilt (T : Tx K mg) : Fn P w K mg base CX0 3 ("_law_spoilt", none) ["_law_box_here", "_law_text_here"] (sp_law_spoilt K) := by
  refine Fn.mk0 (d := d_law_spoilt) T 56 rfl rfl rfl sc_law_spoilt (fun _ _ _ _ _ _ us hl => match us, hl with | [_, _], _ => rfl) (fun vs H Q E h => h.1) (fun cdv A outer s H vs Q E hr h => ?_)
  have hu := hu_of hr
  have G_law_draw : Fn P w K mg base CX0 2 ("_law_draw", none) ["_law_box_here", "_law_many"] (sp_law_draw K) := ok_law_draw T
  have G_law_signs : Fn P w K mg base CX0 1 ("_law_signs", none) [] (sp_law_signs K) := ok_law_signs T
  refine ⟨_, (pss_cons (ps_set (i := 2) sc_law_spoilt.nd rfl (Or.inl rfl) (pc G_law_draw (hr.mono (by decide)) rfl (T.glo 20) pass0 (pa_cons (pv 0) (pa_cons (pe_op op_add (pe_callB call_len_str rfl (T.free 59) (by decide +kernel) (pa_cons (pv 1) pa_nil)) pe_int) pa_nil)))) (pss_cons (ps_set (i := 3) sc_law_spoilt.nd rfl (Or.inl rfl) (pc G_law_draw (hr.mono (by decide)) rfl (T.glo 20) pass0 (pa_cons (pv 0) (pa_cons pe_int pa_nil)))) (pss_cons (ps_set (i := 4) sc_law_spoilt.nd rfl (Or.inl rfl) (pe_ix ix_list (pe_lst (pa_cons pe_str (pa_cons pe_str (pa_cons (pe_op op_add_str (pc0 G_law_signs (hr.mono (by decide)) rfl (T.glo 23) pass0) pe_str) pa_nil)))) (pc G_law_draw (hr.mono (by decide)) rfl (T.glo 20) pass0 (pa_cons (pv 0) (pa_cons pe_int pa_nil))) (fun _ _ => rfl))) (pss_cons (ps_set (i := 5) sc_law_spoilt.nd rfl (Or.inl rfl) (pe_ix ix_str (pv 4) (pc G_law_draw (hr.mono (by decide)) rfl (T.glo 20) pass0 (pa_cons (pv 0) (pa_cons (pe_callB call_len_str rfl (T.free 59) (by decide +kernel) (pa_cons (pv 4) pa_nil)) pa_nil))) (fun _ _ => rfl))) (pss_cons (ps_if (pt_cmpR op_eq (pv 3) pe_int (nomark _)) (pss_one (ps_ret (pe_slice sl_str (pv 1) po_none (po_some (pv 2))))) pss_nil) (pss_cons (ps_if (pt_cmpR op_eq (pv 3) pe_int (nomark _)) (pss_one (ps_ret (pe_op op_add_str (pe_slice sl_str (pv 1) po_none (po_some (pv 2))) (pe_slice sl_str (pv 1) (po_some (pe_op op_add (pv 2) pe_int)) po_none)))) pss_nil) (pss_cons (ps_if (pt_cmpR op_eq (pv 3) pe_int (nomark _)) (pss_one (ps_ret (pe_op op_add_str (pe_op op_add_str (pe_slice sl_str (pv 1) po_none (po_some (pv 2))) (pv 5)) (pe_slice sl_str (pv 1) (po_some (pe_op op_add (pv 2) pe_int)) po_none)))) pss_nil) (pss_cons (ps_if (pt_cmpR op_eq (pv 3) pe_int (nomark _)) (pss_one (ps_ret (pe_op op_add_str (pe_op op_add_str (pe_slice sl_str (pv 1) po_none (po_some (pv 2))) (pe_slice sl_str (pv 1) (po_some (pv 2)) (po_some (pe_op op_add (pv 2) pe_int)))) (pe_slice sl_str (pv 1) (po_some (pv 2)) po_none)))) pss_nil) (pss_cons (ps_if (pt_cmpR op_eq (pv 3) pe_int (nomark _)) (pss_cons (ps_set (i := 6) sc_law_spoilt.nd rfl (Or.inl rfl) (pe_ix ix_list (pe_lst (pa_cons pe_str (pa_cons pe_str (pa_cons pe_str (pa_cons pe_str (pa_cons pe_str (pa_cons pe_str (pa_cons pe_str (pa_cons pe_str (pa_cons pe_str (pa_cons pe_str (pa_cons pe_str (pa_cons pe_str pa_nil))))))))))))) (pc G_law_draw (hr.mono (by decide)) rfl (T.glo 20) pass0 (pa_cons (pv 0) (pa_cons pe_int pa_nil))) (fun _ _ => rfl))) (pss_one (ps_ret (pe_op op_add_str (pe_op op_add_str (pe_slice sl_str (pv 1) po_none (po_some (pv 2))) (pv 6)) (pe_slice sl_str (pv 1) (po_some (pv 2)) po_none))))) pss_nil) (pss_one (ps_ret (pe_op op_add_str (pe_op op_add_str (pe_slice sl_str (pv 1) po_none (po_some (pv 2))) (pv 5)) (pe_slice sl_str (pv 1) (po_some (pv 2)) po_none))))))))))))), ?_⟩
  obtain ⟨_, b, c, t, rfl, hB, ht, k⟩ := h
  have htO : (mkS t).length ≤ sizeLine := lenOk (by omega)
  refine ⟨_, rfl, _, rfl, _, rfl, htO, _, _, rfl, rfl, rfl, b, c, _, rfl, hB, by rw [mkS_len]; omega, by rw [mkS_len]; omega, fun a H1 k1 B1 a0 a1 => ?_⟩
  refine ⟨_, rfl, rfl, b, c, 8, rfl, B1, by decide, by decide, fun kd H2 k2 B2 d0 d1 => ?_⟩
  have kk2 := k1.trans k2
  refine ⟨rfl, rfl, mkS sgs, mkS [10, 9], rfl, cS lt_nt, addOk (by simp [sgs_len]), sz_ok (by simp), fun p hp => ?_⟩
  rw [sps_is]
  refine ⟨_, rfl, rfl, b, c, 3, rfl, B2.new hp, by decide, by decide, fun r H3 k3 B3 r0 r1 => ?_⟩
  obtain ⟨z, hz, e⟩ := pick (ws := [sp1, sp2, sgs ++ [10, 9]]) r0 r1
  obtain ⟨z1, z2⟩ := sps_len z hz
  refine ⟨p, _, _, _, rfl, rfl, SqL.of (k3 _ _ (B2.ne hp).1 upd_same), e, ?_⟩
  have kk3 := (kk2.newT (o := .lst ([sp1, sp2, sgs ++ [10, 9]].map vS)) hp).trans k3
  refine ⟨_, rfl, _, rfl, _, rfl, mkS z, rfl, lenOk (by omega), rfl, b, c, _, rfl, B3, by rw [mkS_len]; omega, by rw [mkS_len]; omega, fun r H4 k4 B4 r0 r1 => ?_⟩
  rw [mkS_len] at r1
  obtain ⟨ch, hc, e⟩ := atN (l := z) r0 r1
  have kk4 := kk3.trans k4
  refine ⟨_, _, ch, rfl, rfl, lenOk (by omega), e, ?_⟩
  obtain ⟨x1, e1, q1⟩ := cut_ex t none (some a)
  obtain ⟨x2, e2, q2⟩ := cut_ex t (some (a + 1)) none
  obtain ⟨x3, e3, q3⟩ := cut_ex t (some a) (some (a + 2))
  obtain ⟨x4, e4, q4⟩ := cut_ex t (some a) none
  refine ⟨_, rfl, rfl, _, rfl, iteB (fun _ => ?_) (fun _ => ?_)⟩
  · refine ⟨_, rfl, _, rfl, _, rfl, mkS t, rfl, htO, ?_⟩
    rw [e1]
    exact k x1 H4 kk4 B4 (by omega)
  refine ⟨_, rfl, rfl, _, rfl, iteB (fun _ => ?_) (fun _ => ?_)⟩
  · refine ⟨_, rfl, _, rfl, _, rfl, mkS t, rfl, htO, _, rfl, _, rfl, _, _, rfl, rfl, _, rfl, mkS t, rfl, htO, mkS x1, mkS x2, cS e1, cS e2, addOk (by omega), ?_⟩
    rw [mkS_app]
    exact k _ H4 kk4 B4 (by simp; omega)
  refine ⟨_, rfl, rfl, _, rfl, iteB (fun _ => ?_) (fun _ => ?_)⟩
  · refine ⟨_, rfl, _, rfl, _, rfl, mkS t, rfl, htO, _, rfl, mkS x1, mkS [ch], cS e1, rfl, addOk (by simp; omega), _, rfl, _, rfl, _, _, rfl, rfl, _, rfl, mkS t, rfl, htO, mkS (x1 ++ [ch]), mkS x2, ap _ _, cS e2, addOk (by simp; omega), ?_⟩
    rw [mkS_app]
    exact k _ H4 kk4 B4 (by simp; omega)
  refine ⟨_, rfl, rfl, _, rfl, iteB (fun _ => ?_) (fun _ => ?_)⟩
  · refine ⟨_, rfl, _, rfl, _, rfl, mkS t, rfl, htO, _, rfl, _, rfl, _, rfl, _, rfl, _, _, rfl, rfl, _, rfl, mkS t, rfl, htO, mkS x1, mkS x3, cS e1, cS e3, addOk (by omega), _, rfl, _, rfl, _, rfl, mkS t, rfl, htO, mkS (x1 ++ x3), mkS x4, ap _ _, cS e4, addOk (by simp; omega), ?_⟩
    rw [mkS_app]
    exact k _ H4 kk4 B4 (by simp; omega)
  refine ⟨_, rfl, rfl, _, rfl, iteB (fun _ => ?_) (fun _ => ?_)⟩
  · refine ⟨sz_ok (by simp), fun p5 hp5 => ?_⟩
    rw [mores_is]
    refine ⟨_, rfl, rfl, b, c, 12, rfl, B4.new hp5, by decide, by decide, fun r H5 k5 B5 r0 r1 => ?_⟩
    obtain ⟨y, hy, ey⟩ := pick (ws := mores) r0 r1
    have hyl := mores_len y hy
    refine ⟨p5, _, _, _, rfl, rfl, SqL.of (k5 _ _ (B4.ne hp5).1 upd_same), ey, ?_⟩
    refine ⟨_, rfl, _, rfl, _, rfl, mkS t, rfl, htO, _, rfl, mkS x1, mkS y, cS e1, rfl, addOk (by omega), _, rfl, _, rfl, _, rfl, mkS t, rfl, htO, mkS (x1 ++ y), mkS x4, ap _ _, cS e4, addOk (by simp; omega), ?_⟩
    rw [mkS_app]
    exact k _ H5 ((kk4.newT hp5).trans k5) B5 (by simp; omega)
  · refine ⟨_, rfl, _, rfl, _, rfl, mkS t, rfl, htO, _, rfl, mkS x1, mkS [ch], cS e1, rfl, addOk (by simp; omega), _, rfl, _, rfl, _, rfl, mkS t, rfl, htO, mkS (x1 ++ [ch]), mkS x4, ap _ _, cS e4, addOk (by simp; omega), ?_⟩
    rw [mkS_app]
    exact k _ H4 kk4 B4 (by simp; omega)
end
/-! ### asked -/
def LAsk (Q : VK) (H : Hp) (t : Ws) (x : Except Nat (List Sc)) : Prop := match x with
  | .ok w => ∀ (p : Addr) (v : V) (H' : Hp), Same H H' → H' p = some (.tup [.str "told", v]) → Dt H' v (dW w) → Q (.ref p) H'
  | .error n => ∀ (p : Addr) (H' : Hp), Same H H' → H' p = some (.tup [.str "text", vS t, .int (n : Nat)]) → Q (.ref p) H'
theorem LAsk.ok {Q : VK} {H : Hp} {t : Ws} {x : Except Nat (List Sc)} (h : LAsk Q H t x) {w : List Sc} (e : x = .ok w) : ∀ (p : Addr) (v : V) (H' : Hp), Same H H' → H' p = some (.tup [.str "told", v]) → Dt H' v (dW w) → Q (.ref p) H' := by subst e; exact h
theorem LAsk.er {Q : VK} {H : Hp} {t : Ws} {x : Except Nat (List Sc)} (h : LAsk Q H t x) {n : Nat} (e : x = .error n) : ∀ (p : Addr) (H' : Hp), Same H H' → H' p = some (.tup [.str "text", vS t, .int (n : Nat)]) → Q (.ref p) H' := by subst e; exact h
theorem LAsk.of {Q : VK} {H : Hp} {t : Ws} {x : Except Nat (List Sc)} (h1 : ∀ w, x = .ok w → ∀ (p : Addr) (v : V) (H' : Hp), Same H H' → H' p = some (.tup [.str "told", v]) → Dt H' v (dW w) → Q (.ref p) H')
    (h2 : ∀ n, x = .error n → ∀ (p : Addr) (H' : Hp), Same H H' → H' p = some (.tup [.str "text", vS t, .int (n : Nat)]) → Q (.ref p) H') : LAsk Q H t x := by
  cases x with
  | ok w => exact h1 w rfl
  | error n => exact h2 n rfl
theorem RdW.of {K : PySem.W.Frag} {Q : VK} {E : XK} {H : Hp} {t : Ws} {x : Except Nat (List Sc)} (h1 : ∀ w, x = .ok w → ∀ v H', Same H H' → Dt H' v (dW w) → Q v H')
    (h2 : ∀ n, x = .error n → ∀ (d : Addr) (fs : List (Str × V)) (H' : Hp), Same H H' → H' d = some (.xd fs) → List.lookup ("text" : Str) fs = some (vS t) → List.lookup ("at" : Str) fs = some (V.int (n : Nat)) → E (.ref (He.ga K "InvalidText")) (some d) H') : RdW K Q E H t x := by
  cases x with
  | ok w => exact h1 w rfl
  | error n => exact h2 n rfl
theorem LRd.of {Q : VK} {H : Hp} {x : Except Nat (List Sc)} (h1 : ∀ w, x = .ok w → ∀ (p : Addr) (v : V) (H' : Hp), Same H H' → H' p = some (.tup [.bl true, v]) → Dt H' v (dW w) → Q (.ref p) H')
    (h2 : ∀ n, x = .error n → ∀ (p : Addr) (H' : Hp), Same H H' → H' p = some (.tup [.bl false, .int (n : Nat)]) → Q (.ref p) H') : LRd Q H x := by
  cases x with
  | ok w => exact h1 w rfl
  | error n => exact h2 n rfl
/-! ### small enough to be compared -/
theorem al_strs (d : Nat) {l : List Ws} (h : l.length ≤ 1000000) : Al (d + 2) (dSs l) := ⟨by simpa using h, fun x hx => by
  obtain ⟨s, _, rfl⟩ := List.mem_map.mp hx
  trivial⟩
theorem al_line (d : Nat) {u : Ln} (h : (lnTxt u).length ≤ 1000000) : Al (d + 3) (dL u) := by
  cases u with
  | plain s =>
    refine ⟨by simp, fun x hx => ?_⟩
    simp only [List.mem_cons, List.not_mem_nil, or_false] at hx
    rcases hx with rfl | rfl <;> trivial
  | use i n as =>
    rw [use_len] at h
    have := joinC_sum as
    refine ⟨by simp, fun x hx => ?_⟩
    simp only [List.mem_cons, List.not_mem_nil, or_false] at hx
    rcases hx with rfl | rfl | rfl | rfl
    · trivial
    · trivial
    · trivial
    · exact al_strs d (by omega)
theorem al_head (d : Nat) {o : Hd} (h : (hdTxt o).length ≤ 1000000) : Al (d + 3) (dH o) := by
  rw [hd_len] at h
  have := joinC_sum o.params
  refine ⟨by simp, fun x hx => ?_⟩
  simp only [List.mem_cons, List.not_mem_nil, or_false] at hx
  rcases hx with rfl | rfl | rfl
  · trivial
  · exact al_strs d (by omega)
  · trivial
theorem al_web {w : List Sc} (h : (webTxt w).length ≤ 1000000) : Al 10 (dW w) := by
  have h : (txt (rowsFrom 0 w)).length ≤ 1000000 := h
  have h0 := web_len w 0
  refine ⟨by simp; omega, fun x hx => ?_⟩
  obtain ⟨s, hs, rfl⟩ := List.mem_map.mp hx
  have h1 := sec_sizes hs
  have h2 := web_sec w 0 hs
  rw [sec_txt] at h2
  have h3 : (webTxt w).length ≤ 1000000 := h
  refine ⟨by simp, fun x hx => ?_⟩
  simp only [List.mem_cons, List.not_mem_nil, or_false] at hx
  rcases hx with rfl | rfl | rfl
  · exact al_strs 6 (by omega)
  · cases e : s.head with
    | none => trivial
    | some o =>
      rw [e] at h2
      have h4 : (hdTxt o).length < (txt (headRows 0 (some o))).length := txt_mem (r := ⟨0, 2, 0, hdTxt o, some o⟩) (by simp [headRows])
      exact al_head 5 (by omega)
  · refine ⟨by simp; omega, fun x hx => ?_⟩
    obtain ⟨u, hu, rfl⟩ := List.mem_map.mp hx
    have h5 := code_mem 0 0 hu
    exact al_line 4 (by omega)
theorem read_txt {t : Ws} {w : List Sc} (h : readAll t = .ok w) : webTxt w = t := by
  unfold readAll at h
  split at h
  · cases h
  · rename_i w' e
    split at h
    · cases h
    · cases h
      exact (web_txt e).1
section
variable {P : Program} {w : World} {K : PySem.W.Frag} {mg : Str → Option Value} {base : Heap}
theorem sc_law_asked : FnScope ["_law_text_here", "e"] ["_law_text_here"] (defScope s_law_asked) := ⟨rfl, rfl, rfl, by decide +kernel, rfl, by decide +kernel, by decide +kernel⟩
def sp_law_asked (K : PySem.W.Frag) : Sp := fun vs H Q _ => vs.length = 1 ∧ ∃ (t : Ws), vs = [vS t] ∧ t.length ≤ 1000000 ∧ LAsk Q H t (readAll t)
theorem ok_law_asked (T : Tx K mg) : Fn P w K mg base CX0 9 ("_law_asked", none) ["_law_text_here"] (sp_law_asked K) := by
  refine Fn.mk0 (d := d_law_asked) T 58 rfl rfl rfl sc_law_asked (fun _ _ _ _ _ _ us hl => match us, hl with | [_], _ => rfl) (fun vs H Q E h => h.1) (fun cdv A outer s H vs Q E hr h => ?_)
  have hu := hu_of hr
  have G_read_web : Fn P w K mg base (L2.CX P w) 8 ("read_web", none) ["text"] (sp_read_web K) := ok_read_web T
  refine ⟨_, (pss_one (ps_try_as (i := 1) rfl rfl sc_law_asked.nd rfl rfl ⟨rfl, by decide, .inl (T.glo 48)⟩ takes0 (fun W pn xe tk po => (pss_one (ps_ret (pe_tup (pa_cons pe_str (pa_cons (pcS G_read_web (hr.mono (by decide)) rfl (T.glo 17) (fun σ => passAt tk σ) (pa_cons (pv 0) pa_nil)) pa_nil)))))) (fun a oe cls d pn hz hf => (pss_one (ps_ret (pe_tup (pa_cons pe_str (pa_cons (pe_xf T.oex.2.1 (T.noat 83) hz hf (pv 1)) (pa_cons (pe_xf T.oex.2.1 (T.noat 84) hz hf (pv 1)) pa_nil))))))))), ?_⟩
  obtain ⟨_, t, rfl, ht, k⟩ := h
  refine ⟨_, rfl, rfl, t, rfl, ht, RdW.of (fun w' e v H1 s1 d1 => ?_) (fun n e d fs H1 s1 hd l1 l2 => ?_)⟩
  · exact ⟨sz_ok (by simp), fun p hp => k.ok e p v _ (s1.trans (sm_new hp)) upd_same (Dt.mono (KT.new hp) _ _ d1)⟩
  · refine ⟨true, T.exm 86, fun _ a ha => ?_, (fun z => by cases z)⟩
    exact ⟨_, rfl, rfl, rfl, d, fs, _, rfl, hd, l1, _, rfl, rfl, rfl, d, fs, _, rfl, hd, l2, sz_ok (by simp), fun p hp => k.er e p _ (s1.trans (sm_new hp)) upd_same⟩
theorem sc_law_right : FnScope ["_law_text_here", "_law_read_here", "_law_due"] ["_law_text_here"] (defScope s_law_right) := ⟨rfl, rfl, rfl, by decide +kernel, rfl, by decide +kernel, by decide +kernel⟩
def sp_law_right (K : PySem.W.Frag) : Sp := fun vs H Q _ => vs.length = 1 ∧ ∃ (t : Ws), vs = [vS t] ∧ t.length ≤ 1000000 ∧ ∀ H', Same H H' → Q (.bl true) H'
theorem ok_law_right (T : Tx K mg) : Fn P w K mg base CX0 13 ("_law_right", none) ["_law_text_here"] (sp_law_right K) := by
  refine Fn.mk0 (d := d_law_right) T 59 rfl rfl rfl sc_law_right (fun _ _ _ _ _ _ us hl => match us, hl with | [_], _ => rfl) (fun vs H Q E h => h.1) (fun cdv A outer s H vs Q E hr h => ?_)
  have hu := hu_of hr
  have G_law_alike : Fn P w K mg base CX0 12 ("_law_alike", none) ["_law_told", "_law_due"] (sp_law_alike K) := ok_law_alike T
  have G_law_asked : Fn P w K mg base CX0 9 ("_law_asked", none) ["_law_text_here"] (sp_law_asked K) := ok_law_asked T
  have G_law_read : Fn P w K mg base CX0 5 ("_law_read", none) ["_law_text_here"] (sp_law_read K) := ok_law_read T
  refine ⟨_, (pss_cons (ps_set (i := 1) sc_law_right.nd rfl (Or.inl rfl) (pc G_law_read (hr.mono (by decide)) rfl (T.glo 41) pass0 (pa_cons (pv 0) pa_nil))) (pss_cons (ps_set (i := 2) sc_law_right.nd rfl (Or.inl rfl) (pe_tup (pa_cons pe_str (pa_cons (pv 0) (pa_cons (pe_ix ix_tup (pv 1) pe_int (fun _ _ => rfl)) pa_nil))))) (C8.pss_cut (ps_if (pt_val (pe_ix ix_tup (pv 1) pe_int (fun _ _ => rfl))) (pss_one (ps_set (i := 2) sc_law_right.nd rfl (Or.inl rfl) (pe_tup (pa_cons pe_str (pa_cons (pe_ix ix_tup (pv 1) pe_int (fun _ _ => rfl)) pa_nil))))) pss_nil) (pss_one (ps_ret (pc G_law_alike (hr.mono (by decide)) rfl (T.glo 21) pass0 (pa_cons (pc G_law_asked (hr.mono (by decide)) rfl (T.glo 45) pass0 (pa_cons (pv 0) pa_nil)) (pa_cons (pv 2) pa_nil)))))))), ?_⟩
  obtain ⟨_, t, rfl, ht, k⟩ := h
  refine ⟨_, rfl, rfl, t, rfl, ht, LRd.of (fun w' e p v H1 s1 hp d1 => ?_) (fun n e p H1 s1 hp => ?_)⟩
  · refine ⟨_, rfl, _, rfl, _, _, _, _, rfl, rfl, SqT.of hp, rfl, sz_ok (by simp), fun q1 hq1 => ?_⟩
    have s2 := sm_new (o := .tup [.str "text", vS t, v]) hq1
    refine ⟨fun σ' H' => ∃ q2, σ' = [some (vS t), some (.ref p), some (.ref q2)] ∧ Same H1 H' ∧ H' q2 = some (.tup [.str "told", v]), ?_, ?_⟩
    · refine ⟨_, rfl, _, _, _, _, rfl, rfl, SqT.of (s2 _ _ hp), rfl, _, rfl, iteY rfl ?_⟩
      exact ⟨_, rfl, _, _, _, _, rfl, rfl, SqT.of (s2 _ _ hp), rfl, sz_ok (by simp), fun q2 hq2 => ⟨q2, rfl, s2.trans (sm_new hq2), upd_same⟩⟩
    · rintro σ H2 ⟨q2, rfl, s3, hq2⟩
      have hw : (webTxt w').length ≤ 1000000 := by rw [read_txt e]; exact ht
      refine ⟨_, rfl, rfl, t, rfl, ht, LAsk.of (fun w2 e2 p3 v3 H3 s4 hp3 d3 => ?_) (fun n e2 p3 H3 s4 hp3 => ?_)⟩
      · rw [e] at e2
        cases e2
        refine ⟨_, rfl, rfl, _, _, .tuple [.str "told", dW w'], rfl, .tup hp3 (.cons (.str _) (.cons d3 .nil)), .tup (s4 _ _ hq2) (.cons (.str _) (.cons (Dt.mono (sm_kt (s3.trans s4)) _ _ d1) .nil)), ?_, fun H4 s5 => k _ (((s1.trans s3).trans s4).trans s5)⟩
        refine ⟨by simp, fun x hx => ?_⟩
        simp only [List.mem_cons, List.not_mem_nil, or_false] at hx
        rcases hx with rfl | rfl
        · trivial
        · exact al_web hw
      · rw [e] at e2
        cases e2
  · refine ⟨_, rfl, _, rfl, _, _, _, _, rfl, rfl, SqT.of hp, rfl, sz_ok (by simp), fun q1 hq1 => ?_⟩
    have s2 := sm_new (o := .tup [.str "text", vS t, .int (n : Nat)]) hq1
    refine ⟨fun σ' H' => σ' = [some (vS t), some (.ref p), some (.ref q1)] ∧ H' = upd H1 q1 (.tup [.str "text", vS t, .int (n : Nat)]), ?_, ?_⟩
    · exact ⟨_, rfl, _, _, _, _, rfl, rfl, SqT.of (s2 _ _ hp), rfl, _, rfl, iteN rfl ⟨rfl, rfl⟩⟩
    · rintro σ H2 ⟨rfl, rfl⟩
      refine ⟨_, rfl, rfl, t, rfl, ht, LAsk.of (fun w2 e2 p3 v3 H3 s4 hp3 d3 => ?_) (fun n2 e2 p3 H3 s4 hp3 => ?_)⟩
      · rw [e] at e2
        cases e2
      · rw [e] at e2
        cases e2
        refine ⟨_, rfl, rfl, _, _, .tuple [.str "text", dS t, .int (n : Nat)], rfl, .tup hp3 (.cons (.str _) (.cons (.str _) (.cons (.int _) .nil))), .tup (s4 _ _ upd_same) (.cons (.str _) (.cons (.str _) (.cons (.int _) .nil))), ?_, fun H4 s5 => k _ (((s1.trans s2).trans s4).trans s5)⟩
        refine ⟨by simp, fun x hx => ?_⟩
        simp only [List.mem_cons, List.not_mem_nil, or_false] at hx
        rcases hx with rfl | rfl | rfl <;> trivial
end
end Kn

set_option maxHeartbeats 4000000
/-! The law's helpers: texts built. (Printed by built.py.) -/
namespace Kn
open PySem PySem.Spec PyProof.Rows L2 KnR
theorem addO {a b : Str} {m n : Nat} (ha : a.length ≤ m) (hb : b.length ≤ n) (h : m + n ≤ 1000000) : a.length + b.length ≤ sizeLine := sz_ok (by omega)
theorem addB {a b : Str} {m n : Nat} (ha : a.length ≤ m) (hb : b.length ≤ n) : (a ++ b).length ≤ m + n := by
  rw [TL.len_tl] at ha hb ⊢
  rw [TL.tl_append, List.length_append]
  omega
def SmL (xs : List V) : Prop := ∀ v ∈ xs, ∃ x : Str, v = .str x ∧ x.length ≤ 60
theorem smN : SmL [] := fun v h => by cases h
theorem smC {x : Str} {m : Nat} {xs : List V} (h : x.length ≤ m) (hm : m ≤ 60) (r : SmL xs) : SmL (.str x :: xs) := fun v hv => by
  rcases List.mem_cons.mp hv with rfl | hv
  · exact ⟨x, rfl, Nat.le_trans h hm⟩
  · exact r v hv
theorem smA {xs ys : List V} (h : SmL xs) (r : SmL ys) : SmL (xs ++ ys) := fun v hv => (List.mem_append.mp hv).elim (h v) (r v)
theorem smPick {xs : List V} (h : SmL xs) {i : Int} (h0 : 0 ≤ i) (h1 : i < (xs.length : Int)) : ∃ x : Str, x.length ≤ 60 ∧ atI xs i = some (.str x) := by
  obtain ⟨v, hv, e⟩ := atI_ex h0 h1
  obtain ⟨x, rfl, hx⟩ := h v hv
  exact ⟨x, hx, e⟩
def Lt (H : Hp) (b : Addr) (n : Nat) (v : V) : Prop := ∃ (p : Addr) (xs : List V), v = .ref p ∧ p ≠ b ∧ H p = some (.lst xs) ∧ SmL xs ∧ xs.length = n
theorem Lt.keep {H H' : Hp} {b : Addr} {n : Nat} {v : V} (h : Lt H b n v) (k : Kp b H H') (_ : NT H b) : Lt H' b n v := by
  obtain ⟨p, xs, e, np, hx, S, hn⟩ := h
  exact ⟨p, xs, e, np, k _ _ np hx, S, hn⟩
def bws : List Ws := [[97, 98, 99, 100, 101, 102, 103, 104], [97, 98], [120]]
theorem bw_is : ([.str "abcdefgh", .str "ab", .str "x"] : List V) = bws.map vS := by decide +kernel
theorem bws_len : ∀ l ∈ bws, l.length ≤ 8 := by
  have : bws.all (fun l => decide (l.length ≤ 8)) = true := by decide +kernel
  exact fun l hl => of_decide_eq_true (List.all_eq_true.mp this l hl)
section
variable {P : Program} {w : World} {K : PySem.W.Frag} {mg : Str → Option Value} {base : Heap}
theorem sc_law_built : FnScope ["_law_box_here", "_law_word_here", "_law_lines", "_law_uses", "_law_head_here", "_law_text_here", "_law_more"] ["_law_box_here"] (defScope s_law_built) := ⟨rfl, rfl, rfl, by decide +kernel, rfl, by decide +kernel, by decide +kernel⟩
def sp_law_built (K : PySem.W.Frag) : Sp := fun vs H Q _ => vs.length = 1 ∧ ∃ (b c : Addr), vs = [.ref b] ∧ Bx b c H ∧ ∀ t' H', Kp b H H' → Bx b c H' → t'.length ≤ 300 → Q (vS t') H'
theorem ok_law_built (T : Tx K mg) : Fn P w K mg base CX0 3 ("_law_built", none) ["_law_box_here"] (sp_law_built K) := by
  refine Fn.mk0 (d := d_law_built) T 57 rfl rfl rfl sc_law_built (fun _ _ _ _ _ _ us hl => match us, hl with | [_], _ => rfl) (fun vs H Q E h => h.1) (fun cdv A outer s H vs Q E hr h => ?_)
  have hu := hu_of hr
  have G_law_draw : Fn P w K mg base CX0 2 ("_law_draw", none) ["_law_box_here", "_law_many"] (sp_law_draw K) := ok_law_draw T
  refine ⟨_, (C8.pss_cut (ps_set (i := 1) sc_law_built.nd rfl (Or.inl rfl) (pe_ix ix_list (pe_lst (pa_cons pe_str (pa_cons pe_str (pa_cons pe_str pa_nil)))) (pc G_law_draw (hr.mono (by decide)) rfl (T.glo 20) pass0 (pa_cons (pv 0) (pa_cons pe_int pa_nil))) (fun _ _ => rfl))) (C8.pss_cut (ps_set (i := 2) sc_law_built.nd rfl (Or.inl rfl) (pe_lst (pa_cons (pe_op op_add_str (pe_op op_add_str (pe_op op_add_str (pe_op op_add_str pe_str (pv 1)) pe_str) (pv 1)) pe_str) (pa_cons (pe_op op_add_str (pe_op op_add_str (pe_op op_add_str (pe_op op_add_str pe_str (pv 1)) pe_str) (pv 1)) pe_str) (pa_cons (pe_op op_add_str (pe_op op_add_str pe_str (pv 1)) pe_str) (pa_cons (pe_op op_add_str (pe_op op_add_str pe_str (pv 1)) pe_str) pa_nil)))))) (C8.pss_cut (ps_set (i := 2) sc_law_built.nd rfl (Or.inl rfl) (pe_op op_cat (pv 2) (pe_lst (pa_cons (pe_op op_add_str (pe_op op_add_str pe_str (pv 1)) pe_str) (pa_cons (pe_op op_add_str (pe_op op_add_str pe_str (pv 1)) pe_str) (pa_cons (pe_op op_add_str pe_str (pv 1)) (pa_cons (pe_op op_add_str (pe_op op_add_str (pe_op op_add_str (pe_op op_add_str pe_str (pv 1)) pe_str) (pv 1)) pe_str) (pa_cons pe_str (pa_cons pe_str (pa_cons pe_str pa_nil)))))))))) (C8.pss_cut (ps_set (i := 2) sc_law_built.nd rfl (Or.inl rfl) (pe_op op_cat (pv 2) (pe_lst (pa_cons pe_str (pa_cons pe_str (pa_cons (pe_op op_add_str pe_str (pv 1)) (pa_cons (pe_op op_add_str (pe_op op_add_str pe_str (pv 1)) pe_str) (pa_cons pe_str (pa_cons pe_str pa_nil))))))))) (C8.pss_cut (ps_set (i := 3) sc_law_built.nd rfl (Or.inl rfl) (pe_lst (pa_cons (pe_op op_add_str (pe_op op_add_str (pe_op op_add_str pe_str (pe_op op_mulS pe_str (pe_ix ix_list (pe_lst (pa_cons pe_int (pa_cons pe_int (pa_cons pe_int (pa_cons pe_int pa_nil))))) (pc G_law_draw (hr.mono (by decide)) rfl (T.glo 20) pass0 (pa_cons (pv 0) (pa_cons pe_int pa_nil))) (fun _ _ => rfl)))) (pv 1)) pe_str) (pa_cons (pe_op op_add_str (pe_op op_add_str pe_str (pv 1)) pe_str) (pa_cons (pe_op op_add_str (pe_op op_add_str pe_str (pv 1)) pe_str) pa_nil))))) (C8.pss_cut (ps_set (i := 3) sc_law_built.nd rfl (Or.inl rfl) (pe_op op_cat (pv 3) (pe_lst (pa_cons (pe_op op_add_str (pe_op op_add_str pe_str (pv 1)) pe_str) (pa_cons (pe_op op_add_str (pe_op op_add_str pe_str (pv 1)) pe_str) (pa_cons (pe_op op_add_str (pe_op op_add_str pe_str (pv 1)) pe_str) (pa_cons (pe_op op_add_str (pe_op op_add_str pe_str (pv 1)) pe_str) (pa_cons pe_str (pa_cons pe_str pa_nil))))))))) (C8.pss_cut (ps_set (i := 3) sc_law_built.nd rfl (Or.inl rfl) (pe_op op_cat (pv 3) (pe_lst (pa_cons (pe_op op_add_str (pe_op op_add_str pe_str (pv 1)) pe_str) (pa_cons (pe_op op_add_str pe_str (pv 1)) (pa_cons (pe_op op_add_str (pe_op op_add_str pe_str (pv 1)) pe_str) (pa_cons pe_str (pa_cons pe_str (pa_cons pe_str (pa_cons pe_str (pa_cons pe_str (pa_cons pe_str pa_nil)))))))))))) (C8.pss_cut (ps_set (i := 3) sc_law_built.nd rfl (Or.inl rfl) (pe_op op_cat (pv 3) (pe_lst (pa_cons (pe_op op_add_str pe_str (pv 1)) (pa_cons pe_str (pa_cons pe_str (pa_cons pe_str (pa_cons pe_str (pa_cons pe_str (pa_cons pe_str (pa_cons pe_str (pa_cons pe_str (pa_cons pe_str pa_nil))))))))))))) (C8.pss_cut (ps_set (i := 4) sc_law_built.nd rfl (Or.inl rfl) (pe_ix ix_list (pv 2) (pc G_law_draw (hr.mono (by decide)) rfl (T.glo 20) pass0 (pa_cons (pv 0) (pa_cons (pe_callB call_len_seq rfl (T.free 59) (by decide +kernel) (pa_cons (pv 2) pa_nil)) pa_nil))) (fun _ _ => rfl))) (C8.pss_cut (ps_if (pt_cmpR op_eq (pc G_law_draw (hr.mono (by decide)) rfl (T.glo 20) pass0 (pa_cons (pv 0) (pa_cons pe_int pa_nil))) pe_int (nomark _)) (pss_one (ps_set (i := 4) sc_law_built.nd rfl (Or.inl rfl) pe_str)) pss_nil) (C8.pss_cut (ps_set (i := 5) sc_law_built.nd rfl (Or.inl rfl) (pe_op op_add_str (pe_op op_add_str (pe_op op_add_str (pe_op op_add_str pe_str (pv 4)) pe_str) (pe_ix ix_list (pv 3) (pc G_law_draw (hr.mono (by decide)) rfl (T.glo 20) pass0 (pa_cons (pv 0) (pa_cons (pe_callB call_len_seq rfl (T.free 59) (by decide +kernel) (pa_cons (pv 3) pa_nil)) pa_nil))) (fun _ _ => rfl))) pe_str)) (C8.pss_cut (ps_set (i := 6) sc_law_built.nd rfl (Or.inl rfl) (pe_lst (pa_cons pe_str (pa_cons pe_str (pa_cons pe_str (pa_cons pe_str (pa_cons pe_str (pa_cons pe_str (pa_cons pe_str (pa_cons pe_str (pa_cons pe_str pa_nil))))))))))) (pss_one (ps_ret (pe_op op_add_str (pv 5) (pe_ix ix_list (pv 6) (pc G_law_draw (hr.mono (by decide)) rfl (T.glo 20) pass0 (pa_cons (pv 0) (pa_cons (pe_callB call_len_seq rfl (T.free 59) (by decide +kernel) (pa_cons (pv 6) pa_nil)) pa_nil))) (fun _ _ => rfl))))))))))))))))), ?_⟩
  obtain ⟨_, b, c, rfl, hB, k⟩ := h
  refine ⟨fun σ' H' => ∃ (l : Ws), σ' = [some (.ref b), some (vS l), none, none, none, none, none] ∧ Kp b H H' ∧ Bx b c H' ∧ l.length ≤ 8, ?_, ?_⟩
  · refine ⟨sz_ok (by simp), fun p hp => ?_⟩
    rw [bw_is]
    refine ⟨_, rfl, rfl, b, c, 3, rfl, hB.new hp, by decide, by decide, fun r H1 k1 B1 r0 r1 => ?_⟩
    obtain ⟨l, hl, e⟩ := pick (ws := bws) r0 r1
    exact ⟨p, _, _, _, rfl, rfl, SqL.of (k1 _ _ (hB.ne hp).1 upd_same), e, l, rfl, (Kp.new hp).trans k1, B1, bws_len l hl⟩
  · rintro σ H1 ⟨l, rfl, k1, B1, hl⟩
    have hw : (mkS l).length ≤ 8 := by rw [mkS_len]; exact hl
    refine ⟨fun σ' H' => ∃ (l : Ws) (v2 : V), σ' = [some (.ref b), some (vS l), some v2, none, none, none, none] ∧ Kp b H H' ∧ Bx b c H' ∧ l.length ≤ 8 ∧ Lt H' b 4 v2, ?_, ?_⟩
    · refine ⟨_, rfl, _, _, rfl, rfl, addO (show ("=f(" : Str).length ≤ 3 by decide +kernel) hw (by decide), _, _, rfl, rfl, addO (addB (show ("=f(" : Str).length ≤ 3 by decide +kernel) hw) (show ("," : Str).length ≤ 1 by decide +kernel) (by decide), _, rfl, _, _, rfl, rfl, addO (addB (addB (show ("=f(" : Str).length ≤ 3 by decide +kernel) hw) (show ("," : Str).length ≤ 1 by decide +kernel)) hw (by decide), _, _, rfl, rfl, addO (addB (addB (addB (show ("=f(" : Str).length ≤ 3 by decide +kernel) hw) (show ("," : Str).length ≤ 1 by decide +kernel)) hw) (show (")" : Str).length ≤ 1 by decide +kernel) (by decide), _, rfl, _, _, rfl, rfl, addO (show ("=f(a," : Str).length ≤ 5 by decide +kernel) hw (by decide), _, _, rfl, rfl, addO (addB (show ("=f(a," : Str).length ≤ 5 by decide +kernel) hw) (show ("," : Str).length ≤ 1 by decide +kernel) (by decide), _, rfl, _, _, rfl, rfl, addO (addB (addB (show ("=f(a," : Str).length ≤ 5 by decide +kernel) hw) (show ("," : Str).length ≤ 1 by decide +kernel)) hw (by decide), _, _, rfl, rfl, addO (addB (addB (addB (show ("=f(a," : Str).length ≤ 5 by decide +kernel) hw) (show ("," : Str).length ≤ 1 by decide +kernel)) hw) (show (")" : Str).length ≤ 1 by decide +kernel) (by decide), _, rfl, _, _, rfl, rfl, addO (show ("=f(a,b," : Str).length ≤ 7 by decide +kernel) hw (by decide), _, _, rfl, rfl, addO (addB (show ("=f(a,b," : Str).length ≤ 7 by decide +kernel) hw) (show (",c)" : Str).length ≤ 3 by decide +kernel) (by decide), _, rfl, _, _, rfl, rfl, addO (show ("*f(" : Str).length ≤ 3 by decide +kernel) hw (by decide), _, _, rfl, rfl, addO (addB (show ("*f(" : Str).length ≤ 3 by decide +kernel) hw) (show (")" : Str).length ≤ 1 by decide +kernel) (by decide), sz_ok (by simp), fun p hp => ?_⟩
      exact ⟨l, .ref p, rfl, k1.newT hp, B1.new hp, hl, ⟨p, _, rfl, (B1.ne hp).1, upd_same, (smC (addB (addB (addB (addB (show ("=f(" : Str).length ≤ 3 by decide +kernel) hw) (show ("," : Str).length ≤ 1 by decide +kernel)) hw) (show (")" : Str).length ≤ 1 by decide +kernel)) (by decide) (smC (addB (addB (addB (addB (show ("=f(a," : Str).length ≤ 5 by decide +kernel) hw) (show ("," : Str).length ≤ 1 by decide +kernel)) hw) (show (")" : Str).length ≤ 1 by decide +kernel)) (by decide) (smC (addB (addB (show ("=f(a,b," : Str).length ≤ 7 by decide +kernel) hw) (show (",c)" : Str).length ≤ 3 by decide +kernel)) (by decide) (smC (addB (addB (show ("*f(" : Str).length ≤ 3 by decide +kernel) hw) (show (")" : Str).length ≤ 1 by decide +kernel)) (by decide) smN)))), rfl⟩⟩
    · rintro σ H1 ⟨l, v2, rfl, k1, B1, hl, h2⟩
      have hw : (mkS l).length ≤ 8 := by rw [mkS_len]; exact hl
      refine ⟨fun σ' H' => ∃ (l : Ws) (v2 : V), σ' = [some (.ref b), some (vS l), some v2, none, none, none, none] ∧ Kp b H H' ∧ Bx b c H' ∧ l.length ≤ 8 ∧ Lt H' b 11 v2, ?_, ?_⟩
      · obtain ⟨p1, xs, rfl, np, hx, S1, n1⟩ := id h2
        refine ⟨_, rfl, _, rfl, _, _, rfl, rfl, addO (show ("=f(" : Str).length ≤ 3 by decide +kernel) hw (by decide), _, _, rfl, rfl, addO (addB (show ("=f(" : Str).length ≤ 3 by decide +kernel) hw) (show (",)" : Str).length ≤ 2 by decide +kernel) (by decide), _, rfl, _, _, rfl, rfl, addO (show ("=f(," : Str).length ≤ 4 by decide +kernel) hw (by decide), _, _, rfl, rfl, addO (addB (show ("=f(," : Str).length ≤ 4 by decide +kernel) hw) (show (")" : Str).length ≤ 1 by decide +kernel) (by decide), _, rfl, _, _, rfl, rfl, addO (show ("=f()" : Str).length ≤ 4 by decide +kernel) hw (by decide), _, rfl, _, _, rfl, rfl, addO (show ("=" : Str).length ≤ 1 by decide +kernel) hw (by decide), _, _, rfl, rfl, addO (addB (show ("=" : Str).length ≤ 1 by decide +kernel) hw) (show ("i(" : Str).length ≤ 2 by decide +kernel) (by decide), _, rfl, _, _, rfl, rfl, addO (addB (addB (show ("=" : Str).length ≤ 1 by decide +kernel) hw) (show ("i(" : Str).length ≤ 2 by decide +kernel)) hw (by decide), _, _, rfl, rfl, addO (addB (addB (addB (show ("=" : Str).length ≤ 1 by decide +kernel) hw) (show ("i(" : Str).length ≤ 2 by decide +kernel)) hw) (show (")" : Str).length ≤ 1 by decide +kernel) (by decide), sz_ok (by simp), fun p2 hp2 => ⟨p1, p2, _, _, rfl, rfl, sm_new hp2 _ _ hx, upd_same, sz_ok (by simp; omega), fun p3 hp3 => ?_⟩⟩
        exact ⟨l, .ref p3, rfl, (k1.newT hp2).newT hp3, (B1.new hp2).new hp3, hl, ⟨p3, _, rfl, ((B1.new hp2).ne hp3).1, upd_same, smA S1 (smC (addB (addB (show ("=f(" : Str).length ≤ 3 by decide +kernel) hw) (show (",)" : Str).length ≤ 2 by decide +kernel)) (by decide) (smC (addB (addB (show ("=f(," : Str).length ≤ 4 by decide +kernel) hw) (show (")" : Str).length ≤ 1 by decide +kernel)) (by decide) (smC (addB (show ("=f()" : Str).length ≤ 4 by decide +kernel) hw) (by decide) (smC (addB (addB (addB (addB (show ("=" : Str).length ≤ 1 by decide +kernel) hw) (show ("i(" : Str).length ≤ 2 by decide +kernel)) hw) (show (")" : Str).length ≤ 1 by decide +kernel)) (by decide) (smC (show ("=f" : Str).length ≤ 2 by decide +kernel) (by decide) (smC (show ("=" : Str).length ≤ 1 by decide +kernel) (by decide) (smC (show ("*f()" : Str).length ≤ 4 by decide +kernel) (by decide) smN))))))), by rw [List.length_append, n1]; rfl⟩⟩
      · rintro σ H1 ⟨l, v2, rfl, k1, B1, hl, h2⟩
        have hw : (mkS l).length ≤ 8 := by rw [mkS_len]; exact hl
        refine ⟨fun σ' H' => ∃ (l : Ws) (v2 : V), σ' = [some (.ref b), some (vS l), some v2, none, none, none, none] ∧ Kp b H H' ∧ Bx b c H' ∧ l.length ≤ 8 ∧ Lt H' b 17 v2, ?_, ?_⟩
        · obtain ⟨p1, xs, rfl, np, hx, S1, n1⟩ := id h2
          refine ⟨_, rfl, _, rfl, _, _, rfl, rfl, addO (show ("=f(" : Str).length ≤ 3 by decide +kernel) hw (by decide), _, rfl, _, _, rfl, rfl, addO (show ("=f(a " : Str).length ≤ 5 by decide +kernel) hw (by decide), _, _, rfl, rfl, addO (addB (show ("=f(a " : Str).length ≤ 5 by decide +kernel) hw) (show (")" : Str).length ≤ 1 by decide +kernel) (by decide), sz_ok (by simp), fun p2 hp2 => ⟨p1, p2, _, _, rfl, rfl, sm_new hp2 _ _ hx, upd_same, sz_ok (by simp; omega), fun p3 hp3 => ?_⟩⟩
          exact ⟨l, .ref p3, rfl, (k1.newT hp2).newT hp3, (B1.new hp2).new hp3, hl, ⟨p3, _, rfl, ((B1.new hp2).ne hp3).1, upd_same, smA S1 (smC (show ("=f(abcdefgh,abcdefgi)" : Str).length ≤ 21 by decide +kernel) (by decide) (smC (show ("=f(abcdefg,abcdefgh)" : Str).length ≤ 20 by decide +kernel) (by decide) (smC (addB (show ("=f(" : Str).length ≤ 3 by decide +kernel) hw) (by decide) (smC (addB (addB (show ("=f(a " : Str).length ≤ 5 by decide +kernel) hw) (show (")" : Str).length ≤ 1 by decide +kernel)) (by decide) (smC (show ("=F()" : Str).length ≤ 4 by decide +kernel) (by decide) (smC (show ("= f()" : Str).length ≤ 5 by decide +kernel) (by decide) smN)))))), by rw [List.length_append, n1]; rfl⟩⟩
        · rintro σ H1 ⟨l, v2, rfl, k1, B1, hl, h2⟩
          have hw : (mkS l).length ≤ 8 := by rw [mkS_len]; exact hl
          refine ⟨fun σ' H' => ∃ (l : Ws) (v2 : V) (v3 : V), σ' = [some (.ref b), some (vS l), some v2, some v3, none, none, none] ∧ Kp b H H' ∧ Bx b c H' ∧ l.length ≤ 8 ∧ Lt H' b 17 v2 ∧ Lt H' b 3 v3, ?_, ?_⟩
          · refine ⟨sz_ok (by simp), fun p0 hp0 => ?_⟩
            refine ⟨_, rfl, rfl, b, c, 4, rfl, B1.new hp0, by decide, by decide, fun r H2 k2 B2 r0 r1 => ?_⟩
            obtain ⟨j, hj, ej⟩ := pickI (xs := [19, 20, 21, 25]) r0 r1
            have hj2 : 0 ≤ j ∧ j ≤ 25 := by simp at hj; omega
            refine ⟨p0, _, _, _, rfl, rfl, SqL.of (k2 _ _ (B1.ne hp0).1 upd_same), ej, (" " : Str), j, rfl, rfl, hj2.1, by omega, by decide +kernel, ?_⟩
            obtain ⟨jn, rfl⟩ : ∃ jn : Nat, j = jn := ⟨j.toNat, by omega⟩
            rw [mul_blank]
            have hbl : (mkS (List.replicate jn 32)).length ≤ 25 := by rw [mkS_len, List.length_replicate]; omega
            have k02 := (Kp.new (b := b) (o := .lst [.int 19, .int 20, .int 21, .int 25]) hp0).trans k2
            refine ⟨_, _, rfl, rfl, addO (show (">" : Str).length ≤ 1 by decide +kernel) hbl (by decide), _, rfl, _, _, rfl, rfl, addO (addB (show (">" : Str).length ≤ 1 by decide +kernel) hbl) hw (by decide), _, _, rfl, rfl, addO (addB (addB (show (">" : Str).length ≤ 1 by decide +kernel) hbl) hw) (show ("()" : Str).length ≤ 2 by decide +kernel) (by decide), _, rfl, _, _, rfl, rfl, addO (show (">f(" : Str).length ≤ 3 by decide +kernel) hw (by decide), _, _, rfl, rfl, addO (addB (show (">f(" : Str).length ≤ 3 by decide +kernel) hw) (show (",a,b,c)" : Str).length ≤ 7 by decide +kernel) (by decide), _, rfl, _, _, rfl, rfl, addO (show (">f(" : Str).length ≤ 3 by decide +kernel) hw (by decide), _, _, rfl, rfl, addO (addB (show (">f(" : Str).length ≤ 3 by decide +kernel) hw) (show (" )" : Str).length ≤ 2 by decide +kernel) (by decide), sz_ok (by simp), fun p hp => ?_⟩
            exact ⟨l, v2, .ref p, rfl, (k1.trans k02).newT hp, B2.new hp, hl, h2.keep (k02.newT hp) B1.nt.1, ⟨p, _, rfl, (B2.ne hp).1, upd_same, (smC (addB (addB (addB (show (">" : Str).length ≤ 1 by decide +kernel) hbl) hw) (show ("()" : Str).length ≤ 2 by decide +kernel)) (by decide) (smC (addB (addB (show (">f(" : Str).length ≤ 3 by decide +kernel) hw) (show (",a,b,c)" : Str).length ≤ 7 by decide +kernel)) (by decide) (smC (addB (addB (show (">f(" : Str).length ≤ 3 by decide +kernel) hw) (show (" )" : Str).length ≤ 2 by decide +kernel)) (by decide) smN))), rfl⟩⟩
          · rintro σ H1 ⟨l, v2, v3, rfl, k1, B1, hl, h2, h3⟩
            have hw : (mkS l).length ≤ 8 := by rw [mkS_len]; exact hl
            refine ⟨fun σ' H' => ∃ (l : Ws) (v2 : V) (v3 : V), σ' = [some (.ref b), some (vS l), some v2, some v3, none, none, none] ∧ Kp b H H' ∧ Bx b c H' ∧ l.length ≤ 8 ∧ Lt H' b 17 v2 ∧ Lt H' b 9 v3, ?_, ?_⟩
            · obtain ⟨p1, xs, rfl, np, hx, S1, n1⟩ := id h3
              refine ⟨_, rfl, _, rfl, _, _, rfl, rfl, addO (show (">f( " : Str).length ≤ 4 by decide +kernel) hw (by decide), _, _, rfl, rfl, addO (addB (show (">f( " : Str).length ≤ 4 by decide +kernel) hw) (show (")" : Str).length ≤ 1 by decide +kernel) (by decide), _, rfl, _, _, rfl, rfl, addO (show (">f(" : Str).length ≤ 3 by decide +kernel) hw (by decide), _, _, rfl, rfl, addO (addB (show (">f(" : Str).length ≤ 3 by decide +kernel) hw) (show (",)" : Str).length ≤ 2 by decide +kernel) (by decide), _, rfl, _, _, rfl, rfl, addO (show (">f(" : Str).length ≤ 3 by decide +kernel) hw (by decide), _, _, rfl, rfl, addO (addB (show (">f(" : Str).length ≤ 3 by decide +kernel) hw) (show (", a)" : Str).length ≤ 4 by decide +kernel) (by decide), _, rfl, _, _, rfl, rfl, addO (show (">f(a ," : Str).length ≤ 6 by decide +kernel) hw (by decide), _, _, rfl, rfl, addO (addB (show (">f(a ," : Str).length ≤ 6 by decide +kernel) hw) (show (")" : Str).length ≤ 1 by decide +kernel) (by decide), sz_ok (by simp), fun p2 hp2 => ⟨p1, p2, _, _, rfl, rfl, sm_new hp2 _ _ hx, upd_same, sz_ok (by simp; omega), fun p3 hp3 => ?_⟩⟩
              exact ⟨l, v2, .ref p3, rfl, (k1.newT hp2).newT hp3, (B1.new hp2).new hp3, hl, h2.keep ((Kp.new hp2).newT hp3) B1.nt.1, ⟨p3, _, rfl, ((B1.new hp2).ne hp3).1, upd_same, smA S1 (smC (addB (addB (show (">f( " : Str).length ≤ 4 by decide +kernel) hw) (show (")" : Str).length ≤ 1 by decide +kernel)) (by decide) (smC (addB (addB (show (">f(" : Str).length ≤ 3 by decide +kernel) hw) (show (",)" : Str).length ≤ 2 by decide +kernel)) (by decide) (smC (addB (addB (show (">f(" : Str).length ≤ 3 by decide +kernel) hw) (show (", a)" : Str).length ≤ 4 by decide +kernel)) (by decide) (smC (addB (addB (show (">f(a ," : Str).length ≤ 6 by decide +kernel) hw) (show (")" : Str).length ≤ 1 by decide +kernel)) (by decide) (smC (show (">f((" : Str).length ≤ 4 by decide +kernel) (by decide) (smC (show (">f(a(b))" : Str).length ≤ 8 by decide +kernel) (by decide) smN)))))), by rw [List.length_append, n1]; rfl⟩⟩
            · rintro σ H1 ⟨l, v2, v3, rfl, k1, B1, hl, h2, h3⟩
              have hw : (mkS l).length ≤ 8 := by rw [mkS_len]; exact hl
              refine ⟨fun σ' H' => ∃ (l : Ws) (v2 : V) (v3 : V), σ' = [some (.ref b), some (vS l), some v2, some v3, none, none, none] ∧ Kp b H H' ∧ Bx b c H' ∧ l.length ≤ 8 ∧ Lt H' b 17 v2 ∧ Lt H' b 18 v3, ?_, ?_⟩
              · obtain ⟨p1, xs, rfl, np, hx, S1, n1⟩ := id h3
                refine ⟨_, rfl, _, rfl, _, _, rfl, rfl, addO (show (">f(" : Str).length ≤ 3 by decide +kernel) hw (by decide), _, _, rfl, rfl, addO (addB (show (">f(" : Str).length ≤ 3 by decide +kernel) hw) (show (") " : Str).length ≤ 2 by decide +kernel) (by decide), _, rfl, _, _, rfl, rfl, addO (show (">f(" : Str).length ≤ 3 by decide +kernel) hw (by decide), _, rfl, _, _, rfl, rfl, addO (show (">" : Str).length ≤ 1 by decide +kernel) hw (by decide), _, _, rfl, rfl, addO (addB (show (">" : Str).length ≤ 1 by decide +kernel) hw) (show ("i()" : Str).length ≤ 3 by decide +kernel) (by decide), sz_ok (by simp), fun p2 hp2 => ⟨p1, p2, _, _, rfl, rfl, sm_new hp2 _ _ hx, upd_same, sz_ok (by simp; omega), fun p3 hp3 => ?_⟩⟩
                exact ⟨l, v2, .ref p3, rfl, (k1.newT hp2).newT hp3, (B1.new hp2).new hp3, hl, h2.keep ((Kp.new hp2).newT hp3) B1.nt.1, ⟨p3, _, rfl, ((B1.new hp2).ne hp3).1, upd_same, smA S1 (smC (addB (addB (show (">f(" : Str).length ≤ 3 by decide +kernel) hw) (show (") " : Str).length ≤ 2 by decide +kernel)) (by decide) (smC (addB (show (">f(" : Str).length ≤ 3 by decide +kernel) hw) (by decide) (smC (addB (addB (show (">" : Str).length ≤ 1 by decide +kernel) hw) (show ("i()" : Str).length ≤ 3 by decide +kernel)) (by decide) (smC (show (">f" : Str).length ≤ 2 by decide +kernel) (by decide) (smC (show (">" : Str).length ≤ 1 by decide +kernel) (by decide) (smC (show ("> " : Str).length ≤ 2 by decide +kernel) (by decide) (smC (show (">f(,a)" : Str).length ≤ 6 by decide +kernel) (by decide) (smC (show (">f(a b  c,{x})" : Str).length ≤ 14 by decide +kernel) (by decide) (smC (show (">f(a,b,c)" : Str).length ≤ 9 by decide +kernel) (by decide) smN))))))))), by rw [List.length_append, n1]; rfl⟩⟩
              · rintro σ H1 ⟨l, v2, v3, rfl, k1, B1, hl, h2, h3⟩
                have hw : (mkS l).length ≤ 8 := by rw [mkS_len]; exact hl
                refine ⟨fun σ' H' => ∃ (l : Ws) (v2 : V) (v3 : V), σ' = [some (.ref b), some (vS l), some v2, some v3, none, none, none] ∧ Kp b H H' ∧ Bx b c H' ∧ l.length ≤ 8 ∧ Lt H' b 17 v2 ∧ Lt H' b 28 v3, ?_, ?_⟩
                · obtain ⟨p1, xs, rfl, np, hx, S1, n1⟩ := id h3
                  refine ⟨_, rfl, _, rfl, _, _, rfl, rfl, addO (show ("|" : Str).length ≤ 1 by decide +kernel) hw (by decide), sz_ok (by simp), fun p2 hp2 => ⟨p1, p2, _, _, rfl, rfl, sm_new hp2 _ _ hx, upd_same, sz_ok (by simp; omega), fun p3 hp3 => ?_⟩⟩
                  exact ⟨l, v2, .ref p3, rfl, (k1.newT hp2).newT hp3, (B1.new hp2).new hp3, hl, h2.keep ((Kp.new hp2).newT hp3) B1.nt.1, ⟨p3, _, rfl, ((B1.new hp2).ne hp3).1, upd_same, smA S1 (smC (addB (show ("|" : Str).length ≤ 1 by decide +kernel) hw) (by decide) (smC (show ("|" : Str).length ≤ 1 by decide +kernel) (by decide) (smC (show (".a" : Str).length ≤ 2 by decide +kernel) (by decide) (smC (show ("=g()" : Str).length ≤ 4 by decide +kernel) (by decide) (smC (show ("|\ta" : Str).length ≤ 3 by decide +kernel) (by decide) (smC (show (">f(\ta)" : Str).length ≤ 6 by decide +kernel) (by decide) (smC (show (">f(a\n)" : Str).length ≤ 6 by decide +kernel) (by decide) (smC (show ("x" : Str).length ≤ 1 by decide +kernel) (by decide) (smC (show ("" : Str).length ≤ 0 by decide +kernel) (by decide) (smC (show (" |a" : Str).length ≤ 3 by decide +kernel) (by decide) smN)))))))))), by rw [List.length_append, n1]; rfl⟩⟩
                · rintro σ H1 ⟨l, v2, v3, rfl, k1, B1, hl, h2, h3⟩
                  have hw : (mkS l).length ≤ 8 := by rw [mkS_len]; exact hl
                  refine ⟨fun σ' H' => ∃ (l : Ws) (v2 : V) (v3 : V) (x4 : Str), σ' = [some (.ref b), some (vS l), some v2, some v3, some (.str x4), none, none] ∧ Kp b H H' ∧ Bx b c H' ∧ l.length ≤ 8 ∧ Lt H' b 17 v2 ∧ Lt H' b 28 v3 ∧ x4.length ≤ 60, ?_, ?_⟩
                  · obtain ⟨p1, xs, rfl, np, hx, S1, n1⟩ := id h2
                    refine ⟨_, rfl, _, rfl, _, rfl, _, _, rfl, .inl (SqL.of hx), rfl, b, c, _, rfl, B1, by omega, by omega, fun r H2 k2 B2 r0 r1 => ?_⟩
                    obtain ⟨x, hx4, e⟩ := smPick S1 r0 r1
                    exact ⟨p1, _, _, _, rfl, rfl, SqL.of (k2 _ _ np hx), e, ⟨l, .ref p1, v3, x, rfl, k1.trans k2, B2, hl, h2.keep k2 B1.nt.1, h3.keep k2 B1.nt.1, hx4⟩⟩
                  · rintro σ H1 ⟨l, v2, v3, x4, rfl, k1, B1, hl, h2, h3, h4⟩
                    have hw : (mkS l).length ≤ 8 := by rw [mkS_len]; exact hl
                    refine ⟨fun σ' H' => ∃ (l : Ws) (v2 : V) (v3 : V) (x4 : Str), σ' = [some (.ref b), some (vS l), some v2, some v3, some (.str x4), none, none] ∧ Kp b H H' ∧ Bx b c H' ∧ l.length ≤ 8 ∧ Lt H' b 17 v2 ∧ Lt H' b 28 v3 ∧ x4.length ≤ 60, ?_, ?_⟩
                    · refine ⟨_, rfl, rfl, b, c, 2, rfl, B1, by decide, by decide, fun r H2 k2 B2 r0 r1 => ⟨rfl, _, rfl, ?_⟩⟩
                      exact iteB (fun _ => ⟨l, v2, v3, _, rfl, k1.trans k2, B2, hl, h2.keep k2 B1.nt.1, h3.keep k2 B1.nt.1, (show ("=g(a)" : Str).length ≤ 60 by decide +kernel)⟩) (fun _ => ⟨l, v2, v3, x4, rfl, k1.trans k2, B2, hl, h2.keep k2 B1.nt.1, h3.keep k2 B1.nt.1, h4⟩)
                    · rintro σ H1 ⟨l, v2, v3, x4, rfl, k1, B1, hl, h2, h3, h4⟩
                      have hw : (mkS l).length ≤ 8 := by rw [mkS_len]; exact hl
                      refine ⟨fun σ' H' => ∃ (l : Ws) (v2 : V) (v3 : V) (x4 : Str) (x5 : Str), σ' = [some (.ref b), some (vS l), some v2, some v3, some (.str x4), some (.str x5), none] ∧ Kp b H H' ∧ Bx b c H' ∧ l.length ≤ 8 ∧ Lt H' b 17 v2 ∧ Lt H' b 28 v3 ∧ x4.length ≤ 60 ∧ x5.length ≤ 200, ?_, ?_⟩
                      · obtain ⟨p1, xs, rfl, np, hx, S1, n1⟩ := id h3
                        refine ⟨_, rfl, _, _, rfl, rfl, addO (show ("@\n.p\n" : Str).length ≤ 5 by decide +kernel) h4 (by decide), _, _, rfl, rfl, addO (addB (show ("@\n.p\n" : Str).length ≤ 5 by decide +kernel) h4) (show ("\n" : Str).length ≤ 1 by decide +kernel) (by decide), ?_⟩
                        refine ⟨_, rfl, _, rfl, _, rfl, _, _, rfl, .inl (SqL.of hx), rfl, b, c, _, rfl, B1, by omega, by omega, fun r H2 k2 B2 r0 r1 => ?_⟩
                        obtain ⟨x, hx5, e⟩ := smPick S1 r0 r1
                        refine ⟨p1, _, _, _, rfl, rfl, SqL.of (k2 _ _ np hx), e, _, _, rfl, rfl, addO (addB (addB (show ("@\n.p\n" : Str).length ≤ 5 by decide +kernel) h4) (show ("\n" : Str).length ≤ 1 by decide +kernel)) hx5 (by decide), _, _, rfl, rfl, addO (addB (addB (addB (show ("@\n.p\n" : Str).length ≤ 5 by decide +kernel) h4) (show ("\n" : Str).length ≤ 1 by decide +kernel)) hx5) (show ("\n" : Str).length ≤ 1 by decide +kernel) (by decide), ?_⟩
                        exact ⟨l, v2, .ref p1, x4, _, rfl, k1.trans k2, B2, hl, h2.keep k2 B1.nt.1, h3.keep k2 B1.nt.1, h4, Nat.le_trans (addB (addB (addB (addB (show ("@\n.p\n" : Str).length ≤ 5 by decide +kernel) h4) (show ("\n" : Str).length ≤ 1 by decide +kernel)) hx5) (show ("\n" : Str).length ≤ 1 by decide +kernel)) (by decide)⟩
                      · rintro σ H1 ⟨l, v2, v3, x4, x5, rfl, k1, B1, hl, h2, h3, h4, h5⟩
                        have hw : (mkS l).length ≤ 8 := by rw [mkS_len]; exact hl
                        refine ⟨fun σ' H' => ∃ (l : Ws) (v2 : V) (v3 : V) (x4 : Str) (x5 : Str) (v6 : V), σ' = [some (.ref b), some (vS l), some v2, some v3, some (.str x4), some (.str x5), some v6] ∧ Kp b H H' ∧ Bx b c H' ∧ l.length ≤ 8 ∧ Lt H' b 17 v2 ∧ Lt H' b 28 v3 ∧ x4.length ≤ 60 ∧ x5.length ≤ 200 ∧ Lt H' b 9 v6, ?_, ?_⟩
                        · refine ⟨sz_ok (by simp), fun p hp => ?_⟩
                          exact ⟨l, v2, v3, x4, x5, .ref p, rfl, k1.newT hp, B1.new hp, hl, h2.keep (Kp.new hp) B1.nt.1, h3.keep (Kp.new hp) B1.nt.1, h4, h5, ⟨p, _, rfl, (B1.ne hp).1, upd_same, (smC (show ("" : Str).length ≤ 0 by decide +kernel) (by decide) (smC (show ("@\n=g(b)\n" : Str).length ≤ 8 by decide +kernel) (by decide) (smC (show ("@\n*g()\n|a\n" : Str).length ≤ 10 by decide +kernel) (by decide) (smC (show ("@\n=g(a)\n@\n" : Str).length ≤ 10 by decide +kernel) (by decide) (smC (show ("@" : Str).length ≤ 1 by decide +kernel) (by decide) (smC (show ("@@\n" : Str).length ≤ 3 by decide +kernel) (by decide) (smC (show ("|" : Str).length ≤ 1 by decide +kernel) (by decide) (smC (show ("@\n=g()\n@\n=g(b)\n>f(\n" : Str).length ≤ 19 by decide +kernel) (by decide) (smC (show ("@\n|a\n" : Str).length ≤ 5 by decide +kernel) (by decide) smN))))))))), rfl⟩⟩
                        · rintro σ H1 ⟨l, v2, v3, x4, x5, v6, rfl, k1, B1, hl, h2, h3, h4, h5, h6⟩
                          have hw : (mkS l).length ≤ 8 := by rw [mkS_len]; exact hl
                          obtain ⟨p1, xs, rfl, np, hx, S1, n1⟩ := id h6
                          refine ⟨_, rfl, _, rfl, _, rfl, _, rfl, _, _, rfl, .inl (SqL.of hx), rfl, b, c, _, rfl, B1, by omega, by omega, fun r H2 k2 B2 r0 r1 => ?_⟩
                          obtain ⟨x, hx7, e⟩ := smPick S1 r0 r1
                          refine ⟨p1, _, _, _, rfl, rfl, SqL.of (k2 _ _ np hx), e, _, _, rfl, rfl, addO h5 hx7 (by decide), ?_⟩
                          have hfin := addB h5 hx7
                          have ek := k (TL.tl (x5 ++ x)) H2 (k1.trans k2) B2 (by rw [← TL.len_tl]; omega)
                          unfold vS at ek
                          rw [mkS_tl] at ek
                          exact ek
end
end Kn

set_option maxHeartbeats 4000000
/-! The law. -/
namespace Kn
open PySem PySem.Spec PyProof.Rows L2 KnR
theorem al_web11 {w : List Sc} (h : (webTxt w).length ≤ 1000000) : Al 11 (dW w) := by
  have h : (txt (rowsFrom 0 w)).length ≤ 1000000 := h
  have h0 := web_len w 0
  refine ⟨by simp; omega, fun x hx => ?_⟩
  obtain ⟨s, hs, rfl⟩ := List.mem_map.mp hx
  have h1 := sec_sizes hs
  have h2 := web_sec w 0 hs
  rw [sec_txt] at h2
  have h3 : (webTxt w).length ≤ 1000000 := h
  refine ⟨by simp, fun x hx => ?_⟩
  simp only [List.mem_cons, List.not_mem_nil, or_false] at hx
  rcases hx with rfl | rfl | rfl
  · exact al_strs 7 (by omega)
  · cases e : s.head with
    | none => trivial
    | some o =>
      rw [e] at h2
      have h4 : (hdTxt o).length < (txt (headRows 0 (some o))).length := txt_mem (r := ⟨0, 2, 0, hdTxt o, some o⟩) (by simp [headRows])
      exact al_head 6 (by omega)
  · refine ⟨by simp; omega, fun x hx => ?_⟩
    obtain ⟨u, hu, rfl⟩ := List.mem_map.mp hx
    have h5 := code_mem 0 0 hu
    exact al_line 5 (by omega)
theorem SqL_same {K : PySem.W.Frag} {H H' : Hp} {a : Addr} {xs : List V} (h : SqL K H a xs) (s : Same H H') : SqL K H' a xs := by
  rcases h with (h | ⟨o, h⟩) | h
  · exact .inl (.inl (s _ _ h))
  · exact .inl (.inr ⟨o, s _ _ h⟩)
  · exact .inr h
theorem ab_is : ("ab" : Str) = mkS [97, 98] := by decide +kernel
theorem mul_len (i : Int) (h0 : 0 ≤ i) (h1 : i < 3) : (⟨(List.replicate i.toNat ("ab" : Str).cps.toList).flatten.toArray⟩ : Str).length ≤ 4 := by
  rw [TL.len_tl]
  show (List.replicate i.toNat ("ab" : Str).cps.toList).flatten.length ≤ 4
  rw [ab_is, cps_mkS]
  obtain ⟨n, rfl⟩ : ∃ n : Nat, i = n := ⟨i.toNat, by omega⟩
  have hn : n < 3 := by omega
  rw [Int.toNat_natCast]
  match n, hn with
  | 0, _ => decide
  | 1, _ => decide
  | 2, _ => decide
section
variable {P : Program} {w : World} {K : PySem.W.Frag} {mg : Str → Option Value} {base : Heap}
theorem sc_law : FnScope ["_law_script", "_law_box_here", "_law_web_here", "_law_text_here", "_law_far", "_law_turn", "_law_spoilt_here", "_law_other"] ["_law_script"] (defScope s_law) := ⟨rfl, rfl, rfl, by decide +kernel, rfl, by decide +kernel, by decide +kernel⟩
def sp_law (K : PySem.W.Frag) : Sp := fun vs H Q _ => vs.length = 1 ∧ ∃ (a : Addr) (ns : List Int), vs = [.ref a] ∧ SqL K H a (ns.map V.int) ∧ ns.length ≤ 63 ∧ ∀ H', Q (.bl true) H'
theorem ok_law (T : Tx K mg) : Fn P w K mg base CX0 14 ("law", none) ["_law_script"] (sp_law K) := by
  refine Fn.mk0 (d := d_law) T 60 rfl rfl rfl sc_law (fun _ _ _ _ _ _ us hl => match us, hl with | [_], _ => rfl) (fun vs H Q E h => h.1) (fun cdv A outer s H vs Q E hr h => ?_)
  have hu := hu_of hr
  have G_law_right : Fn P w K mg base CX0 13 ("_law_right", none) ["_law_text_here"] (sp_law_right K) := ok_law_right T
  have G_law_draw : Fn P w K mg base CX0 2 ("_law_draw", none) ["_law_box_here", "_law_many"] (sp_law_draw K) := ok_law_draw T
  have G_law_built : Fn P w K mg base CX0 3 ("_law_built", none) ["_law_box_here"] (sp_law_built K) := ok_law_built T
  have G_law_spoilt : Fn P w K mg base CX0 3 ("_law_spoilt", none) ["_law_box_here", "_law_text_here"] (sp_law_spoilt K) := ok_law_spoilt T
  have G_law_box : Fn P w K mg base CX0 1 ("_law_box", none) ["_law_script", "_law_at_here"] (sp_law_box K) := ok_law_box T
  have G_law_alike : Fn P w K mg base CX0 12 ("_law_alike", none) ["_law_told", "_law_due"] (sp_law_alike K) := ok_law_alike T
  have G_read_web : Fn P w K mg base (L2.CX P w) 8 ("read_web", none) ["text"] (sp_read_web K) := ok_read_web T
  have G_web_text : Fn P w K mg base CX0 8 ("web_text", none) ["web"] (sp_web_text K) := ok_web_text T
  have G_law_text : Fn P w K mg base CX0 3 ("_law_text", none) ["_law_web_here"] (sp_law_text K) := ok_law_text T
  have G_law_web : Fn P w K mg base CX0 5 ("_law_web", none) ["_law_box_here", "_law_most"] (sp_law_web K) := ok_law_web T
  obtain ⟨fd_web_text, FO_web_text, FK_web_text, FP_web_text⟩ := kw1 (d := d_web_text) T 16 rfl rfl rfl G_web_text rfl (fun _ _ _ _ _ _ us hl => match us, hl with | [_], _ => rfl) (fun _ _ _ _ _ _ _ => rfl)
  obtain ⟨fd_read_web, FO_read_web, FK_read_web, FP_read_web⟩ := kw1 (d := d_read_web) T 30 rfl rfl rfl G_read_web rfl (fun _ _ _ _ _ _ us hl => match us, hl with | [_], _ => rfl) (fun _ _ _ _ _ _ _ => rfl)
  refine ⟨_, (pss_cons (ps_set (i := 1) sc_law.nd rfl (Or.inl rfl) (pc G_law_box (hr.mono (by decide)) rfl (T.glo 19) pass0 (pa_cons (pv 0) (pa_cons pe_int pa_nil)))) (pss_cons (ps_set (i := 2) sc_law.nd rfl (Or.inl rfl) (pc G_law_web (hr.mono (by decide)) rfl (T.glo 28) pass0 (pa_cons (pv 1) (pa_cons pe_int pa_nil)))) (pss_cons (ps_set (i := 3) sc_law.nd rfl (Or.inl rfl) (pc G_law_text (hr.mono (by decide)) rfl (T.glo 42) pass0 (pa_cons (pv 2) pa_nil))) (pss_cons (ps_if (PW.pt (pw_or (pt_not (pt_val (pc G_law_alike (hr.mono (by decide)) rfl (T.glo 21) pass0 (pa_cons (pc G_web_text (hr.mono (by decide)) rfl (T.glo 15) pass0 (pa_cons (pv 2) pa_nil)) (pa_cons (pv 3) pa_nil))))) (pw_or1 (pt_not (pt_val (pc G_law_alike (hr.mono (by decide)) rfl (T.glo 21) pass0 (pa_cons (pe_callK0 FO_web_text (hr.mono (by decide)) rfl (T.glo 15) FP_web_text FK_web_text pass0 (pk_cons (pv 2) pk_nil)) (pa_cons (pv 3) pa_nil)))))))) (pss_one (ps_ret pe_bl)) pss_nil) (pss_cons (ps_if (PW.pt (pw_or (pt_not (pt_val (pc G_law_alike (hr.mono (by decide)) rfl (T.glo 21) pass0 (pa_cons (pc G_read_web (hr.mono (by decide)) rfl (T.glo 17) passL (pa_cons (pv 3) pa_nil)) (pa_cons (pv 2) pa_nil))))) (pw_or (pt_not (pt_val (pc G_law_alike (hr.mono (by decide)) rfl (T.glo 21) pass0 (pa_cons (pe_callK0 FO_read_web (hr.mono (by decide)) rfl (T.glo 17) FP_read_web FK_read_web passL (pk_cons (pv 3) pk_nil)) (pa_cons (pv 2) pa_nil))))) (pw_or1 (pt_not (pt_val (pc G_law_right (hr.mono (by decide)) rfl (T.glo 46) pass0 (pa_cons (pv 3) pa_nil)))))))) (pss_one (ps_ret pe_bl)) pss_nil) (pss_cons (ps_set (i := 4) sc_law.nd rfl (Or.inl rfl) (pc G_law_box (hr.mono (by decide)) rfl (T.glo 19) pass0 (pa_cons (pv 0) (pa_cons pe_int pa_nil)))) (pss_cons (ps_for PassesOwn.never rfl (pi_range1 rfl (T.free 66) (pa_cons pe_int pa_nil)) (pg_name (i := 5) sc_law.nd rfl (Or.inl rfl)) (pss_cons (ps_set (i := 6) sc_law.nd rfl (Or.inl rfl) (pc G_law_spoilt (hr.mono (by decide)) rfl (T.glo 43) pass0 (pa_cons (pv 4) (pa_cons (pv 3) pa_nil)))) (pss_one (ps_if (PW.pt (pw_or (pt_not (pt_val (pc G_law_right (hr.mono (by decide)) rfl (T.glo 46) pass0 (pa_cons (pv 6) pa_nil)))) (pw_or1 (pt_not (pt_val (pc G_law_right (hr.mono (by decide)) rfl (T.glo 46) pass0 (pa_cons (pc G_law_spoilt (hr.mono (by decide)) rfl (T.glo 43) pass0 (pa_cons (pv 4) (pa_cons (pv 6) pa_nil))) pa_nil))))))) (pss_one (ps_ret pe_bl)) pss_nil)))) (pss_cons (ps_for PassesOwn.never rfl (pi_range1 rfl (T.free 66) (pa_cons pe_int pa_nil)) (pg_name (i := 5) sc_law.nd rfl (Or.inl rfl)) (pss_one (ps_if (pt_not (pt_val (pc G_law_right (hr.mono (by decide)) rfl (T.glo 46) pass0 (pa_cons (pc G_law_built (hr.mono (by decide)) rfl (T.glo 44) pass0 (pa_cons (pv 4) pa_nil)) pa_nil)))) (pss_one (ps_ret pe_bl)) pss_nil))) (C8.pss_cut (ps_set (i := 7) sc_law.nd rfl (Or.inl rfl) (pe_op op_add_str (pe_op op_add_str (pe_op op_add_str (pe_op op_add_str pe_str (pe_op op_mulS pe_str (pc G_law_draw (hr.mono (by decide)) rfl (T.glo 20) pass0 (pa_cons (pv 4) (pa_cons pe_int pa_nil))))) pe_str) (pe_op op_mulS pe_str (pc G_law_draw (hr.mono (by decide)) rfl (T.glo 20) pass0 (pa_cons (pv 4) (pa_cons pe_int pa_nil))))) pe_str)) (pss_one (ps_ret (pe_and (pc G_law_right (hr.mono (by decide)) rfl (T.glo 46) pass0 (pa_cons (pe_op op_add_str (pv 3) (pv 7)) pa_nil)) (pe_and (pc G_law_right (hr.mono (by decide)) rfl (T.glo 46) pass0 (pa_cons (pe_op op_add_str (pv 7) (pv 3)) pa_nil)) (pe_one (pc G_law_right (hr.mono (by decide)) rfl (T.glo 46) pass0 (pa_cons (pe_op op_add_str (pv 7) (pe_slice sl_str (pv 3) po_none (po_some (pc G_law_draw (hr.mono (by decide)) rfl (T.glo 20) pass0 (pa_cons (pv 4) (pa_cons (pe_op op_add (pe_callB call_len_str rfl (T.free 59) (by decide +kernel) (pa_cons (pv 3) pa_nil)) pe_int) pa_nil)))))) pa_nil)))))))))))))))), ?_⟩
  obtain ⟨_, a, ns, rfl, hS, hn, k⟩ := h
  have T0 : readAll = readAll := rfl
  refine ⟨_, rfl, rfl, a, ns, 0, rfl, hS, by omega, fun H' s => SqL_same hS s, by decide, fun b c H1 s1 B1 hb => ?_⟩
  refine ⟨_, rfl, rfl, b, c, rfl, B1, fun v w' H2 k2 B2 d2 o2 l2 => ?_⟩
  have s2 : Same H H2 := kp_same s1 hb k2
  have rw' := read_written o2
  have wi := webOk_i o2
  refine ⟨_, rfl, rfl, v, w', rfl, d2, wi, by omega, fun H3 s3 => ?_⟩
  have d3 := Dt.mono (sm_kt s3) _ _ d2
  generalize hT : webTxt w' = t at l2 rw'
  have ht : t.length ≤ 5000 := l2
  refine ⟨_, rfl, rfl, v, w', rfl, d3, o2, by rw [hT]; omega, fun H4 s4 => ⟨_, rfl, rfl, _, _, dS t, rfl, by rw [hT]; exact .str _, .str _, trivial, fun H5 s5 => ⟨_, rfl, iteN rfl ?_⟩⟩⟩
  have d5 := Dt.mono (sm_kt (s4.trans s5)) _ _ d3
  refine ⟨_, rfl, rfl, v, w', rfl, d5, o2, by rw [hT]; omega, fun H6 s6 => ⟨_, rfl, rfl, _, _, dS t, rfl, by rw [hT]; exact .str _, .str _, trivial, fun H7 s7 => ⟨_, rfl, iteN rfl ?_⟩⟩⟩
  have d7 := Dt.mono (sm_kt (s6.trans s7)) _ _ d5
  have hal : Al 11 (dW w') := al_web11 (by rw [hT]; omega)
  refine ⟨_, rfl, rfl, t, rfl, by omega, RdW.of (fun w2 e2 v2 H8 s8 d8 => ?_) (fun n e2 => by rw [rw'] at e2; cases e2)⟩
  rw [rw'] at e2
  cases e2
  refine ⟨_, rfl, rfl, v2, v, dW w', rfl, d8, Dt.mono (sm_kt s8) _ _ d7, hal, fun H9 s9 => ⟨_, rfl, iteN rfl ?_⟩⟩
  have d9 := Dt.mono (sm_kt (s8.trans s9)) _ _ d7
  refine ⟨_, rfl, rfl, t, rfl, by omega, RdW.of (fun w2 e2 v3 H10 s10 d10 => ?_) (fun n e2 => by rw [rw'] at e2; cases e2)⟩
  rw [rw'] at e2
  cases e2
  refine ⟨_, rfl, rfl, v3, v, dW w', rfl, d10, Dt.mono (sm_kt s10) _ _ d9, hal, fun H11 s11 => ⟨_, rfl, iteN rfl ?_⟩⟩
  refine ⟨_, rfl, rfl, t, rfl, by omega, fun H12 s12 => ⟨_, rfl, iteN rfl ?_⟩⟩
  have s212 : Same H H12 := ((((((((s2.trans s3).trans s4).trans s5).trans s6).trans s7).trans s8).trans s9).trans s10).trans (s11.trans s12)
  refine ⟨_, rfl, rfl, a, ns, 1, rfl, SqL_same hS s212, by omega, fun H' s => SqL_same hS (s212.trans s), by decide, fun f g H13 s13 B13 hf => ?_⟩
  refine ⟨_, rfl, by decide, by decide, ?_⟩
  refine for_it (wk_rng 4) (fun i σ H14 => ∃ u5 u6 : Option V, σ = [some (.ref a), some (.ref b), some v, some (vS t), some (.ref f), u5, u6, none] ∧ Bx f g H14) ⟨none, none, by rw [← hT]; rfl, B13⟩ (fun _ _ _ _ _ => trivial) ?_ ?_
  · rintro i x σ H14 H15 hi ⟨u5, u6, rfl, B14⟩ ⟨rfl, rfl⟩
    refine ⟨_, rfl, _, rfl, rfl, f, g, t, rfl, B14, by omega, fun t1 H16 k16 B16 l16 => ?_⟩
    refine ⟨_, rfl, rfl, t1, rfl, by omega, fun H17 s17 => ⟨_, rfl, iteN rfl ?_⟩⟩
    refine ⟨_, rfl, _, rfl, rfl, f, g, t1, rfl, B16.up s17, by omega, fun t2 H18 k18 B18 l18 => ?_⟩
    exact ⟨rfl, t2, rfl, by omega, fun H19 s19 => ⟨_, rfl, iteN rfl ⟨_, _, rfl, B18.up s19⟩⟩⟩
  · rintro σ H14 ⟨u5, u6, rfl, B14⟩
    refine ⟨_, rfl, by decide, by decide, ?_⟩
    refine for_it (wk_rng 6) (fun i σ H15 => ∃ u5 : Option V, σ = [some (.ref a), some (.ref b), some v, some (vS t), some (.ref f), u5, u6, none] ∧ Bx f g H15) ⟨u5, rfl, B14⟩ (fun _ _ _ _ _ => trivial) ?_ ?_
    · rintro i x σ H15 H16 hi ⟨u5, rfl, B15⟩ ⟨rfl, rfl⟩
      refine ⟨_, rfl, rfl, f, g, rfl, B15, fun t1 H17 k17 B17 l17 => ?_⟩
      exact ⟨rfl, t1, rfl, by omega, fun H18 s18 => ⟨_, rfl, iteN rfl ⟨_, rfl, B17.up s18⟩⟩⟩
    · rintro σ H15 ⟨u5, rfl, B15⟩
      refine ⟨fun σ' H' => ∃ o : Ws, σ' = [some (.ref a), some (.ref b), some v, some (vS t), some (.ref f), u5, u6, some (vS o)] ∧ Bx f g H' ∧ o.length ≤ 100, ?_, ?_⟩
      · refine ⟨_, rfl, rfl, f, g, 3, rfl, B15, by decide, by decide, fun r H16 k16 B16 r0 r1 => ⟨("ab" : Str), r, rfl, rfl, r0, by omega, by decide +kernel, ?_⟩⟩
        have m1 := mul_len r r0 r1
        generalize (⟨(List.replicate r.toNat ("ab" : Str).cps.toList).flatten.toArray⟩ : Str) = x1 at m1
        have z1 : ("@\n=" : Str).length ≤ 3 := by decide +kernel
        have z2 : ("z(x)\n@\n=" : Str).length ≤ 8 := by decide +kernel
        have z3 : ("z(y)\n" : Str).length ≤ 5 := by decide +kernel
        refine ⟨_, _, rfl, rfl, addO z1 m1 (by decide), _, _, rfl, rfl, addO (addB z1 m1) z2 (by decide), ?_⟩
        refine ⟨_, rfl, rfl, f, g, 3, rfl, B16, by decide, by decide, fun q H17 k17 B17 q0 q1 => ⟨("ab" : Str), q, rfl, rfl, q0, by omega, by decide +kernel, ?_⟩⟩
        have m2 := mul_len q q0 q1
        generalize (⟨(List.replicate q.toNat ("ab" : Str).cps.toList).flatten.toArray⟩ : Str) = x2 at m2
        refine ⟨_, _, rfl, rfl, addO (addB (addB z1 m1) z2) m2 (by decide), _, _, rfl, rfl, addO (addB (addB (addB z1 m1) z2) m2) z3 (by decide), ?_⟩
        have fin := addB (addB (addB (addB z1 m1) z2) m2) z3
        refine ⟨TL.tl _, ?_, B17, by rw [← TL.len_tl]; exact Nat.le_trans fin (by decide)⟩
        unfold vS
        rw [mkS_tl]
        rfl
      · rintro σ H16 ⟨o, rfl, B16, ol⟩
        refine ⟨_, rfl, _, rfl, mkS t, mkS o, rfl, rfl, addOk (by omega), rfl, t ++ o, by rw [mkS_app], by simp; omega, fun H17 s17 => ⟨_, rfl, iteY rfl ?_⟩⟩
        refine ⟨_, rfl, _, rfl, mkS o, mkS t, rfl, rfl, addOk (by omega), rfl, o ++ t, by rw [mkS_app], by simp; omega, fun H18 s18 => ⟨_, rfl, iteY rfl ?_⟩⟩
        have B18 := B16.up (s17.trans s18)
        refine ⟨_, rfl, _, rfl, _, rfl, _, rfl, _, rfl, lenOk (by omega), _, _, rfl, rfl, rfl, f, g, _, rfl, B18, by rw [mkS_len]; omega, by rw [mkS_len]; omega, fun r H19 k19 B19 r0 r1 => ?_⟩
        obtain ⟨x, ex, lx⟩ := cut_ex t none (some r)
        refine ⟨_, rfl, mkS t, rfl, lenOk (by omega), mkS o, mkS x, rfl, cS ex, addOk (by omega), rfl, o ++ x, by rw [mkS_app], by simp; omega, fun H20 s20 => k H20⟩
end
end Kn

set_option maxHeartbeats 0
namespace Kn
open PySem PySem.Spec PyProof.Rows L2 KnR
theorem facts {P : Program} {w : World} {K : PySem.W.Frag} {h : Heap} {mg : Str → Option Value} {f : Addr} (X : K.In h) (G : h.Ns mainGlobals mg) (hfa : mg ("law" : Str) = some (.ref f)) (c : SaysK K) :
    ∃ fd : FuncData, (∀ (s : Shared) (v : Value), BindsTo s fd ⟨[v], []⟩ [("_law_script", v)]) ∧ ∀ base : Heap, K.In base → base.Ns mainGlobals mg → FnOk P w K mg base CX0 14 f fd ["_law_script"] (sp_law K) := by
  have T : Tx K mg := ⟨⟨h, X, G⟩, c⟩
  have e := hfa.symm.trans (T.glo 47)
  cases e
  obtain ⟨fd, F⟩ := T.defD (d := d_law) 60
  have e1 : d_law.dvs K = [] := rfl
  rw [e1] at F
  have b := FunD.bindsA (ps := ["_law_script"]) F fun _ _ _ _ _ _ us hl => match us, hl with | [_], _ => rfl
  obtain ⟨oc, od, dV, kV, doc, pm, an, cdv, ct, osl, _, lk, _⟩ := F.ex
  refine ⟨fd, fun s v => b s [v] rfl, fun base _ _ => ?_⟩
  obtain ⟨fd2, F2, _, _, oc2, od2, osl2, lk2⟩ := (ok_law (P := P) (w := w) (base := base) T).ex
  have lk' : K.lookup (He.fAd K ("law", none)) = some ⟨oc, od, .func fd, osl⟩ := lk
  rw [lk'] at lk2
  have e3 := Option.some.inj lk2
  cases e3
  exact F2
end Kn
open PySem PySem.W PySem.Calls PyProof.Rows
theorem PySem.Challenge.cw_proseknot_k04_whole_web_texts_holds : PySem.Challenge.rw_proseknot_k04_whole_web_texts.Holds := by
  w_on; o_law
  refine HandSHeadRun.head_any (r := OpenLaw.row PySem.Challenge.rw_proseknot_k04_whole_web_texts) (q := view (OpenLaw.row PySem.Challenge.rw_proseknot_k04_whole_web_texts).prog [60]) (H := Kn.hk) (ob := Kn.ob) (M := 6000) (loose := Kn.loose) (d := HandSHeadRun.topDef (OpenLaw.row PySem.Challenge.rw_proseknot_k04_whole_web_texts).prog 60) (kwd := []) Kn.ob_eq
    (by kernel_rfl) (fun s => by kernel_rfl) Kn.run (by kernel_rfl) (by kernel_rfl) (by kernel_rfl) (by rfl) (by first | assumption | decide +kernel) (by decide +kernel) ⟨rfl, rfl, rfl, rfl, rfl, by decide +kernel⟩ ?hw ?hc
  case hw => w_witness2
  case hc =>
    refine L2.walk_ofE (l := PySem.Challenge.rw_proseknot_k04_whole_web_texts) (n := 63) (k := 14) (x := "_law_script") (CX := L2.CX0) rfl (by decide) (by kernel_rfl) ⟨rfl, by decide, by decide⟩ ?F (fun _ _ _ _ z => z)
    intro w mg fa h Y G hmg0
    obtain ⟨K, KX, c⟩ := Y
    have hmg : mg ("law" : PySem.Str) = some (.ref fa) := by
      have e : (HandSHeadRun.topDef (OpenLaw.row PySem.Challenge.rw_proseknot_k04_whole_web_texts).prog 60).name = ("law" : PySem.Str) := by kernel_rfl
      rw [← e]
      exact hmg0
    obtain ⟨fd, hb, hF⟩ := Kn.facts (P := (PySem.Challenge.rw_proseknot_k04_whole_web_texts).prog) (w := w) KX G hmg c
    exact ⟨K, fd, Kn.sp_law K, KX, hb, fun H a ns hl _ hS => ⟨rfl, a, ns, rfl, hS, hl, fun _ => rfl⟩, hF⟩
